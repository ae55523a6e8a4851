import Derived.Test.YtfbolhlbmbfhbaaGreatDoorPartC
import Derived.Lib.LaidTab
import Derived.Test.YtfbolhlbmbfhbaaGreatDoorProg
import Derived.WalkKit
set_option linter.unusedVariables false
set_option linter.unusedSimpArgs false
set_option linter.unusedSectionVars false
set_option linter.defProp false
namespace Go.S
theorem atD(n:Int)(g:B8)(l:M Sg):(bif decide (0<=n) then bif decide (n<=1000) then bif decide ((g.length:Int)=32) then rf l n else false else false else false)=cG n g l:=by
 grind[cG,decide]
theorem ajS(docs:O)(l:M aG):(bif bQ docs l then decide (jF docs l=(docs.length:Int)) else false)=dD docs l:=by
 grind[dD,bQ]
variable {l:List aG}{docs p p5 ts:List B8}{v n i m p1 a e j:Int}{g b p6:B8}{t:Nat}{d:List bB}{s:List Sg}{c:UInt8}{x:Int×Int×List Bool}{r:List Int}{f:List (List Int)}
theorem atE {docs:O}(h:bQ docs l=false\/¬jF docs l=(docs.length:Int)):hX docs l=((0,[],[]),7):=by
 grind[dD,hX]
theorem Zp {docs:O}(h:bQ docs l=true/\jF docs l=(docs.length:Int)):hX docs l=(((docs.length:Int),root (leaves docs),bV docs l),0):=by
 simp_all[dD,M?,hX,Q!]
theorem F4(h:bQ docs l=true):cX docs/\small (leaves docs):=by
 have R:=RI.of h;have hb:=R.bd;refine⟨⟨w!,λb hb=>?_⟩,?_⟩;have:=R.fair;simp[dS,Bool.and_eq_true,List.all_eq_true,decide_eq_true_eq] at this;grind;grind[small,leaves,List.length_map]
theorem Zq(docs:O):xx (leaves docs)=0/\jS (leaves docs)=root (leaves docs):=by
 grind[xx,jS,kg]
theorem VF(h:cX docs):eJ (leaves docs):=⟨kg docs,by unfold leaves;rw[List.length_map];exact h.1⟩
theorem aB2(h:fZ v=false)(l:B8):yo v=0/\ml l v=l++num v:=by grind[yo,ml]
theorem PB(h:0<=v)(h1:v<=1099511627776):fZ v=false:=by
 grind[fZ,Bool.or_eq_false_iff,decide_eq_false_iff_not]
variable {l:List Sg}
theorem ň(h:cG n g l=false):hW n g l=([],1):=by grind[hW]
theorem MU(h:cG n g l=true):hW n g l=(hB n g l,0):=by grind[hW]
theorem F5{k:Nat}(h:ET n g l k)(hk:(k:Int)<l.length):fZ (sg l k).2.1=false/\fZ (sg l k).2.2.1=false/\(sg l k).2.2.2.length=32:=by
 have hg:=JK ((rM (ji.1 h.1).2.2.2).2.1 k w!);grind[PB]
theorem DR{k:Nat}(h:ET n g l k):(ti n g l k).length<=100000:=by
 have hr:=ji.1 h.1;have h1:=cO n;have h2:=cO (l.length:Int);have h3:=(rM hr.2.2.2).1
 have h4:∀j,j<=l.length->(jh (l.take j)).length<=50*j:=by
  intro j;induction j with
  |zero=>grind[jh]
  |succ j ih=>
   intro hj;have hg:=JK ((rM hr.2.2.2).2.1 j w!);have:=ih w!;rw[aw l j (0,0,0,[]) w!];simp[jh,List.flatMap_append,List.flatMap_cons,List.flatMap_nil,List.append_nil,List.length_append] at this |-;grind[cO,sg,FZ,List.length_append]
 have h6:=h.2;grind[ti,List.length_append]
theorem aB3(n:Int)(g:B8)(l:M Sg):num n++g++num (l.length:Int)=ti n g l 0:=by simp[ti,jh]
theorem Zr{k:Nat}(hk:(k:Int)<l.length):ti n g l k++num (sg l k).2.1++num (sg l k).2.2.1++(sg l k).2.2.2=ti n g l (k+1):=by
 simp[ti];rw[aw l k (0,0,0,[]) w!];simp[jh,List.flatMap_append,List.flatMap_cons,List.flatMap_nil,F?,FZ,sg,V!]
theorem VG{k:Nat}(hk:¬(k:Int)<l.length):ti n g l k=hB n g l:=by
 grind[ti,hB,List.take_of_length_le]
theorem an6{k:Nat}(h:(k:Int)<(iz b).1.2.2):k+1<=pN b:=by grind[pN]
theorem ŉ{k:Nat}(h:k<=pN b)(h1:¬(k:Int)<(iz b).1.2.2):k=pN b:=by grind[pN]
theorem aEn(b:B8)(k:Nat):(jL b k).2.2.length=k:=Zn b _ _ k
theorem aB4 {b:B8}{k:Nat}(h:¬64<(iz b).1.2.2)(hk:k<=pN b)(h1:¬(k:Int)<(iz b).1.2.2)(h0:¬done b (jL b k).1.1 (jL b k).1.2=0):hR b=((0,[],[]),done b (jL b k).1.1 (jL b k).1.2):=by
 grind[ŉ,an5]
theorem aB5 {b:B8}{k:Nat}(h:¬64<(iz b).1.2.2)(hk:k<=pN b)(h1:¬(k:Int)<(iz b).1.2.2)(h0:done b (jL b k).1.1 (jL b k).1.2=0)(h2:cG (iz b).1.1 (iz b).1.2.1 (jL b k).2.2=false):hR b=((0,[],[]),2):=by
 rw[ŉ hk h1] at h0 h2;simp_all[adS,W!]
theorem aB6 {b:B8}{k:Nat}(h:¬64<(iz b).1.2.2)(hk:k<=pN b)(h1:¬(k:Int)<(iz b).1.2.2)(h0:done b (jL b k).1.1 (jL b k).1.2=0)(h2:cG (iz b).1.1 (iz b).1.2.1 (jL b k).2.2=true):hR b=(((iz b).1.1,(iz b).1.2.1,(jL b k).2.2),0):=by
 rw[ŉ hk h1] at h0 h2 |-;simp_all[adS,Q!]
variable {l:List aG}
theorem pB:dD docs l=true↔bQ docs l=true/\jF docs l=(docs.length:Int):=by
 simp_all[dD,B!,J!]
theorem an7(h:dD docs l=false):hX docs l=((0,[],[]),7):=by grind[hX]
theorem Tp(h:dD docs l=true):hX docs l=(((docs.length:Int),root (leaves docs),bV docs l),0):=Zp (pB.1 h)
theorem vD(h:dD docs l=true):cG (docs.length:Int) (root (leaves docs)) (bV docs l)=true:=by
 obtain⟨h1,h2⟩:=pB.1 h;have hb:=(RI.of h1).bd;grind[ji,Int.natCast_nonneg,uc,kg,Ņ]
variable {l:List Sg}
theorem aB7(h:(hW n g l).2=0):cG n g l=true/\hW n g l=(hB n g l,0):=by
 grind[MU,ň]
theorem adT(h:cG n g l=true):(hB n g l).length<=100000:=by
 have:=DR (k:=l.length) ⟨h,Nat.le_refl _⟩;grind[VG]
def cb(i n:Int):M Bool:=if h:n<2 then [] else if i<((sp n.toNat:Nat):Int) then false ::cb i ((sp n.toNat:Nat):Int) else true ::cb (i-((sp n.toNat:Nat):Int)) (n-((sp n.toNat:Nat):Int))
termination_by n.toNat
decreasing_by
 have:=iS (n:=n.toNat) w!;omega;have:=iS (n:=n.toNat) w!;omega
def Oe(d:B8)(x:Bool×B8):B8:=if x.1 then bo x.2 d else bo d x.2
def kh(d:B8)(s:M Bool)(p:O):B8:=(List.zip s.reverse p).foldl Oe d
def an8(d:B8)(i n:Int)(p:O):B8:=kh d (cb i n) p
def atF(i n:Int):Int:=((cb i n).length:Int)
def path(l:O)(i:Int):O:=if h:l.length<2 then [] else if i<((sp l.length:Nat):Int) then path (l.take (sp l.length)) i++[root (l.drop (sp l.length))] else path (l.drop (sp l.length)) (i-((sp l.length:Nat):Int))++[root (l.take (sp l.length))]
termination_by l.length
decreasing_by
 have:=iS (n:=l.length) w!;rw[Y!];omega;have:=iS (n:=l.length) w!;rw[I?];omega
theorem vE(h:n<2):cb i n=[]:=by rw[cb,dif_pos h]
theorem yH {n:Int}(h:2<=n)(hi:i<((sp n.toNat:Nat):Int)):cb i n=false ::cb i ((sp n.toNat:Nat):Int):=by rw[cb,dif_neg w!,Q! hi]
theorem yI {n:Int}(h:2<=n)(hi:¬i<((sp n.toNat:Nat):Int)):cb i n=true ::cb (i-((sp n.toNat:Nat):Int)) (n-((sp n.toNat:Nat):Int)):=by rw[cb,dif_neg w!,W! hi]
variable {l:List B8}
theorem VH(h:l.length<2):path l i=[]:=by rw[path,dif_pos h]
theorem VI {l:O}(h:2<=l.length)(hi:i<((sp l.length:Nat):Int)):path l i=path (l.take (sp l.length)) i++[root (l.drop (sp l.length))]:=by rw[path,dif_neg w!,Q! hi]
theorem VJ {l:O}(h:2<=l.length)(hi:¬i<((sp l.length:Nat):Int)):path l i=path (l.drop (sp l.length)) (i-((sp l.length:Nat):Int))++[root (l.take (sp l.length))]:=by rw[path,dif_neg w!,W! hi]
theorem vF {C:Nat->Prop}(h0:∀n,n<2->C n)(h1:∀n,2<=n->C (sp n)->C (n-sp n)->C n)(n:Nat):C n:=by
 induction n using Nat.strongRecOn with
 |_ n ih=>
  by_cases h:n<2;exact h0 n h;have hb:=iS (n:=n) w!;exact h1 n w! (ih _ w!) (ih _ w!)
theorem ajT(n:Nat):∀(l:O) (i:Int),l.length=n->(path l i).length=(cb i l.length).length:=by
 refine vF (C:=λn=>∀(l:O) (i:Int),l.length=n->(path l i).length=(cb i l.length).length) (λn h l i e=>?_) (λn h i1 i2 l i e=>?_) n;grind[VH,vE];have hb:=iS (n:=l.length) w!;by_cases hi:i<((sp l.length:Nat):Int);rw[VI w! hi,yH w! x!,List.length_append];grind;rw[VJ w! hi,yI w! x!,List.length_append];grind
theorem Zs(d:B8)(x:Bool)(s:M Bool)(p:O)(y:B8)(h:p.length=s.length):kh d (x::s) (p++[y])=Oe (kh d s p) (x,y):=by
 simp_all[kh,List.reverse_cons,List.zip_append,List.foldl_append]
theorem EU(a b:B8)(ha:a.length=32)(hb:b.length=32):(bo a b).length=32:=by
 simp[bo,Lr,ha,hb,decide_true,Bool.and_self,P?];rfl
theorem CD:∀(s:M (Bool×B8)) (d:B8),d.length=32->(∀x∈s,x.2.length=32)->(s.foldl Oe d).length=32
 |[],d,h,_=>h
 |x::s,d,h,hx=>by
  refine CD s _ ?_ (λy hy=>hx y (List.mem_cons_of_mem _ hy));have:=hx x (List.mem_cons_self ..);unfold Oe;split;exact EU _ _ this h;exact EU _ _ h this
def oC(l:O)(i:Int):O:=if cJ l=true/\0<=i/\i<l.length then path l i else []
def tj(l:O)(i:Int):Int:=if cJ l=true/\0<=i/\i<l.length then 0 else 1
def fa(l:O):Prop:=l.length<=1099511627776
def gw(l:O)(i:Int)(k:O×Int×O):Prop:=
 cJ k.1=true/\k.1.length<=l.length/\0<=k.2.1/\k.2.1<k.1.length/\path l i=path k.1 k.2.1++k.2.2.reverse/\k.2.2.length+k.1.length<=l.length
def cv(d:B8)(i n:Int)(p:O):Int:=
 if(d.length:Int)=32/\1<=n/\n<=1099511627776/\0<=i/\i<n then(if(p.length:Int)=atF i n/\cJ p=true then 0 else 6) else 1
def jK(d:B8)(i n:Int)(p:O):B8:=if cv d i n p=0 then an8 d i n p else []
def cD(d:B8)(i n:Int)(p:O)(k:Nat):B8:=((List.zip (cb i n).reverse p).take k).foldl Oe d
def oe(i n:Int):Prop:=0<=i/\i<n/\n<=1099511627776
def jX(i n:Int)(k:Int×Int×M Bool):Prop:=0<=k.1/\k.1<k.2.1/\k.2.1<=n/\cb i n=k.2.2++cb k.1 k.2.1/\(k.2.2.length:Int)+k.2.1<=n
def VK(m n:Int):M Bool:=if h:n<=m\/n<2 then [] else if m<=((sp n.toNat:Nat):Int) then false ::VK m ((sp n.toNat:Nat):Int) else true ::VK (m-((sp n.toNat:Nat):Int)) (n-((sp n.toNat:Nat):Int))
termination_by n.toNat
decreasing_by
 have:=iS (n:=n.toNat) w!;omega;have:=iS (n:=n.toNat) w!;omega
def aK5(r:B8×B8)(x:Bool×B8):B8×B8:=if x.1 then(bo x.2 r.1,bo x.2 r.2) else(r.1,bo r.2 x.2)
def atG(s:M Bool)(r:B8×B8)(p:O):B8×B8:=(List.zip s.reverse p).foldl aK5 r
def aK6(one two:B8)(s:M Bool)(r:B8×B8)(p:O):Bool:=decide (p.length=s.length)&&decide (atG s r p=(one,two))
def aK7(s:M Bool)(one two:B8)(p:O):Bool:=decide (1<=p.length)&&aK6 one two s (p.getD 0 [],p.getD 0 []) (p.drop 1)
def atH(m:Int):Bool:=decide (Vg.aT m (m-1)=0)
def accepted(m n:Int)(one two:B8)(p:O):Bool:=
 if m=0 then decide (p.length=0)&&decide (one=sum [])
 else if m=n then decide (p.length=0)&&decide (one=two)
 else aK7 (VK m n) one two (if atH m then one::p else p)
def Jq(m n:Int)(one two:B8)(p:O):Int:=
 if m<0\/n<m\/1099511627776<n\/(one.length:Int)≠32\/(two.length:Int)≠32 then 1 else if cJ p=true/\accepted m n one two p=true then 0 else 6
def PC(l:O):O:=l.reverse
theorem atI {n:Nat}(h:2<=n):n<=2*sp n:=by
 have:=Nat.lt_log2_self (n:=n-1);grind[sp,Nat.pow_succ]
theorem Zt {n:Nat}(h:2<=n)(h1:n<=2^(t+1)):sp n<=2^t/\n-sp n<=2^t:=by
 have h2:=iS h;have h3:=atI h
 have :sp n<=2^t:=by
  unfold sp at *;have :2^Nat.log2 (n-1)<2^(t+1):=by omega
  grind[Nat.pow_lt_pow_iff_right]
 omega
theorem JN:∀(t n:Nat) (i:Int),0<=i->i<n->n<=2^t->(cb i n).length<=t
 |0,n,i,h0,h1,h=>by grind[vE]
 |t+1,n,i,h0,h1,h=>by
  by_cases h2:2<=n;have hs:=Zt h2 h;by_cases hi:i<((sp n:Nat):Int);rw[yH w! (by exact hi),Z!];have:=JN t (sp n) i h0 hi hs.1;simp;omega
  rw[yI w! (by exact hi),Z!];have:=JN t (n-sp n) (i-((sp n:Nat):Int)) w! w! hs.2;rw[Int.natCast_sub w!] at this;simp;omega
  grind[vE]
theorem an9(h0:0<=i)(h1:i<l.length)(h:l.length<=2^t):(path l i).length<=t:=by
 rw[ajT _ l i rfl];simp_all[JN]
theorem ny(h:cJ l=true)(k:Nat):cJ (l.take k)=true:=(cK _).2 λd hd=>(cK l).1 h d (List.mem_of_mem_take hd)
theorem nz(h:cJ l=true)(k:Nat):cJ (l.drop k)=true:=(cK _).2 λd hd=>(cK l).1 h d (List.mem_of_mem_drop hd)
theorem PD{d:B8}(h:cJ l=true)(h1:d.length=32):cJ (l++[d])=true:=
 (cK _).2 λx hx=>by
   grind[cK,List.mem_singleton]
theorem Ŋ(n:Nat):∀(l:O) (i:Int),l.length=n->cJ l=true->cJ (path l i)=true:=by
 refine vF (C:=λn=>∀(l:O) (i:Int),l.length=n->cJ l=true->cJ (path l i)=true) ?_ ?_ n;intro n h l i e _;rw[VH w!];rfl;intro n h h1 h2 l i e hd;have hb:=iS h;by_cases hi:i<((sp l.length:Nat):Int);grind[VI,PD,ny,uc,nz,List.length_take];grind[VJ,PD,nz,uc,ny,List.length_drop]
theorem yJ(h:2<=l.length)(h1:l.length<=1099511627776):split l.length=((sp l.length:Nat):Int):=by
 grind[zL,Int.toNat_natCast]
theorem aK8(h:cJ l=true)(h0:0<=i)(h1:i<l.length):gw l i (l,i,[]):=
 ⟨h,P! _,h0,h1,z!,z!⟩
theorem aK9 {m acc:O}{j:Int}(h:gw l i (m,j,acc))(h2:2<=m.length)(hj:j<((sp m.length:Nat):Int)):
  gw l i (m.take (sp m.length),j,acc++[root (m.drop (sp m.length))]):=by
 obtain⟨a1,a2,a3,a4,a5,a6⟩:=h;have hb:=iS h2;refine⟨ny a1 _,?_,a3,?_,?_,?_⟩;grind;grind;grind[VI,List.reverse_append];grind
theorem aLa {m acc:O}{j:Int}(h:gw l i (m,j,acc))(h2:2<=m.length)(hj:¬j<((sp m.length:Nat):Int)):
  gw l i (m.drop (sp m.length),j-((sp m.length:Nat):Int),acc++[root (m.take (sp m.length))]):=by
 obtain⟨a1,a2,a3,a4,a5,a6⟩:=h;have hb:=iS h2;refine⟨nz a1 _,?_,x!,?_,?_,?_⟩;grind;grind;grind[VJ,List.reverse_append];grind
theorem atJ {m acc:O}{j:Int}(h:gw l i (m,j,acc))(h2:¬1<(m.length:Int)):PC acc=path l i:=by
 have:=h.2.2.2.2.1;grind[PC,VH]
def ajU(l:O)(i:Int):Prop:=eJ l/\0<=i/\i<l.length
theorem aEo {l:O}(h:cJ l=false\/i<0\/(l.length:Int)<=i): []=oC l i/\1=tj l i:=by
 grind[cJ,oC,tj]
theorem atK {l:O}(h:cJ l=true/\¬i<0/\¬(l.length:Int)<=i):oC l i=path l i/\tj l i=0:=by
 grind[cJ,oC,tj]
theorem Ii{x:O×Int×O}(hp:l.length<=1099511627776)(h:gw l i x)(h2:1<(x.1.length:Int)):
  (0<=split x.1.length/\split x.1.length<=x.1.length/\ -9223372036854775808<=x.2.1-split x.1.length/\x.2.1-split x.1.length<=9223372036854775807)/\
  eJ (x.1.take (split x.1.length).toNat)/\eJ (x.1.drop (split x.1.length).toNat)/\(∀d:B8,x.2.2.length+[d].length<=8796093022208)/\
  len (x.1.take (split x.1.length).toNat)<len x.1/\len (x.1.drop (split x.1.length).toNat)<len x.1:=by
 obtain⟨a1,a2,a3,a4,a5,a6⟩:=h;have hb:=iS (n:=x.1.length) w!;rw[yJ w! w!,Int.toNat_natCast];refine⟨w!,⟨ny a1 _,x!⟩,⟨nz a1 _,x!⟩,λd=>by grind,?_,?_⟩;grind[len,List.length_take];grind[len,List.length_drop]
theorem aEp{x:O×Int×O}(hp:l.length<=1099511627776)(h:gw l i x)(h2:1<(x.1.length:Int))(hj:x.2.1<split x.1.length):
  gw l i (x.1.take (split x.1.length).toNat,x.2.1,x.2.2++[root (x.1.drop (split x.1.length).toNat)]):=by
 have:=h.2.1;grind[yJ,Int.toNat_natCast,aK9]
theorem aEq{x:O×Int×O}(hp:l.length<=1099511627776)(h:gw l i x)(h2:1<(x.1.length:Int))(hj:¬x.2.1<split x.1.length):
  gw l i (x.1.drop (split x.1.length).toNat,x.2.1-split x.1.length,x.2.2++[root (x.1.take (split x.1.length).toNat)]):=by
 have:=h.2.1;rw[yJ w! w!] at hj |-;exact aLa h w! hj
theorem aEr{x:O×Int×O}(hp:l.length<=1099511627776)(h:gw l i x):small x.2.2:=by
 have:=h.2.2.2.2.2;grind[small]
theorem atL {l:O}{x:O×Int×O}(h0:cJ l=true/\¬i<0/\¬(l.length:Int)<=i)(h:gw l i x)(h2:¬1<(x.1.length:Int)):PC x.2.2=oC l i/\0=tj l i:=by
 grind[atK,atJ]
theorem ajV {l:O}(h:cJ l=true/\¬i<0/\¬(l.length:Int)<=i):gw l i (l,i,[]):=aK8 h.1 w! w!
abbrev Pf:=Int×B8×B8×B8×O×B8
def kU(d:M bB)(t:B8):Pf:=
 (bJ d t+1,(bh (l9 d (bJ d t+1).toNat)).1.1,(bh (l9 d (bJ d t+1).toNat)).1.2.1,(bh (l9 d (bJ d t+1).toNat)).1.2.2,path (leaves (fu d)) (bJ d t+1),if kT d t then tf (nu d t) else [])
def Zu:Pf:=(0,[],[],[],[],[])
def vG(d:M bB)(t:B8):Pf×Int:=if aQ d&&isTerm t then(kU d t,0) else(Zu,1)
variable {t:B8}
theorem adU(h:dE d≠0\/isTerm t=false):vG d t=(Zu,1):=by
 grind[vG,dE,aQ]
theorem PE(h:aQ d=true)(h1:isTerm t=true):vG d t=(kU d t,0):=by
 grind[vG]
theorem Zv(h:aQ d=true):0<=bJ d t+1/\bJ d t+1<=d.length/\(fu d).length=d.length+1:=by
 have:=H2 (d:=d) (t:=t) d.length;unfold bJ;grind[fu,e9]
theorem ajW(d:M bB)(h0:0<=i)(h:i<=d.length):(fu d).getD i.toNat []=l9 d i.toNat:=by
 grind[fu,e9]
theorem Zw(hp:aY d)(hr:aQ d=true)(t:B8):
  (0<=bJ d t+1/\bJ d t+1<=1048576/\bJ d t+1<(bD d).length/\(bJ d t+1).toNat<(bD d).length)/\((bD d).getD (bJ d t+1).toNat []).length<=140737488355328/\cX (bD d)/\fa (leaves (bD d))/\ajU (leaves (bD d)) (bJ d t+1)/\
  (bD d).getD (bJ d t+1).toNat []=l9 d (bJ d t+1).toNat/\oC (leaves (bD d)) (bJ d t+1)=path (leaves (fu d)) (bJ d t+1)/\bD d=fu d:=by
 obtain⟨f1,f2,f3⟩:=Zv (t:=t) hr;have e:bD d=fu d:=by grind[bD]
 have hl:=hp.1;have hlen:(leaves (fu d)).length=d.length+1:=by grind[leaves]
 have ha:=ajW d f1 f2;rw[e];refine⟨w!,?_,(kF hp hr).1,by grind[fa],⟨(kF hp hr).2,f1,w!⟩,ha,?_,rfl⟩;rcases Co hr (k:=(bJ d t+1).toNat) with q|q;grind[zO,l9];omega;have q:cJ (leaves (fu d))=true/\0<=bJ d t+1/\bJ d t+1<(leaves (fu d)).length:=⟨(kF hp hr).2.1,f1,w!⟩;simp_all[oC,if_pos]
theorem aEs(hp:aY d)(hr:aQ d=true)(t:B8):
  kU d t=(bJ d t+1,(bh ((bD d).getD (bJ d t+1).toNat [])).1.1,(bh ((bD d).getD (bJ d t+1).toNat [])).1.2.1,(bh ((bD d).getD (bJ d t+1).toNat [])).1.2.2,oC (leaves (bD d)) (bJ d t+1),if kT d t then l7 (nu d t) else []):=by
 have q:=Zw hp hr t;rw[q.2.2.2.2.2.1,q.2.2.2.2.2.2.1];unfold kU;congr 5
 split
 have :bq (nu d t)=true:=by
  unfold nu;rename_i h1;rw[if_pos h1];have hb:=MP h1;exact(vw hr (i:=(bJ d t).toNat) w!).2
 unfold l7;rw[this];rfl;rfl
abbrev de:=Int×B8
def jT(l:M de)(i:Nat):de:=l.getD i (0,[])
def nW(l:M de):Nat->Int
 |0=>0
 |k+1=>nW l k+if(jT l k).1=0 then 1 else 0
def gB(l:M de)(k:Nat):Int:=2*nW l k-k
def vI(l:M de)(i:Nat):Bool:=
 if(jT l i).1=0 then isTerm (jT l i).2 else(decide (1<=(jT l i).1)&&decide ((jT l i).1<=3))&&(decide ((jT l i).2=[])&&decide (2<=gB l i))
def bR(l:M de):Bool:=(List.range l.length).all (vI l)&&(decide (gB l l.length=1)&&decide (nW l l.length<=16))
def nA(l:M de)(k:Nat):Prop:=k<=l.length/\l.length<=1099511627776/\∀i,i<k->vI l i=true
def bP(l:M de)(k:Nat):O:=((l.take k).filter λo=>decide (o.1=0)).map (·.2)
def qF(l:M de):O:=bP l l.length
def aF(l:M de):O:=sorted (qF l)
theorem xC(l:M de):∀k,0<=nW l k/\nW l k<=k
 |0=>by simp[nW]
 |k+1=>by have:=xC l k;grind[nW]
variable {l q:List de}
theorem VL{k:Nat}(h:(jT l k).1=0):nW l (k+1)=nW l k+1:=by simp_all[nW,Q!]
theorem PG{k:Nat}(h:¬(jT l k).1=0):nW l (k+1)=nW l k:=by simp_all[nW,W!]
theorem Zx{k:Nat}(h:(jT l k).1=0):gB l (k+1)=gB l k+1:=by grind[gB,VL]
theorem MV{k:Nat}(h:¬(jT l k).1=0):gB l (k+1)=gB l k-1:=by grind[gB,PG]
theorem aLb(h:small l):nA l 0:=⟨R! _,h,λi hi=>by omega⟩
theorem Zy{k:Nat}(h:nA l k)(hk:(k:Int)<l.length)(h1:vI l k=true):nA l (k+1):=by
 refine⟨w!,h.2.1,λi hi=>?_⟩;by_cases he:i=k;grind;exact h.2.2 i w!
theorem adV{k:Nat}(hk:(k:Int)<l.length)(h:vI l k=false):false=bR l:=by
 grind[List.range,vI,bR]
theorem atM{k:Nat}(h:nA l k)(hk:¬(k:Int)<l.length):(decide (gB l k=1)&&decide (nW l k<=16))=bR l:=by
 have e:k=l.length:=by have:=h.1;omega
 subst e;have :(List.range l.length).all (vI l)=true:=List.all_eq_true.2 λi hi=>h.2.2 i (List.mem_range.1 hi);grind[bR]
theorem PH{k:Nat}(h:(jT l k).1=0):vI l k=isTerm (jT l k).2:=by simp_all[vI,Q!]
theorem aoa {l:M de}{k:Nat}(h:¬(jT l k).1=0)(h1:1<=(jT l k).1)(h2:(jT l k).1<=3)(h3:(jT l k).2=[])(h4:2<=gB l k):vI l k=true:=by
 simp_all[vI,W!]
theorem atN {l:M de}{k:Nat}(h:¬(jT l k).1=0)(h1:¬1<=(jT l k).1\/¬(jT l k).1<=3\/¬(jT l k).2=[]\/¬2<=gB l k):vI l k=false:=by
 grind[vI]
theorem adW{k:Nat}(hk:(k:Int)<l.length)(h:(jT l k).1=0):bP l k++[(jT l k).2]=bP l (k+1):=by
 unfold bP;rw[aw l k (0,[]) w!,List.filter_append,List.map_append];have :(List.filter (λo:de=>decide (o.1=0)) [l.getD k (0,[])])=[jT l k]:=by grind[jT]
 grind
theorem aob{k:Nat}(hk:(k:Int)<l.length)(h:¬(jT l k).1=0):bP l k=bP l (k+1):=by
 unfold bP;rw[aw l k (0,[]) w!,List.filter_append,List.map_append];have :(List.filter (λo:de=>decide (o.1=0)) [l.getD k (0,[])])=[]:=by grind[jT]
 grind
theorem atO{k:Nat}(h:k<=l.length)(hk:¬(k:Int)<l.length):bP l k=qF l:=by
 grind[qF]
theorem aoc(l:M de):∀k,k<=l.length->((bP l k).length:Int)=nW l k
 |0,_=>by rfl
 |k+1,hk=>by
  have ih:=aoc l k w!;by_cases h:(jT l k).1=0;rw[<-adW w! h,VL h,H!,<-ih];simp;rw[<-aob w! h,PG h,ih]
theorem adX:bR l=true↔(∀i,i<l.length->vI l i=true)/\gB l l.length=1/\nW l l.length<=16:=by
 simp_all[bR,B!,B?,List.mem_range,J!]
theorem pU(h:bR l=true):(aF l).length<=16:=by
 obtain⟨_,_,h3⟩:=adX.1 h;have:=aX (qF l);have e:=aoc l l.length (Nat.le_refl _);grind[aF,qF]
theorem Zz(h:bR l=true):∀t∈aF l,isTerm t=true:=by
 obtain⟨h1,_,_⟩:=adX.1 h;intro t ht;have:=(jg (qF l) t).1 ht;simp only[qF,bP,List.mem_map,List.mem_filter,decide_eq_true_eq,List.take_length] at this;obtain⟨o,⟨ho,h0⟩,rfl⟩:=this;obtain⟨i,hi,rfl⟩:=List.mem_iff_getElem.1 ho;grind[jT,PH]
theorem aod {l:M de}{k:Nat}(h:nA l k)(hk:(k:Int)<l.length)(h0:(l.getD k (0,[])).1=0)(ht:isTerm (l.getD (Int.toNat (k:Int)) (0,[])).2=true):nA l (k+1):=
 Zy h hk (by rw[PH h0];rwa [Z!] at ht)
theorem aoe {l:M de}{k:Nat}(hk:(k:Int)<l.length)(h0:(l.getD k (0,[])).1=0)(ht:isTerm (l.getD (Int.toNat (k:Int)) (0,[])).2=false):false=bR l:=
 adV hk (by rw[PH h0];rwa [Z!] at ht)
theorem PJ {l:M de}{k:Nat}(h:nA l k)(hk:(k:Int)<l.length)(h0:¬(l.getD k (0,[])).1=0)(h1:1<=(l.getD k (0,[])).1/\(l.getD k (0,[])).1<=3)(h2:(l.getD k (0,[])).2=[]/\¬gB l k<2):nA l (k+1):=
 Zy h hk (aoa h0 h1.1 h1.2 h2.1 w!)
theorem Ij {l:M de}{k:Nat}(hk:(k:Int)<l.length)(h0:¬(l.getD k (0,[])).1=0)(h:¬(1<=(l.getD k (0,[])).1/\(l.getD k (0,[])).1<=3)\/¬(l.getD k (0,[])).2=[]\/gB l k<2):false=bR l:=
 adV hk (atN h0 (by
  grind[jT]))
theorem atP{k:Nat}(h:nA l k)(hk:¬(k:Int)<l.length):(bif decide (gB l k=1) then decide (nW l k<=16) else false)=bR l:=by
 grind[atM]
theorem aLc(l:M de): []=bP l 0:=rfl
theorem aof{k:Nat}(hk:(k:Int)<l.length)(h:(l.getD k (0,[])).1=0):bP l k++[(l.getD (Int.toNat (k:Int)) (0,[])).2]=bP l (k+1):=by exact adW hk h
theorem aog{k:Nat}(hp:l.length<=1099511627776)(h:fX l k)(s:B8):(bP l k).length+[s].length<=8796093022208/\small (bP l k)/\small (fh (bP l k))/\small (bT (fh (bP l k))):=by
 grind[Į,bP,aX,O7,fX,List.length_singleton,small]
theorem atQ{k:Nat}(h:fX l k)(hk:¬(k:Int)<l.length):bT (fh (bP l k))=aF l/\sorted (bP l k)=aF l:=by
 have:=atO h hk;rw[O7,this];exact⟨rfl,rfl⟩
def zZ:B8:=[104,97,121]
abbrev El:=Int×Int×B8
def kE1:M El:=[(-1,0,zZ)]
def kE:M El:=[(-1,0,zZ),(-2,3,[])]
def jG:M de:=[(0,zZ)]
def hdT(l:O):B8:=l.getD 0 []
def ue(k:Nat):Int:=if k=0 then -1 else 0
def A5(l:M El)(n:Int):El:=l.getD n.toNat (0,0,[])
def fA(l:M de):Prop:=small l/\∀o∈l,small o.2
theorem aEt(h:fA l)(k:Nat):small (jT l k).2:=by
 by_cases hk:k<l.length;exact h.2 _ (bu l k _ hk);unfold jT;rw[List.getD_eq_getElem?_getD,List.getElem?_eq_none w!];exact Nat.zero_le _
theorem yK {x:Nat}(h:(x:Int)<(([104,97,121]:U).length:Int)):x=0\/x=1\/x=2:=by
 grind
theorem ge3 {x:Nat}(h2:cw x 3)(h:¬(x:Int)<(([104,97,121]:U).length:Int)):x=3:=by
 grind[cw]
abbrev Wp:=B8×Bool
def jH(v:Int):Wp:=if fZ v then([],true) else(num v,false)
def gg(b:B8)(gi:Int):Wp:=if gi<b.length then([],true) else(text b,false)
def kG(n:Int)(g:B8)(l:M Sg):Wp:=if cG n g l then gg (hB n g l) 10000 else([],true)
def LH(d:B8):Bool:=decide ((d.length:Int)=32)
def iU(p:O):Wp:=if 64<(p.length:Int) then([],true) else(num p.length++(p.takeWhile LH).flatten,!cJ p)
def ir(p:O)(k:Nat):B8:=num p.length++(p.take k).flatten
def mA(p:O)(k:Nat):Prop:=p.length<=64/\k<=p.length/\∀d∈p.take k,(d.length:Int)=32
def cat(a b:Wp):Wp:=(a.1++b.1,a.2 || b.2)
def kW(p:Pf):Wp:=
 if eE p.2.1 p.2.2.1 p.2.2.2.1 then cat (cat (cat (jH p.1) (gg (mH p.2.1 p.2.2.1 p.2.2.2.1) 200)) (iU p.2.2.2.2.1)) (gg p.2.2.2.2.2 4000)
 else((jH p.1).1,true)
def pfD(l:M Pf)(i:Nat):Pf:=l.getD i Zu
def PK(l:M Pf):Nat->Wp
 |0=>(num l.length,false)
 |k+1=>cat (PK l k) (kW (pfD l k))
def fw(l:M (M Pf))(i:Nat):M Pf:=l.getD i []
def ga(n:Int)(g:B8)(s:M Sg)(l:M (M Pf)):Nat->Wp
 |0=>cat ([1],false) (kG n g s)
 |k+1=>cat (ga n g s l k) (PK (fw l k) (fw l k).length)
def EV(w:Wp):B8:=if w.2 then [] else if 1048576<(w.1.length:Int) then [] else w.1
def EW(w:Wp):Int:=if w.2 then 1 else if 1048576<(w.1.length:Int) then 3 else 0
def VM(l:M (M Pf)):Bool:=l.all λx=>decide ((x.length:Int)<=16)
def wZ(n:Int)(g:B8)(s:M Sg)(l:M (M Pf)):B8×Int:=
 if(l.length:Int)≠s.length\/VM l=false then([],1) else(EV (ga n g s l l.length),EW (ga n g s l l.length))
def adY(n:Int)(g:B8)(s:M Sg)(a:Int)(d:B8)(p:O):Wp:=
 cat (cat (cat (cat ([2],false) (kG n g s)) (jH a)) (gg d 2000)) (iU p)
def JO(n:Int)(g:B8)(s:M Sg)(a:Int)(d:B8)(p:O):B8×Int:=(EV (adY n g s a d p),EW (adY n g s a d p))
def ZA(p:Pf):Bool:= !fZ p.1&&(eE p.2.1 p.2.2.1 p.2.2.2.1&&(decide ((p.2.2.2.2.1.length:Int)<=64)&&(cJ p.2.2.2.2.1&&decide ((p.2.2.2.2.2.length:Int)<=4000))))
abbrev Rs:=Int×Int
def fi(b:B8)(a e:Int):Rs×Hd:=
 if(ao b a e 10000).1.2.2≠0 then((ao b a e 10000).1.2,(0,[],[]))
 else(((ao b a e 10000).1.2.1,(hR (ao b a e 10000).2).2),(hR (ao b a e 10000).2).1)
def ly(b:B8)(a e:Int):Rs×Lk:=
 if(ao b a e 200).1.2.2≠0 then((ao b a e 200).1.2,([],[],[]))
 else(((ao b a e 200).1.2.1,(bh (ao b a e 200).2).2),(bh (ao b a e 200).2).1)
def eW(b:B8)(a e gi:Int):Rs×Int:=
 if gi<(af b a e).2 then(((af b a e).1.2.1,2),0) else((af b a e).1.2,(af b a e).2)
def CE(b:B8)(a e:Int):Nat->Rs×O
 |0=>((a,e),[])
 |k+1=>((aD b (CE b a e k).1.1 (CE b a e k).1.2).1.2,(CE b a e k).2++[(aD b (CE b a e k).1.1 (CE b a e k).1.2).2])
def qG(b:B8)(a e:Int):Nat:=(eW b a e 64).2.toNat
def iu(b:B8)(a e:Int)(k:Nat):Rs×O:=CE b (eW b a e 64).1.1 (eW b a e 64).1.2 k
def rN(b:B8)(a e:Int):Rs×O:=iu b a e (qG b a e)
def q1(b:B8)(a e:Int):Rs×Int:=((af b a e).1.2,(af b a e).2)
def q2(b:B8)(a e:Int):Rs×Lk:=ly b (q1 b a e).1.1 (q1 b a e).1.2
def q3(b:B8)(a e:Int):Rs×O:=rN b (q2 b a e).1.1 (q2 b a e).1.2
def q4(b:B8)(a e:Int):Rs×B8:=((ao b (q3 b a e).1.1 (q3 b a e).1.2 4000).1.2,(ao b (q3 b a e).1.1 (q3 b a e).1.2 4000).2)
def iV(b:B8)(a e:Int):Rs×Pf:=((q4 b a e).1,((q1 b a e).2,(q2 b a e).2.1,(q2 b a e).2.2.1,(q2 b a e).2.2.2,(q3 b a e).2,(q4 b a e).2))
def EX(b:B8)(a e:Int):Nat->Rs×M Pf
 |0=>((a,e),[])
 |k+1=>((iV b (EX b a e k).1.1 (EX b a e k).1.2).1,(EX b a e k).2++[(iV b (EX b a e k).1.1 (EX b a e k).1.2).2])
def ŋ(b:B8)(a e:Int):Nat:=(eW b a e 16).2.toNat
def adZ(b:B8)(a e:Int)(k:Nat):Rs×M Pf:=EX b (eW b a e 16).1.1 (eW b a e 16).1.2 k
def aB8(b:B8)(a e:Int):Rs×M Pf:=adZ b a e (ŋ b a e)
def tm(b:B8)(a e:Int):Nat->Rs×M (M Pf)
 |0=>((a,e),[])
 |k+1=>((aB8 b (tm b a e k).1.1 (tm b a e k).1.2).1,(tm b a e k).2++[(aB8 b (tm b a e k).1.1 (tm b a e k).1.2).2])
def iW(b:B8)(kind:UInt8):Int:=if 1048576<(b.length:Int) then 3 else if b.length=0 then 4 else if b.getD 0 0=kind then 0 else 2
def aH(b:B8):Rs×Hd:=fi b 1 0
def kl(b:B8)(k:Nat):Rs×M (M Pf):=tm b (aH b).1.1 (aH b).1.2 k
def aN(b:B8):Nat:=(aH b).2.2.2.length
def aU(b:B8):(Int×B8×M Sg×M (M Pf))×Int:=
 if iW b 1≠0 then((0,[],[],[]),iW b 1)
 else if done b (kl b (aN b)).1.1 (kl b (aN b)).1.2≠0 then((0,[],[],[]),done b (kl b (aN b)).1.1 (kl b (aN b)).1.2)
 else(((aH b).2.1,(aH b).2.2.1,(aH b).2.2.2,(kl b (aN b)).2),0)
def ZB(b:B8):Rs×Hd:=fi b 1 0
def pg2(b:B8):Rs×Int:=q1 b (ZB b).1.1 (ZB b).1.2
def pg3(b:B8):Rs×B8:=((ao b (pg2 b).1.1 (pg2 b).1.2 2000).1.2,(ao b (pg2 b).1.1 (pg2 b).1.2 2000).2)
def Ik(b:B8):Rs×O:=rN b (pg3 b).1.1 (pg3 b).1.2
def aK(b:B8):(Int×B8×M Sg×Int×B8×O)×Int:=
 if iW b 2≠0 then((0,[],[],0,[],[]),iW b 2)
 else if done b (Ik b).1.1 (Ik b).1.2≠0 then((0,[],[],0,[],[]),done b (Ik b).1.1 (Ik b).1.2)
 else(((ZB b).2.1,(ZB b).2.2.1,(ZB b).2.2.2,(pg2 b).2,(pg3 b).2,(Ik b).2),0)
def st1(b:B8):Rs×Hd:=fi b 1 0
def st2(b:B8):Rs×Hd:=fi b (st1 b).1.1 (st1 b).1.2
def st3(b:B8):Rs×O:=rN b (st2 b).1.1 (st2 b).1.2
def ß(b:B8):(Int×B8×M Sg×Int×B8×M Sg×O)×Int:=
 if iW b 3≠0 then((0,[],[],0,[],[],[]),iW b 3)
 else if done b (st3 b).1.1 (st3 b).1.2≠0 then((0,[],[],0,[],[],[]),done b (st3 b).1.1 (st3 b).1.2)
 else(((st1 b).2.1,(st1 b).2.2.1,(st1 b).2.2.2,(st2 b).2.1,(st2 b).2.2.1,(st2 b).2.2.2,(st3 b).2),0)
theorem atU(h:cJ p=true):p.takeWhile LH=p:=by
 induction p with
 |nil=>rfl
 |cons a l ih=>
  simp_all[cJ,List.all_cons,B!,List.takeWhile_cons_of_pos,LH]
theorem Tq {p:Pf}:ZA p=true↔fZ p.1=false/\eE p.2.1 p.2.2.1 p.2.2.2.1=true/\(p.2.2.2.2.1.length:Int)<=64/\cJ p.2.2.2.2.1=true/\(p.2.2.2.2.2.length:Int)<=4000:=by
 simp_all[ZA,B!,Q?,J!]
def oD(d:Bool)(w:Wp):Bool:=d || w.2
def bytesOf(w:Wp):B8:=w.1
def mU(w:Wp):Bool:=w.2
def yL(l:M (M Pf)):Prop:=l.length<=1000/\∀x∈l,∀p∈x,p.2.2.2.2.2.length<=1099511627776
def gx(n:Int)(g:B8)(s:M Sg)(l:M (M Pf))(k j:Nat):Wp:=cat (ga n g s l k) (PK (fw l k) j)
def oV(s:M Sg)(l:M (M Pf))(k:Nat):Prop:=k<=l.length/\l.length=s.length/\yL l/\∀i,i<k->(fw l i).length<=16
def mB(s:M Sg)(l:M (M Pf))(k j:Nat):Prop:=oV s l k/\k<l.length/\(fw l k).length<=16/\j<=(fw l k).length
def Il(b:B8)(k j:Nat):Rs×M Pf:=adZ b (kl b k).1.1 (kl b k).1.2 j
def qH(b:B8)(k:Nat):Nat:=ŋ b (kl b k).1.1 (kl b k).1.2
theorem aoj(s:B8):(text s).length<=s.length+9:=by
 grind[cO,text,List.length_append]
theorem yM(b:B8)(hm:0<=m):((gg b m).1.length:Int)<=m+9:=by
 grind[gg,aoj]
theorem PL(v:Int):(jH v).1.length<=9:=by
 grind[jH,cO]
theorem Tr(n:Int)(g:B8)(s:M Sg):(kG n g s).1.length<=10009:=by
 unfold kG;split;have:=yM (hB n g s) (m:=10000) (by decide);omega;grind
theorem ad0:∀(p:O),(p.takeWhile LH).flatten.length<=32*p.length
 |[]=>by simp
 |a::p=>by
  have:=ad0 p;by_cases h:LH a=true;rw[List.takeWhile_cons_of_pos h,List.flatten_cons,H!,N?];have :(a.length:Int)=32:=of_decide_eq_true h;omega;simp_all
theorem PM(p:O):(iU p).1.length<=2057:=by
 grind[iU,cO,ad0,List.length_append]
theorem ZC(p:Pf):(kW p).1.length<=7000:=by
 have h1:=PL p.1;have h2:=yM (mH p.2.1 p.2.2.1 p.2.2.2.1) (m:=200) (by decide);have h3:=PM p.2.2.2.2.1;have h4:=yM p.2.2.2.2.2 (m:=4000) (by decide);grind[kW,cat,List.length_append]
theorem JP(l:M Pf):∀k,(PK l k).1.length<=7000*k+9
 |0=>by grind[PK,cO]
 |k+1=>by
  have:=JP l k;have:=ZC (pfD l k);simp[PK,cat,H!];omega
theorem Ts(n:Int)(g:B8)(s:M Sg)(l:M (M Pf)):∀k,(∀i,i<k->(fw l i).length<=16)->(ga n g s l k).1.length<=120000*k+20000
 |0,_=>by
  grind[Tr,ga,cat,List.length_append,List.length_singleton]
 |k+1,h=>by
  have:=Ts n g s l k λi hi=>h i w!;have:=JP (fw l k) (fw l k).length;have:=h k w!;simp[ga,cat,H!];omega
theorem aLe(h:¬(64:Int)<p.length):mA p 0:=⟨w!,R! _,z!⟩
theorem atV{k:Nat}(h:mA p k):(ir p k).length<=2057:=by
 obtain⟨h1,h2,h3⟩:=h
 have q:∀(l:O),(∀d∈l,(d.length:Int)=32)->l.flatten.length=32*l.length:=by
  intro l;induction l with
  |nil=>grind
  |cons a l ih=>
   grind
 grind[cO,List.length_take,ir,List.length_append]
theorem ZD {p:O}{k:Nat}(h:mA p k)(hk:(k:Int)<p.length)(hd:((p.getD k []).length:Int)=32):mA p (k+1)/\ir p k++p.getD k []=ir p (k+1):=by
 have e:=aw p k [] w!;refine⟨⟨h.1,w!,?_⟩,?_⟩;rw[e];intro d hm;rcases List.mem_append.1 hm with q|q;exact h.2.2 d q;grind;grind[ir]
theorem atW:∀ {k:Nat},(∀d∈p.take k,(d.length:Int)=32)->k<p.length->¬((p.getD k []).length:Int)=32->p.takeWhile LH=p.take k:=by
 induction p with
 |nil=>grind
 |cons a p ih=>
  intro k h hk hd;cases k with
  |zero=>simp_all[List.takeWhile_cons_of_neg,LH,J!]
  |succ k=>
   have ha:=h a z!;rw[List.takeWhile_cons_of_pos (show LH a=true from M? ha),List.take_succ_cons,ih (k:=k) (λd hd=>h d (by exact F! _ hd)) (by simpa using hk) hd]
theorem ad3 {p:O}{k:Nat}(h:mA p k)(hk:(k:Int)<p.length)(hd:¬((p.getD k []).length:Int)=32):iU p=(ir p k,true):=by
 have hD:cJ p=false:=by
  grind[cK,bu]
 unfold iU ir;rw[if_neg (by have:=h.1;omega),hD,atW h.2.2 w! hd];rfl
theorem ad4{k:Nat}(h:mA p k)(hk:¬(k:Int)<p.length):iU p=(ir p k,false):=by
 have e:k=p.length:=by have:=h.2.1;omega
 have hD:cJ p=true:=(cK p).2 λd hd=>by have:=h.2.2 d x!;omega
 unfold iU ir;rw[if_neg (by have:=h.1;omega),hD,atU hD,e,List.take_length];rfl
theorem aok(h:(64:Int)<p.length):iU p=([],true):=by simp_all[iU,Q!]
theorem aLf{l:M (M Pf)}(hp:yL l)(h:(l.length:Int)=s.length):oV s l 0:=⟨R! _,w!,hp,λi hi=>by omega⟩
variable {l:List (List Pf)}
theorem aEu{k:Nat}(h:oV s l k)(hk:(k:Int)<l.length)(h1:¬(16:Int)<(fw l k).length):mB s l k 0:=⟨h,w!,w!,R! _⟩
theorem aol{k j:Nat}(h:mB s l k j)(hj:(j:Int)<(fw l k).length):mB s l k (j+1):=⟨h.1,h.2.1,h.2.2.1,w!⟩
theorem ad5{k j:Nat}(h:mB s l k j)(hj:¬(j:Int)<(fw l k).length):oV s l (k+1)/\gx n g s l k j=ga n g s l (k+1):=by
 have e:j=(fw l k).length:=by have:=h.2.2.2;omega
 refine⟨⟨by have:=h.2.1;omega,h.1.2.1,h.1.2.2.1,λi hi=>?_⟩,by subst e;rfl⟩;by_cases q:i=k;subst q;exact h.2.2.1;exact h.1.2.2.2 i w!
theorem aEv{l:M (M Pf)}(h:¬(l.length:Int)=s.length):wZ n g s l=([],1):=by simp_all[wZ,Q!]
theorem ad6{k:Nat}(hk:(k:Int)<l.length)(h:(16:Int)<(fw l k).length):wZ n g s l=([],1):=by
 have :VM l=false:=by
  rw[<-Bool.not_eq_true];intro q;have:=of_decide_eq_true (List.all_eq_true.1 q _ (bu l k [] w!));grind[fw]
 simp_all[wZ,Q!]
theorem ad7{k:Nat}(h:oV s l k)(hk:¬(k:Int)<l.length):wZ n g s l=(EV (ga n g s l k),EW (ga n g s l k)):=by
 have e:k=l.length:=by have:=h.1;omega
 subst e
 have :VM l=true:=B?.2 λx hx=>by
  obtain⟨i,hi,rfl⟩:=List.mem_iff_getElem.1 hx;have:=h.2.2.2 i hi;have e:fw l i=l[i]:=by simp[fw,E!,hi]
  rw[e] at this;exact M? w!
 unfold wZ;rw[if_neg (by rw[this,h.2.1];simp)]
theorem aom{k j:Nat}(h:mB s l k j)(hj:(j:Int)<(fw l k).length):(pfD (fw l k) j).2.2.2.2.2.length<=1099511627776:=
 h.1.2.2.1.2 _ (bu l k [] h.2.1) _ (bu (fw l k) j Zu w!)
theorem ad8{k:Nat}(h:oV s l k):(ga n g s l k).1.length<=130000000:=by
 have:=Ts n g s l k h.2.2.2;have:=h.1;have:=h.2.2.1.1;omega
theorem aon{k j:Nat}(h:mB s l k j):(gx n g s l k j).1.length<=140000000:=by
 have:=ad8 (n:=n) (g:=g) h.1;have:=JP (fw l k) j;have:=h.2.2.1;have:=h.2.2.2
 grind[gx,cat,List.length_append]
theorem atX(v:Int):(ml [] v).length<=9:=by
 grind[ml,cO]
theorem aLg(v:Int):ml [] v=(jH v).1:=by grind[ml,jH]
theorem aLh(v:Int)(d:Bool):(bif !decide (yo v=0) then true else d)=oD d (jH v):=by
 grind[yo,jH,oD,fZ]
theorem VN {n:Nat}(h:n<=1000):jH (n:Int)=(num (n:Int),false):=by
 grind[jH,PB]
theorem ad9(h:m<b.length):gg b m=([],true):=by simp_all[gg,Q!]
theorem aoo(h:¬m<b.length):gg b m=(text b,false):=by simp_all[gg,W!]
theorem aop(h:¬(hW n g s).2=0):kG n g s=([],true):=by
 grind[cG,MU,kG]
theorem atY(h:(hW n g s).2=0):kG n g s=gg (hW n g s).1 10000/\(hW n g s).1.length<=100000:=by
 simp_all[aB7,kG,Q!,adT]
theorem atZ(a b c:B8):(dK a b c).length<=200:=by
 grind[dK,zO]
theorem aEw {a c:B8}(h:¬kD a b c=0):eE a b c=false:=by
 grind[eE,kD]
theorem at0 {a c:B8}(h:kD a b c=0):eE a b c=true/\dK a b c=mH a b c:=by
 cases q:eE a b c with
 |true=>exact⟨rfl,by grind[dK]⟩
 |false=>grind[kD]
theorem aea{p2 p3 p4:B8}(h:¬kD p2 p3 p4=0):kW (p1,p2,p3,p4,p5,p6)=((jH p1).1,true):=by
 grind[kW,aEw]
theorem aoq{p2 p3 p4:B8}(h:kD p2 p3 p4=0):kW (p1,p2,p3,p4,p5,p6)=cat (cat (cat (jH p1) (gg (dK p2 p3 p4) 200)) (iU p5)) (gg p6 4000):=by
 grind[kW,at0]
theorem aB9 {n:Int}{g:B8}{s:M Sg}{l:M (M Pf)}{k j:Nat}(p:Pf)(hp:p=pfD (fw l k) j)(d:Bool)(b:B8)(hd:d=mU (gx n g s l k j))(hb:b=bytesOf (gx n g s l k j)):
  oD d (kW p)=mU (gx n g s l k (j+1))/\b++bytesOf (kW p)=bytesOf (gx n g s l k (j+1)):=by
 subst hp;subst hd;subst hb;simp[oD,mU,bytesOf,gx,PK,cat,Bool.or_assoc,V!,and_self]
theorem aeb(h:(1048576:Int)<b.length):iW b c=3:=by simp_all[iW,Q!]
theorem aec {b:B8}(h:¬(1048576:Int)<b.length)(h1:(b.length:Int)=0):iW b c=4:=by simp_all[iW,W!,Q!]
theorem aor {b:B8}(h:¬(1048576:Int)<b.length)(h1:¬(b.length:Int)=0)(h2:¬((b.getD (Int.toNat 0) 0).toNat:Int)=c.toNat):iW b c=2:=by
 grind[iW]
theorem aEx {b:B8}(h:¬(1048576:Int)<b.length)(h1:¬(b.length:Int)=0)(h2:((b.getD (Int.toNat 0) 0).toNat:Int)=c.toNat):iW b c=0:=by
 unfold iW;grind[UInt8.toNat_inj]
theorem MW(b:B8)(a e m:Int):(ao b a e m).2.length<=b.length:=by
 grind[ao,dP]
theorem aos(b:B8)(a e:Int)(hm:0<=m):(eW b a e m).2<=m:=by
 grind[eW]
theorem at1(h:m<(af b a e).2):eW b a e m=(((af b a e).1.2.1,2),0):=by simp_all[eW,Q!]
theorem aEy(h:¬m<(af b a e).2):eW b a e m=((af b a e).1.2,(af b a e).2):=by simp_all[eW,W!]
theorem aEz(h:¬(ao b a e 10000).1.2.2=0):fi b a e=((ao b a e 10000).1.2,(0,[],[])):=by simp_all[fi,Q!]
theorem at2(h:(ao b a e 10000).1.2.2=0):fi b a e=(((ao b a e 10000).1.2.1,(hR (ao b a e 10000).2).2),(hR (ao b a e 10000).2).1):=by simp_all[fi,W!]
theorem aEA(h:¬(ao b a e 200).1.2.2=0):ly b a e=((ao b a e 200).1.2,([],[],[])):=by simp_all[ly,Q!]
theorem at3(h:(ao b a e 200).1.2.2=0):ly b a e=(((ao b a e 200).1.2.1,(bh (ao b a e 200).2).2),(bh (ao b a e 200).2).1):=by simp_all[ly,W!]
theorem aed(b:B8)(a e:Int):∀k,(CE b a e k).2.length=k
 |0=>rfl
 |k+1=>by simp only[CE];rw[H!,aed b a e k];rfl
theorem VO(b:B8)(a e:Int)(k:Nat):(iu b a e k).2.length=k:=aed ..
theorem aee(b:B8)(a e:Int):∀k,(EX b a e k).2.length=k
 |0=>rfl
 |k+1=>by simp only[EX];rw[H!,aee b a e k];rfl
theorem at4(b:B8)(k j:Nat):(Il b k j).2.length=j:=aee ..
theorem aef(b:B8)(a e:Int):∀k,(tm b a e k).2.length=k
 |0=>rfl
 |k+1=>by simp only[tm];rw[H!,aef b a e k];rfl
theorem at5(b:B8)(k:Nat):(kl b k).2.length=k:=aef ..
theorem VP(b:B8)(a e:Int):qG b a e<=64:=by simp_all[aos,qG]
theorem aot(b:B8)(k:Nat):qH b k<=16:=by simp_all[aos,kl,qH,ŋ]
theorem Ō {x:Nat}(h:(x:Int)<v):x+1<=v.toNat:=by omega
theorem PN {x:Nat}(h:cw x v.toNat)(h1:¬(x:Int)<v):x=v.toNat:=by grind[cw]
theorem at6(b:B8):(hR b).1.2.2.length<=64:=by
 by_cases h:(hR b).2=0;grind[rM,ji,Ň];simp_all[an1,Nat.zero_le]
theorem ō(b:B8):aN b<=64:=by
 grind[aN,aH,fi,at6]
theorem VQ {b:B8}{x:Nat}(h:(x:Int)<((fi b 1 0).2.2.2.length:Int)):x+1<=aN b:=by
 have :aN b=(fi b 1 0).2.2.2.length:=rfl;omega
theorem Ŏ {b:B8}{x:Nat}(h:cw x (aN b))(h1:¬(x:Int)<((fi b 1 0).2.2.2.length:Int)):x=aN b:=by
 have :aN b=(fi b 1 0).2.2.2.length:=rfl;grind[cw]
theorem aCa(h:¬iW b 1=0):aU b=((0,[],[],[]),iW b 1):=by simp_all[aU,Q!]
theorem aou{k:Nat}(h:iW b 1=0)(hk:k=aN b)(h1:¬done b (kl b k).1.1 (kl b k).1.2=0):aU b=((0,[],[],[]),done b (kl b k).1.1 (kl b k).1.2):=by simp_all[aU,W!,Q!]
theorem aCb{k:Nat}(h:iW b 1=0)(hk:k=aN b)(h1:done b (kl b k).1.1 (kl b k).1.2=0):aU b=(((aH b).2.1,(aH b).2.2.1,(aH b).2.2.2,(kl b k).2),0):=by simp_all[aU,W!]
theorem aEB(h:¬iW b 2=0):aK b=((0,[],[],0,[],[]),iW b 2):=by simp_all[aK,Q!]
theorem aov(h:iW b 2=0)(h1:¬done b (Ik b).1.1 (Ik b).1.2=0):aK b=((0,[],[],0,[],[]),done b (Ik b).1.1 (Ik b).1.2):=by simp_all[aK,W!,Q!]
theorem aow(h:iW b 2=0)(h1:done b (Ik b).1.1 (Ik b).1.2=0):aK b=(((ZB b).2.1,(ZB b).2.2.1,(ZB b).2.2.2,(pg2 b).2,(pg3 b).2,(Ik b).2),0):=by simp_all[aK,W!]
variable {l:List Sg}{s:List Int}
theorem rh(h:cG n g l=true):0<=n/\n<=1000/\g.length=32/\l.length<=64:=by
 grind[ji,rM]
theorem MX(h:fZ v=false):0<=v/\v<=4611686018427387904:=by
 grind[fZ,Bool.or_eq_false_iff,decide_eq_false_iff_not]
theorem VR(h:cG n g l=true):ax (hB n g l)/\small (hB n g l):=by
 grind[adT,ax,small]
def qI(n:Int)(g:B8)(l:M Sg):B8×Int:=if cG n g l then(lX 3 (hB n g l),0) else([],1)
def aeg(n:Int)(g:B8)(l:M Sg):B8:=pv 3 (hB n g l)
def eX(docs:O)(l:M aG):B8×Int:=
 if dD docs l then(lX 3 (hB docs.length (root (leaves docs)) (bV docs l)),0) else([],7)
def PO(a b:B8):Bool:=decide (a=b)
def RV(d:M bB)(ts:O):M Pf:=ts.map (kU d)
def rO(d:M bB)(ts:O)(k:Nat):M Pf:=(ts.take k).map (kU d)
def PQ(d:M bB)(ts:O):Prop:=aY d/\aQ d=true/\ts.length<=1000/\∀t∈ts,isTerm t=true
def ŏ(l:M aG)(ts:O):M (M Pf):=l.map λs=>RV s.2.2 ts
def oE(l:M aG)(ts:O)(k:Nat):M (M Pf):=ŏ (l.take k) ts
def ri(docs:O)(l:M aG)(q:M de):B8×Int:=
 if dD docs l=false then([],7) else if bR q=false then([],1)
 else wZ docs.length (root (leaves docs)) (bV docs l) (ŏ l (aF q))
def oF(docs:O)(l:M aG)(i:Int):B8×Int:=
 if dD docs l=false then([],7) else if i<0\/(docs.length:Int)<=i then([],5)
 else JO docs.length (root (leaves docs)) (bV docs l) i (docs.getD i.toNat []) (path (leaves docs) i)
variable {l:List aG}
theorem PR(h:dD docs l=true):docs.length<=1000/\(∀i,((docs.getD i []).length:Int)<=2000):=by
 have hf:=(RI.of (pB.1 h).1).fair;simp[dS,Bool.and_eq_true,List.all_eq_true,decide_eq_true_eq] at hf;grind
theorem nB(l:O):(leaves l).length=l.length:=by simp[leaves]
theorem aox(h:v<16384):(num v).length<=2:=by
 grind[num,rb]
theorem aoy {l:U}(h:bq l=true):(tf l).length<=2*l.length+2:=by
 have hl:=od h
 have q:∀k,k<=l.length->((List.range k).flatMap (λi=>num (l.getD i 0-fL l i-1))).length<=2*k:=by
  intro k;induction k with
  |zero=>simp
  |succ k ih=>
   intro hk;have h1:=Td (adC h (k:=k) w!);have h2:=(jC l k).1 ((kC l).1 h k w!);have h3:=aox (v:=l.getD k 0-fL l k-1) w!;rw[List.range_succ,List.flatMap_append,H!];simp only[List.flatMap_cons,List.flatMap_nil,F?];omega
 have:=q l.length (P! _);have h3:=aox (v:=(l.length:Int)) w!;simp only[tf,dy,H!];omega
theorem aj0(h:aQ d=true)(t:B8):bq (nu d t)=true:=by
 unfold nu;split;rename_i h1;have hb:=MP h1;simp_all[vw,bJ]
 rfl
theorem aEC(h:aQ d=true){i:Nat}(hi:i<=d.length):eE (bh (l9 d i)).1.1 (bh (l9 d i)).1.2.1 (bh (l9 d i)).1.2.2=true:=by
 rcases Co h (k:=i) with q|q;have e:l9 d i=mH (if i=0 then [] else fE d (i-1)) (if i<d.length then fE d i else []) (l8 (if i=0 then [] else jD d (i-1))):=rfl;grind[anJ];omega
theorem Ő(h:aQ d=true)(hp:d.length<=1048576)(t:B8):ZA (kU d t)=true:=by
 obtain⟨f1,f2,f3⟩:=Zv (t:=t) h;have hlen:(leaves (fu d)).length=d.length+1:=by rw[nB,f3]
 refine Tq.2 ⟨PB f1 (by grind[kU]),aEC h w!,?_,Ŋ _ _ _ rfl (kg _),?_⟩;have:=an9 (l:=leaves (fu d)) (i:=bJ d t+1) (t:=21) f1 w! w!;grind[kU];grind[kU,aj0,aoy,od]
theorem aoz(h:aQ d=true)(hp:d.length<=1048576)(ts:O):∀p∈RV d ts,ZA p=true:=by
 intro p zw;obtain⟨t,_,rfl⟩:=List.mem_map.1 zw;grind[Ő]
theorem JQ(h:dD docs l=true):∀s∈l,aQ s.2.2=true/\s.2.2.length<=1048576/\aY s.2.2:=by
 intro s hs;have R:=RI.of (pB.1 h).1;obtain⟨h1,h2,_⟩:=R.seg s hs;refine⟨?_,h2.1,h2⟩;have :eF s.1 s.2.1 s.2.2=true:=h1;simp[eF,Bool.and_eq_true] at this;grind
theorem aoA(h:dD docs l=true)(ht:ts.length<=16):∀x∈ŏ l ts,(x.length:Int)<=16/\∀p∈x,ZA p=true:=by
 intro x hx;obtain⟨s,hs,rfl⟩:=List.mem_map.1 hx;grind[JQ,RV,aoz]
theorem ZE(h:dD docs l=true):(bV docs l).length=l.length:=by
 grind[bV,rL,pB,List.length_map]
def tp(docs:O)(l:M aG):B8:=aeg docs.length (root (leaves docs)) (bV docs l)
def hx(l:M Py):Ń:=(fy (adK l).1 (adK l).2).1
theorem aED{l:M Sg}(h:¬(hW n g l).2=0):qI n g l=([],1)/\(hW n g l).2=1:=by
 grind[cG,MU,ň,qI]
theorem at7{l:M Sg}(h:(hW n g l).2=0):qI n g l=(lX 3 (hW n g l).1,0)/\ax (hW n g l).1:=by
 simp_all[aB7,qI,Q!,VR]
theorem ő(h:¬(hX docs l).2=0):dD docs l=false:=by
 grind[Tp]
theorem uf(h:(hX docs l).2=0):dD docs l=true/\(hX docs l).1.1=(docs.length:Int)/\(hX docs l).1.2.1=root (leaves docs)/\(hX docs l).1.2.2=bV docs l:=by
 grind[dD,Tp,an7]
theorem aEE(h:¬(hX docs l).2=0):eX docs l=([],7):=by grind[eX,ő]
theorem aua(h:(hX docs l).2=0):qI (hX docs l).1.1 (hX docs l).1.2.1 (hX docs l).1.2.2=eX docs l:=by
 simp_all[uf,eX,qI,Q!,vD]
theorem LI(h:isTerm t=true):small t:=by grind[Cm,small]
theorem aub(d:M bB)(ts:O)(k:Nat):(rO d ts k).length<=ts.length:=by grind[rO,List.length_take]
theorem aoB{k:Nat}(h:(k:Int)<ts.length):rO d ts k++[kU d (ts.getD (Int.toNat (k:Int)) [])]=rO d ts (k+1):=by
 grind[Int.toNat_natCast,rO,aw]
theorem auc{k:Nat}(h:fX ts k)(hk:¬(k:Int)<ts.length):rO d ts k=RV d ts:=by
 grind[fX,rO,RV,List.take_length]
theorem aEF(h:PQ d ts){k:Nat}(hk:(k:Int)<ts.length):isTerm (ts.getD (Int.toNat (k:Int)) [])=true:=by
 exact h.2.2.2 _ (bu ts k [] w!)
theorem aud(l:M aG)(ts:O)(k:Nat):(oE l ts k).length<=l.length:=by grind[oE,ŏ,List.length_take]
theorem aoC{k:Nat}(h:(k:Int)<l.length):oE l ts k++[RV (l.getD (Int.toNat (k:Int)) (0,0,[])).2.2 ts]=oE l ts (k+1):=by
 grind[Int.toNat_natCast,oE,ŏ,aw]
theorem aue{k:Nat}(h:fX l k)(hk:¬(k:Int)<l.length):oE l ts k=ŏ l ts:=by
 grind[fX,oE,List.take_length]
theorem Tt(h:dD docs l=true):l.length<=64:=by simpa[fM] using(RI.of (pB.1 h).1).le
theorem F6(h:dD docs l=true):cX docs/\fa (leaves docs)/\small (leaves docs):=by
 obtain⟨h1,h2⟩:=F4 (pB.1 h).1;exact⟨h1,h2,h2⟩
theorem auf(h:dD docs l=true)(hq:bR q=true){k:Nat}(hk:(k:Int)<l.length):PQ (l.getD (Int.toNat (k:Int)) (0,0,[])).2.2 (aF q):=by
 obtain⟨f1,f2,f3⟩:=JQ h _ (bu l k (0,0,[]) w!);exact⟨f3,f1,by grind[pU],Zz hq⟩
theorem aEG(h:¬(hX docs l).2=0):ri docs l q=([],7):=by simp_all[ri,Q!,ő]
theorem aug {docs:O}{l:M aG}(h:(hX docs l).2=0)(hq:bR q=false):ri docs l q=([],1):=by
 simp_all[ri,W!,uf,Q!]
theorem auh(h:dD docs l=true)(hq:bR q=true){k:Nat}(h1:fX l k)(hk:¬(k:Int)<l.length):
  wZ ((len docs:Nat):Int) (root (leaves docs)) (bV docs l) (oE l (aF q) k)=ri docs l q/\yL (oE l (aF q) k):=by
 rw[aue h1 hk];refine⟨by unfold ri;rw[if_neg x!,if_neg x!];rfl,?_,?_⟩;grind[Tt,ŏ];intro x hx p hp;have:=(Tq.1 ((aoA h (pU hq) x hx).2 p hp)).2.2.2.2;omega
theorem aEH(h:¬(hX docs l).2=0):oF docs l i=([],7):=by simp_all[oF,Q!,ő]
theorem aui {docs:O}{l:M aG}(h:(hX docs l).2=0)(hi:i<0\/(docs.length:Int)<=i):oF docs l i=([],5):=by
 simp_all[oF,W!,uf,Q!]
theorem aeh {docs:O}{l:M aG}(h:(hX docs l).2=0)(hi:¬i<0/\¬(docs.length:Int)<=i):
  tj (leaves docs) i=0/\JO (hX docs l).1.1 (hX docs l).1.2.1 (hX docs l).1.2.2 i (docs.getD i.toNat []) (oC (leaves docs) i)=oF docs l i/\(docs.getD i.toNat []).length<=1099511627776:=by
 obtain⟨h1,h2,h3,h4⟩:=uf h;have q:cJ (leaves docs)=true/\0<=i/\i<(leaves docs).length:=⟨kg docs,w!,by grind[nB]⟩;refine⟨by simp_all[tj,if_pos],?_,by grind[PR]⟩;simp_all[oF,oC,if_pos,if_neg]
theorem aoD:fA jG:=⟨by unfold small;decide,by unfold small;decide⟩
theorem aoE(h:dD docs l=true):eX docs l=(tp docs l,0):=by unfold eX;rw[if_pos h];rfl
def CG(n:Int)(g:B8)(l:M Sg)(root:B8):Bool:=decide ((qI n g l).2=0)&&decide ((qI n g l).1=root)
def pd(a:M (M Pf))(i:Int)(t:O):Bool:=decide ((a.getD i.toNat []).length=t.length)
def xD(l:U)(a b:Int)(k:Nat):Prop:=∀j,j<k->a<=l.getD j 0/\l.getD j 0<b
def w7(l:U)(a b:Int):Bool:=l.all λx=>decide (a<=x)&&decide (x<b)
theorem auj{l:M Sg}{root:B8}:(bif decide ((qI n g l).2=0) then decide ((qI n g l).1=root) else false)=CG n g l root:=by
 grind[decide,qI,CG]
variable {l:List Int}{d:B8}
theorem z6{b:Int}{k:Nat}(h:xD l a b k)(h1:a<=l.getD k 0)(h2:l.getD k 0<b):xD l a b (k+1):=λj hj=>by
 by_cases Rv:j=k;grind;exact h j w!
theorem DS{b:Int}{k:Nat}(h:xD l a b k)(hk:l.length<=k):w7 l a b=true:=by
 simp[w7,List.all_eq_true,Bool.and_eq_true,decide_eq_true_eq];intro x hx;obtain⟨j,hj,rfl⟩:=List.getElem_of_mem hx;have:=h j w!;grind
theorem Im{b:Int}{k:Nat}(hk:k<l.length)(h:l.getD k 0<a\/b<=l.getD k 0):w7 l a b=false:=by
 rw[Bool.eq_false_iff];intro hx;simp[w7,B?,B!,J!] at hx;have:=hx l[k] (List.getElem_mem hk);rw[E!,C! hk] at h;simp at h;omega
theorem aLi(h:oe i n):jX i n (i,n,[]):=⟨h.1,h.2.1,Int.le_refl _,z!,z!⟩
theorem PT(hp:oe i n)(h:jX i n x)(h1:1<x.2.1):
  split x.2.1=((sp x.2.1.toNat:Nat):Int)/\1<=split x.2.1/\split x.2.1<x.2.1/\x.2.1<=1099511627776/\x.2.2.length<=1099511627776/\0<=x.1/\x.1<x.2.1:=by
 obtain⟨_,_,p3⟩:=hp;obtain⟨q1,q2,q3,_,q5⟩:=h;grind[zL,iS]
theorem aLj(hp:oe i n)(h:jX i n x)(h1:1<x.2.1)(h2:x.1<split x.2.1):jX i n (x.1,split x.2.1,x.2.2++[false]):=by
 obtain⟨b1,b2,b3,b4,b5,_⟩:=PT hp h h1;obtain⟨q1,q2,q3,q4,q5⟩:=h;refine⟨q1,h2,x!,?_,x!⟩;grind[yH]
theorem aLk(hp:oe i n)(h:jX i n x)(h1:1<x.2.1)(h2:¬x.1<split x.2.1):jX i n (x.1-split x.2.1,x.2.1-split x.2.1,x.2.2++[true]):=by
 obtain⟨b1,b2,b3,b4,b5,_⟩:=PT hp h h1;obtain⟨q1,q2,q3,q4,q5⟩:=h;refine⟨w!,x!,x!,?_,x!⟩;grind[yI]
theorem sd_end(h:jX i n x)(h1:¬1<x.2.1):x.2.2=cb i n:=by
 rw[h.2.2.2.1,vE w!];simp
theorem Œ(hp:oe i n):((cb i n).length:Int)<=1099511627776:=by
 have :∀m:Nat,∀i n:Int,n.toNat=m->0<=i->i<n->((cb i n).length:Int)+1<=n:=by
  intro m;induction m using vF with
  |h0 m hm=>grind[vE]
  |h1 m hm ihl ihr=>
   intro i n e h0 h1;have hb:=iS hm;by_cases hi:i<((sp n.toNat:Nat):Int);rw[yH w! hi];have:=ihl i ((sp n.toNat:Nat):Int) (by rw[e];simp) h0 hi;simp;rw[e] at this |-;omega;rw[yI w! hi];have:=ihr (i-((sp n.toNat:Nat):Int)) (n-((sp n.toNat:Nat):Int)) (by rw[e];omega) w! w!;simp;rw[e] at this |-;omega
 have:=this n.toNat i n rfl hp.1 hp.2.1;have:=hp.2.2;omega
theorem aEI {d:B8}(h:¬((d.length:Int)=32/\1<=n/\n<=1099511627776/\0<=i/\i<n)): []=jK d i n p/\1=cv d i n p:=by
 simp_all[cv,W!,jK]
theorem aei {d:B8}(h:(d.length:Int)=32/\1<=n/\n<=1099511627776/\0<=i/\i<n):oe i n:=⟨h.2.2.2.1,h.2.2.2.2,h.2.2.1⟩
theorem auk {d:B8}{i n:Int}{p:O}(h:(d.length:Int)=32/\1<=n/\n<=1099511627776/\0<=i/\i<n)(h2:¬((p.length:Int)=((cb i n).length:Int)/\cJ p=true)): []=jK d i n p/\6=cv d i n p:=by
 have :cv d i n p=6:=by rw[cv,Q! h];exact W! h2
 grind[jK]
theorem aEJ {d:B8}{i n:Int}{p:O}(h:(d.length:Int)=32/\1<=n/\n<=1099511627776/\0<=i/\i<n)(h2:(p.length:Int)=((cb i n).length:Int)/\cJ p=true):cv d i n p=0:=by
 rw[cv,Q! h];exact Q! h2
theorem mC(h:cv d i n p=0):((d.length:Int)=32/\1<=n/\n<=1099511627776/\0<=i/\i<n)/\(p.length:Int)=((cb i n).length:Int)/\cJ p=true:=by
 unfold cv at h;split at h;rename_i h1;split at h;rename_i h2;exact⟨h1,h2⟩;omega;omega
theorem aCc(d:B8)(i n:Int)(p:O):d=cD d i n p 0:=by rfl
theorem ZF{k:Nat}(h:cv d i n p=0)(hk:k<p.length):
  (bif (cb i n).getD (((cb i n).length:Int)-1-(k:Int)).toNat false then bo (p.getD k []) (cD d i n p k) else bo (cD d i n p k) (p.getD k []))=cD d i n p (k+1):=by
 obtain⟨_,h2,_⟩:=mC h;have hz:k<(List.zip (cb i n).reverse p).length:=by grind
 have e:cD d i n p (k+1)=Oe (cD d i n p k) ((List.zip (cb i n).reverse p)[k]):=by
  unfold cD;rw[List.take_add_one,List.getElem?_eq_getElem hz,List.foldl_append];rfl
 rw[e,List.getElem_zip,List.getElem_reverse];have e1:(((cb i n).length:Int)-1-(k:Int)).toNat=(cb i n).length-1-k:=by omega
 rw[e1,E!,C! w!,E!,C! hk];cases (cb i n)[(cb i n).length-1-k]<;>rfl
theorem aul{k:Nat}(h:cv d i n p=0)(hk:p.length<=k):cD d i n p k=jK d i n p:=by
 rw[jK,if_pos h,an8,kh,cD,List.take_of_length_le];grind
def F7(n:Int)(g doc:B8)(p:O)(i:Int):Bool:=decide (cv (leaf doc) i n p=0)&&decide (jK (leaf doc) i n p=g)
abbrev Pg:=Int×B8×M Sg×Int×B8×O
def Tu(root:B8)(i:Int)(p:Pg):Bool:=CG p.1 p.2.1 p.2.2.1 root&&(decide (p.2.2.2.1=i)&&F7 p.1 p.2.1 p.2.2.2.2.1 p.2.2.2.2.2 i)
def jO(root:B8)(i:Int)(b:B8):B8×Int:=
 if ¬root.length=32 then([],1) else if ¬(aK b).2=0 then([],(aK b).2) else if Tu root i (aK b).1 then((aK b).1.2.2.2.2.1,0) else([],6)
theorem ZG(b:B8):fa (aK b).1.2.2.2.2.2:=by
 unfold aK;split;exact Nat.zero_le _;split;exact Nat.zero_le _;show(Ik b).2.length<=_;grind[Ik,rN,VO,VP]
theorem aej(b:B8):(aK b).1.2.2.2.2.1.length<=b.length:=by
 unfold aK;split;grind;split;grind;exact MW _ _ _ _
theorem aoF(h:b.length<1099511627776):fa (aK b).1.2.2.2.2.2/\ax (aK b).1.2.2.2.2.1:=⟨ZG b,Nat.lt_of_le_of_lt (aej b) h⟩
theorem aEK {root:B8}(h:¬(root.length:Int)=32):jO root i b=([],1):=by rw[jO,Q! w!]
theorem aEL {root:B8}(h:(root.length:Int)=32)(h2:¬(aK b).2=0):jO root i b=([],(aK b).2):=by rw[jO,W! w!,Q! h2]
theorem aoG {root:B8}(h:(root.length:Int)=32)(h2:(aK b).2=0):jO root i b=if Tu root i (aK b).1 then((aK b).1.2.2.2.2.1,0) else([],6):=by rw[jO,W! w!,W! w!]
def JR:U:=(List.range 1000).map Int.ofNat
abbrev Kp:=Bool->Bool->Bool
def EY:Kp:=λx y=>x&&y
def VS:Kp:=λx y=>x || y
def EZ:Kp:=λx y=>x&& !y
def z7(k:Kp)(a b:U):U:=JR.filter λn=>k (re a n) (re b n)
def JS(k:Kp)(a b:U):U:=z7 k (we a) (we b)
def F8(a b:U):U:=JS EY a b
def vJ(a b:U):U:=JS VS a b
def PU(a b:U):U:=JS EZ a b
abbrev Pk:=U×U×U
def mI(k:Kp)(a b:U)(x:Pk):Prop:=x.2.2++z7 k x.1 x.2.1=JS k a b/\bq x.1=true/\bq x.2.1=true
def iX(x:Pk):Nat:=x.1.length+x.2.1.length
def opL(o:Int)(a b:U):U:=if o=1 then F8 a b else if o=2 then vJ a b else PU a b
def DT(f:B8->U)(s:M U)(o:de):M U:=
 if o.1=0 then s++[f o.2] else s.take (s.length-2)++[opL o.1 (s.getD (s.length-2) []) (s.getD (s.length-1) [])]
def lN(f:B8->U)(l:M de)(k:Nat):M U:=(l.take k).foldl (DT f) []
def pC(x:O)(t:B8):Nat:=(x.filter λa=>Op.bytesLess a t).length
def CH(x:O)(t:B8):Bool:=decide (t∈x)
def sR(t:O)(f:M U)(s:B8):U:=if CH t s then f.getD (pC t s) [] else []
def PV(l:M de)(t:O)(f:M U):U:=(lN (sR t f) l l.length).getD 0 []
def ou(l:M de)(f:M U):Bool:=bR l&&(decide (f.length=(aF l).length)&&f.all bq)
def oG(l:M de)(f:M U):U×Int:=if ou l f then(PV l (aF l) f,0) else([],1)
def xE(x:O):Prop:=vq x/\small x
def rP(x:O)(t:B8)(i j:Int):Prop:=0<=i/\i<=j/\j<=x.length/\(∀k:Nat,(k:Int)<i->Op.bytesLess (x.getD k []) t=true)/\∀k:Nat,j<=(k:Int)->k<x.length->Op.bytesLess (x.getD k []) t=false
def ug(b:B8):Nat->Int->Int->Int->U->U×Int
 |0,a,e,_,l=>if done b a e=0 then(l,0) else([],done b a e)
 |n+1,a,e,p,l=>
  if(af b a e).1.2.2≠0 then([],(af b a e).1.2.2)
  else if 998-p<(af b a e).2 then([],2)
  else ug b n (af b a e).1.2.1 (af b a e).1.2.2 (p+((af b a e).2+1)) (l++[p+((af b a e).2+1)])
def oW(b:B8):Rd×Int:=af b 0 0
def cy(b:B8):U×Int:=
 if(oW b).1.2.2≠0 then([],(oW b).1.2.2) else if 1000<(oW b).2 then([],2) else ug b (oW b).2.toNat (oW b).1.2.1 (oW b).1.2.2 (-1) []
abbrev Pr:=Int×Int×Int×U
def vK(b:B8)(k:Nat)(x:Pr):Prop:=(k:Int)<=(oW b).2/\(oW b).1.2.2=0/\(oW b).2<=1000/\ug b ((oW b).2.toNat-k) x.1 x.2.1 x.2.2.1 x.2.2.2=cy b/\ -1<=x.2.2.1/\x.2.2.1<=999/\x.2.2.2.length=k
def LJ(t:B8)(e:Int)(p2 p4 p6:B8):Bool:=decide (p2=t)&&(decide (e=0)&&decide (lX 2 p6=p4))
def LK(t p2 p3 p6:B8):Bool:=Op.bytesLess p2 t&&((Op.bytesLess t p3 || decide (p3=[]))&&decide (p6.length=0))
def VT(p2 p3 p4:B8):B8:=leaf (mH p2 p3 p4)
def E1(root:B8)(n:Int)(t:B8):Bool:=decide ((root.length:Int)=32)&&(decide (1<=n)&&(decide (n<=1099511627776)&&isTerm t))
def PW(root:B8)(n:Int)(p:Pf):Bool:=eE p.2.1 p.2.2.1 p.2.2.2.1&&(decide (cv (VT p.2.1 p.2.2.1 p.2.2.2.1) p.1 n p.2.2.2.2.1=0)&&decide (jK (VT p.2.1 p.2.2.1 p.2.2.2.1) p.1 n p.2.2.2.2.1=root))
def Tv(t:B8)(p:Pf):U×Int:=
 if LJ t (cy p.2.2.2.2.2).2 p.2.1 p.2.2.2.1 p.2.2.2.2.2 then((cy p.2.2.2.2.2).1,0) else if LK t p.2.1 p.2.2.1 p.2.2.2.2.2 then([],0) else([],6)
def kn(root:B8)(n:Int)(t:B8)(p:Pf):U×Int:=if E1 root n t then(if PW root n p then Tv t p else([],6)) else([],1)
def Io(l:M U)(x:U):M U:=l++[x]
def CI(t:O)(f:M U):Prop:=xE t/\f.length=t.length/\∀x∈f,bq x=true
def su(l:M U):Prop:=2<=l.length/\small l
def tq(o:Int)(l:M U):M U:=l.take (l.length-2)++[opL o (l.getD (l.length-2) []) (l.getD (l.length-1) [])]
def F9(l:M de)(t:O)(f:M U):Prop:=bR l=true/\small l/\CI t f
def pE(l:M de)(s:M U)(k:Nat):Prop:=k<=l.length/\(s.length:Int)=gB l k
def Ga(f:M U)(k:Nat):Prop:=k<=f.length/\∀x∈f.take k,bq x=true
def vL(t:B8)(p5:O)(p6:B8):Prop:=small t/\fa p5/\ax p6/\small p6
def og(root:B8)(n:Int)(t:B8)(p:Pf)(k:Nat):Prop:=k<=2/\E1 root n t=true/\PW root n p=true/\(1<=k->LJ t (cy p.2.2.2.2.2).2 p.2.1 p.2.2.2.1 p.2.2.2.2.2=false)/\(2<=k->LK t p.2.1 p.2.2.1 p.2.2.2.2.2=false)
theorem ZH:∀ {l m:U},l.Pairwise (· < ·)->m.Pairwise (· < ·)->(∀x,x∈l↔x∈m)->l=m
 |[],[],_,_,_=>rfl
 |[],y::m,_,_,h=>by grind[List.mem_cons_self]
 |x::l,[],_,_,h=>by grind[List.mem_cons_self]
 |x::l,y::m,hl,hm,h=>by
  rw[h?] at hl hm
  have hxy:x=y:=by
   rcases O!.1 ((h x).1 (G! ..)) with e|e;exact e;rcases O!.1 ((h y).2 (G! ..)) with e'|e';exact e'.symm;have:=hl.1 y e';have:=hm.1 x e;omega
  subst hxy;refine congrArg (x:: ·) (ZH hl.2 hm.2 λz=>⟨λhz=>?_,λhz=>?_⟩);grind;grind
theorem œ:n∈JR↔0<=n/\n<1000:=by
 simp[JR,List.mem_map,List.mem_range];constructor;grind;rintro⟨h1,h2⟩;exact⟨n.toNat,w!,x!⟩
theorem Ŕ:JR.Pairwise (· < ·):=by
 rw[JR,List.pairwise_map];exact List.pairwise_lt_range.imp λh=>by grind
variable {a:List Int}{p:Pf}
theorem z8 {k:Kp}{b:U}{x:Int}:x∈z7 k a b↔(0<=x/\x<1000)/\k (re a x) (re b x)=true:=by
 rw[z7,List.mem_filter,œ]
theorem Gb(k:Kp)(a b:U):(z7 k a b).Pairwise (· < ·):=Ŕ.filter _
theorem ŕ(k:Kp)(a b:U):(z7 k a b).length<=1000:=by
 refine Z? (List.length_filter_le _ _) ?_;simp[JR]
theorem CJ {x:Int}(h:bq (x::l)=true):(0<=x/\x<1000)/\bq l=true/\∀y∈l,x<y:=by
 rw[kC] at h;have h0:=(jC _ _).1 (h 0 z!)
 have hs:∀i,i<l.length->(x::l).getD i 0<l.getD i 0/\l.getD i 0<1000:=λi hi=>by
  have:=(jC _ _).1 (h (i+1) x!);grind[lM]
 have hx:∀i,i<l.length->x<l.getD i 0:=by
  intro i;induction i with
  |zero=>grind
  |succ i ih=>
   grind
 rw[vt] at h0;simp at h0;refine⟨⟨w!,h0.2⟩,(kC l).2 λi hi=>(jC _ _).2 ⟨?_,(hs i hi).2⟩,λy hy=>?_⟩
 . cases i with
   |zero=>grind[vt]
   |succ i=>grind[lM]
 obtain⟨i,hi,rfl⟩:=c? hy;have:=hx i hi;rwa [E!,C! hi] at this
def js(r s:U):Bool:=bif decide ((0:Int)<(r.length:Int)) then bif decide ((s.length:Int)=(0:Int)) then true else decide (r.getD (Int.toNat (0:Int)) 0<=s.getD (Int.toNat (0:Int)) 0) else false
def Ip(r s:U):Int:=bif js s r then s.getD (Int.toNat (0:Int)) 0 else bif js r s then r.getD (Int.toNat (0:Int)) 0 else 0
def pF(c:Bool)(r:U):U:=bif c then r.drop (Int.toNat (1:Int)) else r
def PX(r r':U)(c:Bool)(n:Int):Prop:=(∀x,x∈r↔x∈r'\/(c=true/\x=n))/\(∀x∈r',n<x)/\bq r'=true
theorem Tw(hr:bq r=true)(hs:bq s=true)(di:0<r.length\/0<s.length):
  (0<=Ip r s/\Ip r s<1000)/\PX r (pF (js r s) r) (js r s) (Ip r s)/\PX s (pF (js s r) s) (js s r) (Ip r s)/\(pF (js r s) r).length+(pF (js s r) s).length<r.length+s.length:=by
 cases r with
 |nil=>
  cases s with
  |nil=>grind
  |cons y s=>
   obtain⟨h1,h2,h3⟩:=CJ hs;grind[js,Ip,pF,PX,List.length_nil,List.length_cons]
 |cons x r=>
  obtain⟨g1,g2,g3⟩:=CJ hr;cases s with
  |nil=>
   grind[js,Ip,pF,PX,List.length_nil,List.length_cons]
  |cons y s=>
   obtain⟨h1,h2,h3⟩:=CJ hs
   have e1:js (x::r) (y::s)=decide (x<=y):=by
    grind[js,List.length_cons,decide_eq_true,decide_eq_false]
   have e2:js (y::s) (x::r)=decide (y<=x):=by
    grind[js,List.length_cons,decide_eq_true,decide_eq_false]
   grind[Ip,pF,PX]
theorem aum {k:Kp}(hk:k false false=false)(hr:bq r=true)(hs:bq s=true)(di:0<r.length\/0<s.length):
  z7 k r s=(if k (js r s) (js s r)=true then [Ip r s] else [])++z7 k (pF (js r s) r) (pF (js s r) s):=by
 obtain⟨h0,⟨a1,a2,_⟩,⟨b1,b2,_⟩,_⟩:=Tw hr hs di;generalize Ip r s=n at *;generalize pF (js r s) r=r' at *;generalize pF (js s r) s=s' at *;generalize js r s=A at *;generalize js s r=B at *
 have hn:re r' n=false/\re s' n=false:=by
  grind[re,decide_eq_false_iff_not]
 have hrn:∀x,re r x=(re r' x || (A&&decide (x=n))):=λx=>by
  simp_all[re,J!,e?,B!]
 have hsn:∀x,re s x=(re s' x || (B&&decide (x=n))):=λx=>by
  simp_all[re,J!,e?,B!]
 refine ZH (Gb k r s) ?_ λx=>?_
 . split
   . rw[List.singleton_append];refine h?.2 ⟨λy hy=>?_,Gb k r' s'⟩;rw[z8] at hy;cases h1:re r' y with
     |true=>exact a2 y (by simpa[re] using h1)
     |false=>
      cases h2:re s' y with
      |true=>exact b2 y (by simpa[re] using h2)
      |false=>rw[h1,h2,hk] at hy;cases hy.2
   rw[d?];exact Gb k r' s'
 rw[z8,hrn,hsn,List.mem_append,z8];grind
theorem Tx(l:U):bq (we l)=true:=by
 unfold we;split;omega;rfl
theorem DU(l:U):(bif !bq l then [] else l)=we l:=by
 grind[we,bq]
theorem aoH(k:Kp)(a b:U):mI k a b (we a,we b,[]):=⟨d? _,Tx a,Tx b⟩
theorem VU {k:Kp}(hk:k false false=false){b:U}{x:Pk}(h:mI k a b x)(hc:(bif decide ((0:Int)<(x.1.length:Int)) then true else decide ((0:Int)<(x.2.1.length:Int)))=false):x.2.2=JS k a b:=by
 obtain⟨h1,_,_⟩:=h
 have e1:x.1=[]:=by
  simp_all
 have e2:x.2.1=[]:=by
  simp_all
 have :z7 k [] []=[]:=List.eq_nil_iff_forall_not_mem.2 λy hy=>by
  rw[z8] at hy;have :re [] y=false:=rfl;grind
 grind
theorem mq(h:js r s=true):(0:Int)<(r.length:Int)/\(1:Int)<=(r.length:Int):=by
 grind[js]
theorem Ŗ {k:Kp}(hk:k false false=false){b:U}{x:Pk}(h:mI k a b x)(hc:(bif decide ((0:Int)<(x.1.length:Int)) then true else decide ((0:Int)<(x.2.1.length:Int)))=true):
  x.2.2.length<=1000/\(k (js x.1 x.2.1) (js x.2.1 x.1)=true->mI k a b (pF (js x.1 x.2.1) x.1,pF (js x.2.1 x.1) x.2.1,x.2.2++[Ip x.1 x.2.1]))/\(k (js x.1 x.2.1) (js x.2.1 x.1)=false->mI k a b (pF (js x.1 x.2.1) x.1,pF (js x.2.1 x.1) x.2.1,x.2.2))/\
  iX (pF (js x.1 x.2.1) x.1,pF (js x.2.1 x.1) x.2.1,x.2.2++[Ip x.1 x.2.1])<iX x/\iX (pF (js x.1 x.2.1) x.1,pF (js x.2.1 x.1) x.2.1,x.2.2)<iX x:=by
 obtain⟨h1,h2,h3⟩:=h
 have di:0<x.1.length\/0<x.2.1.length:=by
  grind
 obtain⟨_,⟨_,_,f1⟩,⟨_,_,f2⟩,f3⟩:=Tw h2 h3 di;have hl:=aum hk h2 h3 di;have hlen:=congrArg List.length h1;rw[List.length_append] at hlen;have:=ŕ k (we a) (we b);refine⟨?_,λhq=>⟨?_,f1,f2⟩,λhq=>⟨?_,f1,f2⟩,f3,f3⟩;unfold JS at hlen;omega;grind;grind
variable {x:List B8}{s:B8}{l:List de}
theorem Iq(hp:xE x)(h:rP x t i j)(A3:i<j):
  (i+j)%18446744073709551616/2^Int.toNat 1=(i+j)/2/\0<=i/\i<=(i+j)/2/\(i+j)/2<j/\j<=x.length/\(x.length:Int)<=1099511627776:=by
 have h2:=hp.2;unfold small at h2;obtain⟨h3,h4,h5,_⟩:=h;grind
theorem ŗ(h:vq x){a b:Nat}(k9:a<b)(hb:b<x.length):Op.bytesLess (x.getD a []) (x.getD b [])=true:=by
 rw[E!,C! w!,E!,C! hb];exact List.pairwise_iff_getElem.1 h a b w! hb k9
theorem aEM(hp:xE x)(h:rP x t i j)(h1:i<=m)(h2:m<j)(hl:Op.bytesLess (x.getD m.toNat []) t=true):rP x t (m+1) j:=by
 obtain⟨h3,h4,h5,h6,h7⟩:=h;refine⟨w!,w!,h5,λk hk=>?_,h7⟩;by_cases hkm:k=m.toNat;grind;exact mz _ _ _ (ŗ hp.1 (show k<m.toNat by omega) w!) hl
theorem aEN(hp:xE x)(h:rP x t i j)(h1:i<=m)(h2:m<j)(hl:Op.bytesLess (x.getD m.toNat []) t=false):rP x t i m:=by
 obtain⟨h3,h4,h5,h6,h7⟩:=h;refine⟨h3,h1,w!,h6,λk hk UR=>?_⟩;by_cases hkm:k=m.toNat;grind;rw[Bool.eq_false_iff];intro hb;have:=mz _ _ _ (ŗ hp.1 (show m.toNat<k by omega) UR) hb;grind
theorem aEO(hp:xE x)(h:rP x t i j)(h1:i<=m)(h2:m<j):
  rP x t (bif Op.bytesLess (x.getD m.toNat []) t then m+1 else i) (bif Op.bytesLess (x.getD m.toNat []) t then j else m)/\
  ((bif Op.bytesLess (x.getD m.toNat []) t then j else m)-(bif Op.bytesLess (x.getD m.toNat []) t then m+1 else i)).toNat<(j-i).toNat:=by
 grind[aEM,aEN]
theorem aun(h:rP x t i j)(A3:¬i<j):i=(pC x t:Int):=by
 obtain⟨h3,h4,h5,h6,h7⟩:=h
 have e:x.filter (λa=>Op.bytesLess a t)=x.take j.toNat:=by
  conv=>lhs;rw[<-R? j.toNat x]
  have e1:(x.take j.toNat).filter (λa=>Op.bytesLess a t)=x.take j.toNat:=List.filter_eq_self.2 λa ha=>by
   obtain⟨k,hk,rfl⟩:=c? ha;rw[Y!] at hk;have:=h6 k w!;rw[E!,C! w!] at this;rw[List.getElem_take];exact this
  have e2:(x.drop j.toNat).filter (λa=>Op.bytesLess a t)=[]:=List.filter_eq_nil_iff.2 λa ha=>by
   obtain⟨k,hk,rfl⟩:=List.getElem_of_mem ha;grind
  grind
 grind[pC,List.length_take]
theorem auo(hp:xE x)(h:rP x t i j)(A3:¬i<j):
  (bif decide (i<(x.length:Int)) then bif decide (x.getD i.toNat []=t) then true else bif false then false else false else false)=CH x t:=by
 obtain⟨h3,h4,h5,h6,h7⟩:=h;have hj:j=i:=by omega
 subst hj;rw[CH,Bool.eq_iff_iff];have e:∀a b:Bool,(bif a then bif b then true else bif false then false else false else false)=true↔a=true/\b=true:=by decide
 rw[e,decide_eq_true_eq,decide_eq_true_eq,decide_eq_true_eq];constructor;grind;intro hm;obtain⟨k,hk,rfl⟩:=List.getElem_of_mem hm;have hg:x.getD k []=x[k]:=by rw[List.getD_eq_getElem?_getD,List.getElem?_eq_getElem hk];rfl
 have hkj:j<=k:=by
  apply Classical.byContradiction;intro hn;have:=h6 k w!;rw[hg,eI] at this;cases this
 refine⟨w!,?_⟩;by_cases aLm:k=j.toNat;rw[<-aLm];exact hg;have h1:=ŗ hp.1 (show j.toNat<k by omega) hk;have h2:=h7 j.toNat w! w!;rw[hg] at h1;rw[h1] at h2;cases h2
theorem aup(h:CH x t=true):pC x t<x.length:=by
 have hm:t∈x:=of_decide_eq_true h;grind[pC,Nat.not_le,List.filter_eq_self,List.Sublist.eq_of_length_le,List.filter_sublist,eI]
variable {t:List B8}{x:Pr}{a:B8}
theorem Ř(hp:CI t f)(h:(!CH t s)=false):(0<=(pC t s:Int)/\(pC t s:Int)<(f.length:Int))/\small (f.getD (Int.toNat (pC t s:Int)) [])/\f.getD (Int.toNat (pC t s:Int)) []=sR t f s:=by
 have hs:CH t s=true:=by grind
 have hc:=aup hs;obtain⟨_,h2,h3⟩:=hp;rw[Int.toNat_natCast];refine⟨⟨w!,w!⟩,?_,by rw[sR,if_pos hs]⟩;grind[od,bu,pC,small]
theorem auq(h:(!CH t s)=true): []=sR t f s:=by
 simp_all[CH,sR,W!]
theorem aur(f:B8->U)(l:M de): []=lN f l 0:=by rfl
variable {f:B8->List Int}{s:List (List Int)}
theorem PY{k:Nat}(hk:k<l.length):lN f l (k+1)=DT f (lN f l k) (l.getD k (0,[])):=by
 rw[lN,aw l k (0,[]) hk,List.foldl_append];rfl
theorem aoI {o:Int}(h:2<=s.length):(tq o s).length=s.length-1:=by
 grind[tq,List.length_append,List.length_take]
theorem ZI{k:Nat}(hk:(k:Int)<l.length)(h:(jT l k).1=0):Io (lN f l k) (f (jT l k).2)=lN f l (k+1):=by
 rw[PY w!];show _=DT f _ (jT l k);rw[DT,Q! h];rfl
theorem MY{l:M de}{k:Nat}{o:Int}(hk:(k:Int)<l.length)(h:(jT l k).1=o)(ho:o≠0):tq o (lN f l k)=lN f l (k+1):=by
 rw[PY w!];show _=DT f _ (jT l k);rw[DT,W! w!,<-h];rfl
theorem aLn(h:bR l=true){k:Nat}(hk:(k:Int)<l.length):vI l k=true:=by
 simp_all[bR,B!,B?,List.mem_range]
theorem VV(h:bR l=true){k:Nat}(hk:(k:Int)<l.length):0<=(jT l k).1/\(jT l k).1<=3/\((jT l k).1≠0->2<=gB l k):=by
 have:=aLn h hk;grind[vI]
theorem aek(l:M de)(k:Nat):gB l k<=k:=by
 have:=xC l k;grind[gB]
theorem aLo(l:M de):pE l [] 0:=⟨R! _,by rfl⟩
variable {f:List (List Int)}
theorem MZ{k:Nat}(hp:F9 l t f)(h:pE l s k)(hk:(k:Int)<l.length)(ho:(jT l k).1≠0):su s:=by
 have:=(VV hp.1 hk).2.2 ho;have h1:=h.2;have h2:=aek l k;have h3:=hp.2.1;refine⟨w!,by grind[small]⟩
theorem aj1{k:Nat}(hp:F9 l t f)(h:pE l s k):small s:=by
 have h1:=h.2;have h2:=aek l k;have h3:=hp.2.1;have h4:=h.1;grind[small]
theorem aoJ {l:M de}{g:B8->U}{k:Nat}(h:pE l (lN g l k) k)(hk:(k:Int)<l.length)(ho:(jT l k).1=0):pE l (lN g l (k+1)) (k+1):=by
 refine⟨w!,?_⟩;rw[<-ZI hk ho,Io,H!,Zx ho,<-h.2];simp
theorem PZ {l:M de}{g:B8->U}{k:Nat}(hp:F9 l t f)(h:pE l (lN g l k) k)(hk:(k:Int)<l.length){o:Int}(ho:(jT l k).1=o)(h0:o≠0):pE l (lN g l (k+1)) (k+1):=by
 have h2:=(MZ hp h hk w!).1;refine⟨w!,?_⟩;rw[<-MY hk ho h0,aoI h2,MV w!,<-h.2];omega
theorem ael{k:Nat}(hp:F9 l t f)(h:pE l s k)(hk:¬(k:Int)<l.length):0<s.length/\k=l.length:=by
 have e:k=l.length:=by have:=h.1;omega
 have h1:=hp.1;simp[bR,Bool.and_eq_true,decide_eq_true_eq] at h1;have h2:=h.2;grind
theorem Tz(h:small l):xE (aF l):=by
 refine⟨l6 _,?_⟩;have h1:=aX (qF l);grind[qF,bP,List.length_map,Nat.le_trans,List.length_filter_le,small,aF]
theorem JT(h:ou l f=false): []=(oG l f).1/\1=(oG l f).2:=by
 grind[oG]
theorem aem(h:ou l f=true):PV l (aF l) f=(oG l f).1/\0=(oG l f).2:=by
 grind[oG]
theorem aoK{k:Nat}(h:Ga f k)(hk:(k:Int)<f.length)(h1:bq (f.getD k [])=true):Ga f (k+1):=by
 refine⟨w!,λx hx=>?_⟩;rw[aw f k [] w!,I!,t?] at hx;rcases hx with hx|rfl;exact h.2 x hx;omega
theorem VW{k:Nat}(h:Ga f k)(hk:¬(k:Int)<f.length):f.all bq=true:=by
 have e:k=f.length:=by have:=h.1;omega
 have:=h.2;grind
theorem aen{k:Nat}(hk:(k:Int)<f.length)(h1:bq (f.getD k [])=false):f.all bq=false:=by
 grind
theorem qJ(b:B8)(a e:Int):0<=(af b a e).2/\(af b a e).2<=4611686018427387904:=by
 unfold af;split;omega;split;omega;rename_i h1 _
 have hp:dB b a:=by
  unfold bU at h1;unfold dB;by_cases he:e=0/\inside b a=false;grind;simp_all[if_neg,inside,Bool.and_eq_true,decide_eq_true_eq]
 simp_all[OS]
theorem aLp {b:B8}(h1:(oW b).1.2.2=0)(h2:¬1000<(oW b).2):vK b 0 ((oW b).1.2.1,(oW b).1.2.2,-1,[]):=by
 have:=(qJ b 0 0).1;refine⟨this,h1,w!,?_,z!,z!,rfl⟩;simp_all[cy,W!]
theorem aeo(h1:¬(oW b).1.2.2=0): []=(cy b).1/\(oW b).1.2.2=(cy b).2:=by
 simp_all[cy,Q!]
theorem ZJ {b:B8}(h1:(oW b).1.2.2=0)(h2:1000<(oW b).2): []=(cy b).1/\2=(cy b).2:=by
 simp_all[cy,W!,Q!]
theorem VX{k:Nat}(h:vK b k x)(hk:(k:Int)<(oW b).2):cy b=
  if(af b x.1 x.2.1).1.2.2≠0 then([],(af b x.1 x.2.1).1.2.2) else if 998-x.2.2.1<(af b x.1 x.2.1).2 then([],2)
  else ug b ((oW b).2.toNat-(k+1)) (af b x.1 x.2.1).1.2.1 (af b x.1 x.2.1).1.2.2 (x.2.2.1+((af b x.1 x.2.1).2+1)) (x.2.2.2++[x.2.2.1+((af b x.1 x.2.1).2+1)]):=by
 have h4:=h.2.2.2.1;have e:(oW b).2.toNat-k=((oW b).2.toNat-(k+1))+1:=by omega
 grind[ug]
theorem aep {b:B8}{k:Nat}(h:vK b k x)(hk:(k:Int)<(oW b).2)(h1:¬(af b x.1 x.2.1).1.2.2=0): []=(cy b).1/\(af b x.1 x.2.1).1.2.2=(cy b).2:=by
 rw[VX h hk,if_pos h1];grind
theorem aeq {b:B8}{k:Nat}{x:Pr}(h:vK b k x)(hk:(k:Int)<(oW b).2)(h1:(af b x.1 x.2.1).1.2.2=0)(h2:998-x.2.2.1<(af b x.1 x.2.1).2): []=(cy b).1/\2=(cy b).2:=by
 rw[VX h hk,if_neg w!,if_pos h2];grind
theorem aoL {b:B8}{k:Nat}{x:Pr}(h:vK b k x)(hk:(k:Int)<(oW b).2)(h1:(af b x.1 x.2.1).1.2.2=0)(h2:¬998-x.2.2.1<(af b x.1 x.2.1).2):
  vK b (k+1) ((af b x.1 x.2.1).1.2.1,(af b x.1 x.2.1).1.2.2,x.2.2.1+((af b x.1 x.2.1).2+1),x.2.2.2++[x.2.2.1+((af b x.1 x.2.1).2+1)]):=by
 have hg:=VX h hk;rw[if_neg w!,if_neg h2] at hg;have hn:=(qJ b x.1 x.2.1).1;obtain⟨_,g2,g3,_,g5,g6,g7⟩:=h;refine⟨w!,g2,g3,hg.symm,x!,x!,x!⟩
theorem Ir{k:Nat}(h:vK b k x)(hk:¬(k:Int)<(oW b).2):cy b=if done b x.1 x.2.1=0 then(x.2.2.2,0) else([],done b x.1 x.2.1):=by
 have h4:=h.2.2.2.1;simp_all[oW,ug]
variable {t:B8}
theorem aus {root:B8}(p:Pf)(h:E1 root n t=false): []=(kn root n t p).1/\1=(kn root n t p).2:=by
 grind[kn]
theorem aoM {root:B8}(h:E1 root n t=true)(h2:PW root n p=false): []=(kn root n t p).1/\6=(kn root n t p).2:=by
 grind[kn]
theorem VY {root:B8}(h:E1 root n t=true)(h2:PW root n p=true):kn root n t p=Tv t p:=by
 grind[kn]
theorem aEQ(a b:B8):(!(Op.bytesLess a b || decide (a=b)))=Op.bytesLess b a:=by
 grind[pa,DF,eI,decide_eq_false]
theorem VZ {root:B8}(h:(root.length:Int)=32/\¬n<1/\¬1099511627776<n/\isTerm t=true):E1 root n t=true:=by
 simp_all[E1,B!,J!]
theorem aut {root:B8}(h:¬(root.length:Int)=32\/n<1\/1099511627776<n\/isTerm t=false):E1 root n t=false:=by
 simp[E1,Ne,Bool.and_eq_true,decide_eq_true_eq];grind
theorem P0 {c:B8}(h:kD a b c=0):eE a b c=true/\dK a b c=mH a b c:=by
 simp_all[kD,dK,Q!]
theorem aoN {c:B8}(h:¬kD a b c=0):eE a b c=false:=by
 grind[kD]
theorem ř {c:B8}(h:kD a b c=0):ax (dK a b c):=by
 obtain⟨h1,h2⟩:=P0 h;simp[eE,Bool.and_eq_true,decide_eq_true_eq] at h1;grind[q1,cO,q2,ax,mH,text,List.length_append]
theorem aER {root:B8}(h:kD p.2.1 p.2.2.1 p.2.2.2.1=0)(h1:cv (leaf (dK p.2.1 p.2.2.1 p.2.2.2.1)) p.1 n p.2.2.2.2.1=0/\jK (leaf (dK p.2.1 p.2.2.1 p.2.2.2.1)) p.1 n p.2.2.2.2.1=root):PW root n p=true:=by
 grind[P0,PW,VT,decide_true,Bool.and_self]
theorem auu {root:B8}(h:¬kD p.2.1 p.2.2.1 p.2.2.2.1=0):PW root n p=false:=by
 simp_all[PW,aoN,Bool.false_and]
theorem auv {root:B8}(h:kD p.2.1 p.2.2.1 p.2.2.2.1=0)(h1:¬cv (leaf (dK p.2.1 p.2.2.1 p.2.2.2.1)) p.1 n p.2.2.2.2.1=0\/¬jK (leaf (dK p.2.1 p.2.2.1 p.2.2.2.1)) p.1 n p.2.2.2.2.1=root):PW root n p=false:=by
 obtain⟨g1,g2⟩:=P0 h;simp[PW,VT,g1,Bool.true_and];grind
theorem aES {root:B8}(h1:E1 root n t=true)(h2:PW root n p=true):og root n t p 0:=⟨w!,h1,h2,w!,w!⟩
theorem aET {root:B8}{k:Nat}(h:og root n t p k)(hk:(k:Int)=0)(h1:LJ t (cy p.2.2.2.2.2).2 p.2.1 p.2.2.2.1 p.2.2.2.2.2=false):og root n t p (k+1):=
 ⟨w!,h.2.1,h.2.2.1,λ_=>h1,w!⟩
theorem aEU {root:B8}{k:Nat}(h:og root n t p k)(hk:(k:Int)=1)(h1:LK t p.2.1 p.2.2.1 p.2.2.2.2.2=false):og root n t p (k+1):=
 ⟨w!,h.2.1,h.2.2.1,λ_=>h.2.2.2.1 w!,λ_=>h1⟩
theorem aer {root:B8}{k:Nat}(h:og root n t p k)(h1:LJ t (cy p.2.2.2.2.2).2 p.2.1 p.2.2.2.1 p.2.2.2.2.2=true):(cy p.2.2.2.2.2).1=(kn root n t p).1/\0=(kn root n t p).2:=by
 rw[VY h.2.1 h.2.2.1,Tv,h1];grind
theorem aes {root:B8}{k:Nat}(h:og root n t p k)(hk:(k:Int)=1)(h1:LK t p.2.1 p.2.2.1 p.2.2.2.2.2=true): []=(kn root n t p).1/\0=(kn root n t p).2:=by
 rw[VY h.2.1 h.2.2.1,Tv,h.2.2.2.1 w!,h1];grind
theorem auw {root:B8}{k:Nat}(h:og root n t p k)(hk:¬(k:Int)<((2:Nat):Int)): []=(kn root n t p).1/\6=(kn root n t p).2:=by
 rw[VY h.2.1 h.2.2.1,Tv,h.2.2.2.1 w!,h.2.2.2.2 w!];grind
end Go.S
namespace Go.S
open Go.Vg (CF Z bW)
def TC(a:M (M Pf))(i j:Int):Pf:=pfD (fw a i.toNat) j.toNat
def A6(g:Sg)(w:B8)(a:M (M Pf))(i j:Int):U×Int:=kn g.2.2.2 g.2.2.1 w (TC a i j)
def tI(g:Sg)(w:B8)(a:M (M Pf))(i j:Int):Bool:=decide ((A6 g w a i j).2=0)&&w7 (A6 g w a i j).1 g.1 g.2.1
def P1(w:B8)(a:M (M Pf))(i j:Int):Prop:=(0<=i/\i<a.length)/\(0<=j/\j<(fw a i.toNat).length)/\vL w (TC a i j).2.2.2.2.1 (TC a i j).2.2.2.2.2
def TD(j:Int)(q n:Nat)(l:U):Prop:=q=j.toNat/\q<n/\small l
def TF(l m:U):U:=l++m
def P2(g:Sg)(w:B8)(a:M (M Pf))(i j:Int)(l:U):U:=if tI g w a i j then TF l (A6 g w a i j).1 else l
def aoO(root:B8)(n:Int)(g:B8)(l:M Sg):CF:=λz=>(True,.bool (CG n g l root),z)
def aet(a:M (M Pf))(i:Int)(t:O):CF:=λz=>(0<=i/\i<(a.length:Int),.bool (pd a i t),z)
def CK(e0 ei0:Nat)(g:Sg)(w:B8)(a:M (M Pf))(i j:Int):CF:=λz=>match z with
 |.g e ei l=>(e=e0/\ei=ei0/\P1 w a i j/\TD j j.toNat l.length (l.getD j.toNat []),.bool (tI g w a i j),.g e ei (l.set j.toNat (P2 g w a i j (l.getD j.toNat []))))
 |z=>(False,.bool false,z)
def JU(l:M Sg)(i:Nat):Sg:=l.getD i (0,0,0,[])
def P3(e0 ei0:Nat)(s:M Sg)(a:M (M Pf))(t:O)(i k:Nat):M CF:=
 aet a i t::(List.range k).map λ(j:Nat)=>CK e0 ei0 (JU s i) (t.getD j []) a i j
def conds(e0 ei0:Nat)(root:B8)(n:Int)(g:B8)(s:M Sg)(a:M (M Pf))(t:O):Nat->M CF
 |0=>[aoO root n g s]
 |i+1=>conds e0 ei0 root n g s a t i++P3 e0 ei0 s a t i t.length
def qK(e0 ei0:Nat)(root:B8)(n:Int)(g:B8)(s:M Sg)(a:M (M Pf))(t:O)(i k:Nat):M CF:=
 conds e0 ei0 root n g s a t i++P3 e0 ei0 s a t i k
def Aa(s:M Sg)(a:M (M Pf))(t:O)(i k:Nat):Bool:=(List.range k).all λ(j:Nat)=>tI (JU s i) (t.getD j []) a i j
def CL(s:M Sg)(a:M (M Pf))(t:O)(i:Nat):Bool:=(List.range i).all λ(i:Nat)=>pd a i t&&Aa s a t i t.length
def xF(s:M Sg)(a:M (M Pf))(t:O)(j:Nat):Nat->U
 |0=>[]
 |i+1=>TF (xF s a t j i) (A6 (JU s i) (t.getD j []) a i j).1
def vM(s:M Sg)(a:M (M Pf))(t:O)(i k:Nat):M U:=(List.range t.length).map λ(j:Nat)=>xF s a t j (if j<k then i+1 else i)
def yN(s:M Sg)(a:M (M Pf))(t:O)(i:Nat):M U:=(List.range t.length).map λ(j:Nat)=>xF s a t j i
def LL(root:B8)(a:Int×B8×M Sg×M (M Pf))(t:O):Bool:=CG a.1 a.2.1 a.2.2.1 root&&CL a.2.2.1 a.2.2.2 t a.2.2.1.length
def kJ(root:B8)(l:M de)(b:B8):U×Int:=
 if(bif !decide ((root.length:Int)=32) then true else !bR l) then([],1) else if(aU b).2≠0 then([],(aU b).2)
 else if LL root (aU b).1 (aF l) then oG l (yN (aU b).1.2.2.1 (aU b).1.2.2.2 (aF l) (aU b).1.2.2.1.length) else([],6)
def aeu(b:B8)(k:Nat):Prop:=k<=(aU b).1.2.2.1.length/\(aU b).2=0
def V0(b:B8)(t:O)(k j:Nat):Prop:=k<(aU b).1.2.2.1.length/\j<=t.length/\(aU b).2=0
theorem E2:∀(l m:M CF) (z:Z),((bW (l++m) z).1↔(bW l z).1/\((bW l z).2.1=true->(bW m (bW l z).2.2).1))/\(bW (l++m) z).2.1=((bW l z).2.1&&(bW m (bW l z).2.2).2.1)/\((bW l z).2.1=true->(bW (l++m) z).2.2=(bW m (bW l z).2.2).2.2)
 |[],m,z=>by simp[bW]
 |F::l,m,z=>by
  obtain⟨h1,h2,h3⟩:=E2 l m (F z).2.2;simp[List.cons_append,bW];grind
structure qL (l:List CF) (z z':Z) (o:Bool):Prop where
 pre:(bW l z).1
 ok:(bW l z).2.1=o
 to:o=true->(bW l z).2.2=z'
theorem qL.snoc {l m:M CF}{z z1 z2:Z}{o1 o2:Bool}(h:qL l z z1 o1)(g:o1=true->qL m z1 z2 o2):qL (l++m) z z2 (o1&&o2):=by
 obtain⟨h1,h2,h3⟩:=E2 l m z;cases o1 with
 |false=>exact⟨h1.2 ⟨h.pre,λq=>by rw[h.ok] at q;cases q⟩,by rw[h2,h.ok];rfl,nofun⟩
 |true=>
  have e:=h.to rfl;obtain⟨g1,g2,g3⟩:=g rfl;rw[e] at h1 h2 h3;exact⟨h1.2 ⟨h.pre,λ_=>g1⟩,by rw[h2,h.ok,g2],λq=>by rw[h3 h.ok];grind⟩
theorem qL.one {F:CF}{z:Z}{b:Bool}(h:(F z).1)(h1:(F z).2.1= .bool b):qL [F] z (F z).2.2 b:=by
 refine⟨⟨h,by rw[h1];rfl,λ_=>trivial⟩,?_,λq=>?_⟩;simp[bW,h1];cases b<;>rfl;grind[bW]
theorem auy(s:M Sg)(a:M (M Pf))(t:O)(i:Nat):vM s a t i 0=yN s a t i:=by
 rfl
theorem aj2(s:M Sg)(a:M (M Pf))(t:O)(i:Nat):vM s a t i t.length=yN s a t (i+1):=by
 simp_all[vM,yN,O?,Q!,List.mem_range]
theorem JV(s:M Sg)(a:M (M Pf))(t:O)(i k:Nat):(vM s a t i k).length=t.length:=by simp[vM]
variable {a:List (List Pf)}{i e0 ei0:Nat}{s:List Sg}{t:List B8}{b g:B8}{l:List de}{n:Int}
theorem ZK{k:Nat}(hk:k<t.length):(vM s a t i k).getD k []=xF s a t k i:=by
 rw[E!,vM,E?,List.getElem?_range hk];simp
theorem aj3{k:Nat}(hk:k<t.length):(vM s a t i k).set k (xF s a t k (i+1))=vM s a t i (k+1):=by
 apply List.ext_getElem?;intro j;rw[List.getElem?_set,JV];by_cases hj:j<t.length;by_cases hkj:k=j;subst hkj;rw[if_pos rfl,if_pos hk,vM,List.getElem?_map,List.getElem?_range hk];simp;rw[if_neg hkj,vM,vM,List.getElem?_map,List.getElem?_map,List.getElem?_range hj];grind;grind[List.getElem?_eq_none,JV]
theorem LM(b:B8):∀(n:Nat) (a e p:Int) (l:U),(ug b n a e p l).1.length<=l.length+n
 |0,a,e,p,l=>by
  grind[ug]
 |n+1,a,e,p,l=>by
  unfold ug;split;simp;split;simp;have:=LM b n (af b a e).1.2.1 (af b a e).1.2.2 (p+((af b a e).2+1)) (l++[p+((af b a e).2+1)]);rw[List.length_append,List.length_singleton] at this;omega
theorem ZL(b:B8):(cy b).1.length<=1000:=by
 grind[cy,LM,oW,List.length_nil]
theorem TG(root:B8)(n:Int)(t:B8)(p:Pf):(kn root n t p).1.length<=1000:=by
 grind[kn,Tv,ZL]
theorem P4(s:M Sg)(a:M (M Pf))(t:O)(j:Nat):∀i,(xF s a t j i).length<=1000*i
 |0=>by simp[xF]
 |i+1=>by
  have h1:=P4 s a t j i;have h2:=TG (JU s i).2.2.2 (JU s i).2.2.1 (t.getD j []) (TC a i j);rw[xF,TF,H!,A6];omega
def V1(s:M Sg)(a:M (M Pf))(t:O):Prop:=s.length=a.length/\s.length<=64/\t.length<=1099511627776/\(∀w∈t,small w)/\∀x∈a,∀p∈x,fa p.2.2.2.2.1/\ax p.2.2.2.2.2/\small p.2.2.2.2.2
theorem aoP(hp:V1 s a t){k:Nat}(hi:i<s.length)(hm:pd a i t=true)(hk:k<t.length):P1 (t.getD k []) a i k:=by
 obtain⟨h1,h2,h3,h4,h5⟩:=hp;have hm:(a.getD i []).length=t.length:=by grind[pd]
 have hia:i<a.length:=by omega
 have hx:=bu a i [] hia
 have hpf:TC a i k∈a.getD i []:=by
  grind[TC,pfD,fw,bu,Zu]
 obtain⟨q1,q2,q3⟩:=h5 _ hx _ hpf;refine⟨⟨w!,w!⟩,⟨w!,?_⟩,h4 _ (bu t k [] hk),q1,q2,q3⟩;grind[fw]
theorem aj4{k:Nat}(h:tI (JU s i) (t.getD k []) a i k=true):P2 (JU s i) (t.getD k []) a i k (xF s a t k i)=xF s a t k (i+1):=by
 rw[P2,Q! h];rfl
theorem AK {α:Type}(f:Nat->α)(k:Nat):(List.range (k+1)).map f=(List.range k).map f++[f k]:=by
 rw[List.range_succ,l?];rfl
theorem aCd {e0 ei0:Nat}{s:M Sg}{a:M (M Pf)}{t:O}(hp:V1 s a t){i:Nat}(hi:i<s.length)(hm:pd a i t=true):∀k,k<=t.length->
  qL ((List.range k).map λ(j:Nat)=>CK e0 ei0 (JU s i) (t.getD j []) a i j) (.g e0 ei0 (vM s a t i 0)) (.g e0 ei0 (vM s a t i k)) (Aa s a t i k)
 |0,_=>⟨trivial,rfl,λ_=>rfl⟩
 |k+1,hk=>by
  rw[AK]
  have e:Aa s a t i (k+1)=(Aa s a t i k&&tI (JU s i) (t.getD k []) a i k):=by
   unfold Aa;rw[List.range_succ,List.all_append];simp
  rw[e];refine(aCd hp hi hm k w!).snoc λ_=>?_;have xU:k<t.length:=by omega
  have e2:((k:Int)).toNat=k:=by simp
  have hlen:=P4 s a t k i
  have h:=qL.one (F:=CK e0 ei0 (JU s i) (t.getD k []) a i k) (z:=.g e0 ei0 (vM s a t i k)) (b:=tI (JU s i) (t.getD k []) a i k)
   ⟨rfl,rfl,aoP hp hi hm xU,by rw[e2,ZK xU,JV];exact⟨e2.symm,xU,by have:=hp.2.1;grind[small]⟩⟩ rfl
  refine⟨h.pre,h.ok,λq=>?_⟩;rw[h.to q];grind[CK,ZK,aj4,aj3]
theorem aCe {e0 ei0:Nat}{root:B8}{n:Int}{g:B8}{s:M Sg}{a:M (M Pf)}{t:O}(hp:V1 s a t):∀i,i<=s.length->
  qL (conds e0 ei0 root n g s a t i) (.g e0 ei0 (yN s a t 0)) (.g e0 ei0 (yN s a t i)) (CG n g s root&&CL s a t i)
 |0,_=>by
  have:=qL.one (F:=aoO root n g s) (z:=.g e0 ei0 (yN s a t 0)) (b:=CG n g s root) trivial rfl;have e:(CG n g s root&&CL s a t 0)=CG n g s root:=by simp[CL]
  rw[e];exact this
 |i+1,hi=>by
  have e:CL s a t (i+1)=(CL s a t i&&(pd a i t&&Aa s a t i t.length)):=by
   unfold CL;rw[List.range_succ,List.all_append];simp
  rw[e,<-Bool.and_assoc];refine(aCe hp i w!).snoc λ_=>?_;have h1:=qL.one (F:=aet a i t) (z:=.g e0 ei0 (yN s a t i)) (b:=pd a i t) (by have:=hp.1;exact⟨w!,w!⟩) rfl
  have h2:=h1.snoc (m:=(List.range t.length).map λ(j:Nat)=>CK e0 ei0 (JU s i) (t.getD j []) a i j) (z2:=.g e0 ei0 (yN s a t (i+1))) (o2:=Aa s a t i t.length) λhm=>by
   have:=aCd (e0:=e0) (ei0:=ei0) hp (show i<s.length by omega) hm t.length (P! _);rw[auy,aj2] at this;exact this
  exact h2
theorem auz(s:M Sg)(a:M (M Pf))(t:O):yN s a t 0=List.replicate t.length []:=by
 rw[List.eq_replicate_iff];refine⟨by simp[yN],λx hx=>?_⟩;obtain⟨j,_,rfl⟩:=g?.1 hx;rfl
theorem V2(hb:b.length<1099511627776)(hl:fA l)(h:(aU b).2=0):V1 (aU b).1.2.2.1 (aU b).1.2.2.2 (aF l):=by
 have hq:∀(k:Nat) (a e:Int),(tm b a e k).2.length=k/\∀x∈(tm b a e k).2,∀p∈x,p.2.2.2.2.1.length<=64/\p.2.2.2.2.2.length<=b.length:=by
  intro k a e;induction k with
  |zero=>exact⟨rfl,nofun⟩
  |succ k ih=>
   refine⟨by grind[tm],λx hx=>?_⟩;simp only[tm,List.mem_append,List.mem_singleton] at hx;rcases hx with hx|rfl;grind
   . have hpf:∀(m:Nat) (a e:Int),∀p∈(EX b a e m).2,p.2.2.2.2.1.length<=64/\p.2.2.2.2.2.length<=b.length:=by
      intro m a e;induction m with
      |zero=>exact nofun
      |succ m ih=>
       intro p hp;simp only[EX,List.mem_append,List.mem_singleton] at hp;rcases hp with hp|rfl;grind;refine⟨?_,MW _ _ _ _⟩;grind[iV,q3,rN,VO,VP]
     exact hpf _ _ _
 have h1:(aF l).length<=1099511627776:=(Tz hl.1).2
 have h2:∀w∈aF l,small w:=λw hw=>by
  have:=(jg (qF l) w).1 hw;simp only[qF,bP,g?,List.mem_filter] at this;obtain⟨o,⟨ho,_⟩,rfl⟩:=this;exact hl.2 o (List.mem_of_mem_take ho)
 have Ry:aU b=(((aH b).2.1,(aH b).2.2.1,(aH b).2.2.2,(kl b (aN b)).2),0):=by
  grind[aCb,aou,aCa]
 rw[Ry];have:=hq (aN b) (aH b).1.1 (aH b).1.2;refine⟨this.1.symm,ō b,h1,h2,λx hx p hp=>?_⟩;have q:=this.2 x hx p hp;grind[fa,ax,small]
theorem P5(e0 ei0:Nat)(s:M Sg)(a:M (M Pf))(t:O)(i k:Nat):(P3 e0 ei0 s a t i k).length=k+1:=by simp[P3]
theorem Gc {e0 ei0:Nat}{root:B8}{n:Int}{g:B8}{s:M Sg}{a:M (M Pf)}{t:O}:∀i,(conds e0 ei0 root n g s a t i).length=1+i*(t.length+1)
 |0=>by simp[conds]
 |i+1=>by rw[conds,H!,Gc i,P5,Nat.succ_mul];omega
theorem V3{root:B8}(i k:Nat):(qK e0 ei0 root n g s a t i k).length=1+i*(t.length+1)+(k+1):=by
 rw[qK,H!,Gc,P5]
theorem RW{root:B8}(i k:Nat):
  qK e0 ei0 root n g s a t i k++[CK e0 ei0 (JU s i) (t.getD k []) a i k]=qK e0 ei0 root n g s a t i (k+1):=by
 grind[qK,P3,AK,List.append_assoc]
theorem aev(hb:b.length<1099511627776)(hl:fA l)(h:(aU b).2=0):(aU b).1.2.2.1.length<=64:=(V2 hb hl h).2.1
theorem aew {b:B8}(hb:b.length<1099511627776)(hl:fA l)(h:(aU b).2=0)(hq:bR l=true)(hi:i<=(aU b).1.2.2.1.length):i*((aF l).length+1)<=1088:=by
 have h1:=aev hb hl h;have h2:=pU hq;exact Z? (Nat.mul_le_mul (show i<=64 by omega) (show(aF l).length+1<=17 by omega)) (by decide)
theorem P6 {root:B8}(h:(root.length:Int)=32/\bR l=true):¬(bif !decide ((root.length:Int)=32) then true else !bR l)=true:=by
 grind
theorem aEV {root:B8}(h:¬(root.length:Int)=32\/bR l=false):(bif !decide ((root.length:Int)=32) then true else !bR l)=true:=by
 grind
theorem auA {root:B8}(h:(bif !decide ((root.length:Int)=32) then true else !bR l)=true): []=(kJ root l b).1/\1=(kJ root l b).2:=by
 simp_all[kJ,Q!]
theorem auB {root:B8}(h:¬(bif !decide ((root.length:Int)=32) then true else !bR l)=true)(h1:¬(aU b).2=0): []=(kJ root l b).1/\(aU b).2=(kJ root l b).2:=by
 simp_all[kJ,W!,Q!]
theorem Is{root:B8}{b:B8}(hb:b.length<1099511627776)(hl:fA l)(h:(aU b).2=0){k:Nat}(hk:k=(aU b).1.2.2.1.length):
  qL (conds e0 ei0 root (aU b).1.1 (aU b).1.2.1 (aU b).1.2.2.1 (aU b).1.2.2.2 (aF l) k) (.g e0 ei0 (Vg.aB.Lo (Int.toNat ((aF l).length:Int)))) (.g e0 ei0 (yN (aU b).1.2.2.1 (aU b).1.2.2.2 (aF l) (aU b).1.2.2.1.length)) (LL root (aU b).1 (aF l)):=by
 subst hk;have:=aCe (e0:=e0) (ei0:=ei0) (root:=root) (n:=(aU b).1.1) (g:=(aU b).1.2.1) (V2 hb hl h) _ (P! _);rw[auz] at this;exact this
theorem aoQ {root:B8}{l:M de}{b:B8}{c:M CF}{z z':Z}(h0:¬(bif !decide ((root.length:Int)=32) then true else !bR l)=true)(h:(aU b).2=0)(hr:qL c z z' (LL root (aU b).1 (aF l)))(h1:¬(bif (Vg.aB.run c z).2.1 then(0:Int) else 6)=0):
  []=(kJ root l b).1/\(bif (Vg.aB.run c z).2.1 then(0:Int) else 6)=(kJ root l b).2:=by
 have e:=hr.ok;cases hc:LL root (aU b).1 (aF l) with
 |true=>grind
 |false=>simp_all[kJ,W!]
theorem aex {e0 ei0:Nat}{root:B8}{l:M de}{b:B8}{c:M CF}{z:Z}(h0:¬(bif !decide ((root.length:Int)=32) then true else !bR l)=true)(h:(aU b).2=0)(hr:qL c z (.g e0 ei0 (yN (aU b).1.2.2.1 (aU b).1.2.2.2 (aF l) (aU b).1.2.2.1.length)) (LL root (aU b).1 (aF l)))(h1:(bif (Vg.aB.run c z).2.1 then(0:Int) else 6)=0):
  oG l (Vg.aB.rows (Vg.aB.run c z).2.2)=kJ root l b:=by
 have e:=hr.ok;cases hc:LL root (aU b).1 (aF l) with
 |false=>grind
 |true=>
  rw[hr.to hc,kJ,W! h0,W! w!,Q! hc];rfl
end Go.S
namespace Go.S
theorem dl {p:O}{k:Nat}(h:(k:Int)<((p.drop (Int.toNat 1)).length:Int)):k+1<p.length:=by
 grind
def aLq:B8:=[119,97,105,110,32,104,97,121]
def ky:Ń:=([zZ,aLq],[(0,2,[(zZ,[0,1]),([119,97,105,110],[1])])])
end Go.S
namespace Go.S
open Go.Vg (CF AV gD)
abbrev Cl:=(B8×B8)×Bool
def gy:Cl:=(([],[]),false)
def gh(a b:B8):Prop:=small a/\small b
def JW(a b:B8):Bool:= !PO a b&&decide (sum a=sum b)
def bt(a b:B8):Cl:=if JW a b then((a,b),true) else gy
def AL(x:Cl):AV:=.bc [.agg [.sl [.int .u8] x.1.1,.sl [.int .u8] x.1.2],.bool x.2]
def ZM(a b:B8):CF:=λz=>(gh a b,AL (bt a b),z)
def Mt(l:M CF):Cl:=(((gD l).2.1,(gD l).2.2.1),(gD l).2.2.2)
def RX(k:Nat)(a b:B8):Cl:=bt (bA k a) (bA k b)
def w8(a b:B8):Prop:=ax a/\ax b
def vN(l:O):B8:=bA 1 (jS (l.take (split l.length).toNat)++jS (l.drop (split l.length).toNat))
def mr(l:O)(i:Int):O:=
 if h:l.length<2 then [] else if i<((sp l.length:Nat):Int) then vN l::mr (l.take (sp l.length)) i else vN l::mr (l.drop (sp l.length)) (i-((sp l.length:Nat):Int))
termination_by l.length
decreasing_by all_goals (have:=iS (n:=l.length) w!;simp only[Y!,I?];omega)
def Ab(l:O)(i:Int)(f:B8)(p:O)(k:O×M Bool×O×Int):Prop:=
 mr (leaves l) i=k.1++mr k.2.2.1 k.2.2.2/\cb i l.length=k.2.1++cb k.2.2.2 k.2.2.1.length/\0<=k.2.2.2/\k.2.2.2<k.2.2.1.length/\cJ k.2.2.1=true/\k.2.2.1.length<=l.length/\cv (leaf f) i l.length p=0/\
  k.1.length+k.2.2.1.length<=l.length/\k.1.length=k.2.1.length
def ZN(f:B8)(i n:Int)(p:O)(j:Nat):B8:=
 if(cb i n).getD (p.length-1-j) false then bA 1 (p.getD j []++cD (leaf f) i n p j) else bA 1 (cD (leaf f) i n p j++p.getD j [])
def pV(l:O)(i:Int)(f:B8)(p:O):Nat->M CF
 |0=>Vg.aB.Jh (p.length+1)
 |k+1=>(pV l i f p k).set (p.length-1-k) (ZM (ZN f i l.length p k) ((mr (leaves l) i).getD (p.length-1-k) []))
def xG(l:O)(i:Int)(f:B8)(p:O):M CF:=(pV l i f p p.length).set p.length (ZM (bA 0 f) (bA 0 (l.getD i.toNat [])))
def aey(l:O)(i:Int):Prop:=0<=i/\i<l.length
instance (l:List B8) (i:Int):Decidable (aey l i):=by unfold aey;infer_instance
def jU(l:O)(i:Int)(f:B8)(p:O):Cl:=
 if ¬aey l i then gy else if ¬cv (leaf f) i l.length p=0 then gy else Mt (xG l i f p)
def mJ(l:O)(f:B8)(p:O):Prop:=cX l/\ax f/\fa p
def w9(p:O)(k:Nat):Prop:=k<=p.length
def iD(d:M bB)(t:B8)(p:Pf):Cl:=
 if ¬dE d=0 then gy else if ¬(kn (xA d) (bD d).length t p).2=0 then gy
 else if(jU (bD d) p.1 (dK p.2.1 p.2.2.1 p.2.2.2.1) p.2.2.2.2.1).2 then jU (bD d) p.1 (dK p.2.1 p.2.2.1 p.2.2.2.1) p.2.2.2.2.1
 else if ¬p.2.1=t then gy else RX 2 p.2.2.2.2.2 (l7 (nu d t))
def P7(d:M bB)(t:B8)(p5:O)(p6:B8):Prop:=aY d/\vL t p5 p6
def sS(n:Int)(g:B8)(l:M Sg):B8:=(hW n g l).1
def yO(docs:O)(l:M aG):B8:=sS (hX docs l).1.1 (hX docs l).1.2.1 (hX docs l).1.2.2
def AM(n:Int)(g:B8)(s:M Sg)(docs:O)(l:M aG):Bool:=PO (sS n g s) (yO docs l)
def sv(n:Int)(g:B8)(s:M Sg)(docs:O)(l:M aG):Cl:=RX 3 (sS n g s) (yO docs l)
def wC(d:M bB):O->M Pf->Cl
 |t::ts,p::ps=>if(iD d t p).2 then iD d t p else wC d ts ps
 |_,_=>gy
def sC(ts:O):M aG->M (M Pf)->Cl
 |s::l,ps::a=>if(wC s.2.2 ts ps).2 then wC s.2.2 ts ps else sC ts l a
 |_,_=>gy
def aoR(ts:O)(ps:M Pf):Prop:=ts.length<=ps.length/\∀p∈ps,fa p.2.2.2.2.1/\ax p.2.2.2.2.2/\small p.2.2.2.2.2
def V4(l:M aG)(ts:O)(a:M (M Pf)):Prop:=l.length<=a.length/\(∀r∈a,aoR ts r)/\(∀t∈ts,small t)/\∀s∈l,aY s.2.2
def oh(n:Int)(g:B8)(s:M Sg)(docs:O)(l:M aG)(ts:O)(a:M (M Pf)):Cl:=if AM n g s docs l then sC ts l a else gy
def xa(n:Int)(g:B8)(s:M Sg)(docs:O)(l:M aG)(ts:O)(a:M (M Pf)):Prop:=AM n g s docs l=true->V4 l ts a
def JX(l:M aG)(ts:O)(a:M (M Pf))(k:Nat):Prop:=k<=l.length/\V4 l ts a/\sC ts l a=sC ts (l.drop k) (a.drop k)
def vO(l:M aG)(k:Nat):aG:=l.getD k (0,0,[])
def uh(l:M aG)(ts:O)(a:M (M Pf))(k j:Nat):Prop:=
 k<l.length/\j<=ts.length/\V4 l ts a/\sC ts l a=sC ts (l.drop k) (a.drop k)/\wC (vO l k).2.2 ts (fw a k)=wC (vO l k).2.2 (ts.drop j) ((fw a k).drop j)
def CM(n:Int)(g:B8)(s:M Sg)(docs:O)(l:M aG)(i:Int)(f:B8)(p:O):Cl:=if AM n g s docs l then jU docs i f p else gy
def hdF(n:Int)(g:B8)(s:M Sg)(docs:O)(l:M aG):CF:=λz=>(True,AL (sv n g s docs l),z)
def lsF(n:Int)(g:B8)(s:M Sg)(docs:O)(l:M aG)(ts:O)(a:M (M Pf)):CF:=λz=>(xa n g s docs l ts a,AL (oh n g s docs l ts a),z)
def dcF(n:Int)(g:B8)(s:M Sg)(docs:O)(l:M aG)(i:Int)(f:B8)(p:O):CF:=λz=>(mJ docs f p,AL (CM n g s docs l i f p),z)
def me(docs:O)(l:M aG)(q:M de)(b:B8):Cl:=
 if ¬(eX docs l).2=0 then gy else if ¬(kJ (eX docs l).1 q b).2=0 then gy else if ¬(aU b).2=0 then gy
 else Mt [hdF (aU b).1.1 (aU b).1.2.1 (aU b).1.2.2.1 docs l,lsF (aU b).1.1 (aU b).1.2.1 (aU b).1.2.2.1 docs l (aF q) (aU b).1.2.2.2]
def dz(docs:O)(l:M aG)(i:Int)(b:B8):Cl:=
 if ¬(eX docs l).2=0 then gy else if ¬(jO (eX docs l).1 i b).2=0 then gy else if ¬(aK b).2=0 then gy
 else Mt [hdF (aK b).1.1 (aK b).1.2.1 (aK b).1.2.2.1 docs l,dcF (aK b).1.1 (aK b).1.2.1 (aK b).1.2.2.1 docs l i (aK b).1.2.2.2.2.1 (aK b).1.2.2.2.2.2]
end Go.S
namespace Go.S
open Go.Vg (CF AV gD tD)
theorem DV(n:Nat):0<=split n/\split n<=n:=by
 grind[split,iS,Int.toNat_natCast]
theorem DW(l:O):(jS l).length<=32:=by
 grind[jS,Nat.le_of_eq,uc]
variable {l p ts docs:List B8}{b f g:B8}{i n:Int}{m j:Nat}{d:List bB}{ps:List Pf}{a:List (List Pf)}{s:List Sg}
theorem aoT:ax (jS (l.take (split l.length).toNat)++jS (l.drop (split l.length).toNat)):=by
 grind[DW,split,ax,List.length_append]
theorem TH {α:Type}{l:M α}(h:small l)(n:Nat):small (l.take n)/\small (l.drop n):=by grind[small]
theorem V5 {a:B8}(k:Nat)(h:w8 a b):gh (bA k a) (bA k b):=by grind[w8,gh,ax,small,bA]
theorem aoU {l:O}(h:i<0\/(l.length:Int)<=i):jU l i f p=gy:=by
 rw[jU,if_pos (by grind[aey])]
theorem aez(h:¬cv (leaf f) i l.length p=0):jU l i f p=gy:=by
 rw[jU,Q! h,ite_self]
theorem aLs(h:cv (leaf f) i l.length p=0):Ab l i f p ([],[],leaves l,i):=by
 obtain⟨⟨_,_,_,h0,h1⟩,_⟩:=mC h;exact⟨rfl,by grind[nB],h0,by grind[nB],kg l,by simp_all[nB,Nat.le_refl],h,by simp[nB],rfl⟩
theorem xb{x:O×M Bool×O×Int}(h:Ab l i f p x)(h2:1<(x.2.2.1.length:Int)):
  split x.2.2.1.length=((sp x.2.2.1.length:Nat):Int)/\1<=sp x.2.2.1.length/\sp x.2.2.1.length<x.2.2.1.length/\small x.2.2.1/\x.1.length<1099511627776/\x.2.1.length<1099511627776:=by
 obtain⟨q1,q2,q3,q4,q5,q6,q7,q8,q9⟩:=h;obtain⟨⟨_,_,g,_,_⟩,_⟩:=mC q7;grind[iS,yJ,small]
theorem V6 {l:O}(h:2<=l.length)(hi:i<((sp l.length:Nat):Int)):mr l i=vN l::mr (l.take (sp l.length)) i:=by rw[mr,dif_neg w!,Q! hi]
theorem V7 {l:O}(h:2<=l.length)(hi:¬i<((sp l.length:Nat):Int)):mr l i=vN l::mr (l.drop (sp l.length)) (i-((sp l.length:Nat):Int)):=by rw[mr,dif_neg w!,W! hi]
theorem aeA(h:l.length<2):mr l i=[]:=by rw[mr,dif_pos h]
theorem ZO{x:O×M Bool×O×Int}(h:Ab l i f p x)(h2:1<(x.2.2.1.length:Int)):
  Ab l i f p (x.1++[vN x.2.2.1],x.2.1++[decide (split x.2.2.1.length<=x.2.2.2)],(bif decide (x.2.2.2<split x.2.2.1.length) then x.2.2.1.take (split x.2.2.1.length).toNat else x.2.2.1.drop (split x.2.2.1.length).toNat),
   (bif decide (x.2.2.2<split x.2.2.1.length) then x.2.2.2 else x.2.2.2-split x.2.2.1.length))/\
  (bif decide (x.2.2.2<split x.2.2.1.length) then x.2.2.1.take (split x.2.2.1.length).toNat else x.2.2.1.drop (split x.2.2.1.length).toNat).length<x.2.2.1.length:=by
 obtain⟨e,b1,b2,_⟩:=xb h h2;obtain⟨q1,q2,q3,q4,q5,q6,q7,q8,q9⟩:=h;rw[e,Int.toNat_natCast];have em:((x.2.2.1.length:Int)).toNat=x.2.2.1.length:=Int.toNat_natCast _;by_cases hi:x.2.2.2<((sp x.2.2.1.length:Nat):Int);rw[decide_eq_true hi,decide_eq_false w!];simp;refine⟨⟨?_,?_,q3,?_,ny q5 _,?_,q7,?_,?_⟩,?_⟩;simp[q1,V6 w! hi,List.append_assoc,List.cons_append,List.nil_append];simp[q2,yH (n:=(x.2.2.1.length:Int)) w! (by exact hi),em,List.append_assoc,List.cons_append,List.nil_append,List.length_take,Nat.min_eq_left (Nat.le_of_lt b2)];grind;grind;grind;grind;grind;rw[decide_eq_false hi,decide_eq_true w!];simp;have en:((x.2.2.1.length-sp x.2.2.1.length:Nat):Int)=(x.2.2.1.length:Int)-((sp x.2.2.1.length:Nat):Int):=by omega
 refine⟨⟨?_,?_,Int.sub_nonneg_of_le (Int.not_lt.1 hi),?_,nz q5 _,?_,q7,?_,?_⟩,?_⟩;simp[q1,V7 w! hi,List.append_assoc,List.cons_append,List.nil_append];simp[q2,yI (n:=(x.2.2.1.length:Int)) w! (by exact hi),em,List.append_assoc,List.cons_append,List.nil_append,List.length_drop,en];grind;grind;grind;grind;grind
theorem hY{x:O×M Bool×O×Int}(h:Ab l i f p x)(h2:¬1<(x.2.2.1.length:Int)):
  x.1=mr (leaves l) i/\x.2.1=cb i l.length/\x.1.length=p.length/\x.2.1.length=p.length/\cv (leaf f) i l.length p=0/\cJ p=true/\0<=i/\i<l.length:=by
 obtain⟨q1,q2,q3,q4,q5,q6,q7,q8,q9⟩:=h;obtain⟨⟨_,_,_,g0,g1⟩,g2,g3⟩:=mC q7;rw[aeA (l:=x.2.2.1) w!,F?] at q1;rw[vE (n:=(x.2.2.1.length:Int)) w!,F?] at q2;refine⟨q1.symm,q2.symm,?_,?_,q7,g3,g0,g1⟩<;>(rw[q2] at g2;omega)
theorem DX(l:O)(i:Int)(f:B8)(p:O):∀k,(pV l i f p k).length=p.length+1
 |0=>List.length_replicate ..
 |k+1=>by rw[pV,List.length_set];exact DX l i f p k
theorem aCf(h:cJ p=true)(k:Nat):(cD (leaf f) i l.length p k).length=32:=
 CD _ _ (OO _) λx hx=>(cK p).1 h _ (List.of_mem_zip (List.mem_of_mem_take hx)).2
theorem aEX {l:O}{i:Int}{f:B8}{p:O}{k:Nat}(h:cv (leaf f) i l.length p=0)(hk:k<p.length)(b:Bool):
  ax ((bif b then p.getD k [] else cD (leaf f) i l.length p k)++(bif b then cD (leaf f) i l.length p k else p.getD k [])):=by
 have d:=(mC h).2.2;have h1:=aCf (l:=l) (i:=i) (f:=f) d k;have h2:(p.getD k []).length=32:=(cK p).1 d _ x!;cases b<;>(simp_all[cond_true,cond_false,ax,List.length_append])
theorem aEY {l:O}{i:Int}{f:B8}{p:O}{k:Nat}{a:M Bool}(h:cv (leaf f) i l.length p=0)(hk:k<p.length)(ha:a=cb i l.length)(hl:a.length=p.length):
  bo (bif a.getD ((p.length:Int)-1-(k:Int)).toNat false then p.getD k [] else cD (leaf f) i l.length p k) (bif a.getD ((p.length:Int)-1-(k:Int)).toNat false then cD (leaf f) i l.length p k else p.getD k [])=cD (leaf f) i l.length p (k+1):=by
 have q:=ZF h hk;rw[<-q,<-ha,hl];cases a.getD ((p.length:Int)-1-(k:Int)).toNat false<;>rfl
theorem auC {l:O}{i:Int}{f:B8}{p:O}{k:Nat}{a:M Bool}{g:O}(hk:k<p.length)(ha:a=cb i l.length)(hg:g=mr (leaves l) i){x y u v:B8}(hu:u=p.getD k [])(hv:v=cD (leaf f) i l.length p k)
  (hx:x=bA 1 ((bif a.getD ((p.length:Int)-1-(k:Int)).toNat false then u else v)++(bif a.getD ((p.length:Int)-1-(k:Int)).toNat false then v else u))) (hy:y=g.getD ((p.length:Int)-1-(k:Int)).toNat []):
  Vg.aB.put (pV l i f p k) ((p.length:Int)-1-(k:Int)).toNat (gh x y) (AL (bt x y))=pV l i f p (k+1):=by
 have e:((p.length:Int)-1-(k:Int)).toNat=p.length-1-k:=by omega
 rw[e] at hx hy |-;rw[pV]
 have hb:x=ZN f i l.length p k:=by
  grind[hx,ZN]
 rw[<-hb,<-hg,<-hy];rfl
theorem aoV(l:O)(i:Int)(f:B8)(p:O):∀(k:Nat),k<=p.length->∀m,p.length-k<=m->m<p.length->
  (pV l i f p k)[m]? =some (ZM (ZN f i l.length p (p.length-1-m)) ((mr (leaves l) i).getD m []))
 |0,_,m,h1,h2=>by omega
 |k+1,hk,m,h1,h2=>by
  rw[pV];by_cases e:p.length-1-k=m;rw[List.getElem?_set,if_pos e,if_pos (by grind[DX])];grind;rw[List.getElem?_set,if_neg e];exact aoV l i f p k w! m w! h2
theorem V8(h:m<=p.length):
  (xG l i f p)[m]? =some (if m=p.length then ZM (bA 0 f) (bA 0 (l.getD i.toNat [])) else ZM (ZN f i l.length p (p.length-1-m)) ((mr (leaves l) i).getD m [])):=by
 unfold xG;by_cases e:m=p.length;simp_all[List.getElem?_set,if_pos,DX]
 rw[List.getElem?_set,W! (Ne.symm e),W! e];exact aoV l i f p p.length (P! _) m w! w!
theorem ZP(l:O)(i:Int)(f:B8)(p:O):(xG l i f p).length=p.length+1:=by rw[xG,List.length_set,DX]
theorem V9(x:Cl):tD (AL x)=some (x.1.1,x.1.2,x.2):=rfl
theorem aeB:∀(l:M CF),(∀F∈l,∃a b,F=ZM a b/\gh a b)->(gD l).1
 |[],_=>trivial
 |F::l,h=>by
  obtain⟨a,b,rfl,hp⟩:=h F (G! ..);exact⟨hp,λ_=>aeB l λG hG=>h G (F! _ hG)⟩
theorem ZQ(l:O):(vN l).length<=65:=by
 grind[DW,split,vN,bA,List.length_cons,List.length_append]
theorem aoW:∀(n:Nat) (l:O) (i:Int),l.length=n->∀b∈mr l i,b.length<=65:=by
 refine vF (C:=λn=>∀(l:O) (i:Int),l.length=n->∀b∈mr l i,b.length<=65) (λn h l i e b hb=>?_) (λn h i1 i2 l i e b hb=>?_);grind[aeA];have hs:=iS (n:=l.length) w!;subst e;by_cases hi:i<((sp l.length:Nat):Int);rw[V6 h hi,List.mem_cons] at hb;rcases hb with rfl|hb;exact ZQ l;exact i1 _ _ (by rw[List.length_take];omega) b hb;rw[V7 h hi,List.mem_cons] at hb;rcases hb with rfl|hb;exact ZQ l;exact i2 _ _ (by rw[List.length_drop]) b hb
theorem Wa {l:O}{i:Int}{f:B8}{p:O}(h:cv (leaf f) i l.length p=0)(hp:mJ l f p)(F:CF)(hF:F∈xG l i f p):∃a b,F=ZM a b/\gh a b:=by
 obtain⟨m,hm,e⟩:=List.getElem_of_mem hF;rw[ZP] at hm;have q:=V8 (l:=l) (i:=i) (f:=f) (p:=p) (m:=m) w!;rw[List.getElem?_eq_getElem w!,e] at q;have q:=Option.some.inj q;obtain⟨⟨_,_,_,g0,g1⟩,g2,g3⟩:=mC h;by_cases c:m=p.length;have:=hp.1.2 (l.getD i.toNat []) x!;have:=hp.2.1;grind[gh,small,bA,ax];rw[if_neg c] at q;refine⟨_,_,q,?_,?_⟩;grind[aCf,cK,ZN,small,bA,List.length_cons,List.length_append];have:=aoW _ (leaves l) i rfl;grind[mr,leaves,small]
theorem auD {l:O}{i:Int}{f:B8}{p:O}(h:cv (leaf f) i l.length p=0)(hp:mJ l f p):(gD (xG l i f p)).1:=aeB _ (Wa h hp)
theorem M1(h:cv (leaf f) i l.length p=0):jU l i f p=Mt (xG l i f p):=by
 obtain⟨⟨_,_,_,g0,g1⟩,_⟩:=mC h;rw[jU,W! (z? ⟨g0,g1⟩),W! (z? h)]
theorem auE(a b c:B8):ax (dK a b c):=by
 unfold dK;split;grind[zO,eE,ax];exact Nat.lt_of_lt_of_le (Nat.zero_lt_succ _) (Nat.le_refl _)
theorem auF(l:U):ax (l7 l):=by
 unfold l7;split;grind[zM,bq,ax];exact Nat.lt_of_lt_of_le (Nat.zero_lt_succ _) (Nat.le_refl _)
theorem M3(n:Int)(g:B8)(l:M Sg):ax (sS n g l):=by
 unfold sS hW;split;grind[VR];exact Nat.lt_of_lt_of_le (Nat.zero_lt_succ _) (Nat.le_refl _)
theorem dEz(h:dE d=0):aQ d=true:=by
 grind[dE]
theorem aEZ{t:B8}{p5:O}{p6:B8}(hp:P7 d t p5 p6)(h:dE d=0)(a b c:B8):mJ (bD d) (dK a b c) p5:=by
 have h:=dEz h;refine⟨?_,auE ..,hp.2.2.1⟩;rw[bD,Q! h];exact(kF hp.1 h).1
theorem auG(h:ts.length<=j):wC d (ts.drop j) (ps.drop j)=gy:=by
 grind[List.drop_of_length_le,wC]
theorem aoX(h:j<ts.length)(h1:j<ps.length):
  wC d (ts.drop j) (ps.drop j)=if(iD d (ts.getD j []) (ps.getD j (0,[],[],[],[],[]))).2 then iD d (ts.getD j []) (ps.getD j (0,[],[],[],[],[])) else wC d (ts.drop (j+1)) (ps.drop (j+1)):=by
 rw[T? h,T? h1,wC,E!,C! h,E!,C! h1];rfl
variable {l:List aG}
theorem aoY{k:Nat}(h:k<l.length)(h1:k<a.length):
  sC ts (l.drop k) (a.drop k)=if(wC (vO l k).2.2 ts (fw a k)).2 then wC (vO l k).2.2 ts (fw a k) else sC ts (l.drop (k+1)) (a.drop (k+1)):=by
 rw[T? h,T? h1,sC,vO,fw,E!,C! h,E!,C! h1];rfl
theorem aeC{k:Nat}(h:V4 l ts a)(hk:k<l.length):k<a.length/\aoR ts (fw a k)/\aY (vO l k).2.2:=by
 have UR:k<a.length:=C? hk h.1;exact⟨UR,h.2.1 _ (bu a k [] UR),h.2.2.2 _ (bu l k _ hk)⟩
theorem P8{k:Nat}(h:uh l ts a k j)(hj:j<ts.length):
  k<a.length/\j<(fw a k).length/\P7 (vO l k).2.2 (ts.getD j []) ((fw a k).getD j (0,[],[],[],[],[])).2.2.2.2.1 ((fw a k).getD j (0,[],[],[],[],[])).2.2.2.2.2:=by
 obtain⟨h1,h2,h3,h4,h5⟩:=h;obtain⟨q1,q2,q3⟩:=aeC h3 h1;have hj2:=C? hj q2.1;have q:=q2.2 _ (bu (fw a k) j (0,[],[],[],[],[]) hj2);exact⟨q1,hj2,q3,h3.2.2.1 _ (bu ts j [] hj),q.1,q.2.1,q.2.2⟩
theorem aeD{k:Nat}(he:AM n g s docs l=true)(h:uh l ts a k j)(hj:j<ts.length)
  (hc:(iD (vO l k).2.2 (ts.getD j []) ((fw a k).getD j (0,[],[],[],[],[]))).2=true):iD (vO l k).2.2 (ts.getD j []) ((fw a k).getD j (0,[],[],[],[],[]))=oh n g s docs l ts a:=by
 obtain⟨q1,q2,_⟩:=P8 h hj;obtain⟨h1,h2,h3,h4,h5⟩:=h;simp_all[aoX,vO,q2,Q!,oh,aoY,q1]
theorem aE0{k:Nat}(h:uh l ts a k j)(hj:j<ts.length)
  (hc:(iD (vO l k).2.2 (ts.getD j []) ((fw a k).getD j (0,[],[],[],[],[]))).2=false):uh l ts a k (j+1):=by
 obtain⟨q1,q2,_⟩:=P8 h hj;obtain⟨h1,h2,h3,h4,h5⟩:=h;refine⟨h1,hj,h3,h4,h5.trans ?_⟩;grind[aoX]
theorem aoZ{k:Nat}(h:uh l ts a k j)(hj:ts.length<=j):JX l ts a (k+1):=by
 obtain⟨h1,h2,h3,h4,h5⟩:=h;obtain⟨q1,_⟩:=aeC h3 h1;refine⟨h1,h3,h4.trans ?_⟩;rw[aoY h1 q1,h5,auG hj];rfl
theorem aeE{k:Nat}(he:AM n g s docs l=true)(h:JX l ts a k)(hk:l.length<=k):oh n g s docs l ts a=gy:=by
 obtain⟨h1,h2,h3⟩:=h;simp_all[oh,Q!,List.drop_of_length_le,sC]
theorem ZS(h:(eX docs l).2=0):dD docs l=true:=by
 grind[eX]
theorem aeF(hf:dD docs l=true)(hr:cG n g s=true)(h:AM n g s docs l=true):n=docs.length/\g=root (leaves docs)/\s=bV docs l:=by
 have e:yO docs l=hB docs.length (root (leaves docs)) (bV docs l):=by
  simp_all[yO,hX,Q!,sS,hW,vD]
 have h:=of_decide_eq_true h;rw[e,sS,hW,if_pos hr] at h;have q:=(Zl (a:=(n,g,s)) (b:=((docs.length:Int),root (leaves docs),bV docs l)) hr (vD hf)).1 h;grind
theorem Gd{root:B8}(h:CG n g s root=true):cG n g s=true/\lX 3 (hB n g s)=root:=by
 simp[CG,Bool.and_eq_true,decide_eq_true_eq] at h;grind[qI,absurd]
theorem ckA {root b:B8}{q:M de}(h:(kJ root q b).2=0)(h2:(aU b).2=0):LL root (aU b).1 (aF q)=true:=by
 grind[kJ,absurd]
theorem auH {docs:O}{l:M aG}{q:M de}{b:B8}(hb:b.length<1099511627776)(hq:fA q)(h0:(eX docs l).2=0)(h1:(kJ (eX docs l).1 q b).2=0)(h2:(aU b).2=0):
  xa (aU b).1.1 (aU b).1.2.1 (aU b).1.2.2.1 docs l (aF q) (aU b).1.2.2.2:=by
 intro he;have hf:=ZS h0;have ha:=ckA h1 h2;simp[LL,Bool.and_eq_true] at ha;obtain⟨hr,_⟩:=Gd ha.1;obtain⟨_,_,e⟩:=aeF hf hr he;obtain⟨p1,p2,p3,p4,p5⟩:=V2 hb hq h2;have hl:(aU b).1.2.2.1.length=l.length:=by grind[ZE]
 refine⟨w!,λr hr=>⟨?_,λp hp=>p5 r hr p hp⟩,p4,λs hs=>(JQ hf s hs).2.2⟩;obtain⟨i,hi,rfl⟩:=c? hr;have h3:=ha.2;simp[CL,B?,List.mem_range,B!] at h3;have:=(h3 i w!).1;simp[pd,J!,Z!,E!,C! hi,Option.getD_some] at this;omega
theorem ao0(hb:b.length<1099511627776)(h0:(eX docs l).2=0):mJ docs (aK b).1.2.2.2.2.1 (aK b).1.2.2.2.2.2:=by
 obtain⟨h1,h2⟩:=PR (ZS h0);refine⟨⟨w!,λd hd=>?_⟩,Nat.lt_of_le_of_lt (aej b) hb,ZG b⟩;obtain⟨i,hi,rfl⟩:=List.getElem_of_mem hd;have:=h2 i;grind
theorem aeG {docs:O}{l:M aG}{q:M de}{b:B8}(h0:(eX docs l).2=0)(h1:(kJ (eX docs l).1 q b).2=0)(h2:(aU b).2=0):
  me docs l q b=Mt [hdF (aU b).1.1 (aU b).1.2.1 (aU b).1.2.2.1 docs l,lsF (aU b).1.1 (aU b).1.2.1 (aU b).1.2.2.1 docs l (aF q) (aU b).1.2.2.2]:=by
 simp_all[me,W!,z?]
theorem Wb {docs:O}{l:M aG}{i:Int}{b:B8}(h0:(eX docs l).2=0)(h1:(jO (eX docs l).1 i b).2=0)(h2:(aK b).2=0):
  dz docs l i b=Mt [hdF (aK b).1.1 (aK b).1.2.1 (aK b).1.2.2.1 docs l,dcF (aK b).1.1 (aK b).1.2.1 (aK b).1.2.2.1 docs l i (aK b).1.2.2.2.2.1 (aK b).1.2.2.2.2.2]:=by
 simp_all[dz,W!,z?]
def Ge(docs:O)(l:M aG)(b:B8):Bool:=sr docs l || decide (20000<(b.length:Int))
def kz:Ń:=([zZ],[(0,1,[(zZ,[0])])])
abbrev kz0:(O×M aG)×Int:=fW (Vg.pO B8) (Vg.pO (Int×Int×M (B8×U))) [104,97,121]
theorem Wc:(fy kz0.1.1 kz0.1.2).1=kz:=by rfl
theorem Wd:(ri kz.1 kz.2 jG).1.length<1099511627776/\(oF kz.1 kz.2 0).1.length<1099511627776:=by decide+kernel
theorem aLv:kJ (eX kz.1 kz.2).1 jG (ri kz.1 kz.2 jG).1=([0],0):=by decide+kernel
theorem aLw:(me kz.1 kz.2 jG (ri kz.1 kz.2 jG).1).2=false:=by decide+kernel
theorem aLx:(dz kz.1 kz.2 0 (oF kz.1 kz.2 0).1).2=false:=by decide+kernel
theorem auI:(bif pA (kJ (eX kz.1 kz.2).1 jG (ri kz.1 kz.2 jG).1).1 [0] then bif decide ((kJ (eX kz.1 kz.2).1 jG (ri kz.1 kz.2 jG).1).2=0) then bif !(me kz.1 kz.2 jG (ri kz.1 kz.2 jG).1).2 then !(dz kz.1 kz.2 0 (oF kz.1 kz.2 0).1).2 else false else false else false)=true:=by
 rw[aLv,aLw,aLx];rfl
theorem We {a b:B8}(h:(bt a b).2=false)(hs:sum a=sum b):a=b:=by
 unfold bt at h;split at h;cases h;rename_i h1;simp[JW,Bool.and_eq_true,Bool.not_eq_true',decide_eq_true_eq,not_and] at h1;by_cases e:a=b;exact e;exact absurd hs (h1 (decide_eq_false e))
def TI(x:Cl):Prop:=x.2=true->JW x.1.1 x.1.2=true/\gh x.1.1 x.1.2
theorem ao1:TI gy:=nofun
theorem ZT {a:B8}(h:gh a b):TI (bt a b):=by
 unfold bt;split;exact λ_=>⟨w!,h⟩;exact ao1
theorem TJ:∀(l:M CF),(∀F∈l,∃x,(F .n).2.1=AL x/\TI x)->TI (Mt l)
 |[],_=>nofun
 |F::l,h=>by
  obtain⟨x,h1,h2⟩:=h F (List.mem_cons_self ..);have ih:=TJ l λG hG=>h G (List.mem_cons_of_mem _ hG);unfold Mt gD;rw[h1,V9];cases hc:x.2 with
  |true=>exact λ_=>h2 hc
  |false=>exact ih
theorem aeH:∀(l:M CF),(∀F∈l,∃x,(F .n).2.1=AL x)->(Mt l).2=false->∀F∈l,∀x,(F .n).2.1=AL x->x.2=false
 |[],_,_,F,h=>nomatch h
 |F::l,h,h0,G,hG=>by
  obtain⟨x,h1⟩:=h F (List.mem_cons_self ..);unfold Mt gD at h0;rw[h1,V9] at h0;cases hc:x.2 with
  |true=>grind
  |false=>
   rw[hc] at h0;rcases List.mem_cons.1 hG with rfl|hG;intro y hy;have e:=(V9 y).symm.trans ((congrArg tD (hy.symm.trans h1)).trans (V9 x));grind;exact aeH l (λG hG=>h G (List.mem_cons_of_mem _ hG)) h0 G hG
def RY(d:B8)(s:M Bool)(p:O)(m:Nat):B8:=
 if s.getD m false then bA 1 (p.getD (p.length-1-m) []++kh d (s.drop (m+1)) (p.take (p.length-1-m))) else bA 1 (kh d (s.drop (m+1)) (p.take (p.length-1-m))++p.getD (p.length-1-m) [])
theorem JY {a:B8}(ha:a.length=32)(hb:b.length=32):bo a b=sum (bA 1 (a++b)):=by
 simp[bo,Lr,ha,hb,decide_true,Bool.and_self,P?];rfl
theorem aj5 {l:O}(h:2<=l.length)(h1:l.length<=1099511627776)(hd:cJ l=true):vN l=bA 1 (root (l.take (sp l.length))++root (l.drop (sp l.length))):=by
 simp_all[vN,yJ,Z!,jS,Q!,ny,nz]
theorem down(n:Nat):∀(L:O) (j:Int) (d:B8) (p:O),L.length=n->n<=1099511627776->cJ L=true->0<=j->j<L.length->p.length=(cb j L.length).length->cJ p=true->d.length=32->
  kh d (cb j L.length) p=root L->(∀m,m<p.length->(bt (RY d (cb j L.length) p m) ((mr L j).getD m [])).2=false)->d=L.getD j.toNat []:=by
 refine vF (C:=λn=>∀(L:O) (j:Int) (d:B8) (p:O),L.length=n->n<=1099511627776->cJ L=true->0<=j->j<L.length->p.length=(cb j L.length).length->cJ p=true->d.length=32->
  kh d (cb j L.length) p=root L->(∀m,m<p.length->(bt (RY d (cb j L.length) p m) ((mr L j).getD m [])).2=false)->d=L.getD j.toNat []) (λn h L j d p e hn hd h0 h1 hl hp Ś hr hc=>?_) (λn h i1 i2 L j d p e hn hd h0 h1 hl hp Ś hr hc=>?_) n
 have :L.length=1:=by omega
 have hj:j=0:=by omega
 rw[vE w!] at hl hr;have :p=[]:=U! hl;subst this;rw[DG this] at hr;rw[hj];exact hr
 . have hb:=iS (n:=L.length) w!;subst e;have et:=aj5 h hn hd;have er:=yz (l:=L) h rfl;have r1:=uc (ny hd (sp L.length));have r2:=uc (nz hd (sp L.length));rw[er,JY r1 r2] at hr
   have key:∀(x:Bool) (s:M Bool) (L':O) (j':Int),cb j L.length=x::s->mr L j=vN L::mr L' j'->
     (∃p' y,p=p'++[y]/\p'.length=s.length/\cJ p'=true/\kh d s p'=(if x then root (L.drop (sp L.length)) else root (L.take (sp L.length)))/\∀m,m<p'.length->(bt (RY d s p' m) ((mr L' j').getD m [])).2=false):=by
    intro x s L' j' es eh;rw[es] at hl hr;have di:p≠ []:=by rintro rfl;simp at hl
    obtain⟨p',y,rfl⟩:∃p' y,p=p'++[y]:=⟨p.dropLast,p.getLast di,(List.dropLast_concat_getLast di).symm⟩;have la:p'.length=s.length:=by simp at hl;omega
    have zw:cJ p'=true:=(cK _).2 λq hq=>(cK _).1 hp q (T! _ hq);have hy:y.length=32:=(cK _).1 hp y (X! _ (List.mem_singleton_self y));rw[Zs _ _ _ _ _ la] at hr;have mD:(kh d s p').length=32:=CD _ _ Ś λq hq=>(cK p').1 zw _ (List.of_mem_zip hq).2;have g:=hc 0 z!;rw[es,eh] at g;have e0:(p'++[y]).length-1-0=p'.length:=by simp
    have e1:RY d (x::s) (p'++[y]) 0=if x then bA 1 (y++kh d s p') else bA 1 (kh d s p'++y):=by
     unfold RY;rw[e0,List.getD_cons_zero,List.drop_succ_cons,List.drop_zero,List.take_left,List.getD_eq_getElem?_getD,List.getElem?_append_right (Nat.le_refl _),Nat.sub_self];rfl
    rw[e1,List.getD_cons_zero,et] at g;refine⟨p',y,rfl,la,zw,?_,λm hm=>?_⟩
    . cases x with
      |true=>
       have hr:sum (bA 1 (y++kh d s p'))=sum (bA 1 (root (L.take (sp L.length))++root (L.drop (sp L.length)))):=by
        rw[<-hr,<-JY hy mD];rfl
       have q:=y? (We g hr);exact(List.append_inj q w!).2
      |false=>
       have hr:sum (bA 1 (kh d s p'++y))=sum (bA 1 (root (L.take (sp L.length))++root (L.drop (sp L.length)))):=by
        rw[<-hr,<-JY mD hy];rfl
       have q:=y? (We g hr);exact(List.append_inj q w!).1
    have g:=hc (m+1) (by simp;omega);rw[es,eh,List.getD_cons_succ] at g;have e2:(p'++[y]).length-1-(m+1)=p'.length-1-m:=by simp;omega
    have e3:RY d (x::s) (p'++[y]) (m+1)=RY d s p' m:=by
     unfold RY
     have e4:(p'++[y]).getD (p'.length-1-m) []=p'.getD (p'.length-1-m) []:=by
      simp;rw[List.getElem?_append_left w!]
     rw[e2,e4,List.getD_cons_succ,List.drop_succ_cons,List.take_append_of_le_length w!]
    rw[e3] at g;exact g
   have em:((L.length:Int)).toNat=L.length:=Z! _;by_cases hi:j<((sp L.length:Nat):Int);obtain⟨p',y,rfl,k1,k2,k3,k4⟩:=key false _ _ _ (yH (n:=(L.length:Int)) w! (by rw[em];exact hi)) (V6 h hi);have e1:(L.take (sp L.length)).length=sp L.length:=by rw[Y!];omega
   have q:=i1 (L.take (sp L.length)) j d p' e1 w! (ny hd _) h0 w! (by rw[e1];exact k1) k2 Ś (by rw[e1];exact k3) (by rw[e1];exact k4);rw[q,E!,E!,List.getElem?_take,Q! w!];have en:((L.length-sp L.length:Nat):Int)=(L.length:Int)-((sp L.length:Nat):Int):=by omega
   obtain⟨p',y,rfl,k1,k2,k3,k4⟩:=key true _ _ _ (yI (n:=(L.length:Int)) w! (by rw[em];exact hi)) (V7 h hi);rw[em,<-en] at k1 k3 k4;have e1:(L.drop (sp L.length)).length=L.length-sp L.length:=I? ..;have q:=i2 (L.drop (sp L.length)) (j-((sp L.length:Nat):Int)) d p' e1 w! (nz hd _) w! w! (by rw[e1];exact k1) k2 Ś (by rw[e1];exact k3) (by rw[e1];exact k4);rw[q,E!,E!,List.getElem?_drop];have e5:sp L.length+(j-((sp L.length:Nat):Int)).toNat=j.toNat:=by omega
   rw[e5]
theorem aE1(hm:m<p.length)(hl:p.length=(cb i n).length):ZN f i n p (p.length-1-m)=RY (leaf f) (cb i n) p m:=by
 have e2:cD (leaf f) i n p (p.length-1-m)=kh (leaf f) ((cb i n).drop (m+1)) (p.take (p.length-1-m)):=by
  unfold cD kh;congr 1
  rw[List.reverse_drop,List.zip_eq_zipWith,List.take_zipWith,List.zip_eq_zipWith];congr 2
  omega
 grind[ZN,RY]
theorem aE2 {l:O}{i:Int}{f:B8}{p:O}(h:cv (leaf f) i l.length p=0)(hp:mJ l f p):TI (jU l i f p):=by
 rw[M1 h];refine TJ _ λF hF=>?_;obtain⟨a,b,rfl,g⟩:=Wa h hp F hF;exact⟨_,rfl,ZT g⟩
theorem aj6 {l:O}{i:Int}{f:B8}{p:O}(h:cv (leaf f) i l.length p=0)(hp:mJ l f p)(hr:jK (leaf f) i l.length p=root (leaves l))(hc:(jU l i f p).2=false):f=l.getD i.toNat []:=by
 rw[M1 h] at hc;obtain⟨⟨Ś,_,hn,g0,g1⟩,g2,g3⟩:=mC h
 have ent:∀F∈xG l i f p,∃x,(F .n).2.1=AL x:=λF hF=>by
  obtain⟨a,b,rfl,_⟩:=Wa h hp F hF;exact⟨_,rfl⟩
 have pZ:=aeH _ ent hc;have at_:∀m,m<=p.length->∀a b,(xG l i f p)[m]? =some (ZM a b)->(bt a b).2=false:=λm hm a b e=>pZ _ (D? e) _ rfl;have Xt:=nB l
 have e1:leaf f=(leaves l).getD i.toNat []:=by
  refine down _ (leaves l) i (leaf f) p rfl w! (kg l) g0 w! (by rw[Xt];omega) g3 w! ?_ λm hm=>?_;rw[jK,Q! h] at hr;rw[Xt];exact hr;have q:=V8 (l:=l) (i:=i) (f:=f) (p:=p) (m:=m) w!;rw[W! w!,aE1 hm w!] at q;rw[Xt];exact at_ m w! _ _ q
 have q:=V8 (l:=l) (i:=i) (f:=f) (p:=p) (m:=p.length) (P! _);rw[Q! rfl] at q;have q:=at_ _ (P! _) _ _ q
 have e2:(leaves l).getD i.toNat []=leaf (l.getD i.toNat []):=by
  have hi:i.toNat<l.length:=by omega
  rw[E!,E!,leaves,E?,C! hi];rfl
 exact y? (We q (e1.trans e2))
theorem aE3 {root:B8}(h:(jO root i b).2=0):(aK b).2=0/\Tu root i (aK b).1=true/\(jO root i b).1=(aK b).1.2.2.2.2.1:=by
 grind[jO]
theorem aE4(n:Int)(g:B8)(s:M Sg)(docs:O)(l:M aG):TI (sv n g s docs l):=ZT (V5 3 ⟨M3 ..,M3 ..⟩)
theorem aj7{docs:O}{l:M aG}(hf:dD docs l=true)(hb:CG n g s (eX docs l).1=true)(hc:(sv n g s docs l).2=false):AM n g s docs l=true:=by
 obtain⟨hr,e⟩:=Gd hb;have e1:sS n g s=hB n g s:=by rw[sS,hW,Q! hr]
 have e2:yO docs l=hB docs.length (root (leaves docs)) (bV docs l):=by simp_all[yO,hX,Q!,sS,hW,vD]
 have q:sum (bA 3 (sS n g s))=sum (bA 3 (yO docs l)):=by
  rw[e1,e2];rw[eX,Q! hf] at e;exact e
 exact M? (y? (We hc q))
theorem ao2(x y:Cl)(p q:Prop):Mt [λz=>(p,AL x,z),λz=>(q,AL y,z)]=if x.2 then x else if y.2 then y else gy:=by
 obtain⟨⟨a,b⟩,c⟩:=x;obtain⟨⟨a',b'⟩,c'⟩:=y;cases c<;>cases c'<;>rfl
theorem ZU {docs:O}{l:M aG}{i:Int}{b:B8}(hb:b.length<1099511627776)(hf:dD docs l=true)(h:(jO (tp docs l) i b).2=0)(di:¬(0<=i/\i<docs.length/\(jO (tp docs l) i b).1=docs.getD i.toNat [])):
  (dz docs l i b).2=true/\JW (dz docs l i b).1.1 (dz docs l i b).1.2=true/\gh (dz docs l i b).1.1 (dz docs l i b).1.2:=by
 have e:tp docs l=(eX docs l).1:=by rw[aoE hf]
 have e0:(eX docs l).2=0:=by rw[aoE hf]
 rw[e] at h di;obtain⟨h1,h2,h3⟩:=aE3 h;rw[h3] at di;simp only[Tu,F7,B!,J!] at h2;obtain⟨k1,k2,k3,k4⟩:=h2;have hcp:=ao0 hb e0;rw[Wb e0 h h1];have er:=ao2 (sv (aK b).1.1 (aK b).1.2.1 (aK b).1.2.2.1 docs l) (CM (aK b).1.1 (aK b).1.2.1 (aK b).1.2.2.1 docs l i (aK b).1.2.2.2.2.1 (aK b).1.2.2.2.2.2) True (mJ docs (aK b).1.2.2.2.2.1 (aK b).1.2.2.2.2.2);rw[show Mt [hdF _ _ _ docs l,dcF _ _ _ docs l i _ _]=_ from er];cases hh:(sv (aK b).1.1 (aK b).1.2.1 (aK b).1.2.2.1 docs l).2 with
 |true=>exact⟨hh,aE4 _ _ _ _ _ hh⟩
 |false=>
  have he:=aj7 hf k1 hh;obtain⟨n1,n2,n3⟩:=aeF hf (Gd k1).1 he;rw[n1] at k3 k4;rw[n2] at k4;have ed:CM (aK b).1.1 (aK b).1.2.1 (aK b).1.2.2.1 docs l i (aK b).1.2.2.2.2.1 (aK b).1.2.2.2.2.2=jU docs i (aK b).1.2.2.2.2.1 (aK b).1.2.2.2.2.2:=by rw[CM,Q! he]
  rw[ed];cases hd:(jU docs i (aK b).1.2.2.2.2.1 (aK b).1.2.2.2.2.2).2 with
  |true=>exact⟨hd,aE2 k3 hcp hd⟩
  |false=>
   obtain⟨⟨_,_,_,g0,g1⟩,_⟩:=mC k3;exact absurd ⟨g0,g1,aj6 k3 hcp k4 hd⟩ di
theorem P9(h:Ge docs l b=false):b.length<=20000/\small l:=by
 grind[Ge,Bool.or_eq_false_iff,decide_eq_false_iff_not,sr,small]
theorem auJ {root:B8}(h:¬(jO root i b).2=0):(jO root i b).1=[]:=by
 grind[jO]
theorem TK {docs:O}{l:M aG}{i:Int}{b:B8}(h4:Ge docs l b=false/\dD docs l=true)(h8:(jO (tp docs l) i b).2=0)(pG:¬0<=i\/¬i<docs.length\/¬(jO (tp docs l) i b).1=docs.getD i.toNat []):
  (bif (dz docs l i b).2 then bif JW (dz docs l i b).1.1 (dz docs l i b).1.2 then true else false else false)=true/\gh (dz docs l i b).1.1 (dz docs l i b).1.2:=by
 have hb:=(P9 h4.1).1;grind[ZU]
end Go.S
namespace Go.Vg
open Go
variable [HP]
def Qa {P:Program}{W:World}:∀ {laid:M (String×DataW Unit)} {ps:M MemPlace} {name:String} {d:DataW Unit},DataW.LaidVars P W laid ps->(name,d)∈laid->
  ∃(g:Nat) (t:TypeId) (cs:Array Value) (fuel:Nat) (p:M MemPlace),P.globalNamed name=some g/\(P.globals[g]?).map (·.type)=some t/\W.var? P name=some cs/\DataW.trod (λ_=>()) P W 0 (λ_=>true) false fuel t cs.toList=some (d,p)
 |[],_,_,_,_,hm=>by grind
 |x::rest,ps,name,d,h,hm=>by
  obtain⟨g',t',cs,fuel,p,q,yj,ht',aLz,hd,hr,hps⟩:=h;rcases O!.1 hm with rfl|hm;exact⟨g',t',cs,fuel,p,yj,ht',aLz,hd⟩;exact Qa hr hm
def Qb {H:Type}{enc:TypeId×Value->H}{P:Program}{w:World}{base:Nat}{sp:Nat->Bool}{held:Bool}{fuel:Nat}{t e:TypeId}{n m:Nat}{k:IntKind}{cs:M Value}{zss:M U}{p:M MemPlace}{fs:Array Field}
  (ht:P.underlying t=some (.array n e)) (he:P.underlying e=some (.struct fs)) (U8:P.cellsOf e=m) (hct:P.cellsOf t=n*m) (hfs:fs.size=m) (hf:∀(i:Nat) (f:Field),fs[i]? =some f->f.offset=i/\P.underlying f.type=some (.int k)/\P.cellsOf f.type=1)
  (hz:∀r∈zss,r.length=m) (h:DataW.trod enc P w base sp held fuel t cs=some (.agg (zss.map λr=>.agg (r.map λz=>.lit (.int k z))),p)):cs.length=n*m/\zss.length=n/\
    ∀i j,i<n->j<m->cs[i*m+j]? =some (.int k ((zss.getD i []).getD j 0)):=by
 cases fuel with
 |zero=>simp[DataW.trod] at h
 |succ fuel=>
  simp only[DataW.trod,ht,U8,hct] at h;split at h;rename_i hl;obtain⟨xs,hm,hx⟩:=Option.map_eq_some_iff.1 h
  have hxs:xs.map (·.1)=zss.map λr=>(DataW.agg (r.map λz=>.lit (.int k z)):DataW H):=by
   have:=congrArg Prod.fst hx;simpa using this
  have Mo:xs.length=n:=by simpa using Lib.mapM_length hm
  have hzl:zss.length=n:=by
   have:=congrArg List.length hxs;simp at this;omega
  refine⟨hl,hzl,λi j hi hj=>?_⟩;obtain⟨b,hb,hfb⟩:=Lib.mapM_at hm i i (by simp[hi])
  have fl:b.1=DataW.agg ((zss.getD i []).map λz=>.lit (.int k z)):=by
   have h2:(xs.map (·.1))[i]? =some b.1:=by simp[hb]
   rw[hxs] at h2;rw[E?,C! w!] at h2;simp at h2;rw[<-h2,E!,C! w!];rfl
  obtain⟨ys,n',_,hy,_,hyl,hyf⟩:=DataW.trod_struct he hfb
  have hyr:ys.map (·.1)=(zss.getD i []).map λz=>(DataW.lit (.int k z):DataW H):=by
   rw[hy] at fl;simpa using fl
  have hrl:(zss.getD i []).length=m:=hz _ (by rw[E!,C! w!];exact List.getElem_mem _);have hjf:j<fs.size:=by omega
  have hfj:=hyf j fs[j] (S? hjf);obtain⟨f1,f2,f3⟩:=hf j fs[j] (S? hjf);rw[f1,f3] at hfj;have hyj:j<ys.length:=by omega
  rw[C! hyj] at hfj;obtain⟨z,hc,hzv,_⟩:=DataW.trod_int f2 hfj
  have h1:cs[i*m+j]? =some (.int k z):=by
   have:=congrArg (·[0]?) hc;simpa[hj,Nat.add_comm] using this
  have h3:(ys.map (·.1))[j]? =some (DataW.lit (.int k z)):=by rw[E?,C! hyj,hzv];rfl
  rw[hyr,List.getElem?_map,List.getElem?_eq_getElem w!] at h3;simp only[Option.map_some,Option.some.injEq,DataW.lit.injEq,Lit.int.injEq,true_and] at h3;rw[h1,List.getD_eq_getElem?_getD,List.getElem?_eq_getElem w!];simp only[Option.getD_some,h3];grind
variable {W:World}
theorem aeI {P:Program}{name:String}{g:Nat}{cs:Array Value}(hg:P.globalNamed name=some g)(h:W.var? P name=some cs)(hn:0<cs.size):g<W.heap.size:=by
 have h1:=World.var?_cell hg h 0;grind[Array.getElem?_eq_getElem,World.cell?,Array.getElem?_eq_some_iff]
def pe(k:IntKind):(ts:M Ty)->U->Row ts->Prop
 |[],[],_=>True
 |.int k'::ts,z::zs,x=>k'=k/\DI.toInt k' (Row.hd (t:=.int k') (ts:=ts) x)=z/\lo k<=z/\z<=hi k/\pe k ts zs (Row.tl x)
 |_,_,_=>False
def Qc {w:World}{A:Nat->Prop}{k:IntKind}:∀(ts:M Ty) (zs:U) (x:Row ts),pe k ts zs x->bw w A ts (zs.map (Value.int k)) x
 |[],[],x,_=>by rfl
 |.int k'::ts,z::zs,x,h=>by
   obtain⟨rfl,h2,h3,h4,h5⟩:=h;refine⟨_,_,rfl,?_,Qc ts zs _ h5⟩;simp[Rd];rw[h2];exact⟨rfl,h3,h4⟩
 |.bool::_,_,_,h|.str::_,_,_,h|.slice _::_,_,_,h|[],_::_,_,h|.int _::_,[],_,h=>by grind[pe]
def xH(k:IntKind)(ts:M Ty):M U->M (Row ts)->Prop
 |[],[]=>True
 |zs::r,x::l=>pe k ts zs x/\xH k ts r l
 |_,_=>False
theorem JZ {w:World}{A:Nat->Prop}{k:IntKind}{ts:M Ty}:∀(zss:M U) (l:M (Row ts)),xH k ts zss l->dn (bw w A ts) (zss.flatten.map (Value.int k)) l
 |[],[],_=>by rfl
 |zs::r,x::l,h=>by
  exact⟨zs.map (Value.int k),r.flatten.map (Value.int k),z!,Qc ts zs x h.1,JZ r l h.2⟩
 |[],_::_,h|_::_,[],h=>by grind[xH]
def LN {m:Nat}:∀(zss:M U),(∀r∈zss,r.length=m)->∀q (z:Int),zss.flatten[q]? =some z->∃i j,i<zss.length/\j<m/\q=i*m+j/\(zss.getD i []).getD j 0=z
 |[],_,q,z,h=>by grind
 |r::rs,hz,q,z,h=>by
  have hr:r.length=m:=hz r z!;by_cases hq:q<m;refine⟨0,q,z!,hq,z!,?_⟩;grind;rw[List.flatten_cons,List.getElem?_append_right w!,hr] at h;obtain⟨i,j,h1,h2,h3,h4⟩:=LN rs (λr qe=>hz r x!) (q-m) z h;refine⟨i+1,j,x!,h2,?_,x!⟩;grind
def Qd {P:Program}{name:String}{g:Nat}{t e:TypeId}{n m:Nat}{k:IntKind}{fs:Array Field}{zss:M U}{row:M Ty}{l:M (Row row)}{laid:M (String×DataW Unit)}
  (hm:laidMet P laid W) (aq:(name,DataW.agg (zss.map λr=>.agg (r.map λz=>.lit (.int k z))))∈laid) (hg:P.globalNamed name=some g) (gB:(P.globals[g]?).map (·.type)=some t)
  (ht:P.underlying t=some (.array n e)) (he:P.underlying e=some (.struct fs)) (U8:P.cellsOf e=m) (hct:P.cellsOf t=n*m) (hfs:fs.size=m) (hf:∀(i:Nat) (f:Field),fs[i]? =some f->f.offset=i/\P.underlying f.type=some (.int k)/\P.cellsOf f.type=1)
  (hz:∀r∈zss,r.length=m) (lF:0<n*m) (hl:xH k row zss l):nb W (λb=>b<W.heap.size) g ⟨row,l⟩:=by
 obtain⟨ps,RB,_⟩:=hm;obtain⟨g',t',cs,fuel,p,h1,h2,h3,h4⟩:=Qa RB aq;obtain rfl:=V? (hg.symm.trans h1);obtain rfl:=V? (gB.symm.trans h2);obtain⟨q1,q2,q3⟩:=Qb ht he U8 hct hfs hf hz h4;have aPJ:cs.size=n*m:=by omega
 refine⟨aeI hg h3 w!,zss.flatten.map (Value.int k),λq v hq=>?_,JZ zss l hl⟩;rw[E?] at hq;obtain⟨z,hz1,rfl⟩:=Option.map_eq_some_iff.1 hq;obtain⟨i,j,hi,hj,rfl,hv⟩:=LN zss hz q z hz1;rw[o?,World.var?_cell hg h3,<-k?,q3 i j w! hj,hv]
theorem It:∀zs:U,(zs.map λz=>[z]).flatten=zs
 |[]=>rfl
 |z::zs=>by simp only[K?,List.flatten_cons,It zs];rfl
def Qe {P:Program}{name:String}{g:Nat}{t e:TypeId}{n:Nat}{k:IntKind}{zs:U}{row:M Ty}{l:M (Row row)}{laid:M (String×DataW Unit)}
  (hm:laidMet P laid W) (aq:(name,DataW.agg (zs.map λz=>.lit (.int k z)))∈laid) (hg:P.globalNamed name=some g) (gB:(P.globals[g]?).map (·.type)=some t)
  (ht:P.underlying t=some (.array n e)) (he:P.underlying e=some (.int k)) (U8:P.cellsOf e=1) (hct:P.cellsOf t=n) (lF:0<zs.length) (hl:xH k row (zs.map λz=>[z]) l):nb W (λb=>b<W.heap.size) g ⟨row,l⟩:=by
 obtain⟨ps,RB,_⟩:=hm;obtain⟨g',t',cs,fuel,p,h1,h2,h3,h4⟩:=Qa RB aq;obtain rfl:=V? (hg.symm.trans h1);obtain rfl:=V? (gB.symm.trans h2);have hc:=Lib.cells_of_tab ht he U8 hct h4
 have dH:0<cs.size:=by
  grind
 refine⟨aeI hg h3 dH,zs.map (Value.int k),λq v hq=>?_,?_⟩;rw[Nat.zero_add,World.var?_cell hg h3,<-Array.getElem?_toList,hc];omega;grind[JZ,It]
end Go.Vg
namespace Go.Vg
open Go Go.ChangeShapes Go.WideShapes Go.ChangeAt Go.RowKit
variable [HP]
end Go.Vg
namespace Go.Proofs
open Go Go.RowKit Go.ChangeShapes Go.Vg
set_option maxHeartbeats 1000000 in
def Tryz.aE6:alD Tryz.prog 239 240:=by
 refine⟨λargs w=>by kernel_rfl,λw y p=>?_⟩;go_enter Tryz.func239,Tryz.ntmps239
 go_wp2
 go_ret
 exact⟨_,rfl,rfl⟩
def Tryz.mkf(f:Nat):Option Nat:=bif Nat.beq f 239 then some 240 else none
theorem Tryz.Uc(P:Program)(hP:P=Tryz.prog)(f g:Nat)(h:Tryz.mkf f=some g):alD P f g:=by
 subst hP;unfold Tryz.mkf at h;cases h1:Nat.beq f 239 with
 |true=>
  rw[h1] at h;cases D! h1;cases h;exact Tryz.aE6
 |false=>
  rw[h1] at h;cases h
end Go.Proofs
namespace Go.Vg
open Go.Proofs
open Go
instance :HP:=⟨λP=>P=Tryz.prog,Tryz.mkf,Tryz.Uc⟩
def eY:Vg.bX:=(.node (.node (.node (.node (.node (.node (.node .leaf 3 ⟨.int .i64,1,8, .int .i64 (0)⟩ .leaf) 4 ⟨.bool,1,1, .bool false⟩ (.node .leaf 5 ⟨.int .u8,1,1, .int .u8 (0)⟩ .leaf)) 9 ⟨.string,1,16, .string ⟨#[]⟩⟩ (.node (.node .leaf 22 ⟨.slice 27,1,24, .slice none 0 0⟩ .leaf) 23 ⟨.slice 89,1,24, .slice none 0 0⟩ .leaf)) 25 ⟨.struct #[⟨ "Docs",22,0,false,"","",0⟩,⟨ "Segs",23,1,false,"","",24⟩],2,48, .agg #[.slice none 0 0, .slice none 0 0]⟩ (.node (.node (.node .leaf 26 ⟨.slice 81,1,24, .slice none 0 0⟩ .leaf) 27 ⟨.slice 5,1,24, .slice none 0 0⟩ .leaf) 31 ⟨.slice 87,1,24, .slice none 0 0⟩ (.node (.node .leaf 33 ⟨.struct #[⟨ "Docs",22,0,false,"","",0⟩,⟨ "Segs",31,1,false,"","",24⟩],2,48, .agg #[.slice none 0 0, .slice none 0 0]⟩ .leaf) 35 ⟨.func #[] #[4] false,1,8, .nilFunc⟩ .leaf))) 36 ⟨.slice 3,1,24, .slice none 0 0⟩ (.node (.node (.node (.node .leaf 37 ⟨.int .i64,1,8, .int .i64 (0)⟩ .leaf) 42 ⟨.slice 124,1,24, .slice none 0 0⟩ (.node .leaf 47 ⟨.struct #[⟨ "A",27,0,false,"","",0⟩,⟨ "B",27,1,false,"","",24⟩],2,48, .agg #[.slice none 0 0, .slice none 0 0]⟩ .leaf)) 56 ⟨.struct #[⟨ "A",27,0,false,"","",0⟩,⟨ "B",27,1,false,"","",24⟩],2,48, .agg #[.slice none 0 0, .slice none 0 0]⟩ (.node (.node .leaf 68 ⟨.slice 73,1,24, .slice none 0 0⟩ .leaf) 73 ⟨.struct #[⟨ "Kind",3,0,false,"","",0⟩,⟨ "I",3,1,false,"","",8⟩,⟨ "Many",3,2,false,"","",16⟩,⟨ "Doc",27,3,false,"","",24⟩],4,48, .agg #[.int .i64 (0), .int .i64 (0), .int .i64 (0), .slice none 0 0]⟩ .leaf)) 81 ⟨.struct #[⟨ "Kind",3,0,false,"","",0⟩,⟨ "Term",9,1,false,"","",8⟩],2,24, .agg #[.int .i64 (0), .string ⟨#[]⟩]⟩ (.node (.node (.node .leaf 84 ⟨.struct #[⟨ "From",3,0,false,"","",0⟩,⟨ "To",3,1,false,"","",8⟩],2,16, .agg #[.int .i64 (0), .int .i64 (0)]⟩ .leaf) 85 ⟨.slice 308,1,24, .slice none 0 0⟩ .leaf) 87 ⟨.struct #[⟨ "Span",84,0,false,"","",0⟩,⟨ "Dict",85,2,false,"","",16⟩],3,40, .agg #[.int .i64 (0), .int .i64 (0), .slice none 0 0]⟩ (.node (.node .leaf 89 ⟨.struct #[⟨ "Span",84,0,false,"","",0⟩,⟨ "Dict",85,2,false,"","",16⟩],3,40, .agg #[.int .i64 (0), .int .i64 (0), .slice none 0 0]⟩ .leaf) 95 ⟨.slice 109,1,24, .slice none 0 0⟩ .leaf)))) 97 ⟨.struct #[⟨ "Size",3,0,false,"","",0⟩,⟨ "Log",9,1,false,"","",8⟩,⟨ "Segs",95,2,false,"","",24⟩],3,48, .agg #[.int .i64 (0), .string ⟨#[]⟩, .slice none 0 0]⟩ (.node (.node (.node (.node (.node .leaf 98 ⟨.slice 110,1,24, .slice none 0 0⟩ .leaf) 100 ⟨.struct #[⟨ "Head",97,0,false,"","",0⟩,⟨ "Proofs",98,3,false,"","",48⟩],4,72, .agg #[.int .i64 (0), .string ⟨#[]⟩, .slice none 0 0, .slice none 0 0]⟩ (.node .leaf 103 ⟨.slice 9,1,24, .slice none 0 0⟩ .leaf)) 105 ⟨.slice 36,1,24, .slice none 0 0⟩ (.node (.node .leaf 107 ⟨.slice 35,1,24, .slice none 0 0⟩ .leaf) 109 ⟨.struct #[⟨ "Span",84,0,false,"","",0⟩,⟨ "Links",3,2,false,"","",16⟩,⟨ "Root",9,3,false,"","",24⟩],4,40, .agg #[.int .i64 (0), .int .i64 (0), .int .i64 (0), .string ⟨#[]⟩]⟩ .leaf)) 110 ⟨.slice 115,1,24, .slice none 0 0⟩ (.node (.node (.node .leaf 113 ⟨.struct #[⟨ "Term",9,0,false,"","",0⟩,⟨ "Next",9,1,false,"","",16⟩,⟨ "Posts",9,2,false,"","",32⟩],3,48, .agg #[.string ⟨#[]⟩, .string ⟨#[]⟩, .string ⟨#[]⟩]⟩ .leaf) 115 ⟨.struct #[⟨ "At",3,0,false,"","",0⟩,⟨ "Link",113,1,false,"","",8⟩,⟨ "Path",103,4,false,"","",56⟩,⟨ "Docs",27,5,false,"","",80⟩],6,104, .agg #[.int .i64 (0), .string ⟨#[]⟩, .string ⟨#[]⟩, .string ⟨#[]⟩, .slice none 0 0, .slice none 0 0]⟩ .leaf) 120 ⟨.slice 282,1,24, .slice none 0 0⟩ (.node (.node .leaf 122 ⟨.struct #[⟨ "Size",3,0,false,"","",0⟩,⟨ "Log",9,1,false,"","",8⟩,⟨ "Segs",120,2,false,"","",24⟩],3,48, .agg #[.int .i64 (0), .string ⟨#[]⟩, .slice none 0 0]⟩ .leaf) 124 ⟨.struct #[⟨ "Kind",3,0,false,"","",0⟩,⟨ "Term",9,1,false,"","",8⟩],2,24, .agg #[.int .i64 (0), .string ⟨#[]⟩]⟩ .leaf))) 128 ⟨.struct #[⟨ "claimed",97,0,false,"","rubrick/extract",0⟩,⟨ "honest",25,3,false,"","rubrick/extract",48⟩],5,96, .agg #[.int .i64 (0), .string ⟨#[]⟩, .slice none 0 0, .slice none 0 0, .slice none 0 0]⟩ (.node (.node (.node (.node .leaf 130 ⟨.struct #[⟨ "pair",128,0,true,"","rubrick/extract",0⟩,⟨ "terms",103,5,false,"","rubrick/extract",96⟩,⟨ "proofs",98,6,false,"","rubrick/extract",120⟩],7,144, .agg #[.int .i64 (0), .string ⟨#[]⟩, .slice none 0 0, .slice none 0 0, .slice none 0 0, .slice none 0 0, .slice none 0 0]⟩ .leaf) 132 ⟨.func #[] #[47,4] false,1,8, .nilFunc⟩ .leaf) 136 ⟨.struct #[⟨ "Head",97,0,false,"","",0⟩,⟨ "At",3,3,false,"","",48⟩,⟨ "Doc",27,4,false,"","",56⟩,⟨ "Path",103,5,false,"","",80⟩],6,104, .agg #[.int .i64 (0), .string ⟨#[]⟩, .slice none 0 0, .int .i64 (0), .slice none 0 0, .slice none 0 0]⟩ (.node (.node .leaf 141 ⟨.struct #[⟨ "pair",128,0,true,"","rubrick/extract",0⟩,⟨ "at",3,5,false,"","rubrick/extract",96⟩,⟨ "doc",27,6,false,"","rubrick/extract",104⟩,⟨ "path",103,7,false,"","rubrick/extract",128⟩],8,152, .agg #[.int .i64 (0), .string ⟨#[]⟩, .slice none 0 0, .slice none 0 0, .slice none 0 0, .int .i64 (0), .slice none 0 0, .slice none 0 0]⟩ .leaf) 144 ⟨.slice 156,1,24, .slice none 0 0⟩ .leaf)) 146 ⟨.struct #[⟨ "Head",122,0,false,"","",0⟩,⟨ "Proofs",144,3,false,"","",48⟩],4,72, .agg #[.int .i64 (0), .string ⟨#[]⟩, .slice none 0 0, .slice none 0 0]⟩ (.node (.node (.node .leaf 153 ⟨.struct #[⟨ "Term",9,0,false,"","",0⟩,⟨ "Next",9,1,false,"","",16⟩,⟨ "Posts",9,2,false,"","",32⟩],3,48, .agg #[.string ⟨#[]⟩, .string ⟨#[]⟩, .string ⟨#[]⟩]⟩ .leaf) 155 ⟨.struct #[⟨ "At",3,0,false,"","",0⟩,⟨ "Link",153,1,false,"","",8⟩,⟨ "Path",103,4,false,"","",56⟩,⟨ "Docs",27,5,false,"","",80⟩],6,104, .agg #[.int .i64 (0), .string ⟨#[]⟩, .string ⟨#[]⟩, .string ⟨#[]⟩, .slice none 0 0, .slice none 0 0]⟩ .leaf) 156 ⟨.slice 155,1,24, .slice none 0 0⟩ (.node (.node .leaf 160 ⟨.struct #[⟨ "Head",122,0,false,"","",0⟩,⟨ "At",3,3,false,"","",48⟩,⟨ "Doc",27,4,false,"","",56⟩,⟨ "Path",103,5,false,"","",80⟩],6,104, .agg #[.int .i64 (0), .string ⟨#[]⟩, .slice none 0 0, .int .i64 (0), .slice none 0 0, .slice none 0 0]⟩ .leaf) 165 ⟨.struct #[⟨ "Old",97,0,false,"","",0⟩,⟨ "New",97,3,false,"","",48⟩,⟨ "Proof",103,6,false,"","",96⟩],7,120, .agg #[.int .i64 (0), .string ⟨#[]⟩, .slice none 0 0, .int .i64 (0), .string ⟨#[]⟩, .slice none 0 0, .slice none 0 0]⟩ .leaf))))) 169 ⟨.struct #[⟨ "before",128,0,false,"","rubrick/extract",0⟩,⟨ "after",128,5,false,"","rubrick/extract",96⟩,⟨ "proof",103,10,false,"","rubrick/extract",192⟩],11,216, .agg #[.int .i64 (0), .string ⟨#[]⟩, .slice none 0 0, .slice none 0 0, .slice none 0 0, .int .i64 (0), .string ⟨#[]⟩, .slice none 0 0, .slice none 0 0, .slice none 0 0, .slice none 0 0]⟩ (.node (.node (.node (.node (.node (.node .leaf 173 ⟨.struct #[⟨ "Old",122,0,false,"","",0⟩,⟨ "New",122,3,false,"","",48⟩,⟨ "Proof",103,6,false,"","",96⟩],7,120, .agg #[.int .i64 (0), .string ⟨#[]⟩, .slice none 0 0, .int .i64 (0), .string ⟨#[]⟩, .slice none 0 0, .slice none 0 0]⟩ .leaf) 188 ⟨.func #[9] #[] false,1,8, .nilFunc⟩ (.node .leaf 203 ⟨.slice 209,1,24, .slice none 0 0⟩ .leaf)) 206 ⟨.struct #[⟨ "elems",203,0,false,"","rubrick/query",0⟩,⟨ "next",3,1,false,"","rubrick/query",24⟩,⟨ "words",3,2,false,"","rubrick/query",32⟩,⟨ "ops",26,3,false,"","rubrick/query",40⟩],4,64, .agg #[.slice none 0 0, .int .i64 (0), .int .i64 (0), .slice none 0 0]⟩ (.node (.node .leaf 209 ⟨.struct #[⟨ "kind",3,0,false,"","rubrick/query",0⟩,⟨ "at",3,1,false,"","rubrick/query",8⟩,⟨ "term",9,2,false,"","rubrick/query",16⟩],3,32, .agg #[.int .i64 (0), .int .i64 (0), .string ⟨#[]⟩]⟩ .leaf) 211 ⟨.pointer 221,1,8, .pointer none⟩ .leaf)) 219 ⟨.struct #[⟨ "B",27,0,false,"","",0⟩,⟨ "At",3,1,false,"","",24⟩,⟨ "E",37,2,false,"","",32⟩],3,40, .agg #[.slice none 0 0, .int .i64 (0), .int .i64 (0)]⟩ (.node (.node (.node .leaf 221 ⟨.struct #[⟨ "Reader",219,0,true,"","",0⟩],3,40, .agg #[.slice none 0 0, .int .i64 (0), .int .i64 (0)]⟩ .leaf) 225 ⟨.slice 229,1,24, .slice none 0 0⟩ .leaf) 227 ⟨.func #[115] #[4] false,1,8, .nilFunc⟩ (.node (.node .leaf 229 ⟨.struct #[⟨ "holds",227,0,false,"","rubrick/term",0⟩,⟨ "docs",36,1,false,"","rubrick/term",8⟩],2,32, .agg #[.nilFunc, .slice none 0 0]⟩ .leaf) 234 ⟨.func #[9] #[36] false,1,8, .nilFunc⟩ .leaf))) 236 ⟨.func #[36,36] #[36] false,1,8, .nilFunc⟩ (.node (.node (.node (.node .leaf 238 ⟨.struct #[⟨ "find",234,0,false,"","rubrick/eval",0⟩,⟨ "both",236,1,false,"","rubrick/eval",8⟩,⟨ "either",236,2,false,"","rubrick/eval",16⟩,⟨ "but",236,3,false,"","rubrick/eval",24⟩],4,32, .agg #[.nilFunc, .nilFunc, .nilFunc, .nilFunc]⟩ .leaf) 247 ⟨.slice 132,1,24, .slice none 0 0⟩ (.node .leaf 253 ⟨.int .u32,1,4, .int .u32 (0)⟩ .leaf)) 254 ⟨.array 8 253,8,32, .agg #[.int .u32 (0), .int .u32 (0), .int .u32 (0), .int .u32 (0), .int .u32 (0), .int .u32 (0), .int .u32 (0), .int .u32 (0)]⟩ (.node (.node .leaf 256 ⟨.struct #[⟨ "H",254,0,false,"","",0⟩,⟨ "Rest",27,8,false,"","",32⟩,⟨ "N",3,9,false,"","",56⟩],10,64, .agg #[.int .u32 (0), .int .u32 (0), .int .u32 (0), .int .u32 (0), .int .u32 (0), .int .u32 (0), .int .u32 (0), .int .u32 (0), .slice none 0 0, .int .i64 (0)]⟩ .leaf) 259 ⟨.func #[] #[3] false,1,8, .nilFunc⟩ .leaf)) 262 ⟨.slice 4,1,24, .slice none 0 0⟩ (.node (.node (.node .leaf 271 ⟨.struct #[⟨ "B",27,0,false,"","",0⟩,⟨ "E",3,1,false,"","",24⟩],2,32, .agg #[.slice none 0 0, .int .i64 (0)]⟩ .leaf) 282 ⟨.struct #[⟨ "Span",84,0,false,"","",0⟩,⟨ "Links",3,2,false,"","",16⟩,⟨ "Root",9,3,false,"","",24⟩],4,40, .agg #[.int .i64 (0), .int .i64 (0), .int .i64 (0), .string ⟨#[]⟩]⟩ .leaf) 308 ⟨.struct #[⟨ "Term",9,0,false,"","",0⟩,⟨ "Docs",36,1,false,"","",16⟩],2,40, .agg #[.string ⟨#[]⟩, .slice none 0 0]⟩ (.node (.node .leaf 312 ⟨.slice 84,1,24, .slice none 0 0⟩ .leaf) 323 ⟨.struct #[⟨ "b",27,0,false,"","rubrick/reply",0⟩,⟨ "bad",4,1,false,"","rubrick/reply",24⟩],2,32, .agg #[.slice none 0 0, .bool false]⟩ .leaf)))) 333 ⟨.pointer 206,1,8, .pointer none⟩ (.node (.node (.node (.node (.node .leaf 340 ⟨.int .u64,1,8, .int .u64 (0)⟩ .leaf) 343 ⟨.func #[9,9] #[4] false,1,8, .nilFunc⟩ (.node .leaf 345 ⟨.map 3 188,1,8, .map none⟩ .leaf)) 347 ⟨.func #[3,4,4] #[4] false,1,8, .nilFunc⟩ (.node (.node .leaf 354 ⟨.int .u64,1,8, .int .u64 (0)⟩ .leaf) 364 ⟨.slice 365,1,24, .slice none 0 0⟩ .leaf)) 365 ⟨.func #[] #[47,4] false,1,8, .nilFunc⟩ (.node (.node (.node .leaf 382 ⟨.slice 386,1,24, .slice none 0 0⟩ .leaf) 386 ⟨.struct #[⟨ "from",3,0,false,"","rubrick/clash",0⟩,⟨ "m",3,1,false,"","rubrick/clash",8⟩,⟨ "n",3,2,false,"","rubrick/clash",16⟩,⟨ "k",3,3,false,"","rubrick/clash",24⟩,⟨ "right",4,4,false,"","rubrick/clash",32⟩],5,40, .agg #[.int .i64 (0), .int .i64 (0), .int .i64 (0), .int .i64 (0), .bool false]⟩ .leaf) 393 ⟨.map 9 36,1,8, .map none⟩ (.node (.node .leaf 396 ⟨.func #[125] #[] false,1,8, .nilFunc⟩ .leaf) 404 ⟨.pointer 323,1,8, .pointer none⟩ .leaf))) 409 ⟨.struct #[⟨ "from",3,0,false,"","rubrick/utf",0⟩,⟨ "to",3,1,false,"","rubrick/utf",8⟩],2,16, .agg #[.int .i64 (0), .int .i64 (0)]⟩ (.node (.node (.node (.node .leaf 410 ⟨.array 9 409,18,144, .agg #[.int .i64 (0), .int .i64 (0), .int .i64 (0), .int .i64 (0), .int .i64 (0), .int .i64 (0), .int .i64 (0), .int .i64 (0), .int .i64 (0), .int .i64 (0), .int .i64 (0), .int .i64 (0), .int .i64 (0), .int .i64 (0), .int .i64 (0), .int .i64 (0), .int .i64 (0), .int .i64 (0)]⟩ .leaf) 412 ⟨.func #[] #[9] false,1,8, .nilFunc⟩ .leaf) 415 ⟨.int .i64,1,8, .int .i64 (0)⟩ (.node (.node .leaf 423 ⟨.slice 253,1,24, .slice none 0 0⟩ .leaf) 440 ⟨.func #[308,308] #[4] false,1,8, .nilFunc⟩ .leaf)) 442 ⟨.func #[9,9] #[3] false,1,8, .nilFunc⟩ (.node (.node (.node .leaf 444 ⟨.int .u64,1,8, .int .u64 (0)⟩ .leaf) 448 ⟨.pointer 3,1,8, .pointer none⟩ .leaf) 453 ⟨.array 64 253,64,256, .agg #[.int .u32 (0), .int .u32 (0), .int .u32 (0), .int .u32 (0), .int .u32 (0), .int .u32 (0), .int .u32 (0), .int .u32 (0), .int .u32 (0), .int .u32 (0), .int .u32 (0), .int .u32 (0), .int .u32 (0), .int .u32 (0), .int .u32 (0), .int .u32 (0), .int .u32 (0), .int .u32 (0), .int .u32 (0), .int .u32 (0), .int .u32 (0), .int .u32 (0), .int .u32 (0), .int .u32 (0), .int .u32 (0), .int .u32 (0), .int .u32 (0), .int .u32 (0), .int .u32 (0), .int .u32 (0), .int .u32 (0), .int .u32 (0), .int .u32 (0), .int .u32 (0), .int .u32 (0), .int .u32 (0), .int .u32 (0), .int .u32 (0), .int .u32 (0), .int .u32 (0), .int .u32 (0), .int .u32 (0), .int .u32 (0), .int .u32 (0), .int .u32 (0), .int .u32 (0), .int .u32 (0), .int .u32 (0), .int .u32 (0), .int .u32 (0), .int .u32 (0), .int .u32 (0), .int .u32 (0), .int .u32 (0), .int .u32 (0), .int .u32 (0), .int .u32 (0), .int .u32 (0), .int .u32 (0), .int .u32 (0), .int .u32 (0), .int .u32 (0), .int .u32 (0), .int .u32 (0)]⟩ (.node (.node .leaf 462 ⟨.struct #[⟨ "from",3,0,false,"","rubrick/utf",0⟩,⟨ "to",3,1,false,"","rubrick/utf",8⟩,⟨ "add",3,2,false,"","rubrick/utf",16⟩],3,24, .agg #[.int .i64 (0), .int .i64 (0), .int .i64 (0)]⟩ .leaf) 463 ⟨.array 7 462,21,168, .agg #[.int .i64 (0), .int .i64 (0), .int .i64 (0), .int .i64 (0), .int .i64 (0), .int .i64 (0), .int .i64 (0), .int .i64 (0), .int .i64 (0), .int .i64 (0), .int .i64 (0), .int .i64 (0), .int .i64 (0), .int .i64 (0), .int .i64 (0), .int .i64 (0), .int .i64 (0), .int .i64 (0), .int .i64 (0), .int .i64 (0), .int .i64 (0)]⟩ .leaf))))))
set_option maxRecDepth 100000 in
def aeJ:eY.Ok Tryz.prog:=⟨⟨⟨⟨⟨⟨⟨trivial,trivial,Tryz.underlying3,trivial,Tryz.t3,rfl,rfl,rfl,rfl⟩,⟨trivial,trivial,Tryz.underlying5,trivial,Tryz.t5,rfl,rfl,rfl,rfl⟩,Tryz.underlying4,trivial,Tryz.t4,rfl,rfl,rfl,rfl⟩,⟨⟨trivial,trivial,Tryz.underlying22,trivial,Tryz.t22,rfl,rfl,rfl,rfl⟩,trivial,Tryz.underlying23,trivial,Tryz.t23,rfl,rfl,rfl,rfl⟩,Tryz.underlying9,trivial,Tryz.t9,rfl,rfl,rfl,rfl⟩,⟨⟨⟨trivial,trivial,Tryz.underlying26,trivial,Tryz.t26,rfl,rfl,rfl,rfl⟩,trivial,Tryz.underlying27,trivial,Tryz.t27,rfl,rfl,rfl,rfl⟩,⟨⟨trivial,trivial,Tryz.underlying33,⟨y!,y!,y!⟩,Tryz.t33,rfl,rfl,rfl,rfl⟩,trivial,Tryz.underlying35,trivial,Tryz.t35,rfl,rfl,rfl,rfl⟩,Tryz.underlying31,trivial,Tryz.t31,rfl,rfl,rfl,rfl⟩,Tryz.underlying25,⟨y!,y!,y!⟩,Tryz.t25,rfl,rfl,rfl,rfl⟩,⟨⟨⟨⟨trivial,trivial,Tryz.underlying37,trivial,Tryz.t37,rfl,rfl,rfl,rfl⟩,⟨trivial,trivial,Tryz.underlying47,⟨y!,y!,y!⟩,Tryz.t47,rfl,rfl,rfl,rfl⟩,Tryz.underlying42,trivial,Tryz.t42,rfl,rfl,rfl,rfl⟩,⟨⟨trivial,trivial,Tryz.underlying68,trivial,Tryz.t68,rfl,rfl,rfl,rfl⟩,trivial,Tryz.underlying73,⟨y!,y!,y!⟩,Tryz.t73,rfl,rfl,rfl,rfl⟩,Tryz.underlying56,⟨y!,y!,y!⟩,Tryz.t56,rfl,rfl,rfl,rfl⟩,⟨⟨⟨trivial,trivial,Tryz.underlying84,⟨y!,y!,y!⟩,Tryz.t84,rfl,rfl,rfl,rfl⟩,trivial,Tryz.underlying85,trivial,Tryz.t85,rfl,rfl,rfl,rfl⟩,⟨⟨trivial,trivial,Tryz.underlying89,⟨y!,y!,y!⟩,Tryz.t89,rfl,rfl,rfl,rfl⟩,trivial,Tryz.underlying95,trivial,Tryz.t95,rfl,rfl,rfl,rfl⟩,Tryz.underlying87,⟨y!,y!,y!⟩,Tryz.t87,rfl,rfl,rfl,rfl⟩,Tryz.underlying81,⟨y!,y!,y!⟩,Tryz.t81,rfl,rfl,rfl,rfl⟩,Tryz.underlying36,trivial,Tryz.t36,rfl,rfl,rfl,rfl⟩,⟨⟨⟨⟨⟨trivial,trivial,Tryz.underlying98,trivial,Tryz.t98,rfl,rfl,rfl,rfl⟩,⟨trivial,trivial,Tryz.underlying103,trivial,Tryz.t103,rfl,rfl,rfl,rfl⟩,Tryz.underlying100,⟨y!,y!,y!⟩,Tryz.t100,rfl,rfl,rfl,rfl⟩,⟨⟨trivial,trivial,Tryz.underlying107,trivial,Tryz.t107,rfl,rfl,rfl,rfl⟩,trivial,Tryz.underlying109,⟨y!,y!,y!⟩,Tryz.t109,rfl,rfl,rfl,rfl⟩,Tryz.underlying105,trivial,Tryz.t105,rfl,rfl,rfl,rfl⟩,⟨⟨⟨trivial,trivial,Tryz.underlying113,⟨y!,y!,y!⟩,Tryz.t113,rfl,rfl,rfl,rfl⟩,trivial,Tryz.underlying115,⟨y!,y!,y!⟩,Tryz.t115,rfl,rfl,rfl,rfl⟩,⟨⟨trivial,trivial,Tryz.underlying122,⟨y!,y!,y!⟩,Tryz.t122,rfl,rfl,rfl,rfl⟩,trivial,Tryz.underlying124,⟨y!,y!,y!⟩,Tryz.t124,rfl,rfl,rfl,rfl⟩,Tryz.underlying120,trivial,Tryz.t120,rfl,rfl,rfl,rfl⟩,Tryz.underlying110,trivial,Tryz.t110,rfl,rfl,rfl,rfl⟩,⟨⟨⟨⟨trivial,trivial,Tryz.underlying130,⟨y!,y!,y!⟩,Tryz.t130,rfl,rfl,rfl,rfl⟩,trivial,Tryz.underlying132,trivial,Tryz.t132,rfl,rfl,rfl,rfl⟩,⟨⟨trivial,trivial,Tryz.underlying141,⟨y!,y!,y!⟩,Tryz.t141,rfl,rfl,rfl,rfl⟩,trivial,Tryz.underlying144,trivial,Tryz.t144,rfl,rfl,rfl,rfl⟩,Tryz.underlying136,⟨y!,y!,y!⟩,Tryz.t136,rfl,rfl,rfl,rfl⟩,⟨⟨⟨trivial,trivial,Tryz.underlying153,⟨y!,y!,y!⟩,Tryz.t153,rfl,rfl,rfl,rfl⟩,trivial,Tryz.underlying155,⟨y!,y!,y!⟩,Tryz.t155,rfl,rfl,rfl,rfl⟩,⟨⟨trivial,trivial,Tryz.underlying160,⟨y!,y!,y!⟩,Tryz.t160,rfl,rfl,rfl,rfl⟩,trivial,Tryz.underlying165,⟨y!,y!,y!⟩,Tryz.t165,rfl,rfl,rfl,rfl⟩,Tryz.underlying156,trivial,Tryz.t156,rfl,rfl,rfl,rfl⟩,Tryz.underlying146,⟨y!,y!,y!⟩,Tryz.t146,rfl,rfl,rfl,rfl⟩,Tryz.underlying128,⟨y!,y!,y!⟩,Tryz.t128,rfl,rfl,rfl,rfl⟩,Tryz.underlying97,⟨y!,y!,y!⟩,Tryz.t97,rfl,rfl,rfl,rfl⟩,⟨⟨⟨⟨⟨⟨trivial,trivial,Tryz.underlying173,⟨y!,y!,y!⟩,Tryz.t173,rfl,rfl,rfl,rfl⟩,⟨trivial,trivial,Tryz.underlying203,trivial,Tryz.t203,rfl,rfl,rfl,rfl⟩,Tryz.underlying188,trivial,Tryz.t188,rfl,rfl,rfl,rfl⟩,⟨⟨trivial,trivial,Tryz.underlying209,⟨y!,y!,y!⟩,Tryz.t209,rfl,rfl,rfl,rfl⟩,trivial,Tryz.underlying211,trivial,Tryz.t211,rfl,rfl,rfl,rfl⟩,Tryz.underlying206,⟨y!,y!,y!⟩,Tryz.t206,rfl,rfl,rfl,rfl⟩,⟨⟨⟨trivial,trivial,Tryz.underlying221,⟨y!,y!,y!⟩,Tryz.t221,rfl,rfl,rfl,rfl⟩,trivial,Tryz.underlying225,trivial,Tryz.t225,rfl,rfl,rfl,rfl⟩,⟨⟨trivial,trivial,Tryz.underlying229,⟨y!,y!,y!⟩,Tryz.t229,rfl,rfl,rfl,rfl⟩,trivial,Tryz.underlying234,trivial,Tryz.t234,rfl,rfl,rfl,rfl⟩,Tryz.underlying227,trivial,Tryz.t227,rfl,rfl,rfl,rfl⟩,Tryz.underlying219,⟨y!,y!,y!⟩,Tryz.t219,rfl,rfl,rfl,rfl⟩,⟨⟨⟨⟨trivial,trivial,Tryz.underlying238,⟨y!,y!,y!⟩,Tryz.t238,rfl,rfl,rfl,rfl⟩,⟨trivial,trivial,Tryz.underlying253,trivial,Tryz.t253,rfl,rfl,rfl,rfl⟩,Tryz.underlying247,trivial,Tryz.t247,rfl,rfl,rfl,rfl⟩,⟨⟨trivial,trivial,Tryz.underlying256,⟨y!,y!,y!⟩,Tryz.t256,rfl,rfl,rfl,rfl⟩,trivial,Tryz.underlying259,trivial,Tryz.t259,rfl,rfl,rfl,rfl⟩,Tryz.underlying254,trivial,Tryz.t254,rfl,rfl,rfl,rfl⟩,⟨⟨⟨trivial,trivial,Tryz.underlying271,⟨y!,y!,y!⟩,Tryz.t271,rfl,rfl,rfl,rfl⟩,trivial,Tryz.underlying282,⟨y!,y!,y!⟩,Tryz.t282,rfl,rfl,rfl,rfl⟩,⟨⟨trivial,trivial,Tryz.underlying312,trivial,Tryz.t312,rfl,rfl,rfl,rfl⟩,trivial,Tryz.underlying323,⟨y!,y!,y!⟩,Tryz.t323,rfl,rfl,rfl,rfl⟩,Tryz.underlying308,⟨y!,y!,y!⟩,Tryz.t308,rfl,rfl,rfl,rfl⟩,Tryz.underlying262,trivial,Tryz.t262,rfl,rfl,rfl,rfl⟩,Tryz.underlying236,trivial,Tryz.t236,rfl,rfl,rfl,rfl⟩,⟨⟨⟨⟨⟨trivial,trivial,Tryz.underlying340,trivial,Tryz.t340,rfl,rfl,rfl,rfl⟩,⟨trivial,trivial,Tryz.underlying345,trivial,Tryz.t345,rfl,rfl,rfl,rfl⟩,Tryz.underlying343,trivial,Tryz.t343,rfl,rfl,rfl,rfl⟩,⟨⟨trivial,trivial,Tryz.underlying354,trivial,Tryz.t354,rfl,rfl,rfl,rfl⟩,trivial,Tryz.underlying364,trivial,Tryz.t364,rfl,rfl,rfl,rfl⟩,Tryz.underlying347,trivial,Tryz.t347,rfl,rfl,rfl,rfl⟩,⟨⟨⟨trivial,trivial,Tryz.underlying382,trivial,Tryz.t382,rfl,rfl,rfl,rfl⟩,trivial,Tryz.underlying386,⟨y!,y!,y!⟩,Tryz.t386,rfl,rfl,rfl,rfl⟩,⟨⟨trivial,trivial,Tryz.underlying396,trivial,Tryz.t396,rfl,rfl,rfl,rfl⟩,trivial,Tryz.underlying404,trivial,Tryz.t404,rfl,rfl,rfl,rfl⟩,Tryz.underlying393,trivial,Tryz.t393,rfl,rfl,rfl,rfl⟩,Tryz.underlying365,trivial,Tryz.t365,rfl,rfl,rfl,rfl⟩,⟨⟨⟨⟨trivial,trivial,Tryz.underlying410,trivial,Tryz.t410,rfl,rfl,rfl,rfl⟩,trivial,Tryz.underlying412,trivial,Tryz.t412,rfl,rfl,rfl,rfl⟩,⟨⟨trivial,trivial,Tryz.underlying423,trivial,Tryz.t423,rfl,rfl,rfl,rfl⟩,trivial,Tryz.underlying440,trivial,Tryz.t440,rfl,rfl,rfl,rfl⟩,Tryz.underlying415,trivial,Tryz.t415,rfl,rfl,rfl,rfl⟩,⟨⟨⟨trivial,trivial,Tryz.underlying444,trivial,Tryz.t444,rfl,rfl,rfl,rfl⟩,trivial,Tryz.underlying448,trivial,Tryz.t448,rfl,rfl,rfl,rfl⟩,⟨⟨trivial,trivial,Tryz.underlying462,⟨y!,y!,y!⟩,Tryz.t462,rfl,rfl,rfl,rfl⟩,trivial,Tryz.underlying463,trivial,Tryz.t463,rfl,rfl,rfl,rfl⟩,Tryz.underlying453,trivial,Tryz.t453,rfl,rfl,rfl,rfl⟩,Tryz.underlying442,trivial,Tryz.t442,rfl,rfl,rfl,rfl⟩,Tryz.underlying409,⟨y!,y!,y!⟩,Tryz.t409,rfl,rfl,rfl,rfl⟩,Tryz.underlying333,trivial,Tryz.t333,rfl,rfl,rfl,rfl⟩,Tryz.underlying169,⟨y!,y!,y!⟩,Tryz.t169,rfl,rfl,rfl,rfl⟩
end Go.Vg
namespace Go.J
open Go.Proofs
def G0:Nat->Option Go.Vg.GD:=λi=>match i with
 |0=>some ⟨[.int .u32],[1779033703,3144134277,1013904242,2773480762,1359893119,2600822924,528734635,1541459225]⟩
 |1=>some ⟨[.int .i64,.int .i64],[(65,90),(97,122),(192,214),(216,246),(248,255),(913,929),(931,937),(945,969),(1024,1119)]⟩
 |2=>some ⟨[.int .u32],Go.S.AI⟩
 |3=>some ⟨[.int .i64,.int .i64,.int .i64],[(65,90,32),(192,214,32),(216,222,32),(913,929,32),(931,937,32),(1024,1039,80),(1040,1071,32)]⟩
 |_=>none
end Go.J
namespace Go.J
open Go Vg
abbrev q0p:M PS:=[]
abbrev ao4:Type:=Unit
abbrev q1p:M PS:=[.one (.int .u32),.one (.int .i64)]
abbrev aCg:Type:=Int×Int
abbrev lz:M PS:=[.one (.slice [.int .u8])]
abbrev fb:Type:=B8
abbrev q3p:M PS:=[.one (.slice [.int .u32]),.one (.slice [.int .u8])]
abbrev aCh:Type:=U×B8
abbrev q4p:M PS:=[.agg [.int .u32,.int .u32,.int .u32,.int .u32,.int .u32,.int .u32,.int .u32,.int .u32,.slice [.int .u8],.int .i64]]
abbrev ao5:Type:=Int×Int×Int×Int×Int×Int×Int×Int×B8×Int
abbrev q5p:M PS:=[.agg [.int .u32,.int .u32,.int .u32,.int .u32,.int .u32,.int .u32,.int .u32,.int .u32],.one (.slice [.int .u8])]
abbrev aeK:Type:=Int×Int×Int×Int×Int×Int×Int×Int×B8
abbrev q6p:M PS:=[.agg [.int .u32,.int .u32,.int .u32,.int .u32,.int .u32,.int .u32,.int .u32,.int .u32,.slice [.int .u8],.int .i64],.one (.slice [.int .u8])]
abbrev aLF:Type:=Int×Int×Int×Int×Int×Int×Int×Int×B8×Int×B8
abbrev D9:M PS:=[.one (.int .i64)]
abbrev pW:Type:=Int
abbrev q8p:M PS:=[.one (.str)]
abbrev aeL:Type:=B8
abbrev q9p:M TA:=[.own 50000,.dJ (.int .i64)]
abbrev aCi:Type:=Int
abbrev q0q:M TB:=[.row 5 [.int .u8]]
abbrev ao6:Type:=B8×Unit
abbrev aLI:M TA:=[.own 50000,.dJ (.str)]
abbrev aFa:Type:=B8
abbrev ZV:M PS:=[.one (.slice [.int .u8]),.one (.int .i64)]
abbrev Qf:Type:=B8×Int
abbrev ao7:M PS:=[.one (.slice [.int .u8]),.one (.str)]
abbrev Wf:Type:=B8×B8
abbrev TL:M PS:=[.agg [.slice [.int .u8],.int .i64,.int .i64]]
abbrev Qg:Type:=B8×Int×Int
abbrev aCj:M PS:=[.one (.slice [.int .u8]),.one (.int .i64),.one (.int .i64)]
abbrev aFb:Type:=B8×Int×Int
abbrev aLJ:M PS:=[.agg [.slice [.int .u8],.int .i64,.int .i64],.one (.int .i64)]
abbrev aFc:Type:=B8×Int×Int×Int
abbrev ao8:M PS:=[.one (.int .i64),.one (.slice [.int .u8])]
abbrev ś:Type:=Int×B8
abbrev LO:M PS:=[.one (.str),.one (.str)]
abbrev Gf:Type:=B8×B8
abbrev aCk:M PS:=[.one (.int .u8),.one (.slice [.slice [.int .u8]])]
abbrev ao9:Type:=UInt8×O
abbrev aLK:M PS:=[.one (.int .i64),.one (.int .i64),.one (.int .i64)]
abbrev aFd:Type:=Int×Int×Int
abbrev aCl:M PS:=[.one (.int .i64),.one (.int .i64)]
abbrev Ŝ:Type:=Int×Int
abbrev CN:M PS:=[.one (.slice [.int .i64])]
abbrev rQ:Type:=U
abbrev yP:M PS:=[.one (.slice [.str])]
abbrev tu:Type:=O
abbrev ZW:M TA:=[.own 50000]
abbrev Gg:Type:=Unit
abbrev q1q:M TB:=[.row 9 [.str]]
abbrev LP:Type:=O×Unit
abbrev aLL:M TA:=[.dJ (.str),.dJ (.str),.ref 50000 0]
abbrev aFe:Type:=B8×B8
abbrev q2q:M TB:=[.cells [.fn (.func 359) [] []]]
abbrev aLM:Type:=Unit×Unit
abbrev aLN:M TA:=[.own 50000,.fn (.func 382) [] [.ref 50001 0]]
abbrev apa:Type:=Unit
abbrev q3q:M TB:=[.row 9 [.str],.cells [.fn (.func 359) [] []]]
abbrev aCm:Type:=O×Unit×Unit
abbrev aLO:M TA:=[.own 50000,.fn (.func 359) [] []]
abbrev aFf:Type:=Unit
abbrev aLP:M TA:=[.dJ (.slice [.str]),.fn (.func 359) [] []]
abbrev aFg:Type:=O
abbrev A7:M TB:=[]
abbrev xc:Type:=Unit
abbrev ZX:M PS:=[.one (.slice [.slice [.int .u8]])]
abbrev J0:Type:=O
abbrev aLQ:M PS:=[.one (.slice [.str]),.one (.int .i64)]
abbrev apb:Type:=O×Int
abbrev aLR:M TA:=[.dJ (.int .i64),.dJ (.bool),.dJ (.bool),.ref 50000 0]
abbrev aFh:Type:=Int×Bool×Bool
abbrev q5q:M TB:=[.cells [.dJ (.int .i64),.dJ (.int .i64)]]
abbrev apc:Type:=(Int×Int)×Unit
abbrev aCn:M TA:=[.dJ (.slice [.int .i64]),.dJ (.slice [.int .i64]),.fn (.func 384) [] [.ref 50000 0]]
abbrev apd:Type:=U×U
abbrev ape:M PS:=[.one (.slice [.int .i64]),.agg [.int .i64,.int .i64]]
abbrev ŝ:Type:=U×Int×Int
abbrev Qh:M PS:=[.one (.slice [.int .i64]),.one (.slice [.int .i64])]
abbrev Gh:Type:=U×U
abbrev LQ:M PS:=[.one (.slice [.str,.slice [.int .i64]])]
abbrev vP:Type:=M (B8×U)
abbrev aCo:M PS:=[.agg [.str,.str,.str]]
abbrev apf:Type:=B8×B8×B8
abbrev apg:M PS:=[.one (.slice [.str,.slice [.int .i64]]),.one (.str)]
abbrev Wg:Type:=M (B8×U)×B8
abbrev Qi:M PS:=[.one (.slice [.slice [.int .u8]]),.agg [.int .i64,.int .i64]]
abbrev CO:Type:=O×Int×Int
abbrev aph:M PS:=[.one (.slice [.str,.slice [.int .i64]]),.one (.slice [.str,.slice [.int .i64]])]
abbrev Ş:Type:=M (B8×U)×M (B8×U)
abbrev aLS:M PS:=[.agg [.int .i64,.int .i64]]
abbrev aFj:Type:=Int×Int
abbrev TM:M PS:=[.agg [.int .i64,.int .i64,.slice [.str,.slice [.int .i64]]]]
abbrev Qj:Type:=Int×Int×M (B8×U)
abbrev aLT:M PS:=[.agg [.int .i64,.int .i64,.int .i64,.str]]
abbrev aFk:Type:=Int×Int×Int×B8
abbrev aLU:M PS:=[.one (.slice [.int .i64,.int .i64,.int .i64,.str]),.one (.int .i64)]
abbrev api:Type:=M (Int×Int×Int×B8)×Int
abbrev aLV:M PS:=[.agg [.int .i64,.int .i64,.slice [.str,.slice [.int .i64]]],.agg [.int .i64,.int .i64,.slice [.str,.slice [.int .i64]]]]
abbrev aFl:Type:=Int×Int×M (B8×U)×Int×Int×M (B8×U)
abbrev aLW:M PS:=[.agg [.str,.slice [.int .i64]],.agg [.str,.slice [.int .i64]]]
abbrev aFm:Type:=B8×U×B8×U
abbrev aLX:M TA:=[.dJ (.slice [.str,.slice [.int .i64]]),.dJ (.slice [.str,.slice [.int .i64]]),.fn (.func 356) [] []]
abbrev apj:Type:=M (B8×U)×M (B8×U)
abbrev lO:M PS:=[.agg [.slice [.slice [.int .u8]],.slice [.int .i64,.int .i64,.slice [.str,.slice [.int .i64]]]]]
abbrev iv:Type:=O×M (Int×Int×M (B8×U))
abbrev apk:M PS:=[.agg [.slice [.slice [.int .u8]],.slice [.int .i64,.int .i64,.slice [.str,.slice [.int .i64]]]],.one (.slice [.int .u8])]
abbrev apl:Type:=O×M (Int×Int×M (B8×U))×B8
abbrev Qk:M PS:=[.agg [.int .i64,.str,.slice [.int .i64,.int .i64,.int .i64,.str]]]
abbrev Gi:Type:=Int×B8×M (Int×Int×Int×B8)
abbrev aeM:M TA:=[.dJ (.int .i64),.ref 50000 0,.ref 50001 0]
abbrev apm:Type:=Int
abbrev q6q:M TB:=[.cells [.dJ (.int .i64)],.cells [.nil]]
abbrev aLZ:Type:=Int×Unit×Unit
abbrev q7q:M TB:=[.cells [.dJ (.int .i64)],.cells [.own 50002],.row 5 [.int .u8]]
abbrev aL1:Type:=Int×Unit×B8×Unit
abbrev aL2:M TA:=[.dJ (.str),.ref 50000 0]
abbrev aFn:Type:=B8
abbrev q8q:M TB:=[.cells [.own 50001],.row 5 [.int .u8]]
abbrev aL3:Type:=Unit×B8×Unit
abbrev AN:M TA:=[.ref 50000 0]
abbrev vQ:Type:=Unit
abbrev Wh:M TB:=[.cells [.dJ (.slice [.int .u8]),.dJ (.int .i64),.dJ (.int .i64)]]
abbrev E3:Type:=(B8×Int×Int)×Unit
abbrev aL4:M TA:=[.ref 50000 0,.ref 50001 0,.ref 50002 0]
abbrev aFo:Type:=Unit
abbrev aL5:M TB:=[.cells [.dJ (.int .i64)],.cells [.fn (.func 319) [] [.ref 50003 0]],.cells [.fn (.func 320) [] [.ref 50003 0]],.cells [.dJ (.slice [.int .u8]),.dJ (.int .i64),.dJ (.int .i64)]]
abbrev aFp:Type:=Int×Unit×Unit×(B8×Int×Int)×Unit
abbrev aCp:M PS:=[.one (.slice [.int .i64,.str])]
abbrev Wi:Type:=M (Int×B8)
abbrev aL6:M TA:=[.ref 50000 0,.ref 50001 0,.ref 50002 0,.ref 50003 0]
abbrev aFq:Type:=Unit
abbrev aL7:M TB:=[.cells [.dJ (.int .i64)],.cells [.nil],.cells [.dJ (.slice [.int .u8])],.cells [.dJ (.int .i64)]]
abbrev aFr:Type:=Int×Unit×B8×Int×Unit
abbrev ZY:M TB:=[.cells [.dJ (.slice [.int .i64,.int .i64,.str]),.dJ (.int .i64),.dJ (.int .i64),.nil]]
abbrev J1:Type:=(M (Int×Int×B8)×Int×Int)×Unit
abbrev aCq:M TB:=[.cells [.dJ (.slice [.int .i64,.int .i64,.str]),.dJ (.int .i64),.dJ (.int .i64),.own 50001],.row 81 [.int .i64,.str]]
abbrev aFs:Type:=(M (Int×Int×B8)×Int×Int)×(M (Int×B8))×Unit
abbrev TN:M TA:=[.ref 50000 0,.dJ (.int .i64)]
abbrev CP:Type:=Int
abbrev TO:M TB:=[.cells [.own 50001,.dJ (.bool)],.row 5 [.int .u8]]
abbrev Gj:Type:=Bool×B8×Unit
abbrev aL8:M TA:=[.ref 50000 0,.dJ (.slice [.int .u8]),.dJ (.int .i64)]
abbrev aFt:Type:=B8×Int
abbrev aL9:M TA:=[.ref 50000 0,.agg [.dJ (.int .i64),.dJ (.str),.dJ (.slice [.int .i64,.int .i64,.int .i64,.str])]]
abbrev aFu:Type:=Int×B8×M (Int×Int×Int×B8)
abbrev aMa:M TA:=[.ref 50000 0,.dJ (.slice [.str])]
abbrev apn:Type:=O
abbrev aMb:M TA:=[.ref 50000 0,.agg [.dJ (.int .i64),.dJ (.str),.dJ (.str),.dJ (.str),.dJ (.slice [.str]),.dJ (.slice [.int .u8])]]
abbrev aFv:Type:=Int×B8×B8×B8×O×B8
abbrev aCr:M PS:=[.agg [.int .i64,.str,.slice [.int .i64,.int .i64,.int .i64,.str],.slice [.slice [.int .i64,.str,.str,.str,.slice [.str],.slice [.int .u8]]]]]
abbrev apo:Type:=Int×B8×M (Int×Int×Int×B8)×M (M (Int×B8×B8×B8×O×B8))
abbrev aMc:M PS:=[.agg [.int .i64,.str,.slice [.int .i64,.int .i64,.int .i64,.str],.int .i64,.slice [.int .u8],.slice [.str]]]
abbrev aFw:Type:=Int×B8×M (Int×Int×Int×B8)×Int×B8×O
abbrev LS:M TA:=[.dJ (.slice [.int .u8]),.dJ (.int .u8)]
abbrev apq:Type:=B8×UInt8
abbrev Iu:M PS:=[.one (.slice [.int .u8]),.one (.slice [.int .u8])]
abbrev Ql:Type:=B8×B8
abbrev aeN:M TA:=[.dJ (.str),.ref 50000 0,.ref 50001 0,.ref 50002 0]
abbrev apr:Type:=B8
abbrev aCs:M TB:=[.cells [.dJ (.slice [.str,.slice [.int .i64]])],.cells [.dJ (.int .i64)],.cells [.nil]]
abbrev aFx:Type:=(M (B8×U))×Int×Unit×Unit
abbrev aCt:M TB:=[.cells [.dJ (.slice [.str,.slice [.int .i64]])],.cells [.dJ (.int .i64)],.cells [.own 50003],.row 115 [.int .i64,.str,.str,.str,.slice [.str],.slice [.int .u8]]]
abbrev aFy:Type:=(M (B8×U))×Int×Unit×(M (Int×B8×B8×B8×O×B8))×Unit
abbrev aCu:M TA:=[.dJ (.slice [.str,.slice [.int .i64]]),.ref 50000 0,.ref 50001 0]
abbrev aps:Type:=M (B8×U)
abbrev aCv:M TB:=[.cells [.dJ (.int .i64)],.cells [.dJ (.slice [.str])]]
abbrev apt:Type:=Int×O×Unit
abbrev aCw:M PS:=[.agg [.slice [.slice [.int .u8]],.slice [.int .i64,.int .i64,.slice [.str,.slice [.int .i64]]]],.one (.slice [.int .i64,.str])]
abbrev apu:Type:=O×M (Int×Int×M (B8×U))×M (Int×B8)
abbrev aMd:M PS:=[.agg [.slice [.slice [.int .u8]],.slice [.int .i64,.int .i64,.slice [.str,.slice [.int .i64]]]],.one (.int .i64)]
abbrev aFz:Type:=O×M (Int×Int×M (B8×U))×Int
abbrev aCx:M PS:=[.one (.str),.one (.int .i64),.one (.int .i64),.one (.slice [.str])]
abbrev apv:Type:=B8×Int×Int×O
abbrev apw:M PS:=[.one (.int .i64),.one (.bool),.one (.bool)]
abbrev ş:Type:=Int×Bool×Bool
abbrev aCy:M TA:=[.dJ (.slice [.int .i64]),.dJ (.slice [.int .i64]),.fn (.func 243) [] []]
abbrev apx:Type:=U×U
abbrev aCz:M TA:=[.dJ (.slice [.int .i64]),.dJ (.slice [.int .i64]),.fn (.func 244) [] []]
abbrev apy:Type:=U×U
abbrev aCA:M TA:=[.dJ (.slice [.int .i64]),.dJ (.slice [.int .i64]),.fn (.func 245) [] []]
abbrev apz:Type:=U×U
abbrev aMe:M PS:=[.one (.slice [.str]),.one (.str)]
abbrev apA:Type:=O×B8
abbrev aMf:M PS:=[.one (.str),.var [.slice [.str]],.var [.slice [.slice [.int .i64]]]]
abbrev aFA:Type:=B8×O×M U
abbrev Qm:M TA:=[.dJ (.str),.ref 50000 0,.ref 50001 0]
abbrev Wj:Type:=B8
abbrev aCB:M TB:=[.cells [.own 50002],.cells [.fn (.func 130) [] []],.row 36 [.slice [.int .i64]]]
abbrev aFB:Type:=Unit×Unit×(M U)×Unit
abbrev aCC:M TB:=[.cells [.own 50002],.cells [.fn (.func 131) [] []],.row 36 [.slice [.int .i64]]]
abbrev aFC:Type:=Unit×Unit×(M U)×Unit
abbrev aCD:M TB:=[.cells [.own 50002],.cells [.fn (.func 132) [] []],.row 36 [.slice [.int .i64]]]
abbrev aFD:Type:=Unit×Unit×(M U)×Unit
abbrev aMg:M TB:=[.cells [.own 50002],.cells [.fn (.func 126) [] [.var [.slice [.str]],.var [.slice [.slice [.int .i64]]]],.fn (.func 130) [] [],.fn (.func 131) [] [],.fn (.func 132) [] []],.row 36 [.slice [.int .i64]]]
abbrev aFE:Type:=Unit×(O×M U)×(M U)×Unit
abbrev aMh:M TA:=[.dJ (.slice [.int .i64,.str]),.agg [.fn (.func 126) [] [.var [.slice [.str]],.var [.slice [.slice [.int .i64]]]],.fn (.func 130) [] [],.fn (.func 131) [] [],.fn (.func 132) [] []]]
abbrev apB:Type:=M (Int×B8)×O×M U
abbrev aCE:M PS:=[.one (.slice [.int .i64,.str]),.one (.slice [.slice [.int .i64]])]
abbrev apC:Type:=M (Int×B8)×M U
abbrev aMi:M PS:=[.agg [.int .i64,.str,.str,.str,.slice [.str],.slice [.int .u8]],.var [.str],.var [.int .i64]]
abbrev aFF:Type:=Int×B8×B8×B8×O×B8×B8×Int
abbrev aMj:M PS:=[.agg [.int .i64,.str,.str,.str,.slice [.str],.slice [.int .u8]],.var [.str]]
abbrev aFG:Type:=Int×B8×B8×B8×O×B8×B8
abbrev aMk:M TA:=[.dJ (.str),.agg [.dJ (.int .i64),.dJ (.str),.dJ (.str),.dJ (.str),.dJ (.slice [.str]),.dJ (.slice [.int .u8])]]
abbrev aFH:Type:=B8×Int×B8×B8×B8×O×B8
abbrev aMl:M PS:=[.one (.str),.one (.int .i64),.one (.str),.agg [.int .i64,.str,.str,.str,.slice [.str],.slice [.int .u8]]]
abbrev apD:Type:=B8×Int×B8×Int×B8×B8×B8×O×B8
abbrev aMm:M PS:=[.var [.int .i64,.str,.slice [.int .i64,.int .i64,.int .i64,.str]],.var [.str]]
abbrev aFI:Type:=Int×B8×M (Int×Int×Int×B8)×B8
abbrev aMn:M PS:=[.agg [.int .i64,.str,.slice [.int .i64,.int .i64,.int .i64,.str]],.one (.str)]
abbrev aFJ:Type:=Int×B8×M (Int×Int×Int×B8)×B8
abbrev aMo:M PS:=[.var [.int .i64,.str,.slice [.int .i64,.int .i64,.int .i64,.str],.slice [.slice [.int .i64,.str,.str,.str,.slice [.str],.slice [.int .u8]]]],.var [.int .i64],.var [.slice [.str]]]
abbrev aFK:Type:=Int×B8×M (Int×Int×Int×B8)×M (M (Int×B8×B8×B8×O×B8))×Int×O
abbrev aCF:M PS:=[.var [.int .i64,.str,.slice [.int .i64,.int .i64,.int .i64,.str],.int .i64,.slice [.int .u8],.slice [.str]],.var [.int .i64]]
abbrev apE:Type:=Int×B8×M (Int×Int×Int×B8)×Int×B8×O×Int
abbrev aMp:M PS:=[.one (.str),.one (.int .i64),.one (.slice [.int .u8])]
abbrev aFL:Type:=B8×Int×B8
abbrev ZZ:M TA:=[.var [.int .i64,.int .i64,.int .i64,.str],.var [.str],.var [.int .i64,.str,.slice [.int .i64,.int .i64,.int .i64,.str],.slice [.slice [.int .i64,.str,.str,.str,.slice [.str],.slice [.int .u8]]]],.var [.int .i64],.var [.int .i64],.ref 50000 0]
abbrev Š:Type:=Int×Int×Int×B8×B8×Int×B8×M (Int×Int×Int×B8)×M (M (Int×B8×B8×B8×O×B8))×Int×Int
abbrev Z0:M TB:=[.cells [.own 50001],.ek 36 50002,.row 3 [.int .i64]]
abbrev š:Type:=Unit×(M Value×Nat)×U×Unit
abbrev aCG:M PS:=[.var [.int .i64,.int .i64,.int .i64,.str],.var [.str],.var [.int .i64,.str,.slice [.int .i64,.int .i64,.int .i64,.str],.slice [.slice [.int .i64,.str,.str,.str,.slice [.str],.slice [.int .u8]]]],.var [.int .i64],.var [.int .i64]]
abbrev aFM:Type:=Int×Int×Int×B8×B8×Int×B8×M (Int×Int×Int×B8)×M (M (Int×B8×B8×B8×O×B8))×Int×Int
abbrev aMq:M PS:=[.one (.str),.one (.slice [.int .i64,.str]),.one (.slice [.int .u8])]
abbrev apF:Type:=B8×M (Int×B8)×B8
abbrev aCH:M PS:=[.agg [.slice [.int .u8],.slice [.int .u8]]]
abbrev aFN:Type:=B8×B8
abbrev aCI:M PS:=[.var [.slice [.int .u8]],.var [.slice [.int .u8]]]
abbrev aFO:Type:=B8×B8
abbrev aCJ:M PS:=[.one (.slice [.slice [.int .u8]]),.one (.int .i64),.one (.slice [.int .u8]),.one (.slice [.str])]
abbrev apG:Type:=O×Int×B8×O
abbrev aCK:M PS:=[.one (.slice [.str,.slice [.int .i64]]),.one (.str),.agg [.int .i64,.str,.str,.str,.slice [.str],.slice [.int .u8]]]
abbrev aFP:Type:=M (B8×U)×B8×Int×B8×B8×B8×O×B8
abbrev TP:M PS:=[.agg [.int .i64,.str,.slice [.int .i64,.int .i64,.int .i64,.str],.slice [.slice [.int .u8]],.slice [.int .i64,.int .i64,.slice [.str,.slice [.int .i64]]]]]
abbrev Ţ:Type:=Int×B8×M (Int×Int×Int×B8)×O×M (Int×Int×M (B8×U))
abbrev aCL:M PS:=[.agg [.int .i64,.str,.slice [.int .i64,.int .i64,.int .i64,.str],.slice [.slice [.int .u8]],.slice [.int .i64,.int .i64,.slice [.str,.slice [.int .i64]]],.slice [.str],.slice [.slice [.int .i64,.str,.str,.str,.slice [.str],.slice [.int .u8]]]]]
abbrev apH:Type:=Int×B8×M (Int×Int×Int×B8)×O×M (Int×Int×M (B8×U))×O×M (M (Int×B8×B8×B8×O×B8))
abbrev aCM:M PS:=[.agg [.int .i64,.str,.slice [.int .i64,.int .i64,.int .i64,.str],.slice [.slice [.int .u8]],.slice [.int .i64,.int .i64,.slice [.str,.slice [.int .i64]]],.int .i64,.slice [.int .u8],.slice [.str]]]
abbrev aFQ:Type:=Int×B8×M (Int×Int×Int×B8)×O×M (Int×Int×M (B8×U))×Int×B8×O
abbrev aCN:M PS:=[.agg [.slice [.slice [.int .u8]],.slice [.int .i64,.int .i64,.slice [.str,.slice [.int .i64]]]],.one (.slice [.int .i64,.str]),.one (.slice [.int .u8])]
abbrev aFR:Type:=O×M (Int×Int×M (B8×U))×M (Int×B8)×B8
abbrev TQ:M PS:=[.agg [.slice [.slice [.int .u8]],.slice [.int .i64,.int .i64,.slice [.str,.slice [.int .i64]]]],.one (.int .i64),.one (.slice [.int .u8])]
abbrev apI:Type:=O×M (Int×Int×M (B8×U))×Int×B8
end Go.J
namespace Go
open List (length getD take drop replicate)
open Int (toNat)
def q0(a:Int×Int×B8)(b:S.El)(c:Prop):Prop:=a.1=b.1/\a.2.1=b.2.1/\a.2.2=b.2.2/\c
def q2(a:Int×Int)(b:S.Rs):Prop:=a.1=b.1/\a.2=b.2
def q4(a b:S.Hd)(c:Prop):Prop:=a.1=b.1/\a.2.1=b.2.1/\a.2.2=b.2.2/\c
def Ac(a:B8)(b:S.Cl)(c:B8)(d:Bool):Prop:=a=b.1.1/\c=b.1.2/\d=b.2
def ţ(a b:S.Cl):Prop:=Ac a.1.1 b a.1.2 a.2
def Ť(a:S.Rd×B8)(b:B8)(c d:Int)(e:B8):Prop:=b=a.1.1/\c=a.1.2.1/\d=a.1.2.2/\e=a.2
def Z1(a:U×U×U)(b c d:U):Prop:=b=a.1/\c=a.2.1/\d=a.2.2
def q35(a b:B8×Int):Prop:=a.1=b.1/\a.2=b.2
def q36(a:(Int×B8×M S.Sg×M (M S.Pf))×Int)(b:Int)(c:B8)(d:M S.Sg)(e:M (M S.Pf))(f:Int):Prop:=b=a.1.1/\c=a.1.2.1/\d=a.1.2.2.1/\e=a.1.2.2.2/\f=a.2
def q37(a b:S.Rs)(c:Prop):Prop:=a.1=b.1/\a.2=b.2/\c
def q38(a:(Int×B8×M S.Sg×Int×B8×O)×Int)(b:Int)(c:B8)(d:M S.Sg)(e:Int)(f:B8)(g:O)(h:Int):Prop:=b=a.1.1/\c=a.1.2.1/\d=a.1.2.2.1/\e=a.1.2.2.2.1/\f=a.1.2.2.2.2.1/\g=a.1.2.2.2.2.2/\h=a.2
def TR(a:S.H8):=a.2.2.2.2.2.2.2
def TS(a:S.H8):=a.2.2.2.2.2.2.1
def q39(a:S.H8)(b c d e f g h i:Int):Prop:=b=a.1/\c=a.2.1/\d=a.2.2.1/\e=a.2.2.2.1/\f=a.2.2.2.2.1/\g=a.2.2.2.2.2.1/\h=TS a/\i=TR a
def q40(a:Int×Int×Int×Int)(b c d e:Int):Prop:=b=a.1/\c=a.2.1/\d=a.2.2.1/\e=a.2.2.2
def ť(a b:S.H8)(c:Prop):Prop:=a.1=b.1/\a.2.1=b.2.1/\a.2.2.1=b.2.2.1/\a.2.2.2.1=b.2.2.2.1/\c
def q48(a b:S.H8)(c:Prop):Prop:=ť a b (a.2.2.2.2.1=b.2.2.2.2.1/\a.2.2.2.2.2.1=b.2.2.2.2.2.1/\TS a=TS b/\TR a=TR b/\c)
def q49(a b:S.H8):Prop:=ť a b (a.2.2.2.2.1=b.2.2.2.2.1/\a.2.2.2.2.2.1=b.2.2.2.2.2.1/\TS a=TS b/\TR a=TR b)
def q50(a:S.Pf×Int)(b:Int)(c d e:B8)(f:O)(g:B8)(h:Int):Prop:=b=a.1.1/\c=a.1.2.1/\d=a.1.2.2.1/\e=a.1.2.2.2.1/\f=a.1.2.2.2.2.1/\g=a.1.2.2.2.2.2/\h=a.2
def Iv(a:Nat):Prop:=a<=140737488355328
def dp(a:Bool)(b c:Prop):Prop:=(a->b)/\(a=false->c)
def oX(a b:Int):=Bool.not (decide (a=b))
def kI(a b:Bool):=bif a then true else b
def bH(a b c:Int):Prop:=a<=b/\b<c
def cI(a:Int):Prop:=-9223372036854775808<=a/\a<=9223372036854775807
def cm(a:Bool)(b c d:Prop):Prop:=dp a b (c/\d)
def om(a b:Bool):=bif a then b else false
def jI(a:B8):Prop:=Iv a.length
def bE(a:O):Int:=a.length
def jt(a:Int):=a%4294967296
def vR(a b c:Nat):Prop:=S.ag a b<S.ag a c
def fB(a:B8):Int:=a.length
def dV(a:Prop):Prop:=True/\a
def cQ(a:U):Int:=a.length
def qS(a:O)(b:Nat):=getD a b []
def Ea(a:Int):=UInt8.ofNat (toNat a)
def mu(a b c:Int)(d:Prop):Prop:=cI a/\bH b a c/\d
def nC(a:B8):Prop:=a.length<=35184372088832
def ew(a:O)(b:Int):=qS a (toNat b)
def ov(a:Bool)(b:Prop)(c:Int)(d:Prop):Prop:=cm a b (cI c) d
def fj(a:Bool)(b:Prop):Prop:=dp a b True
def sT(a b:Int):=a^toNat b
def ca(a:Bool)(b c d e:Prop):Prop:=cm a b c (d/\e)
def dh(a:Int)(b:Prop):Prop:=cI (a+1)/\b
def apN:=Prod B8 U
def jP:=Vg.pO UInt8
def E4(a b:Int)(c:Bool):=om (decide (a<=b)) c
def Iw(a b:Int)(c:Bool):=kI (decide (a<b)) c
def lA(a:Bool):Prop:=(a->True)/\(a=false->True)
def rj(a:Bool)(b:Prop)(c:Int)(d:Prop):Prop:=ov a b (c+1) d
def AO(a:Nat):Prop:=a<=5864062014805
def Ix(a:Int):=a%18446744073709551616
def tJ(a:Bool)(b:Prop):Prop:=dp a True b
def gj(a b:Prop):Prop:=dV (a/\b)
def lB(a:M (B8×U)):Int:=a.length
def xd(a b:Bool):=kI a (Bool.not b)
def sU(a:U×Int)(b:Int):Prop:=[]=a.1/\b=a.2
def tK(a:S.Cl):Prop:=Ac [] a [] false
def nD(a b:B8):Prop:=Iv (a.length+b.length)
def apO(a:UInt8):=(S.fW (Vg.pO B8) (Vg.pO (Prod Int (Prod Int (M apN)))) [104,a,121]).1
def qM(a:B8)(b:Prop):Prop:=S.small a/\b
def E5(a b c:Int):=Vg.eN (Vg.eN a b) c
def xe(a:B8×Int)(b:Int):Prop:=[]=a.1/\b=a.2
def Qn(a:M Vg.CF):=(Vg.aB.first a).2
def iw(a b:Nat)(c d:Prop)(e:Nat):Prop:=((a:Int)+1=b/\c)/\d/\vR e b a
def LU(a b c:Int):=E4 a b (decide (b<=c))
def sV(a:Bool)(b:Int)(c:U):=bif a then drop (toNat b) c else c
def Iy(a:Bool)(b c:B8):=om a (decide (b=c))
def Iz(a:Bool)(b c:Int):=kI a (decide (b<c))
def E6(a b:Nat)(c:Prop)(d:Nat):Prop:=iw a b c (S.cw b d) d
def mv(a:Int)(b:Nat)(c d:Prop)(e f:Nat):Prop:=(a=b/\c)/\d/\S.ag e b<f
def LV(a:Nat):Prop:=a<=3518437208883
def gM(a:B8)(b:S.Wp):=a++S.bytesOf b
def rk(a:Prop)(b:Bool)(c d e:Int)(f g:Prop):Prop:=a->dp b (bH c d e/\f) g
def Z2(a:UInt8):=(S.fy (apO a).1 (apO a).2).1
def ko(a:Int):=Ea (a%256)
def CQ(a b:Int):=S.rotl a (-b)
def Qo(a:Int):=Bool.not (decide (a=a))
def Qp(a:B8):Prop:=a.length<=1099511627776
def CR(a b:Int):Prop:=S.tX a (-b)
def IA(a:U):=Bool.not (S.bq a)
def TT(a b c:Int):=Iw a b (decide (c<=a))
def CS(a:M U)(b:Nat):=getD a b []
def vT(a:Prop)(b:Bool)(c d e:Int)(f g h:Prop):Prop:=a->dp b (bH c d e/\f/\g) h
def vU(a b:Bool)(c:Int)(d:Prop):Prop:=rj a (false=b) c d
def E7(a b c d:Int):Prop:=a<=b/\b<=c/\c<=d
def LW(a b:B8):=Bool.not (decide (a=b))
def Qq:Prop:=true=true
def rl(a:B8)(b:Prop):Prop:=S.ax a/\b
def TU(a:B8):Prop:=a.length<1099511627776
def IB:=cQ S.so
def LX(a b c:Int)(d:Prop):Prop:=cI a/\(b<=a/\a<=c)/\d
def vV(a:M (B8×U))(b:Prop):Prop:=S.aY a/\b
def yQ(a:Bool)(b c:Prop):Prop:=dV (dp a b c)
def Z3(a b c:Int):=Iw a b (decide (c<a))
def AP(a b:O):Prop:=a.length+b.length<=8796093022208
def AQ(a b:U):Prop:=a.length+b.length<=17592186044416
def lC(a:M (B8×U))(b:Int):=getD a (toNat b) ([],[])
def oY(a b:Nat)(c:Prop)(d:Nat):Prop:=(a:Int)+1=b/\c/\vR d b a
def mK(a:Int)(b:Int×Int)(c:Int):Prop:=a=b.1/\c=b.2
def AR(a:Int×Int)(b:Int):Prop:=mK 65533 a b
def cR(a:Int):=oX a 0
def Z4(a:Bool)(b:Int)(c:Bool)(d e:Int):=bif a then b else bif c then d else e
def Qr:Prop:=[]=S.jG
def TV(a b:Bool)(c:Prop):Prop:=tJ a (dV (tJ b (dV c)))
def CT(a:Int)(b:B8):=decide (a<fB b)
def Z5(a b:Int):Prop:=toNat a<toNat b
def Z6(a:Int)(b:U):=a::a::a::a::a::a::a::a::a::a::a::a::a::a::a::a::b
def IC(a:B8)(b:Nat):Prop:=Iv (a.length+b)
def dA(a:Int):=decide (a=0)
def TW(a b:Int)(c:Prop):Prop:=a=a/\b=b/\c
def aeO(a b:B8):=Op.bytesLess a b||decide (a=b)
def TX(a:S.Hd×Int)(b c:Int):Prop:=b=a.1.1/\[]=a.1.2.1/\[]=a.1.2.2/\c=a.2
def ID(a b:Bool)(c d:Int):=om a (kI b (decide (c<=d)))
def LY(a:Nat)(b:B8):Prop:=Iv (a+b.length)
def fF(a:M (Int×Int×M (B8×U)))(b c:Int):=getD a (toNat b) (c,c,[])
def IE(a:Int)(b:Prop):Prop:=S.jq a/\b
def Z7(a b c d e f g h:Int)(i:Prop):Prop:=bH a b c/\bH a d c/\bH a e c/\bH a f c/\bH a g c/\bH a h c/\i
def ix(a b:Int)(c:Prop):Prop:=(0<=a/\a<=b)/\c
def IF(a:Bool)(b c d:Int):Prop:=ca a True (b<=b/\b<c) (b<=b) (b<d)
def Qs(a:Int)(b:UInt8):=replicate (toNat a) b
def Qt(a:Int):Prop:=a=a/\S.jG=S.jG
def IG(a b c:Int):Prop:=(a<=a/\a<b)/\a<=c/\c<=b
def Qu(a b:B8):Prop:=qM a (S.sum a=b)
def aMs(a:Int)(b:Nat)(c:Int)(d:M (Int×B8))(e:Int)(f g:Nat):Prop:=mv (a+1) b (c=S.gB d b/\e=S.nW d b) (S.nA d b) f g
def LZ(a:Int):Int:=UInt8.toNat (S.more a)
def L0(a:Int):=Bool.not (S.cu a)
def Z8(a b c:Bool):=bif a then kI b c else c
def kp(a b:Int):=a/sT 2 b
def apP(a b c d:Int):=jt (a+E5 (Vg.aT b c) (Vg.aT b d) (Vg.aT c d))
def aeP(a:Int):=getD S.so (toNat a) a
def Z9(a b c:Int):Prop:=a<=b/\b<=b/\b<=140737488355328/c
def À(a:O)(b:UInt8)(c:Nat)(d:B8):Prop:=S.oS a/\S.gS b a=S.bA c d
def fY(a:B8)(b:Int):Int:=UInt8.toNat (getD a (toNat b) 0)
def Á(a:Bool)(b c d e f g h i:Int):=(bif a then 1779033703 else b,bif a then 3144134277 else c,bif a then 1013904242 else d,bif a then 2773480762 else e,bif a then 1359893119 else f,bif a then 2600822924 else g,bif a then 528734635 else h,bif a then 1541459225 else i)
def gF(a:Int):=decide (0<a)
def aeQ(a:M (Int×Int×B8)):Prop:=length S.kE1+a.length<=4398046511104
def aeR(a:U×U×U)(b c:U)(d:S.Kp):Prop:=Z1 a (bif IA b then [] else b) (bif IA c then [] else c) []/\S.mI d b c a
def jk(a:U)(b:Int):=getD a (toNat b) 0
def TY(a:Int):=decide (a<128)
def E8(a:B8):=oX (fB a) 32
def yR:Prop:=(0:Int)=0
def qN(a:B8×B8)(b:S.Cl):=Vg.AV.bc [Vg.AV.agg [Vg.AV.sl [Vg.Ty.int IntKind.u8] a.1,Vg.AV.sl [Vg.Ty.int IntKind.u8] a.2],Vg.AV.bool b.2]
def J2:=(Z2 97).2
def J3:=(Z2 97).1
def Gk(a:Int):=decide (64<a)
def vW(a:Nat)(b:Prop)(c:Nat):Prop:=((0:Int)=a/\b)/\S.cw a c
def vX(a:Prop)(b:Bool)(c d:Int)(e f g:Prop):Prop:=a->cm b (bH 0 c d/\e) f g
def Ŧ(a b c:Int):=bif om (dA a) (oX (S.A5 S.kE b).1 (-c)) then c else a
def Qv:=(S.ri (Z2 97).1 (Z2 97).2 S.jG).1
def ŧ:=S.kJ (S.eX J3 J2).1 S.jG Qv
def CU:Int:=((64:Nat):Int)
def Gl:Int×Int×Int×Int×Int×Int×Int×Int:=(1779033703,3144134277,1013904242,2773480762,1359893119,2600822924,528734635,1541459225)
def lD(a:U)(b:Nat):=getD a b 0
def gT(a:U):=getD a (toNat 0) 0
def Ad:Int:=((8:Nat):Int)
def nE(a:Int):=decide (0<=a)
def J4(a:Int):=decide (a=1)
def J5:Int:=((1:Nat):Int)
def Qw(a:B8)(b c:Int)(d:Nat):=S.aD a (S.iu a b c d).1.1 (S.iu a b c d).1.2
def J6(a:B8)(b c:Int):=S.ly a (S.af a b c).1.2.1 (S.af a b c).1.2.2
def J7(a:B8)(b c:Int):=S.rN a (J6 a b c).1.1 (J6 a b c).1.2
def Wk(a:M (Int×Int×M (B8×U)))(b:O)(c:M (M (Int×B8×B8×B8×O×B8)))(d:Nat)(e:Nat×Nat):=S.iD (getD a (toNat d) (0,0,[])).2.2 (qS b (toNat e.1)) (getD (getD c (toNat d) []) (toNat e.1) (0,[],[],[],[],[]))
def Qx(a:B8)(b:Int)(c d:O)(e:Nat):=Vg.aB.first (Vg.aB.put (S.pV c b a d e) (toNat (bE d)) (S.gh (S.bA 0 a) (S.bA 0 (ew c b))) (qN (S.bt (S.bA 0 a) (S.bA 0 (ew c b))).1 (S.bt (S.bA 0 a) (S.bA 0 (ew c b)))))
def rR(a:O×M Bool×O×Int):=S.split (bE a.2.2.1)
def xI(a:O)(b:Nat):=toNat (bE a-1-b)
def J8(a:B8)(b:Int)(c d:O)(e:O×M Bool×O×Int)(f:Nat):=bif getD e.2.1 (xI d f) false then ew d f else S.cD (S.leaf a) b (S.len c) d f
def J9(a:B8)(b:Int)(c d:O)(e:O×M Bool×O×Int)(f:Nat):=bif getD e.2.1 (xI d f) false then S.cD (S.leaf a) b (S.len c) d f else ew d f
def Qy(a:O):=toNat (S.split (bE a))
def Ũ(a:O):=S.jS (take (Qy a) a)++S.jS (drop (Qy a) a)
def xJ(a:B8):=(S.aU a).1.2.2.2
def tv(a:B8):=(S.aU a).1.2.2.1
def CV(a:B8):=(S.aU a).1.2.1
def Wl(a:B8)(b:M (Int×B8))(c:B8)(d:Nat×Nat):=S.qK 36 3 c (S.aU a).1.1 (CV a) (tv a) (xJ a) (S.aF b) d.1 d.2
def Qz(a:B8)(b:Nat):=getD (tv a) (toNat b) (0,0,0,[])
def Wm(a:B8)(b:M (Int×B8))(c:B8)(d:Nat):=S.conds 36 3 c (S.aU a).1.1 (CV a) (tv a) (xJ a) (S.aF b) d
def Ka(a:B8)(b:M (Int×B8))(c:B8)(d:Nat):=Vg.aB.run (Wm a b c d) (Vg.Z.g 36 3 (Vg.aB.Lo (toNat (bE (S.aF b)))))
def Ae(a:M (M (Int×B8×B8×B8×O×B8)))(b c:Int):=getD (getD a (toNat b) []) (toNat c) (0,[],[],[],[],[])
def QA(a:M (M (Int×B8×B8×B8×O×B8)))(b:Int)(c:B8)(d e:Int)(f:B8):=S.kn c b f ((Ae a d e).1,(Ae a d e).2.1,(Ae a d e).2.2.1,(Ae a d e).2.2.2.1,(Ae a d e).2.2.2.2.1,(Ae a d e).2.2.2.2.2)
def Af(a:M (M (Int×B8×B8×B8×O×B8)))(b c:Int):=getD (getD a (toNat b) []) (toNat c) (0,[],[],[],[],[])
def Kb(a:M (M (Int×B8×B8×B8×O×B8)))(b:Int)(c:B8)(d e:Int)(f:B8):=S.kn c b f ((Af a d e).1,(Af a d e).2.1,(Af a d e).2.2.1,(Af a d e).2.2.2.1,(Af a d e).2.2.2.2.1,(Af a d e).2.2.2.2.2)
def xK(a:B8):=(S.aK a).1.2
def CW(a:B8):=(xK a).2.2.2
def ũ(a:B8)(b:Int)(c:B8):Int:=bif om (S.CG (S.aK a).1.1 (xK a).1 (xK a).2.1 c) (om (decide ((xK a).2.2.1=b)) (kI (S.F7 (S.aK a).1.1 (xK a).1 (CW a).1 (CW a).2 b) false)) then 0 else 6
def Kc(a:B8)(b:Int)(c:Nat):=Vg.aT (fY a (b+c)) 127*sT 2 (7*c)
def Kd(a:B8)(b:Int):=(S.aP a b).2.1+(S.aP a b).1
def tw(a:M (B8×U)):=a.length
def Ū(a:M (B8×U))(b:Nat):=[S.dK (bif decide ((b:Int)<tw a) then bif gF b then(lC a (b-1)).1 else [] else bif gF b then(lC a (b-1)).1 else []) (bif decide ((b:Int)<tw a) then(lC a b).1 else bif gF b then [] else []) (S.vr (bif gF b then(lC a (b-1)).2 else []))]
def Ke(a:B8):=S.ao (S.ao a 0 0 64).1.1 (S.ao a 0 0 64).1.2.1 (S.ao a 0 0 64).1.2.2 64
def CX(a:B8):=S.aD (Ke a).1.1 (Ke a).1.2.1 (Ke a).1.2.2
def qO(a:M (Int×B8))(b:Nat):=getD a (toNat b) (0,[])
def rS(a:M U)(b:M (Int×B8))(c:O)(d:Nat):=S.lN (S.sR c a) b d
def rT(a:M U):=a.length
def QB(a:M U):=toNat (rT a-1-1)
def ū(a:M U):=[S.F8 (CS a (QB a)) (CS a (toNat (rT a-1)))]
def rU(a:M U):=a.length
def QC(a:M U):=toNat (rU a-1-1)
def Ŭ(a:M U):=[S.PU (CS a (QC a)) (CS a (toNat (rU a-1)))]
def rV(a:M U):=a.length
def QD(a:M U):=toNat (rV a-1-1)
def ŭ(a:M U):=[S.vJ (CS a (QD a)) (CS a (toNat (rV a-1)))]
def iY(a:B8):=(S.aU a).1
def Ag(a:B8)(b:M (Int×B8))(c:O)(d:M (Int×Int×M (B8×U))):=S.oh (iY a).1 (iY a).2.1 (iY a).2.2.1 c d (S.aF b) (iY a).2.2.2
def Ah(a:B8)(b:O)(c:M (Int×Int×M (B8×U))):=S.sv (iY a).1 (iY a).2.1 (iY a).2.2.1 b c
def Kf(a:B8):=(S.aK a).1.2.2.2.2.2
def Ai(a:B8)(b:O)(c:M (Int×Int×M (B8×U))):=S.sv (S.aK a).1.1 (S.aK a).1.2.1 (S.aK a).1.2.2.1 b c
def Kg(a:B8):=(S.aK a).1.2.2.2.2.1
def Aj(a:B8)(b:Int)(c:O)(d:M (Int×Int×M (B8×U))):=S.CM (S.aK a).1.1 (S.aK a).1.2.1 (S.aK a).1.2.2.1 c d b (Kg a) (Kf a)
def Gm(a:B8)(b:Nat):=S.vC a (S.jL a b).1.1 (S.jL a b).1.2 (S.jL a b).2.1
def qP(a:B8):=(S.iz a).1
def Wn(a:B8):=S.aD a (S.af a 0 0).1.2.1 (S.af a 0 0).1.2.2
def QE(a:B8):=S.af a (Wn a).1.2.1 (Wn a).1.2.2
def Ů(a:B8)(b:Nat):=[((S.jL a b).2.1,(Gm a b).2.2.1,(Gm a b).2.2.2.1,(Gm a b).2.2.2.2)]
def Wo(a:B8)(b c:Int):=S.af a (S.af a b c).1.2.1 (S.af a b c).1.2.2
def Wq(a:B8)(b c:Int):=S.aD a (Wo a b c).1.2.1 (Wo a b c).1.2.2
def xL(a:M (Int×Int×Int×B8))(b:Nat):=(getD a (toNat b) (0,0,0,[])).2
def QG(a:Int):=Vg.aT (Ix a) 31
def Ak(a:O)(b:M (Int×Int×M (B8×U))):=S.c9 (S.ak a b).1 (S.ec (S.ak a b).2) (bE (S.ak a b).1)
def QH(a:O)(b:M (Int×Int×M (B8×U)))(c:Nat):=getD (S.ak a b).2 (toNat c) (0,0,[])
def Al(a:O)(b:M (Int×Int×M (B8×U)))(c:Nat):=(S.tg (QH a b c).1 (QH a b c).2.1 (QH a b c).2.2).1
def Am(a:M (Int×Int×M (B8×U)))(b:Nat):=getD a (toNat b) (0,0,[])
def tx(a:B8)(b:Nat×Int×Int×Int×U):=S.af a b.2.1 b.2.2.1
def Kh(a:U×U×U):=ID (gF (cQ a.1)) (dA (cQ a.2.1)) (gT a.1) (gT a.2.1)
def Ki(a:U×U×U):=ID (gF (cQ a.2.1)) (dA (cQ a.1)) (gT a.2.1) (gT a.1)
def ů(a:U×U×U):=[Z4 (Ki a) (gT a.2.1) (Kh a) (gT a.1) 0]
def Kj(a:U×U×U):=ID (gF (cQ a.2.1)) (dA (cQ a.1)) (gT a.2.1) (gT a.1)
def Kk(a:U×U×U):=ID (gF (cQ a.1)) (dA (cQ a.2.1)) (gT a.1) (gT a.2.1)
def Ű(a:U×U×U):=[Z4 (Kj a) (gT a.2.1) (Kk a) (gT a.1) 0]
def Kl(a:U×U×U):=ID (gF (cQ a.2.1)) (dA (cQ a.1)) (gT a.2.1) (gT a.1)
def Km(a:U×U×U):=ID (gF (cQ a.1)) (dA (cQ a.2.1)) (gT a.1) (gT a.2.1)
def ű(a:U×U×U):=[Z4 (Kl a) (gT a.2.1) (Km a) (gT a.1) 0]
def QI(a:U×U):=ID (gF IB) (dA (cQ a.1)) (aeP 0) (gT a.1)
def QJ(a:U×U):=ID (gF (cQ a.1)) (dA IB) (gT a.1) (aeP 0)
def Wr(a:U×U):=Z4 (QI a) (aeP 0) (QJ a) (gT a.1) 0
def Ų(a:M (B8×U))(b:B8):=[((S.vG a b).1.1,(S.vG a b).1.2.1,(S.vG a b).1.2.2.1,(S.vG a b).1.2.2.2.1,(S.vG a b).1.2.2.2.2.1,(S.vG a b).1.2.2.2.2.2)]
def ų(a:M (B8×U))(b:B8):=[((S.vG a b).1.1,(S.vG a b).1.2.1,(S.vG a b).1.2.2.1,(S.vG a b).1.2.2.2.1,(S.vG a b).1.2.2.2.2.1,(S.vG a b).1.2.2.2.2.2)]
def apQ(a:M (Int×B8))(b:Nat):=getD a (toNat b) (0,[])
def aFU(a:M (Int×B8))(b:Nat):=Iz (LW (apQ a b).2 []) (S.gB a b) 2
def nF(a:B8)(b:Nat):=lD (S.decode a) (toNat b)
def Ws(a:Int)(b:B8)(c:Int):=drop (toNat c) (take (toNat a) b)
def CY(a:B8)(b:Nat×Nat):=S.Il a b.2 b.1
def CZ(a:B8)(b:Nat×Nat):=S.iV a (CY a b).1.1 (CY a b).1.2
def Ŵ(a:B8)(b:Nat×Nat):=[((CZ a b).2.1,(CZ a b).2.2.1,(CZ a b).2.2.2.1,(CZ a b).2.2.2.2.1,(CZ a b).2.2.2.2.2.1,(CZ a b).2.2.2.2.2.2)]
def Wt(a:B8):=S.af a (S.fi a 1 0).1.1 (S.fi a 1 0).1.2
def Wu(a:B8):=S.ao a (Wt a).1.2.1 (Wt a).1.2.2 2000
def Kn(a:B8):=S.rN a (Wu a).1.2.1 (Wu a).1.2.2
def C0(a:M (M (Int×B8×B8×B8×O×B8)))(b:Nat)(c:Nat×Nat):=getD (getD a (toNat b) []) (toNat c.1) (0,[],[],[],[],[])
def ŵ(a:M (M (Int×B8×B8×B8×O×B8)))(b:Nat)(c:Nat×Nat):=S.kW ((C0 a b c).1,(C0 a b c).2.1,(C0 a b c).2.2.1,(C0 a b c).2.2.2.1,(C0 a b c).2.2.2.2.1,(C0 a b c).2.2.2.2.2)
def Ko(a:M (M (Int×B8×B8×B8×O×B8)))(b:Nat):Int:=length (getD a (toNat b) [])
def Ŷ(a:Int)(b:B8)(c:M (Int×Int×Int×B8))(d:Int)(e:B8)(f:O):=(gM (gM (gM (gM [2] (S.kG a b c)) (S.jH d)) (S.gg e 2000)) (S.iU f),S.oD (S.oD (S.oD (S.oD false (S.kG a b c)) (S.jH d)) (S.gg e 2000)) (S.iU f))
def tz(a:B8):=S.tail a (S.pP a)
def Kq(a:B8):=S.b8 S.H0 (tz a)
def ŷ(a:B8)(b:Nat):=take (toNat (((64*b:Nat):Int)+64)-toNat ((64*b:Nat):Int)) (drop (toNat ((64*b:Nat):Int)) (tz a))
def C1(a:B8)(b:Nat):=S.eQ (S.proc S.H0 (tz a) b)
def Ÿ(a:B8)(b c:Nat):=[ko (lD (C1 a b) (toNat c)/16777216),ko (lD (C1 a b) (toNat c)/65536%256),ko (lD (C1 a b) (toNat c)/256%256),ko (lD (C1 a b) (toNat c)%256)]
def Ao(a:B8)(b:Nat):=length (C1 a b)
def vY(a:B8):=S.sched a 64
def jJ(a:U)(b:B8)(c:Nat):=S.gq (vY b) (S.ta a) c
def Ap(a:U)(b:B8)(c:Nat):=(jJ a b c).2.2.2.2.2
def Ź(a:U)(b:B8)(c:Nat):=jt (jt (jt (jt ((Ap a b c).2.2+E5 (S.right (jJ a b c).2.2.2.2.1 6) (S.right (jJ a b c).2.2.2.2.1 11) (S.right (jJ a b c).2.2.2.2.1 25))+Vg.eN (Vg.aT (jJ a b c).2.2.2.2.1 (Ap a b c).1) (Vg.aT (Vg.eN 4294967295 (jJ a b c).2.2.2.2.1) (Ap a b c).2.1))+getD S.AI (toNat c) 0)+getD (vY b) (toNat c) 0)
def Gn(a:Nat):=toNat (a-15)
def ź(a:B8)(b:Nat):=[jt (jt (jt (jt (fY a ((4*b:Nat):Int)*16777216)+jt (fY a (((4*b:Nat):Int)+1)*65536))+jt (fY a (((4*b:Nat):Int)+2)*256))+fY a (((4*b:Nat):Int)+3))]
def mL(a:B8)(b:Nat):=length (S.sched a b)
def Gp(a:Nat):=toNat (a-2)
def Ż(a:B8)(b:Nat):=[jt (jt (jt (getD (S.sched a b) (toNat (b-16)) 0+E5 (S.right (lD (S.sched a b) (Gn b)) 7) (S.right (lD (S.sched a b) (Gn b)) 18) (kp (lD (S.sched a b) (Gn b)) 3))+getD (S.sched a b) (toNat (b-7)) 0)+E5 (S.right (lD (S.sched a b) (Gp b)) 17) (S.right (lD (S.sched a b) (Gp b)) 19) (kp (lD (S.sched a b) (Gp b)) 10))]
def Kr(a:B8)(b:Nat×U)(c:Nat×Nat):=S.cc (drop (toNat b.1) a) ((c.1+1:Nat):Int)
def Aq(a:B8):=a.length
def ż(a:B8)(b:Nat×U)(c:Nat×Nat):=Iy (S.o9 (Kr a b c)) (S.enc (Kr a b c)) (drop (toNat b.1) (take (toNat (S.qz (b.1+((c.1+1:Nat):Int)) (Aq a))) a))
def Gq(a:B8)(b:Nat×Nat):=S.im (drop b.2 a) b.1
def Ž(a:Int):=om (decide (57343<a)) (decide (a<1114112))
def Ar(a:O×O):=length a.1
def C2(a:O×O):=qS a.1 (toNat (S.dR a.1))
def Wv(a:U)(b:Nat×B8):=length (S.enc (S.aZ (jk a b.1)))
def Gr(a:B8):=length (S.decode a)
def Ww(a:B8)(b:Nat×O)(c:Nat×Nat):=take (toNat c.1-toNat b.1) (drop (toNat b.1) (S.decode a))
def QK(a:O):=drop (toNat (S.split (bE a))) a
def QL(a:O):=take (toNat (S.split (bE a))) a
def Ks(a:U)(b:Nat):=jk a b-jk a (b-1)
def vZ(a:U):=a.length
def tA(a:M (B8×U)):=a.length
def Wx(a:M (B8×U))(b:Nat):=bif decide ((b:Int)-1+1<tA a) then(lC a (b-1+1)).1 else bif nE (b-1) then [] else []
def ž(a:M (B8×U))(b:Nat):=bif nE (b-1) then S.l8 (lC a (b-1)).2 else S.l8 (Vg.pO Int)
def Wy(a:M (B8×U))(b:Nat):=bif decide ((b:Int)-1+1<tA a) then ž a b else ž a b
def Wz(a:M (B8×U))(b:Nat):=bif decide ((b:Int)-1+1<tA a) then bif nE (b-1) then(lC a (b-1)).1 else [] else bif nE (b-1) then(lC a (b-1)).1 else []
def Kt(a:O)(b:Int)(c:Nat):=length (S.sorted (S.b9 a b c))
def Gs(a:O)(b:Int)(c d:Nat):=qS (S.sorted (S.b9 a b c)) (toNat d)
def Ku(a:O)(b:M (Int×Int×M (B8×U)))(c:Nat):=getD (S.ak a b).2 (toNat c) (0,0,[])
def As(a:O)(b:M (Int×Int×M (B8×U)))(c:Nat):=S.RU (Ku a b c).1 (Ku a b c).2.1 (Ku a b c).2.2
def tB(a:M (Int×Int×Int×B8))(b:Nat):=(getD a (toNat b) (0,0,0,[])).2
def lE(a:M (Int×Int×Int×B8))(b:Nat):=getD a (toNat b) (0,0,0,[])
def C3(a:B8):=a.length
def Gt(a:B8)(b:Int)(c:B8):=Iz (Bool.not (S.qw c b)) (1099511627776-b) (C3 a)
def Au(a:B8)(b:Int)(c:B8):=bif Gt a b c then [] else c
def C4(a:Int)(b:B8):=Bool.not (S.qw b a)
def ſ(a:Int)(b:B8)(c:Nat):=[ko (kp (Ix (Ix (bif C4 a b then 0 else a)*8)) (56-8*c))]
def Av(a b c d e f g h i:Int)(j:B8)(k:Nat):=S.b8 (Á (C4 a j) b c d e f g h i) (S.pt j a k)
def QM(a b c d e f g h i:Int)(j:B8)(k l:Nat):=jk [(Av a b c d e f g h i j k).1,(Av a b c d e f g h i j k).2.1,(Av a b c d e f g h i j k).2.2.1,(Av a b c d e f g h i j k).2.2.2.1,(Av a b c d e f g h i j k).2.2.2.2.1,(Av a b c d e f g h i j k).2.2.2.2.2.1,(Av a b c d e f g h i j k).2.2.2.2.2.2.1,(Av a b c d e f g h i j k).2.2.2.2.2.2.2] l
def aaa(a b c d e f g h i:Int)(j:B8)(k l:Nat):=[ko (kp (QM a b c d e f g h i j k l) 24),ko (kp (QM a b c d e f g h i j k l) 16),ko (kp (QM a b c d e f g h i j k l) 8),ko (QM a b c d e f g h i j k l)]
def QN(a:B8):=(S.b8 Gl a).2.2.2.2
def aab(a:B8):=((S.b8 Gl a).1,(S.b8 Gl a).2.1,(S.b8 Gl a).2.2.1,(S.b8 Gl a).2.2.2.1,(QN a).1,(QN a).2.1,(QN a).2.2.1,(QN a).2.2.2)
def Kv(a:B8)(b:Nat):=lD (S.ba a b) (0+toNat (b-2)*1)
def eB(a:B8)(b c d e f g h i:Int)(j:Nat):=S.gq (S.sched a 64) (b,c,d,e,f,g,h,i) j
def Kw(a:B8)(b:Nat):=lD (S.ba a b) (0+toNat (b-15)*1)
def Gu(a:B8)(b:Nat):=length (S.ba a b)
def aac(a:B8)(b c d e f g h i:Int)(j k:Nat):=jt (jt (jt (jt ((eB a b c d e f g h i k).2.2.2.2.2.2.2+E5 (CQ (eB a b c d e f g h i k).2.2.2.2.1 6) (CQ (eB a b c d e f g h i k).2.2.2.2.1 11) (CQ (eB a b c d e f g h i k).2.2.2.2.1 25))+Vg.eN (Vg.aT (eB a b c d e f g h i k).2.2.2.2.1 (eB a b c d e f g h i k).2.2.2.2.2.1) (Vg.aT (4294967296-1-(eB a b c d e f g h i k).2.2.2.2.1) (eB a b c d e f g h i k).2.2.2.2.2.2.1))+getD S.AI (toNat k) 0)+getD (S.ba a j) (0+toNat k*1) 0)
def aad(a:B8)(b c d e f g h i:Int)(j:Nat):=((S.proc (b,c,d,e,f,g,h,i) a j).1,(S.proc (b,c,d,e,f,g,h,i) a j).2.1,(S.proc (b,c,d,e,f,g,h,i) a j).2.2.1,(S.proc (b,c,d,e,f,g,h,i) a j).2.2.2.1,(S.proc (b,c,d,e,f,g,h,i) a j).2.2.2.2.1,(S.proc (b,c,d,e,f,g,h,i) a j).2.2.2.2.2.1,(S.proc (b,c,d,e,f,g,h,i) a j).2.2.2.2.2.2.1,(S.proc (b,c,d,e,f,g,h,i) a j).2.2.2.2.2.2.2)
def C5(a:Int×Int):=kp (Ix (a.1+a.2)) 1
def rW(a:Nat):=toNat a
def WA(a:Nat)(b:Nat×Nat×O×Nat):=LW (qS b.2.2.1 (rW a+toNat b.2.1)) (qS b.2.2.1 (rW a+toNat (b.2.1-1)))
def xM(a:Nat×Nat×O×Nat):=toNat a.1
def tC(a:O):=a.length
def v7(a:Nat×Nat×O×Nat):=length a.2.2.1
def aae(a:Nat×Nat×O×Nat):=take (xM a) a.2.2.1++replicate (v7 a-xM a) jP++drop (xM a+(v7 a-xM a)) a.2.2.1
def rX(a:Nat):=toNat a
def WB(a:Nat)(b:Nat×Nat×O×Nat):=LW (qS b.2.2.1 (rX a+toNat b.2.1)) (qS b.2.2.1 (rX a+toNat (b.2.1-1)))
def xN(a:Nat×Nat×O×Nat):=toNat a.1
def v8(a:Nat×Nat×O×Nat):=length a.2.2.1
def aaf(a:Nat×Nat×O×Nat):=take (xN a) a.2.2.1++replicate (v8 a-xN a) jP++drop (xN a+(v8 a-xN a)) a.2.2.1
def tE(a:O):=a.length
def C6(a:M (B8×U))(b:B8):=qS (S.bD a) (toNat (S.bJ a b+1))
def QO(a:B8):=length (S.aS a)
def Kx(a:B8)(b:Nat×O×U):=lD (S.decode a) (toNat b.1)
def QP(a:U)(b:Nat×B8):=S.il (S.aZ (jk a b.1))
def Aw(a b:Int):=length (S.cb a b)
def WC(a b:Int)(c:Nat):=getD (S.cb a b) (toNat (Aw a b-1-c)) false
def wa(a:O×Int×O):=S.split (bE a.1)
def QQ(a:O×Int×O):=take (toNat (wa a)) a.1
def QR(a:O×Int×O):=drop (toNat (wa a)) a.1
def mM(a:O):=a.length
def aag(a:O):=List.set a (toNat (mM a-2)) (S.bo (qS a (toNat (mM a-2))) (qS a (toNat (mM a-2+1))))
def Ky(a:B8):=drop (toNat 1) (take (toNat 2) a)
def Kz(a:B8):=drop (toNat 1) (take (toNat 3) a)
def KA(a:B8):=drop (toNat 1) (take (toNat 4) a)
theorem ar {p q:Prop}(h:q)(e:p=q:=by(try delta q0 q2 q4 Ac ţ Ť Z1 q35 q36 q37 q38 TR TS q39 q40 ť q48 q49 q50 Iv dp oX kI bH cI cm om jI bE jt vR fB dV cQ qS Ea mu nC ew ov fj sT ca dh apN jP E4 Iw lA rj AO Ix tJ gj lB xd sU tK nD apO qM E5 xe Qn iw LU sV Iy Iz E6 mv LV gM rk Z2 ko CQ Qo Qp CR IA TT CS vT vU E7 LW Qq rl TU IB LX vV yQ Z3 AP AQ lC oY mK AR cR Z4 Qr TV CT Z5 Z6 IC dA TW aeO TX ID LY fF IE Z7 ix IF Qs Qt IG Qu aMs LZ L0 Z8 kp apP aeP Z9 À fY Á gF aeQ aeR jk TY E8 yR qN J2 J3 Gk vW vX Ŧ Qv ŧ CU Gl lD gT Ad nE J4 J5 Qw J6 J7 Wk Qx rR xI J8 J9 Qy Ũ xJ tv CV Wl Qz Wm Ka Ae QA Af Kb xK CW ũ Kc Kd tw Ū Ke CX qO rS rT QB ū rU QC Ŭ rV QD ŭ iY Ag Ah Kf Ai Kg Aj Gm qP Wn QE Ů Wo Wq xL QG Ak QH Al Am tx Kh Ki ů Kj Kk Ű Kl Km ű QI QJ Wr Ų ų apQ aFU nF Ws CY CZ Ŵ Wt Wu Kn C0 ŵ Ko Ŷ tz Kq ŷ C1 Ÿ Ao vY jJ Ap Ź Gn ź mL Gp Ż Kr Aq ż Gq Ž Ar C2 Wv Gr Ww QK QL Ks vZ tA Wx ž Wy Wz Kt Gs Ku As tB lE C3 Gt Au C4 ſ Av QM aaa QN aab Kv eB Kw Gu aac aad C5 rW WA xM tC v7 aae rX WB xN v8 aaf tE C6 QO Kx QP Aw WC wa QQ QR mM aag Ky Kz KA);exact rfl):p:=e.mpr h
theorem QS {a0 a1 a2 a3 a4:Prop}(h0:a0)(h1:a1)(h2:a2)(h3:a3)(h4:a4):a0/\a1/\a2/\a3/\a4:=⟨h0,h1,h2,h3,h4⟩
end Go
