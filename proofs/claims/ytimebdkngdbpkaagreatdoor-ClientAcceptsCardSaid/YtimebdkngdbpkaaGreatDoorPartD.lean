import Derived.Test.YtimebdkngdbpkaaGreatDoorPartC
import Derived.Lib.LaidTab
import Derived.Test.YtimebdkngdbpkaaGreatDoorProg
import Derived.WalkKit
set_option linter.unusedVariables false
set_option linter.unusedSimpArgs false
set_option linter.unusedSectionVars false
set_option linter.defProp false
namespace Go.S
def aZ(i n:Int):List Bool:=if h:n<2 then [] else if i<((sp n.toNat:Nat):Int) then false ::aZ i ((sp n.toNat:Nat):Int) else true ::aZ (i-((sp n.toNat:Nat):Int)) (n-((sp n.toNat:Nat):Int))
termination_by n.toNat
decreasing_by
 . have:=gN (n:=n.toNat) w!;omega
 . have:=gN (n:=n.toNat) w!;omega
def Nl(d:B8)(x:Bool×B8):B8:=if x.1 then aT x.2 d else aT d x.2
def wx(d:B8)(s:List Bool)(p:List B8):B8:=(List.zip s.reverse p).foldl Nl d
def kN(d:B8)(i n:Int)(p:List B8):B8:=wx d (aZ i n) p
def e8(i n:Int):Int:=((aZ i n).length:Int)
def path(l:List B8)(i:Int):List B8:=if h:l.length<2 then [] else if i<((sp l.length:Nat):Int) then path (l.take (sp l.length)) i++[root (l.drop (sp l.length))] else path (l.drop (sp l.length)) (i-((sp l.length:Nat):Int))++[root (l.take (sp l.length))]
termination_by l.length
decreasing_by
 . have:=gN (n:=l.length) w!;rw [J?];omega
 . have:=gN (n:=l.length) w!;rw [N?];omega
variable {i n v m a p1 e j:Int}{l p p5 docs ts:List B8}{t:Nat}{d:List cr}{P R g b p6:B8}{s:List Sg}{c:UInt8}{x:Int×Int×List Bool}{r:List Int}{f:List (List Int)}
theorem jK(h:n<2):aZ i n=[]:=by rw [aZ,dif_pos h]
theorem mq {n:Int}(h:2<=n)(hi:i<((sp n.toNat:Nat):Int)):aZ i n=false ::aZ i ((sp n.toNat:Nat):Int):=by rw [aZ,dif_neg w!,M! hi]
theorem nH {n:Int}(h:2<=n)(hi:¬i<((sp n.toNat:Nat):Int)):aZ i n=true ::aZ (i-((sp n.toNat:Nat):Int)) (n-((sp n.toNat:Nat):Int)):=by rw [aZ,dif_neg w!,J! hi]
theorem UE(h:l.length<2):path l i=[]:=by rw [path,dif_pos h]
theorem UF {l:List B8}(h:2<=l.length)(hi:i<((sp l.length:Nat):Int)):path l i=path (l.take (sp l.length)) i++[root (l.drop (sp l.length))]:=by rw [path,dif_neg w!,M! hi]
theorem UG {l:List B8}(h:2<=l.length)(hi:¬i<((sp l.length:Nat):Int)):path l i=path (l.drop (sp l.length)) (i-((sp l.length:Nat):Int))++[root (l.take (sp l.length))]:=by rw [path,dif_neg w!,J! hi]
theorem E6 {C:Nat->Prop}(h0:∀n,n<2->C n)(h1:∀n,2<=n->C (sp n)->C (n-sp n)->C n)(n:Nat):C n:=by
 induction n using Nat.strongRecOn with
 |_ n ih=>
  by_cases h:n<2
  . exact h0 n h
  . have hb:=gN (n:=n) w!;exact h1 n w! (ih _ w!) (ih _ w!)
theorem ahu(n:Nat):∀(l:List B8) (i:Int),l.length=n->(path l i).length=(aZ i l.length).length:=by
 refine E6 (C:=λn=>∀(l:List B8) (i:Int),l.length=n->(path l i).length=(aZ i l.length).length) (λn h l i e=>?_) (λn h i1 i2 l i e=>?_) n
 . grind[UE,jK]
 . have hb:=gN (n:=l.length) w!;by_cases hi:i<((sp l.length:Nat):Int)
   . rw [UF w! hi,mq w! x!,List.length_append];grind
   . rw [UG w! hi,nH w! x!,List.length_append];grind
theorem KG(d:B8)(x:Bool)(s:List Bool)(p:List B8)(y:B8)(h:p.length=s.length):wx d (x::s) (p++[y])=Nl (wx d s p) (x,y):=by
 simp_all[wx,List.reverse_cons,List.zip_append,List.foldl_append]
theorem aXk(n:Nat):∀(l:List B8) (i:Int),l.length=n->0<=i->i<l.length->kN (l.getD i.toNat []) i l.length (path l i)=root l:=by
 refine E6 (C:=λn=>∀(l:List B8) (i:Int),l.length=n->0<=i->i<l.length->kN (l.getD i.toNat []) i l.length (path l i)=root l) (λn h l i e h0 h1=>?_) (λn h i1 i2 l i e h0 h1=>?_) n
 . unfold kN;have :l.length=1:=by omega
   have hi:i=0:=by omega
   rw [UE w!,jK w!,R6 this,hi];rfl
 . have hb:=gN (n:=l.length) w!;unfold kN at *;by_cases hi:i<((sp l.length:Nat):Int)
   . have er:=IW (l:=l) w! rfl;rw [UF w! hi,mq w! x!,er];have e1:(l.take (sp l.length)).length=sp n:=by grind
     have:=i1 (l.take (sp l.length)) i e1 h0 x!;rw [Int.toNat_natCast];have hl:=ahu _ (l.take (sp l.length)) i rfl;rw [List.length_take,Nat.min_eq_left w!] at hl this;rw [KG _ _ _ _ _ hl]
     have eg:(l.take (sp l.length)).getD i.toNat []=l.getD i.toNat []:=by
      grind
     rw [eg] at this;rw [this];rfl
   . have er:=IW (l:=l) w! rfl;rw [UG w! hi,nH w! x!,er];have e1:(l.drop (sp l.length)).length=n-sp n:=by grind
     have:=i2 (l.drop (sp l.length)) (i-((sp l.length:Nat):Int)) e1 w! x!;have hl:=ahu _ (l.drop (sp l.length)) (i-((sp l.length:Nat):Int)) rfl;have en:(((l.length-sp l.length:Nat)):Int)=(l.length:Int)-((sp l.length:Nat):Int):=by omega
     rw [N?,en] at hl this;rw [X!,KG _ _ _ _ _ hl]
     have eg:(l.drop (sp l.length)).getD (i-((sp l.length:Nat):Int)).toNat []=l.getD i.toNat []:=by
      grind
     rw [eg] at this;rw [this];rfl
def rK(l:List B8)(i:Int):List B8:=if bQ l=true/\0<=i/\i<l.length then path l i else []
def BW(l:List B8)(i:Int):Int:=if bQ l=true/\0<=i/\i<l.length then 0 else 1
def dM(l:List B8):Prop:=l.length<=1099511627776
def gj(l:List B8)(i:Int)(k:List B8×Int×List B8):Prop:=
 bQ k.1=true/\k.1.length<=l.length/\0<=k.2.1/\k.2.1<k.1.length/\path l i=path k.1 k.2.1++k.2.2.reverse/\k.2.2.length+k.1.length<=l.length
def eQ(d:B8)(i n:Int)(p:List B8):Int:=
 if(d.length:Int)=32/\1<=n/\n<=1099511627776/\0<=i/\i<n then(if(p.length:Int)=e8 i n/\bQ p=true then 0 else 6) else 1
def kq(d:B8)(i n:Int)(p:List B8):B8:=if eQ d i n p=0 then kN d i n p else []
def jL(d:B8)(i n:Int)(p:List B8)(k:Nat):B8:=((List.zip (aZ i n).reverse p).take k).foldl Nl d
def eM(i n:Int):Prop:=0<=i/\i<n/\n<=1099511627776
def j6(i n:Int)(k:Int×Int×List Bool):Prop:=0<=k.1/\k.1<k.2.1/\k.2.1<=n/\aZ i n=k.2.2++aZ k.1 k.2.1/\(k.2.2.length:Int)+k.2.1<=n
def gy(m n:Int):List Bool:=if h:n<=m\/n<2 then [] else if m<=((sp n.toNat:Nat):Int) then false ::gy m ((sp n.toNat:Nat):Int) else true ::gy (m-((sp n.toNat:Nat):Int)) (n-((sp n.toNat:Nat):Int))
termination_by n.toNat
decreasing_by
 . have:=gN (n:=n.toNat) w!;omega
 . have:=gN (n:=n.toNat) w!;omega
def abB(r:B8×B8)(x:Bool×B8):B8×B8:=if x.1 then(aT x.2 r.1,aT x.2 r.2) else(r.1,aT r.2 x.2)
def mf(s:List Bool)(r:B8×B8)(p:List B8):B8×B8:=(List.zip s.reverse p).foldl abB r
def ayJ(one two:B8)(s:List Bool)(r:B8×B8)(p:List B8):Bool:=decide (p.length=s.length)&&decide (mf s r p=(one,two))
def abC(s:List Bool)(one two:B8)(p:List B8):Bool:=decide (1<=p.length)&&ayJ one two s (p.getD 0 [],p.getD 0 []) (p.drop 1)
def qB(m:Int):Bool:=decide (Vg.aM m (m-1)=0)
def accepted(m n:Int)(one two:B8)(p:List B8):Bool:=
 if m=0 then decide (p.length=0)&&decide (one=sum [])
 else if m=n then decide (p.length=0)&&decide (one=two)
 else abC (gy m n) one two (if qB m then one::p else p)
def ia(m n:Int)(one two:B8)(p:List B8):Int:=
 if m<0\/n<m\/1099511627776<n\/(one.length:Int)≠32\/(two.length:Int)≠32 then 1 else if bQ p=true/\accepted m n one two p=true then 0 else 6
def OH(l:List B8):List B8:=l.reverse
theorem aqQ {n:Nat}(h:2<=n):n<=2*sp n:=by
 have:=Nat.lt_log2_self (n:=n-1);grind[sp,Nat.pow_succ]
theorem XZ {n:Nat}(h:2<=n)(h1:n<=2^(t+1)):sp n<=2^t/\n-sp n<=2^t:=by
 have h2:=gN h;have h3:=aqQ h
 have :sp n<=2^t:=by
  unfold sp at *;have :2^Nat.log2 (n-1)<2^(t+1):=by omega
  grind[Nat.pow_lt_pow_iff_right]
 omega
theorem I8:∀(t n:Nat) (i:Int),0<=i->i<n->n<=2^t->(aZ i n).length<=t
 |0,n,i,h0,h1,h=>by grind[jK]
 |t+1,n,i,h0,h1,h=>by
  by_cases h2:2<=n
  . have hs:=XZ h2 h;by_cases hi:i<((sp n:Nat):Int)
    . rw [mq w! (by exact hi),X!];have:=I8 t (sp n) i h0 hi hs.1;simp;omega
    . rw [nH w! (by exact hi),X!];have:=I8 t (n-sp n) (i-((sp n:Nat):Int)) w! w! hs.2;rw [Int.natCast_sub w!] at this;simp;omega
  grind[jK]
theorem alB(h0:0<=i)(h1:i<l.length)(h:l.length<=2^t):(path l i).length<=t:=by
 rw [ahu _ l i rfl];simp_all[I8]
theorem pC(h:bQ l=true)(k:Nat):bQ (l.take k)=true:=(eA _).2 λd hd=>(eA l).1 h d (List.mem_of_mem_take hd)
theorem zz(h:bQ l=true)(k:Nat):bQ (l.drop k)=true:=(eA _).2 λd hd=>(eA l).1 h d (List.mem_of_mem_drop hd)
theorem OI{d:B8}(h:bQ l=true)(h1:d.length=32):bQ (l++[d])=true:=
 (eA _).2 λx hx=>by
   grind[eA,List.mem_singleton]
theorem ñ(n:Nat):∀(l:List B8) (i:Int),l.length=n->bQ l=true->bQ (path l i)=true:=by
 refine E6 (C:=λn=>∀(l:List B8) (i:Int),l.length=n->bQ l=true->bQ (path l i)=true) ?_ ?_ n
 . intro n h l i e _;rw [UE w!];rfl
 . intro n h h1 h2 l i e hd;have hb:=gN h;by_cases hi:i<((sp l.length:Nat):Int)
   . grind[UF,OI,pC,LL,zz,List.length_take]
   grind[UG,OI,zz,LL,pC,List.length_drop]
theorem I9(h:2<=l.length)(h1:l.length<=1099511627776):split l.length=((sp l.length:Nat):Int):=by
 grind[nD,Int.toNat_natCast]
theorem aG1(h:bQ l=true)(h0:0<=i)(h1:i<l.length):gj l i (l,i,[]):=
 ⟨h,S! _,h0,h1,z!,z!⟩
theorem aG2 {m acc:List B8}{j:Int}(h:gj l i (m,j,acc))(h2:2<=m.length)(hj:j<((sp m.length:Nat):Int)):
  gj l i (m.take (sp m.length),j,acc++[root (m.drop (sp m.length))]):=by
 obtain⟨a1,a2,a3,a4,a5,a6⟩:=h;have hb:=gN h2;refine⟨pC a1 _,?_,a3,?_,?_,?_⟩
 . grind
 . grind
 . grind[UF,List.reverse_append]
 grind
theorem aG3 {m acc:List B8}{j:Int}(h:gj l i (m,j,acc))(h2:2<=m.length)(hj:¬j<((sp m.length:Nat):Int)):
  gj l i (m.drop (sp m.length),j-((sp m.length:Nat):Int),acc++[root (m.take (sp m.length))]):=by
 obtain⟨a1,a2,a3,a4,a5,a6⟩:=h;have hb:=gN h2;refine⟨zz a1 _,?_,x!,?_,?_,?_⟩
 . grind
 . grind
 . grind[UG,List.reverse_append]
 grind
theorem aqR {m acc:List B8}{j:Int}(h:gj l i (m,j,acc))(h2:¬1<(m.length:Int)):OH acc=path l i:=by
 have:=h.2.2.2.2.1;grind[OH,UE]
def ahw(l:List B8)(i:Int):Prop:=nC l/\0<=i/\i<l.length
theorem aA0 {l:List B8}(h:bQ l=false\/i<0\/(l.length:Int)<=i): []=rK l i/\1=BW l i:=by
 grind[bQ,rK,BW]
theorem aqS {l:List B8}(h:bQ l=true/\¬i<0/\¬(l.length:Int)<=i):rK l i=path l i/\BW l i=0:=by
 grind[bQ,rK,BW]
theorem Hp{x:List B8×Int×List B8}(hp:l.length<=1099511627776)(h:gj l i x)(h2:1<(x.1.length:Int)):
  (0<=split x.1.length/\split x.1.length<=x.1.length/\ -9223372036854775808<=x.2.1-split x.1.length/\x.2.1-split x.1.length<=9223372036854775807)/\
  nC (x.1.take (split x.1.length).toNat)/\nC (x.1.drop (split x.1.length).toNat)/\(∀d:B8,x.2.2.length+[d].length<=8796093022208)/\
  len (x.1.take (split x.1.length).toNat)<len x.1/\len (x.1.drop (split x.1.length).toNat)<len x.1:=by
 obtain⟨a1,a2,a3,a4,a5,a6⟩:=h;have hb:=gN (n:=x.1.length) w!;rw [I9 w! w!,Int.toNat_natCast];refine⟨w!,⟨pC a1 _,x!⟩,⟨zz a1 _,x!⟩,λd=>by grind,?_,?_⟩
 . grind[len,List.length_take]
 grind[len,List.length_drop]
theorem aA1{x:List B8×Int×List B8}(hp:l.length<=1099511627776)(h:gj l i x)(h2:1<(x.1.length:Int))(hj:x.2.1<split x.1.length):
  gj l i (x.1.take (split x.1.length).toNat,x.2.1,x.2.2++[root (x.1.drop (split x.1.length).toNat)]):=by
 have:=h.2.1;grind[I9,Int.toNat_natCast,aG2]
theorem aA2{x:List B8×Int×List B8}(hp:l.length<=1099511627776)(h:gj l i x)(h2:1<(x.1.length:Int))(hj:¬x.2.1<split x.1.length):
  gj l i (x.1.drop (split x.1.length).toNat,x.2.1-split x.1.length,x.2.2++[root (x.1.take (split x.1.length).toNat)]):=by
 have:=h.2.1;rw [I9 w! w!] at hj |-;exact aG3 h w! hj
theorem aA3{x:List B8×Int×List B8}(hp:l.length<=1099511627776)(h:gj l i x):small x.2.2:=by
 have:=h.2.2.2.2.2;grind[small]
theorem aqT {l:List B8}{x:List B8×Int×List B8}(h0:bQ l=true/\¬i<0/\¬(l.length:Int)<=i)(h:gj l i x)(h2:¬1<(x.1.length:Int)):OH x.2.2=rK l i/\0=BW l i:=by
 grind[aqS,aqR]
theorem ahx {l:List B8}(h:bQ l=true/\¬i<0/\¬(l.length:Int)<=i):gj l i (l,i,[]):=aG1 h.1 w! w!
abbrev Pf:=Int×B8×B8×B8×List B8×B8
def la(d:List cr)(t:B8):Pf:=
 (bt d t+1,(bj (l9 d (bt d t+1).toNat)).1.1,(bj (l9 d (bt d t+1).toNat)).1.2.1,(bj (l9 d (bt d t+1).toNat)).1.2.2,path (leaves (ie d)) (bt d t+1),if k9 d t then BF (qz d t) else [])
def X0:Pf:=(0,[],[],[],[],[])
def ij(d:List cr)(t:B8):Pf×Int:=if bg d&&isTerm t then(la d t,0) else(X0,1)
variable {t:B8}
theorem abD(h:dE d≠0\/isTerm t=false):ij d t=(X0,1):=by
 grind[ij,dE,bg]
theorem OJ(h:bg d=true)(h1:isTerm t=true):ij d t=(la d t,0):=by
 grind[ij]
theorem X1(h:bg d=true):0<=bt d t+1/\bt d t+1<=d.length/\(ie d).length=d.length+1:=by
 have:=He (d:=d) (t:=t) d.length;unfold bt;grind[ie,iV]
theorem ahy(d:List cr)(h0:0<=i)(h:i<=d.length):(ie d).getD i.toNat []=l9 d i.toNat:=by
 grind[ie,iV]
theorem X2(hp:bn d)(hr:bg d=true)(t:B8):
  (0<=bt d t+1/\bt d t+1<=1048576/\bt d t+1<(bU d).length/\(bt d t+1).toNat<(bU d).length)/\((bU d).getD (bt d t+1).toNat []).length<=140737488355328/\l8 (bU d)/\dM (leaves (bU d))/\ahw (leaves (bU d)) (bt d t+1)/\
  (bU d).getD (bt d t+1).toNat []=l9 d (bt d t+1).toNat/\rK (leaves (bU d)) (bt d t+1)=path (leaves (ie d)) (bt d t+1)/\bU d=ie d:=by
 obtain⟨f1,f2,f3⟩:=X1 (t:=t) hr;have e:bU d=ie d:=by grind[bU]
 have hl:=hp.1;have hlen:(leaves (ie d)).length=d.length+1:=by grind[leaves]
 have ha:=ahy d f1 f2;rw [e];refine⟨w!,?_,(pz hp hr).1,by grind[dM],⟨(pz hp hr).2,f1,w!⟩,ha,?_,rfl⟩
 . rcases Hc hr (k:=(bt d t+1).toNat) with q|q
   . grind[EW,l9]
   omega
 . have q:bQ (leaves (ie d))=true/\0<=bt d t+1/\bt d t+1<(leaves (ie d)).length:=⟨(pz hp hr).2.1,f1,w!⟩;simp_all[rK,M!]
theorem aA4(hp:bn d)(hr:bg d=true)(t:B8):
  la d t=(bt d t+1,(bj ((bU d).getD (bt d t+1).toNat [])).1.1,(bj ((bU d).getD (bt d t+1).toNat [])).1.2.1,(bj ((bU d).getD (bt d t+1).toNat [])).1.2.2,rK (leaves (bU d)) (bt d t+1),if k9 d t then qw (qz d t) else []):=by
 have q:=X2 hp hr t;rw [q.2.2.2.2.2.1,q.2.2.2.2.2.2.1];unfold la;congr 5
 split
 . have :bK (qz d t)=true:=by
    unfold qz;rename_i h1;rw [if_pos h1];have hb:=LN h1;exact(ye hr (i:=(bt d t).toNat) w!).2
   unfold qw;rw [this];rfl
 . rfl
abbrev dC:=Int×B8
def jY(l:List dC)(i:Nat):dC:=l.getD i (0,[])
def nW(l:List dC):Nat->Int
 |0=>0
 |k+1=>nW l k+if(jY l k).1=0 then 1 else 0
def gw(l:List dC)(k:Nat):Int:=2*nW l k-k
def uS(l:List dC)(i:Nat):Bool:=
 if(jY l i).1=0 then isTerm (jY l i).2 else(decide (1<=(jY l i).1)&&decide ((jY l i).1<=3))&&(decide ((jY l i).2=[])&&decide (2<=gw l i))
def bw(l:List dC):Bool:=(List.range l.length).all (uS l)&&(decide (gw l l.length=1)&&decide (nW l l.length<=16))
def oF(l:List dC)(k:Nat):Prop:=k<=l.length/\l.length<=1099511627776/\∀i,i<k->uS l i=true
def ajc(l:List dC):Bool:=l.any (λo=>decide ((200:Int)<o.2.length)) || decide ((60:Int)<l.length)
def aAX(l:List dC)(k:Nat):Prop:=k<=l.length/\∀o∈l.take k,¬(200:Int)<o.2.length
def bS(l:List dC)(k:Nat):List B8:=((l.take k).filter λo=>decide (o.1=0)).map (·.2)
def qC(l:List dC):List B8:=bS l l.length
def ax(l:List dC):List B8:=sorted (qC l)
theorem xk(l:List dC):∀k,0<=nW l k/\nW l k<=k
 |0=>by simp [nW]
 |k+1=>by have:=xk l k;grind[nW]
variable {l q:List dC}
theorem UI{k:Nat}(h:(jY l k).1=0):nW l (k+1)=nW l k+1:=by simp_all[nW,M!]
theorem OK{k:Nat}(h:¬(jY l k).1=0):nW l (k+1)=nW l k:=by simp_all[nW,J!]
theorem X3{k:Nat}(h:(jY l k).1=0):gw l (k+1)=gw l k+1:=by grind[gw,UI]
theorem LS{k:Nat}(h:¬(jY l k).1=0):gw l (k+1)=gw l k-1:=by grind[gw,OK]
theorem aG4(h:small l):oF l 0:=⟨U! _,h,λi hi=>by omega⟩
theorem X4{k:Nat}(h:oF l k)(hk:(k:Int)<l.length)(h1:uS l k=true):oF l (k+1):=by
 refine⟨w!,h.2.1,λi hi=>?_⟩;by_cases he:i=k
 . grind
 . exact h.2.2 i w!
theorem abE{k:Nat}(hk:(k:Int)<l.length)(h:uS l k=false):false=bw l:=by
 grind[List.range,uS,bw]
theorem aqU{k:Nat}(h:oF l k)(hk:¬(k:Int)<l.length):(decide (gw l k=1)&&decide (nW l k<=16))=bw l:=by
 have e:k=l.length:=by have:=h.1;omega
 subst e;have :(List.range l.length).all (uS l)=true:=List.all_eq_true.2 λi hi=>h.2.2 i (List.mem_range.1 hi);grind[bw]
theorem OL{k:Nat}(h:(jY l k).1=0):uS l k=isTerm (jY l k).2:=by simp_all[uS,M!]
theorem alC {l:List dC}{k:Nat}(h:¬(jY l k).1=0)(h1:1<=(jY l k).1)(h2:(jY l k).1<=3)(h3:(jY l k).2=[])(h4:2<=gw l k):uS l k=true:=by
 simp_all[uS,J!]
theorem aqV {l:List dC}{k:Nat}(h:¬(jY l k).1=0)(h1:¬1<=(jY l k).1\/¬(jY l k).1<=3\/¬(jY l k).2=[]\/¬2<=gw l k):uS l k=false:=by
 grind[uS]
theorem aNK{k:Nat}(h:aAX l k)(hk:(k:Int)<l.length)(h1:¬(200:Int)<(jY l k).2.length):aAX l (k+1):=by
 refine⟨w!,?_⟩;rw [aD l k (0,[]) w!];intro o ho;rcases F!.1 ho with q|q
 . exact h.2 o q
 . rw [v?.1 q];exact h1
theorem aOZ{k:Nat}(hk:(k:Int)<l.length)(h1:(200:Int)<(jY l k).2.length):true=ajc l:=by
 have :l.any (λo=>decide ((200:Int)<o.2.length))=true:=List.any_eq_true.2 ⟨_,bC l k _ (show k<l.length by omega),decide_eq_true h1⟩;grind[ajc]
theorem aO0{k:Nat}(h:aAX l k)(hk:¬(k:Int)<l.length):decide ((60:Int)<l.length)=ajc l:=by
 have :l.any (λo=>decide ((200:Int)<o.2.length))=false:=by
  rw [<-Bool.not_eq_true,List.any_eq_true];rintro⟨o,ho,h1⟩;exact h.2 o (by grind[List.take_of_length_le]) (of_decide_eq_true h1)
 grind[ajc]
theorem aNL(h:ajc l=false):l.length<=60/\∀o∈l,o.2.length<=200:=by
 grind[ajc,Bool.or_eq_false_iff,of_decide_eq_false,decide,List.any_eq_true,decide_eq_true]
theorem aMw(h:ajc l=false):small l:=by grind[aNL,small]
theorem abF{k:Nat}(hk:(k:Int)<l.length)(h:(jY l k).1=0):bS l k++[(jY l k).2]=bS l (k+1):=by
 unfold bS;rw [aD l k (0,[]) w!,List.filter_append,List.map_append];have :(List.filter (λo:dC=>decide (o.1=0)) [l.getD k (0,[])])=[jY l k]:=by grind[jY]
 grind
theorem alD{k:Nat}(hk:(k:Int)<l.length)(h:¬(jY l k).1=0):bS l k=bS l (k+1):=by
 unfold bS;rw [aD l k (0,[]) w!,List.filter_append,List.map_append];have :(List.filter (λo:dC=>decide (o.1=0)) [l.getD k (0,[])])=[]:=by grind[jY]
 grind
theorem aqW{k:Nat}(h:k<=l.length)(hk:¬(k:Int)<l.length):bS l k=qC l:=by
 grind[qC]
theorem alE(l:List dC):∀k,k<=l.length->((bS l k).length:Int)=nW l k
 |0,_=>by rfl
 |k+1,hk=>by
  have ih:=alE l k w!;by_cases h:(jY l k).1=0
  . rw [<-abF w! h,UI h,K!,<-ih];simp
  . rw [<-alD w! h,OK h,ih]
theorem abG:bw l=true↔(∀i,i<l.length->uS l i=true)/\gw l l.length=1/\nW l l.length<=16:=by
 simp_all[bw,B!,Z!,f?,H!]
theorem pS(h:bw l=true):(ax l).length<=16:=by
 obtain⟨_,_,h3⟩:=abG.1 h;have:=rG (qC l);have e:=alE l l.length (Nat.le_refl _);grind[ax,qC]
theorem X5(h:bw l=true):∀t∈ax l,isTerm t=true:=by
 obtain⟨h1,_,_⟩:=abG.1 h;intro t ht;have:=(jk (qC l) t).1 ht;simp only [qC,bS,List.mem_map,List.mem_filter,decide_eq_true_eq,List.take_length] at this;obtain⟨o,⟨ho,h0⟩,rfl⟩:=this;obtain⟨i,hi,rfl⟩:=List.mem_iff_getElem.1 ho;grind[jY,OL]
theorem alF {l:List dC}{k:Nat}(h:oF l k)(hk:(k:Int)<l.length)(h0:(l.getD k (0,[])).1=0)(ht:isTerm (l.getD (Int.toNat (k:Int)) (0,[])).2=true):oF l (k+1):=
 X4 h hk (by rw [OL h0];rwa [X!] at ht)
theorem alG {l:List dC}{k:Nat}(hk:(k:Int)<l.length)(h0:(l.getD k (0,[])).1=0)(ht:isTerm (l.getD (Int.toNat (k:Int)) (0,[])).2=false):false=bw l:=
 abE hk (by rw [OL h0];rwa [X!] at ht)
theorem OM {l:List dC}{k:Nat}(h:oF l k)(hk:(k:Int)<l.length)(h0:¬(l.getD k (0,[])).1=0)(h1:1<=(l.getD k (0,[])).1/\(l.getD k (0,[])).1<=3)(h2:(l.getD k (0,[])).2=[]/\¬gw l k<2):oF l (k+1):=
 X4 h hk (alC h0 h1.1 h1.2 h2.1 w!)
theorem Hq {l:List dC}{k:Nat}(hk:(k:Int)<l.length)(h0:¬(l.getD k (0,[])).1=0)(h:¬(1<=(l.getD k (0,[])).1/\(l.getD k (0,[])).1<=3)\/¬(l.getD k (0,[])).2=[]\/gw l k<2):false=bw l:=
 abE hk (aqV h0 (by
  grind[jY]))
theorem aMx {l:List dC}{k:Nat}(h:oF l k)(hk:(k:Int)<l.length)(h0:¬(l.getD k (0,[])).1=0)(h1:¬(l.getD k (0,[])).1<0/\¬3<(l.getD k (0,[])).1/\(l.getD k (0,[])).2=[]/\¬nW l k<k-nW l k+2):oF l (k+1):=
 OM h hk h0 w! ⟨h1.2.2.1,by grind[gw]⟩
theorem aNM {l:List dC}{k:Nat}(hk:(k:Int)<l.length)(h0:¬(l.getD k (0,[])).1=0)(h:(l.getD k (0,[])).1<0\/3<(l.getD k (0,[])).1\/¬(l.getD k (0,[])).2=[]\/nW l k<k-nW l k+2):false=bw l:=
 Hq hk h0 (by
  grind[gw])
theorem aqX{k:Nat}(h:oF l k)(hk:¬(k:Int)<l.length):(bif decide (gw l k=1) then decide (nW l k<=16) else false)=bw l:=by
 grind[aqU]
theorem aNN{k:Nat}(h:oF l k)(hk:¬(k:Int)<l.length):(bif decide (nW l k=l.length-nW l k+1) then decide (nW l k<=16) else false)=bw l:=by
 rw [<-aqX h hk];have:=h.1;grind[gw]
theorem aG5(l:List dC): []=bS l 0:=rfl
theorem alH{k:Nat}(hk:(k:Int)<l.length)(h:(l.getD k (0,[])).1=0):bS l k++[(l.getD (Int.toNat (k:Int)) (0,[])).2]=bS l (k+1):=by exact abF hk h
theorem alI{k:Nat}(hp:l.length<=1099511627776)(h:gX l k)(s:B8):(bS l k).length+[s].length<=8796093022208/\small (bS l k)/\small (fm (bS l k))/\small (bW (fm (bS l k))):=by
 grind[Î,bS,rG,N9,gX,List.length_singleton,small]
theorem aqY{k:Nat}(h:gX l k)(hk:¬(k:Int)<l.length):bW (fm (bS l k))=ax l/\sorted (bS l k)=ax l:=by
 have:=aqW h hk;rw [N9,this];exact⟨rfl,rfl⟩
def zA:B8:=[104,97,121]
abbrev El:=Int×Int×B8
def kE1:List El:=[(-1,0,zA)]
def kE:List El:=[(-1,0,zA),(-2,3,[])]
def fy:List dC:=[(0,zA)]
def hdT(l:List B8):B8:=l.getD 0 []
def tD(k:Nat):Int:=if k=0 then -1 else 0
def vw(l:List El)(n:Int):El:=l.getD n.toNat (0,0,[])
def fV(l:List dC):Prop:=small l/\∀o∈l,small o.2
theorem aFY(h:ajc l=false):fV l:=by
 refine⟨aMw h,λo ho=>?_⟩;have:=(aNL h).2 o ho;grind[small]
theorem aA5(h:fV l)(k:Nat):small (jY l k).2:=by
 by_cases hk:k<l.length
 . exact h.2 _ (bC l k _ hk)
 . unfold jY;rw [List.getD_eq_getElem?_getD,List.getElem?_eq_none w!];exact Nat.zero_le _
theorem ym {x:Nat}(h:(x:Int)<(([104,97,121]:List Int).length:Int)):x=0\/x=1\/x=2:=by
 grind
theorem ge3 {x:Nat}(h2:cc x 3)(h:¬(x:Int)<(([104,97,121]:List Int).length:Int)):x=3:=by
 grind[cc]
abbrev Wp:=B8×Bool
def lO(v:Int):Wp:=if fT v then([],true) else(num v,false)
def ik(b:B8)(cd:Int):Wp:=if cd<b.length then([],true) else(text b,false)
def ajd(n:Int)(g:B8)(l:List Sg):Wp:=if bN n g l then ik (hB n g l) 10000 else([],true)
def KJ(d:B8):Bool:=decide ((d.length:Int)=32)
def kO(p:List B8):Wp:=if 64<(p.length:Int) then([],true) else(num p.length++(p.takeWhile KJ).flatten,!bQ p)
def aL4(p:List B8)(k:Nat):B8:=num p.length++(p.take k).flatten
def mA(p:List B8)(k:Nat):Prop:=p.length<=64/\k<=p.length/\∀d∈p.take k,(d.length:Int)=32
def cat(a b:Wp):Wp:=(a.1++b.1,a.2 || b.2)
def ku(p:Pf):Wp:=
 if fU p.2.1 p.2.2.1 p.2.2.2.1 then cat (cat (cat (lO p.1) (ik (qy p.2.1 p.2.2.1 p.2.2.2.1) 200)) (kO p.2.2.2.2.1)) (ik p.2.2.2.2.2 4000)
 else((lO p.1).1,true)
def pfD(l:List Pf)(i:Nat):Pf:=l.getD i X0
def ON(l:List Pf):Nat->Wp
 |0=>(num l.length,false)
 |k+1=>cat (ON l k) (ku (pfD l k))
def iE(l:List (List Pf))(i:Nat):List Pf:=l.getD i []
def cY(n:Int)(g:B8)(s:List Sg)(l:List (List Pf)):Nat->Wp
 |0=>cat ([1],false) (ajd n g s)
 |k+1=>cat (cY n g s l k) (ON (iE l k) (iE l k).length)
def wy(w:Wp):B8:=if w.2 then [] else if 1048576<(w.1.length:Int) then [] else w.1
def wz(w:Wp):Int:=if w.2 then 1 else if 1048576<(w.1.length:Int) then 3 else 0
def UJ(l:List (List Pf)):Bool:=l.all λx=>decide ((x.length:Int)<=16)
def kv(n:Int)(g:B8)(s:List Sg)(l:List (List Pf)):B8×Int:=
 if(l.length:Int)≠s.length\/UJ l=false then([],1) else(wy (cY n g s l l.length),wz (cY n g s l l.length))
def ahO(p:List B8):B8:=num p.length++p.flatten
def alJ(n:Int)(g:B8)(s:List Sg):B8:=text (hB n g s)
def afW(p:Pf):B8:=num p.1++text (qy p.2.1 p.2.2.1 p.2.2.2.1)++ahO p.2.2.2.2.1++text p.2.2.2.2.2
def aje(l:List Pf)(k:Nat):B8:=num l.length++(l.take k).flatMap afW
def aAo(n:Int)(g:B8)(s:List Sg)(l:List (List Pf))(k:Nat):B8:=[1]++alJ n g s++(l.take k).flatMap λx=>aje x x.length
def aAr(n:Int)(g:B8)(s:List Sg)(l:List (List Pf)):B8:=aAo n g s l l.length
def X6(p:Pf):Bool:= !fT p.1&&(fU p.2.1 p.2.2.1 p.2.2.2.1&&(decide ((p.2.2.2.2.1.length:Int)<=64)&&(bQ p.2.2.2.2.1&&decide ((p.2.2.2.2.2.length:Int)<=4000))))
abbrev Rs:=Int×Int
def cC(b:B8)(a e:Int):Rs×Hd:=
 if(an b a e 10000).1.2.2≠0 then((an b a e 10000).1.2,(0,[],[]))
 else(((an b a e 10000).1.2.1,(hR (an b a e 10000).2).2),(hR (an b a e 10000).2).1)
def kQ(b:B8)(a e:Int):Rs×Lk:=
 if(an b a e 200).1.2.2≠0 then((an b a e 200).1.2,([],[],[]))
 else(((an b a e 200).1.2.1,(bj (an b a e 200).2).2),(bj (an b a e 200).2).1)
def dh(b:B8)(a e cd:Int):Rs×Int:=
 if cd<(af b a e).2 then(((af b a e).1.2.1,2),0) else((af b a e).1.2,(af b a e).2)
def rL(b:B8)(a e:Int):Nat->Rs×List B8
 |0=>((a,e),[])
 |k+1=>((ar b (rL b a e k).1.1 (rL b a e k).1.2).1.2,(rL b a e k).2++[(ar b (rL b a e k).1.1 (rL b a e k).1.2).2])
def pg(b:B8)(a e:Int):Nat:=(dh b a e 64).2.toNat
def dB(b:B8)(a e:Int)(k:Nat):Rs×List B8:=rL b (dh b a e 64).1.1 (dh b a e 64).1.2 k
def iK(b:B8)(a e:Int):Rs×List B8:=dB b a e (pg b a e)
def q1(b:B8)(a e:Int):Rs×Int:=((af b a e).1.2,(af b a e).2)
def q2(b:B8)(a e:Int):Rs×Lk:=kQ b (q1 b a e).1.1 (q1 b a e).1.2
def q3(b:B8)(a e:Int):Rs×List B8:=iK b (q2 b a e).1.1 (q2 b a e).1.2
def q4(b:B8)(a e:Int):Rs×B8:=((an b (q3 b a e).1.1 (q3 b a e).1.2 4000).1.2,(an b (q3 b a e).1.1 (q3 b a e).1.2 4000).2)
def iF(b:B8)(a e:Int):Rs×Pf:=((q4 b a e).1,((q1 b a e).2,(q2 b a e).2.1,(q2 b a e).2.2.1,(q2 b a e).2.2.2,(q3 b a e).2,(q4 b a e).2))
def D9(b:B8)(a e:Int):Nat->Rs×List Pf
 |0=>((a,e),[])
 |k+1=>((iF b (D9 b a e k).1.1 (D9 b a e k).1.2).1,(D9 b a e k).2++[(iF b (D9 b a e k).1.1 (D9 b a e k).1.2).2])
def ò(b:B8)(a e:Int):Nat:=(dh b a e 16).2.toNat
def abH(b:B8)(a e:Int)(k:Nat):Rs×List Pf:=D9 b (dh b a e 16).1.1 (dh b a e 16).1.2 k
def ayK(b:B8)(a e:Int):Rs×List Pf:=abH b a e (ò b a e)
def sL(b:B8)(a e:Int):Nat->Rs×List (List Pf)
 |0=>((a,e),[])
 |k+1=>((ayK b (sL b a e k).1.1 (sL b a e k).1.2).1,(sL b a e k).2++[(ayK b (sL b a e k).1.1 (sL b a e k).1.2).2])
def dY(b:B8)(kind:UInt8):Int:=if 1048576<(b.length:Int) then 3 else if b.length=0 then 4 else if b.getD 0 0=kind then 0 else 2
def aH(b:B8):Rs×Hd:=cC b 1 0
def js(b:B8)(k:Nat):Rs×List (List Pf):=sL b (aH b).1.1 (aH b).1.2 k
def aN(b:B8):Nat:=(aH b).2.2.2.length
def bp(b:B8):(Int×B8×List Sg×List (List Pf))×Int:=
 if dY b 1≠0 then((0,[],[],[]),dY b 1)
 else if done b (js b (aN b)).1.1 (js b (aN b)).1.2≠0 then((0,[],[],[]),done b (js b (aN b)).1.1 (js b (aN b)).1.2)
 else(((aH b).2.1,(aH b).2.2.1,(aH b).2.2.2,(js b (aN b)).2),0)
def st1(b:B8):Rs×Hd:=cC b 1 0
def st2(b:B8):Rs×Hd:=cC b (st1 b).1.1 (st1 b).1.2
def uV(b:B8):Rs×List B8:=iK b (st2 b).1.1 (st2 b).1.2
def ah(b:B8):(Int×B8×List Sg×Int×B8×List Sg×List B8)×Int:=
 if dY b 3≠0 then((0,[],[],0,[],[],[]),dY b 3)
 else if done b (uV b).1.1 (uV b).1.2≠0 then((0,[],[],0,[],[],[]),done b (uV b).1.1 (uV b).1.2)
 else(((st1 b).2.1,(st1 b).2.2.1,(st1 b).2.2.2,(st2 b).2.1,(st2 b).2.2.1,(st2 b).2.2.2,(uV b).2),0)
theorem aLi(h:fT v=false):af (P++(num v++R)) P.length 0=((P++(num v++R),(P.length:Int)+(num v).length,0),v):=by
 simp [fT,Bool.or_eq_false_iff,decide_eq_false_iff_not] at h;grind[Int.toNat_natCast,List.drop_left,C3,E3,List.length_append,Int.natCast_add]
theorem aJK {d:B8}(h:(d.length:Int)<=m)(hm:m<=1048576):an (P++(text d++R)) P.length 0 m=((P++(text d++R),(P.length:Int)+(text d).length,0),d):=by
 have hd:(P++(text d++R)).drop ((P.length:Nat):Int).toNat=text d++R:=by rw [X!,List.drop_left]
 have e:text d++R=num (d.length:Int)++(d++R):=by simp [text]
 have hf:=C3 (v:=(d.length:Int)) w! w! (d++R)
 have hT:aq (text d++R) m=(d,((text d).length:Int),0):=by
  unfold aq;rw [e,hf,if_neg z!,if_neg w!,if_neg (by simp;omega)];simp [text]
 unfold an;rw [zr w! (by simp;omega),uK w! (by simp;omega),hd,hT];simp
theorem aO1 {d:B8}(h:(d.length:Int)=32):ar (P++(d++R)) P.length 0=((P++(d++R),(P.length:Int)+d.length,0),d):=by
 rw [ë w! (by simp;omega),X!,List.drop_left];have :(d++R).take 32=d:=by rw [show 32=d.length by omega,List.take_left]
 rw [this,h]
theorem aJt:∀(l:List Sg),(∀i,i<l.length->jH (sg l i).1 (sg l i).2.1 (sg l i).2.2.1 (sg l i).2.2.2=true)->(jl l).length<=50*l.length
 |[],_=>by simp [jl]
 |s::l,h=>by
  have h0:=I5 (h 0 z!);have ih:=aJt l λi hi=>by have:=h (i+1) (by simp;omega);simpa [sg] using this
  have e:jl (s::l)=E2 s++jl l:=rfl;rw [e,K!,O?];have hs:s.2.2.2.length=32:=h0.2.2.2.2.2;have n1:=cX s.2.1;have n2:=cX s.2.2.1;simp [E2,K!];omega
variable {l:List Sg}
theorem aKu(h:bN n g l=true):((hB n g l).length:Int)<=4000:=by
 grind[jm,rJ,aJt,cX,hB,List.length_append]
theorem aFZ {b:B8}(h:(b.length:Int)<=m):ik b m=(text b,false):=by simp_all[ik,J!]
theorem aNP(h:fT v=false):lO v=(num v,false):=by grind[lO]
theorem aMz(h:bN n g l=true):ajd n g l=(alJ n g l,false):=by
 have:=aKu h;unfold ajd alJ;rw [if_pos h,aFZ w!]
theorem aqZ(h:bQ p=true):p.takeWhile KJ=p:=by
 induction p with
 |nil=>rfl
 |cons a l ih=>
  simp_all[bQ,List.all_cons,B!,List.takeWhile_cons_of_pos,KJ]
theorem aMA {p:List B8}(h:(p.length:Int)<=64)(h1:bQ p=true):kO p=(ahO p,false):=by
 simp_all[kO,ahO,J!,aqZ]
theorem Sq {p:Pf}:X6 p=true↔fT p.1=false/\fU p.2.1 p.2.2.1 p.2.2.2.1=true/\(p.2.2.2.2.1.length:Int)<=64/\bQ p.2.2.2.2.1=true/\(p.2.2.2.2.2.length:Int)<=4000:=by
 simp_all[X6,B!,M?,H!]
theorem aKv {p:Pf}(h:X6 p=true):ku p=(afW p,false):=by
 obtain⟨h1,h2,h3,h4,h5⟩:=Sq.1 h;have hl:=EW h2;unfold ku afW;rw [if_pos h2,aNP h1,aFZ w!,aMA h3 h4,aFZ w!];rfl
theorem aJ0 {l:List Pf}(h:∀p∈l,X6 p=true):∀k,k<=l.length->ON l k=(aje l k,false)
 |0,_=>by simp [ON,aje]
 |k+1,hk=>by
  have hm:=h _ (bC l k X0 w!);simp [ON];rw [aJ0 h k w!,show pfD l k=l.getD k X0 from rfl,aKv hm];simp [cat,aje,Bool.or_self];rw [aD l k X0 w!,List.flatMap_append];simp
theorem aJ1 {n:Int}{g:B8}{s:List Sg}{l:List (List Pf)}(hr:bN n g s=true)(h:∀x∈l,∀p∈x,X6 p=true):∀k,k<=l.length->cY n g s l k=(aAo n g s l k,false)
 |0,_=>by grind[cY,aAo,aMz,cat]
 |k+1,hk=>by
  have hm:=h _ (bC l k [] w!);simp [cY];rw [aJ1 hr h k w!,show iE l k=l.getD k [] from rfl,aJ0 hm _ (S! _)];simp [cat,aAo,Bool.or_self];rw [aD l k [] w!,List.flatMap_append];simp
theorem aMB(h:bN n g s=true):
  cC (P++(alJ n g s++R)) P.length 0=(((P.length:Int)+(alJ n g s).length,0),(n,g,s)):=by
 have:=aKu h;unfold cC alJ;rw [aJK w! (by decide),if_neg z!,é h]
theorem aMC {a c:B8}(h:fU a b c=true):
  kQ (P++(text (qy a b c)++R)) P.length 0=(((P.length:Int)+(text (qy a b c)).length,0),(a,b,c)):=by
 have:=EW h;unfold kQ;rw [aJK w! (by decide),if_neg z!,ak8 h]
theorem aHD(h:0<=v)(h1:v<=m)(hm:m<=64):
  dh (P++(num v++R)) P.length 0 m=(((P.length:Int)+(num v).length,0),v):=by
 unfold dh;rw [aLi (by grind[fT]),if_neg w!]
theorem aJv {P R:B8}{p:List B8}(h:bQ p=true):∀k,k<=p.length->
  rL (P++(p.flatten++R)) P.length 0 k=(((P.length:Int)+((p.take k).flatten).length,0),p.take k)
 |0,_=>by rfl
 |k+1,hk=>by
  have hd:((p.getD k []).length:Int)=32:=by grind[eA,bC]
  have e:P++(p.flatten++R)=(P++(p.take k).flatten)++(p.getD k []++((p.drop (k+1)).flatten++R)):=by
   have :p.flatten=(p.take k).flatten++(p.getD k []++(p.drop (k+1)).flatten):=by
    conv=>lhs;rw [<-V? (k+1) p,aD p k [] w!]
    simp
   grind
  simp only [rL];rw [aJv h k w!];have:=aO1 (P:=P++(p.take k).flatten) (R:=(p.drop (k+1)).flatten++R) hd;rw [<-e,K!,Int.natCast_add] at this;rw [this,aD p k [] w!];simp [Int.add_assoc]
theorem aMD{p:List B8}(h:(p.length:Int)<=64)(h1:bQ p=true):
  iK (P++(ahO p++R)) P.length 0=(((P.length:Int)+(ahO p).length,0),p):=by
 have e:P++(ahO p++R)=P++(num p.length++(p.flatten++R)):=by simp [ahO]
 have hc:=aHD (P:=P) (R:=p.flatten++R) (v:=(p.length:Int)) (m:=64) w! h (by decide);rw [<-e] at hc;unfold iK dB pg;rw [hc];simp;have hd:=aJv (P:=P++num p.length) (R:=R) h1 p.length (Nat.le_refl _);rw [show P++num p.length++(p.flatten++R)=P++(ahO p++R) by simp [ahO],List.length_append,Int.natCast_add] at hd;rw [hd,List.take_length];simp [ahO,Int.add_assoc]
theorem aKw{p:Pf}(h:X6 p=true):
  iF (P++(afW p++R)) P.length 0=(((P.length:Int)+(afW p).length,0),p):=by
 obtain⟨h1,h2,h3,h4,h5⟩:=Sq.1 h;obtain⟨a,t,u,v,w,d⟩:=p;generalize hb:P++(afW (a,t,u,v,w,d)++R)=b;have e1:b=P++(num a++(text (qy t u v)++(ahO w++(text d++R)))):=by rw [<-hb];simp [afW]
 have r1:q1 b P.length 0=(((P.length:Int)+(num a).length,0),a):=by unfold q1;rw [e1,aLi h1]
 have r2:q2 b P.length 0=(((P.length:Int)+(num a).length+(text (qy t u v)).length,0),(t,u,v)):=by
  unfold q2;rw [r1];have:=aMC (P:=P++num a) (R:=ahO w++(text d++R)) h2;rw [show P++num a++(text (qy t u v)++(ahO w++(text d++R)))=b by rw [e1];simp,List.length_append,Int.natCast_add] at this;exact this
 have r3:q3 b P.length 0=(((P.length:Int)+(num a).length+(text (qy t u v)).length+(ahO w).length,0),w):=by
  unfold q3;rw [r2];have:=aMD (P:=P++num a++text (qy t u v)) (R:=text d++R) h3 h4;rw [show P++num a++text (qy t u v)++(ahO w++(text d++R))=b by rw [e1];simp,List.length_append,List.length_append,Int.natCast_add,Int.natCast_add] at this;exact this
 have r4:q4 b P.length 0=(((P.length:Int)+(num a).length+(text (qy t u v)).length+(ahO w).length+(text d).length,0),d):=by
  unfold q4;rw [r3];have:=aJK (P:=P++num a++text (qy t u v)++ahO w) (R:=R) (d:=d) (m:=4000) h5 (by decide);rw [show P++num a++text (qy t u v)++ahO w++(text d++R)=b by rw [e1];simp,List.length_append,List.length_append,List.length_append,Int.natCast_add,Int.natCast_add,Int.natCast_add] at this;simp only [this]
 unfold iF;rw [r1,r2,r3,r4];simp [afW,Int.add_assoc]
theorem aBo(l:List Pf):aje l l.length=num l.length++l.flatMap afW:=by simp [aje]
theorem aJ2 {P R:B8}{l:List Pf}(h:∀p∈l,X6 p=true):∀k,k<=l.length->
  D9 (P++(l.flatMap afW++R)) P.length 0 k=(((P.length:Int)+((l.take k).flatMap afW).length,0),l.take k)
 |0,_=>by rfl
 |k+1,hk=>by
  have hm:=h _ (bC l k X0 w!)
  have e:P++(l.flatMap afW++R)=(P++(l.take k).flatMap afW)++(afW (l.getD k X0)++((l.drop (k+1)).flatMap afW++R)):=by
   have :l.flatMap afW=(l.take k).flatMap afW++(afW (l.getD k X0)++(l.drop (k+1)).flatMap afW):=by
    conv=>lhs;rw [<-V? (k+1) l,aD l k X0 w!]
    simp
   rw [this];simp
  simp only [D9];rw [aJ2 h k w!];have:=aKw (P:=P++(l.take k).flatMap afW) (R:=(l.drop (k+1)).flatMap afW++R) hm;rw [<-e,K!,Int.natCast_add] at this;rw [this,aD l k X0 w!,List.flatMap_append];simp [Int.add_assoc]
theorem aNQ{l:List Pf}(h:∀p∈l,X6 p=true)(hl:(l.length:Int)<=16):
  ayK (P++(aje l l.length++R)) P.length 0=(((P.length:Int)+(aje l l.length).length,0),l):=by
 have e:P++(aje l l.length++R)=P++(num l.length++(l.flatMap afW++R)):=by grind[aBo]
 have hc:=aHD (P:=P) (R:=l.flatMap afW++R) (v:=(l.length:Int)) (m:=16) w! hl (by decide);rw [<-e] at hc;unfold ayK abH ò;rw [hc];simp;have hd:=aJ2 (P:=P++num l.length) (R:=R) h l.length (Nat.le_refl _);rw [show P++num l.length++(l.flatMap afW++R)=P++(aje l l.length++R) by rw [e];simp,List.length_append,Int.natCast_add] at hd;rw [hd,List.take_length,aBo];simp [Int.add_assoc]
def ajj(l:List (List Pf)):B8:=l.flatMap λx=>aje x x.length
theorem aJx {P R:B8}{l:List (List Pf)}(h:∀x∈l,(x.length:Int)<=16/\∀p∈x,X6 p=true):∀k,k<=l.length->
  sL (P++(ajj l++R)) P.length 0 k=(((P.length:Int)+(ajj (l.take k)).length,0),l.take k)
 |0,_=>by rfl
 |k+1,hk=>by
  have hm:=h _ (bC l k [] w!)
  have e:P++(ajj l++R)=(P++ajj (l.take k))++(aje (l.getD k []) (l.getD k []).length++(ajj (l.drop (k+1))++R)):=by
   have :ajj l=ajj (l.take k)++(aje (l.getD k []) (l.getD k []).length++ajj (l.drop (k+1))):=by
    unfold ajj;conv=>lhs;rw [<-List.take_append_drop (k+1) l,aD l k [] w!]
    simp
   grind
  simp [sL];rw [aJx h k w!];have:=aNQ (P:=P++ajj (l.take k)) (R:=ajj (l.drop (k+1))++R) hm.2 hm.1;rw [<-e,K!,Int.natCast_add] at this;rw [this,aD l k [] w!];simp [ajj,Int.add_assoc]
theorem aNR(h:a=b.length):done b a 0=0:=by
 simp_all[Xv,J!]
theorem aNS {n:Int}{g:B8}{s:List Sg}{l:List (List Pf)}(hr:bN n g s=true)(hl:l.length=s.length)(h:∀x∈l,(x.length:Int)<=16/\∀p∈x,X6 p=true)(hb:((aAr n g s l).length:Int)<=1048576):
  bp (aAr n g s l)=((n,g,s,l),0):=by
 have e:aAr n g s l=[1]++(alJ n g s++(ajj l++[])):=by simp [aAr,aAo,ajj]
 generalize aAr n g s l=b at *;have hg:dY b 1=0:=by unfold dY;rw [if_neg w!,if_neg (by rw [e];simp),if_pos (by rw [e];rfl)]
 have h1:aH b=((1+((alJ n g s).length:Int),0),(n,g,s)):=by
  rw [e];exact aMB (P:=[1]) (R:=ajj l++[]) hr
 have hN:aN b=l.length:=by unfold aN;rw [h1];exact hl.symm
 have h2:js b (aN b)=((1+((alJ n g s).length:Int)+(ajj l).length,0),l):=by
  unfold js;rw [h1,hN];have:=aJx (P:=[1]++alJ n g s) (R:=[]) h l.length (Nat.le_refl _);rw [show [1]++alJ n g s++(ajj l++[])=b by rw [e];simp,List.length_append,Int.natCast_add,List.take_length] at this;exact this
 have hlen:(b.length:Int)=1+((alJ n g s).length:Int)+(ajj l).length:=by rw [e];simp;omega
 unfold bp;rw [if_neg w!,h2,aNR hlen.symm,if_neg (by decide),h1]
def rM(d:Bool)(w:Wp):Bool:=d || w.2
def bytesOf(w:Wp):B8:=w.1
def iG(w:Wp):Bool:=w.2
def qD(l:List (List Pf)):Prop:=l.length<=1000/\∀x∈l,∀p∈x,p.2.2.2.2.2.length<=1099511627776
def dN(n:Int)(g:B8)(s:List Sg)(l:List (List Pf))(k j:Nat):Wp:=cat (cY n g s l k) (ON (iE l k) j)
def kz(s:List Sg)(l:List (List Pf))(k:Nat):Prop:=k<=l.length/\l.length=s.length/\qD l/\∀i,i<k->(iE l i).length<=16
def iH(s:List Sg)(l:List (List Pf))(k j:Nat):Prop:=kz s l k/\k<l.length/\(iE l k).length<=16/\j<=(iE l k).length
def BX(b:B8)(k j:Nat):Rs×List Pf:=abH b (js b k).1.1 (js b k).1.2 j
def qE(b:B8)(k:Nat):Nat:=ò b (js b k).1.1 (js b k).1.2
theorem alK(s:B8):(text s).length<=s.length+9:=by
 grind[cX,text,List.length_append]
theorem C9(b:B8)(hm:0<=m):((ik b m).1.length:Int)<=m+9:=by
 grind[ik,alK]
theorem X8(v:Int):(lO v).1.length<=9:=by
 grind[lO,cX]
theorem ahC(n:Int)(g:B8)(s:List Sg):(ajd n g s).1.length<=10009:=by
 unfold ajd;split
 . have:=C9 (hB n g s) (m:=10000) (by decide);omega
 grind
theorem abI:∀(p:List B8),(p.takeWhile KJ).flatten.length<=32*p.length
 |[]=>by simp
 |a::p=>by
  have:=abI p;by_cases h:KJ a=true
  . rw [List.takeWhile_cons_of_pos h,List.flatten_cons,K!,O?];have :(a.length:Int)=32:=of_decide_eq_true h;omega
  simp_all
theorem OO(p:List B8):(kO p).1.length<=2057:=by
 grind[kO,cX,abI,List.length_append]
theorem X9(p:Pf):(ku p).1.length<=7000:=by
 have h1:=X8 p.1;have h2:=C9 (qy p.2.1 p.2.2.1 p.2.2.2.1) (m:=200) (by decide);have h3:=OO p.2.2.2.2.1;have h4:=C9 p.2.2.2.2.2 (m:=4000) (by decide);grind[ku,cat,List.length_append]
theorem Jb(l:List Pf):∀k,(ON l k).1.length<=7000*k+9
 |0=>by grind[ON,cX]
 |k+1=>by
  have:=Jb l k;have:=X9 (pfD l k);simp [ON,cat,K!];omega
theorem Sr(n:Int)(g:B8)(s:List Sg)(l:List (List Pf)):∀k,(∀i,i<k->(iE l i).length<=16)->(cY n g s l k).1.length<=120000*k+20000
 |0,_=>by
  grind[ahC,cY,cat,List.length_append,List.length_singleton]
 |k+1,h=>by
  have:=Sr n g s l k λi hi=>h i w!;have:=Jb (iE l k) (iE l k).length;have:=h k w!;simp [cY,cat,K!];omega
theorem aG7(h:¬(64:Int)<p.length):mA p 0:=⟨w!,U! _,z!⟩
theorem aq0{k:Nat}(h:mA p k):(aL4 p k).length<=2057:=by
 obtain⟨h1,h2,h3⟩:=h
 have q:∀(l:List B8),(∀d∈l,(d.length:Int)=32)->l.flatten.length=32*l.length:=by
  intro l;induction l with
  |nil=>grind
  |cons a l ih=>
   grind
 grind[cX,List.length_take,aL4,List.length_append]
theorem Ya {p:List B8}{k:Nat}(h:mA p k)(hk:(k:Int)<p.length)(hd:((p.getD k []).length:Int)=32):mA p (k+1)/\aL4 p k++p.getD k []=aL4 p (k+1):=by
 have e:=aD p k [] w!;refine⟨⟨h.1,w!,?_⟩,?_⟩
 . rw [e];intro d hm;rcases F!.1 hm with q|q
   . exact h.2.2 d q
   grind
 grind[aL4]
theorem aq1:∀ {k:Nat},(∀d∈p.take k,(d.length:Int)=32)->k<p.length->¬((p.getD k []).length:Int)=32->p.takeWhile KJ=p.take k:=by
 induction p with
 |nil=>grind
 |cons a p ih=>
  intro k h hk hd;cases k with
  |zero=>simp_all[List.takeWhile_cons_of_neg,KJ,H!]
  |succ k=>
   have ha:=h a z!;rw [List.takeWhile_cons_of_pos (show KJ a=true from K? ha),List.take_succ_cons,ih (k:=k) (λd hd=>h d (by exact E! _ hd)) (by simpa using hk) hd]
theorem abJ {p:List B8}{k:Nat}(h:mA p k)(hk:(k:Int)<p.length)(hd:¬((p.getD k []).length:Int)=32):kO p=(aL4 p k,true):=by
 have hD:bQ p=false:=by
  grind[eA,bC]
 unfold kO aL4;rw [if_neg (by have:=h.1;omega),hD,aq1 h.2.2 w! hd];rfl
theorem abK{k:Nat}(h:mA p k)(hk:¬(k:Int)<p.length):kO p=(aL4 p k,false):=by
 have e:k=p.length:=by have:=h.2.1;omega
 have hD:bQ p=true:=(eA p).2 λd hd=>by have:=h.2.2 d x!;omega
 unfold kO aL4;rw [if_neg (by have:=h.1;omega),hD,aqZ hD,e,List.take_length];rfl
theorem alL(h:(64:Int)<p.length):kO p=([],true):=by simp_all[kO,M!]
theorem ayL{l:List (List Pf)}(hp:qD l)(h:(l.length:Int)=s.length):kz s l 0:=⟨U! _,w!,hp,λi hi=>by omega⟩
variable {l:List (List Pf)}
theorem alM{k:Nat}(h:kz s l k)(hk:(k:Int)<l.length)(h1:¬(16:Int)<(iE l k).length):iH s l k 0:=⟨h,w!,w!,U! _⟩
theorem Yb{k j:Nat}(h:iH s l k j)(hj:(j:Int)<(iE l k).length):iH s l k (j+1):=⟨h.1,h.2.1,h.2.2.1,w!⟩
theorem LU{k j:Nat}(h:iH s l k j)(hj:¬(j:Int)<(iE l k).length):kz s l (k+1)/\dN n g s l k j=cY n g s l (k+1):=by
 have e:j=(iE l k).length:=by have:=h.2.2.2;omega
 refine⟨⟨by have:=h.2.1;omega,h.1.2.1,h.1.2.2.1,λi hi=>?_⟩,by subst e;rfl⟩;by_cases q:i=k
 . subst q;exact h.2.2.1
 . exact h.1.2.2.2 i w!
theorem alN{l:List (List Pf)}(h:¬(l.length:Int)=s.length):kv n g s l=([],1):=by simp_all[kv,M!]
theorem LV{k:Nat}(hk:(k:Int)<l.length)(h:(16:Int)<(iE l k).length):kv n g s l=([],1):=by
 have :UJ l=false:=by
  rw [<-Bool.not_eq_true];intro q;have:=of_decide_eq_true (List.all_eq_true.1 q _ (bC l k [] w!));grind[iE]
 simp_all[kv,M!]
theorem LW{k:Nat}(h:kz s l k)(hk:¬(k:Int)<l.length):kv n g s l=(wy (cY n g s l k),wz (cY n g s l k)):=by
 have e:k=l.length:=by have:=h.1;omega
 subst e
 have :UJ l=true:=Z!.2 λx hx=>by
  obtain⟨i,hi,rfl⟩:=List.mem_iff_getElem.1 hx;have:=h.2.2.2 i hi;have e:iE l i=l[i]:=by simp [iE,G!,hi]
  rw [e] at this;exact K? w!
 unfold kv;rw [if_neg (by rw [this,h.2.1];simp)]
theorem Yc{k j:Nat}(h:iH s l k j)(hj:(j:Int)<(iE l k).length):(pfD (iE l k) j).2.2.2.2.2.length<=1099511627776:=
 h.1.2.2.1.2 _ (bC l k [] h.2.1) _ (bC (iE l k) j X0 w!)
theorem UK{k:Nat}(h:kz s l k):(cY n g s l k).1.length<=130000000:=by
 have:=Sr n g s l k h.2.2.2;have:=h.1;have:=h.2.2.1.1;omega
theorem Yd{k j:Nat}(h:iH s l k j):(dN n g s l k j).1.length<=140000000:=by
 have:=UK (n:=n) (g:=g) h.1;have:=Jb (iE l k) j;have:=h.2.2.1;have:=h.2.2.2
 grind[dN,cat,List.length_append]
theorem aq2(v:Int):(mn [] v).length<=9:=by
 grind[mn,cX]
theorem aG8(v:Int):mn [] v=(lO v).1:=by grind[mn,lO]
theorem aG9(v:Int)(d:Bool):(bif !decide (xV v=0) then true else d)=rM d (lO v):=by
 grind[xV,lO,rM,fT]
theorem LX {n:Nat}(h:n<=1000):lO (n:Int)=(num (n:Int),false):=by
 grind[lO,OD]
theorem abL(h:m<b.length):ik b m=([],true):=by simp_all[ik,M!]
theorem alO(h:¬m<b.length):ik b m=(text b,false):=by simp_all[ik,J!]
theorem alP(h:¬(hW n g s).2=0):ajd n g s=([],true):=by
 grind[bN,LQ,ajd]
theorem aq3(h:(hW n g s).2=0):ajd n g s=ik (hW n g s).1 10000/\(hW n g s).1.length<=100000:=by
 simp_all[aly,ajd,M!,abA]
theorem aq4(a b c:B8):(fW a b c).length<=200:=by
 grind[fW,EW]
theorem aA6 {a c:B8}(h:¬kM a b c=0):fU a b c=false:=by
 grind[fU,kM]
theorem aq5 {a c:B8}(h:kM a b c=0):fU a b c=true/\fW a b c=qy a b c:=by
 cases q:fU a b c with
 |true=>exact⟨rfl,by grind[fW]⟩
 |false=>grind[kM]
theorem abM{p2 p3 p4:B8}(h:¬kM p2 p3 p4=0):ku (p1,p2,p3,p4,p5,p6)=((lO p1).1,true):=by
 grind[ku,aA6]
theorem alQ{p2 p3 p4:B8}(h:kM p2 p3 p4=0):ku (p1,p2,p3,p4,p5,p6)=cat (cat (cat (lO p1) (ik (fW p2 p3 p4) 200)) (kO p5)) (ik p6 4000):=by
 grind[ku,aq5]
theorem abN {n:Int}{g:B8}{s:List Sg}{l:List (List Pf)}{k j:Nat}(p:Pf)(hp:p=pfD (iE l k) j)(d:Bool)(b:B8)(hd:d=iG (dN n g s l k j))(hb:b=bytesOf (dN n g s l k j)):
  rM d (ku p)=iG (dN n g s l k (j+1))/\b++bytesOf (ku p)=bytesOf (dN n g s l k (j+1)):=by
 subst hp;subst hd;subst hb;simp [rM,iG,bytesOf,dN,ON,cat,Bool.or_assoc,W!,and_self]
theorem abO(h:(1048576:Int)<b.length):dY b c=3:=by simp_all[dY,M!]
theorem abP {b:B8}(h:¬(1048576:Int)<b.length)(h1:(b.length:Int)=0):dY b c=4:=by simp_all[dY,J!,M!]
theorem alR {b:B8}(h:¬(1048576:Int)<b.length)(h1:¬(b.length:Int)=0)(h2:¬((b.getD (Int.toNat 0) 0).toNat:Int)=c.toNat):dY b c=2:=by
 grind[dY]
theorem aA7 {b:B8}(h:¬(1048576:Int)<b.length)(h1:¬(b.length:Int)=0)(h2:((b.getD (Int.toNat 0) 0).toNat:Int)=c.toNat):dY b c=0:=by
 unfold dY;grind[UInt8.toNat_inj]
theorem LY(b:B8)(a e m:Int):(an b a e m).2.length<=b.length:=by
 grind[an,di]
theorem alS(b:B8)(a e:Int)(hm:0<=m):(dh b a e m).2<=m:=by
 grind[dh]
theorem aq6(h:m<(af b a e).2):dh b a e m=(((af b a e).1.2.1,2),0):=by simp_all[dh,M!]
theorem aA8(h:¬m<(af b a e).2):dh b a e m=((af b a e).1.2,(af b a e).2):=by simp_all[dh,J!]
theorem aA9(h:¬(an b a e 10000).1.2.2=0):cC b a e=((an b a e 10000).1.2,(0,[],[])):=by simp_all[cC,M!]
theorem aq7(h:(an b a e 10000).1.2.2=0):cC b a e=(((an b a e 10000).1.2.1,(hR (an b a e 10000).2).2),(hR (an b a e 10000).2).1):=by simp_all[cC,J!]
theorem aBa(h:¬(an b a e 200).1.2.2=0):kQ b a e=((an b a e 200).1.2,([],[],[])):=by simp_all[kQ,M!]
theorem aq8(h:(an b a e 200).1.2.2=0):kQ b a e=(((an b a e 200).1.2.1,(bj (an b a e 200).2).2),(bj (an b a e 200).2).1):=by simp_all[kQ,J!]
theorem abQ(b:B8)(a e:Int):∀k,(rL b a e k).2.length=k
 |0=>rfl
 |k+1=>by simp only [rL];rw [K!,abQ b a e k];rfl
theorem LZ(b:B8)(a e:Int)(k:Nat):(dB b a e k).2.length=k:=abQ ..
theorem abR(b:B8)(a e:Int):∀k,(D9 b a e k).2.length=k
 |0=>rfl
 |k+1=>by simp only [D9];rw [K!,abR b a e k];rfl
theorem aq9(b:B8)(k j:Nat):(BX b k j).2.length=j:=abR ..
theorem abS(b:B8)(a e:Int):∀k,(sL b a e k).2.length=k
 |0=>rfl
 |k+1=>by simp only [sL];rw [K!,abS b a e k];rfl
theorem ara(b:B8)(k:Nat):(js b k).2.length=k:=abS ..
theorem OP(b:B8)(a e:Int):pg b a e<=64:=by simp_all[alS,pg]
theorem alT(b:B8)(k:Nat):qE b k<=16:=by simp_all[alS,js,qE,ò]
theorem ó {x:Nat}(h:(x:Int)<v):x+1<=v.toNat:=by omega
theorem OQ {x:Nat}(h:cc x v.toNat)(h1:¬(x:Int)<v):x=v.toNat:=by grind[cc]
theorem arb(b:B8):(hR b).1.2.2.length<=64:=by
 by_cases h:(hR b).2=0
 . grind[rJ,jm,Ox]
 simp_all[als,U!]
theorem ô(b:B8):aN b<=64:=by
 grind[aN,aH,cC,arb]
theorem UL {b:B8}{x:Nat}(h:(x:Int)<((cC b 1 0).2.2.2.length:Int)):x+1<=aN b:=by
 have :aN b=(cC b 1 0).2.2.2.length:=rfl;omega
theorem õ {b:B8}{x:Nat}(h:cc x (aN b))(h1:¬(x:Int)<((cC b 1 0).2.2.2.length:Int)):x=aN b:=by
 have :aN b=(cC b 1 0).2.2.2.length:=rfl;grind[cc]
theorem ayM(h:¬dY b 1=0):bp b=((0,[],[],[]),dY b 1):=by simp_all[bp,M!]
theorem alU{k:Nat}(h:dY b 1=0)(hk:k=aN b)(h1:¬done b (js b k).1.1 (js b k).1.2=0):bp b=((0,[],[],[]),done b (js b k).1.1 (js b k).1.2):=by simp_all[bp,J!,M!]
theorem ayN{k:Nat}(h:dY b 1=0)(hk:k=aN b)(h1:done b (js b k).1.1 (js b k).1.2=0):bp b=(((aH b).2.1,(aH b).2.2.1,(aH b).2.2.2,(js b k).2),0):=by simp_all[bp,J!]
variable {l:List Sg}{s:List Int}{c:B8}
theorem pT(h:bN n g l=true):0<=n/\n<=1000/\g.length=32/\l.length<=64:=by
 grind[jm,rJ]
theorem abT(h:bN n g l=true):aC (hB n g l)/\small (hB n g l):=by
 grind[abA,aC,small]
def im(n:Int)(g:B8)(l:List Sg):B8×Int:=if bN n g l then(mF 3 (hB n g l),0) else([],1)
def uW(n:Int)(g:B8)(l:List Sg):B8:=eW 3 (hB n g l)
def mG(docs:List B8)(l:List aY):B8×Int:=
 if gv docs l then(mF 3 (hB docs.length (root (leaves docs)) (cB docs l)),0) else([],7)
def Lm(d:List cr)(ts:List B8):List Pf:=ts.map (la d)
def rN(d:List cr)(ts:List B8)(k:Nat):List Pf:=(ts.take k).map (la d)
def Jc(d:List cr)(ts:List B8):Prop:=bn d/\bg d=true/\ts.length<=1000/\∀t∈ts,isTerm t=true
def Ye(l:List aY)(ts:List B8):List (List Pf):=l.map λs=>Lm s.2.2 ts
def iL(l:List aY)(ts:List B8)(k:Nat):List (List Pf):=Ye (l.take k) ts
def fE(docs:List B8)(l:List aY)(q:List dC):B8×Int:=
 if gv docs l=false then([],7) else if bw q=false then([],1)
 else kv docs.length (root (leaves docs)) (cB docs l) (Ye l (ax q))
theorem aME(h:bN n g l=true):((alJ n g l).length:Int)<=4009:=by
 have:=aKu h;grind[alK,hB,alJ]
theorem aLj:∀(p:List B8),bQ p=true->p.flatten.length=32*p.length
 |[],_=>rfl
 |a::p,h=>by
  have ha:=(eA _).1 h a (I! ..);have:=aLj p ((eA _).2 λd hd=>(eA _).1 h d (E! _ hd));rw [List.flatten_cons,K!,O?,ha,this];omega
theorem aMF(h:bQ p=true):(ahO p).length<=32*p.length+9:=by
 grind[cX,ahO,List.length_append,aLj]
theorem aJ3 {b:B8}(h:(b.length:Int)<=1048576):wy (b,false)=b/\wz (b,false)=0:=by
 simp_all[wy,wz,J!]
theorem Yf(l:List B8):(leaves l).length=l.length:=by simp [leaves]
theorem alY(h:v<16384):(num v).length<=2:=by
 grind[num,ra]
theorem alZ {l:List Int}(h:bK l=true):(BF l).length<=2*l.length+2:=by
 have hl:=ou h
 have q:∀k,k<=l.length->((List.range k).flatMap (λi=>num (l.getD i 0-gi l i-1))).length<=2*k:=by
  intro k;induction k with
  |zero=>simp
  |succ k ih=>
   intro hk;have h1:=R9 (abp h (k:=k) w!);have h2:=(jG l k).1 ((kL l).1 h k w!);have h3:=alY (v:=l.getD k 0-gi l k-1) w!;rw [List.range_succ,List.flatMap_append,K!];simp only [List.flatMap_cons,List.flatMap_nil,H?];omega
 have:=q l.length (S! _);have h3:=alY (v:=(l.length:Int)) w!;simp only [BF,jb,K!];omega
theorem ahD(h:bg d=true)(t:B8):bK (qz d t)=true:=by
 unfold qz;split
 . rename_i h1;have hb:=LN h1;simp_all[ye,bt]
 . rfl
theorem aBd(h:bg d=true){i:Nat}(hi:i<=d.length):fU (bj (l9 d i)).1.1 (bj (l9 d i)).1.2.1 (bj (l9 d i)).1.2.2=true:=by
 rcases Hc h (k:=i) with q|q
 . have e:l9 d i=qy (if i=0 then [] else fY d (i-1)) (if i<d.length then fY d i else []) (CW (if i=0 then [] else jS d (i-1))):=rfl;grind[ak8]
 omega
theorem ö(h:bg d=true)(hp:d.length<=1048576)(t:B8):X6 (la d t)=true:=by
 obtain⟨f1,f2,f3⟩:=X1 (t:=t) h;have hlen:(leaves (ie d)).length=d.length+1:=by rw [Yf,f3]
 refine Sq.2 ⟨OD f1 (by grind[la]),aBd h w!,?_,ñ _ _ _ rfl (tB _),?_⟩
 . have:=alB (l:=leaves (ie d)) (i:=bt d t+1) (t:=21) f1 w! w!;grind[la]
 grind[la,ahD,alZ,ou]
theorem al0(h:bg d=true)(hp:d.length<=1048576)(ts:List B8):∀p∈Lm d ts,X6 p=true:=by
 intro p Bn;obtain⟨t,_,rfl⟩:=List.mem_map.1 Bn;grind[ö]
variable {l:List aY}
theorem Ss(h:gv docs l=true):∀s∈l,bg s.2.2=true/\s.2.2.length<=1048576/\bn s.2.2:=by
 intro s hs;have R:=RI.of (uR.1 h).1;obtain⟨h1,h2,_⟩:=R.seg s hs;refine⟨?_,h2.1,h2⟩;have :amC s.1 s.2.1 s.2.2=true:=h1;simp [amC,Bool.and_eq_true] at this;grind
theorem al1(h:gv docs l=true)(ht:ts.length<=16):∀x∈Ye l ts,(x.length:Int)<=16/\∀p∈x,X6 p=true:=by
 intro x hx;obtain⟨s,hs,rfl⟩:=List.mem_map.1 hx;grind[Ss,Lm,al0]
theorem az1(h:gv docs l=true):(cB docs l).length=l.length:=by
 grind[cB,me,uR,List.length_map]
theorem aNT(h:gv docs l=true)(hq:bw q=true):
  fE docs l q=(wy (aAr docs.length (root (leaves docs)) (cB docs l) (Ye l (ax q)),false),wz (aAr docs.length (root (leaves docs)) (cB docs l) (Ye l (ax q)),false)):=by
 have hm:=al1 h (pS hq);have hl:(Ye l (ax q)).length=(cB docs l).length:=by rw [az1 h];simp [Ye]
 have ha:UJ (Ye l (ax q))=true:=List.all_eq_true.2 λx hx=>decide_eq_true (hm x hx).1;unfold fE kv;rw [if_neg (by rw [h];decide),if_neg (by rw [hq];decide),if_neg (by rw [hl,ha];simp),aJ1 (ï h) (λx hx=>(hm x hx).2) _ (Nat.le_refl _)];rfl
theorem aJy(h:gv docs l=true)(hq:bw q=true)(he:(fE docs l q).2=0):
  fE docs l q=(aAr docs.length (root (leaves docs)) (cB docs l) (Ye l (ax q)),0)/\((fE docs l q).1.length:Int)<=1048576/\
  bp (fE docs l q).1=(((docs.length:Int),root (leaves docs),cB docs l,Ye l (ax q)),0):=by
 have e:=aNT h hq;rw [e] at he |-
 have hl:((aAr docs.length (root (leaves docs)) (cB docs l) (Ye l (ax q))).length:Int)<=1048576:=by
  simp_all[wz,J!]
 have hb:=aJ3 hl;rw [hb.1,hb.2];exact⟨rfl,hl,aNS (ï h) (by grind[az1,Ye]) (al1 h (pS hq)) hl⟩
theorem az2 {α:Type}(f:α->B8)(c:Nat):∀(l:List α),(∀x∈l,(f x).length<=c)->(l.flatMap f).length<=c*l.length
 |[],_=>by simp
 |a::l,h=>by
  have ih:=az2 f c l λx hx=>h x (List.mem_cons_of_mem _ hx);grind[List.length_append,List.length_cons,Nat.mul_succ]
def a2s(docs:List B8)(l:List aY):B8:=uW docs.length (root (leaves docs)) (cB docs l)
def hx(l:List rf):QS:=(bY (fq l).1 (fq l).2).1
def ayO(l m:List rf)(k:Nat):QS:=mW (hx l) m k
theorem aBe{l:List Sg}(h:¬(hW n g l).2=0):im n g l=([],1)/\(hW n g l).2=1:=by
 grind[bN,LQ,í,im]
theorem arc{l:List Sg}(h:(hW n g l).2=0):im n g l=(mF 3 (hW n g l).1,0)/\aC (hW n g l).1:=by
 simp_all[aly,im,M!,abT]
theorem al2(h:¬(iv docs l).2=0):gv docs l=false:=by
 grind[C7]
theorem wA(h:(iv docs l).2=0):gv docs l=true/\(iv docs l).1.1=(docs.length:Int)/\(iv docs l).1.2.1=root (leaves docs)/\(iv docs l).1.2.2=cB docs l:=by
 grind[gv,C7,alx]
theorem aBf(h:¬(iv docs l).2=0):mG docs l=([],7):=by grind[mG,al2]
theorem ard(h:(iv docs l).2=0):im (iv docs l).1.1 (iv docs l).1.2.1 (iv docs l).1.2.2=mG docs l:=by
 simp_all[wA,mG,im,M!,ï]
theorem KK(h:isTerm t=true):small t:=by grind[BL,small]
theorem are(d:List cr)(ts:List B8)(k:Nat):(rN d ts k).length<=ts.length:=by grind[rN,List.length_take]
theorem al3{k:Nat}(h:(k:Int)<ts.length):rN d ts k++[la d (ts.getD (Int.toNat (k:Int)) [])]=rN d ts (k+1):=by
 grind[Int.toNat_natCast,rN,aD]
theorem arf{k:Nat}(h:gX ts k)(hk:¬(k:Int)<ts.length):rN d ts k=Lm d ts:=by
 grind[gX,rN,Lm,List.take_length]
theorem aBg(h:Jc d ts){k:Nat}(hk:(k:Int)<ts.length):isTerm (ts.getD (Int.toNat (k:Int)) [])=true:=by
 exact h.2.2.2 _ (bC ts k [] w!)
theorem abU(l:List aY)(ts:List B8)(k:Nat):(iL l ts k).length<=l.length:=by grind[iL,Ye,List.length_take]
theorem Yg{k:Nat}(h:(k:Int)<l.length):iL l ts k++[Lm (l.getD (Int.toNat (k:Int)) (0,0,[])).2.2 ts]=iL l ts (k+1):=by
 grind[Int.toNat_natCast,iL,Ye,aD]
theorem arh{k:Nat}(h:gX l k)(hk:¬(k:Int)<l.length):iL l ts k=Ye l ts:=by
 grind[gX,iL,List.take_length]
theorem Jd(h:gv docs l=true):l.length<=64:=by simpa [fL] using(RI.of (uR.1 h).1).le
theorem abV(h:gv docs l=true)(hq:bw q=true){k:Nat}(hk:(k:Int)<l.length):Jc (l.getD (Int.toNat (k:Int)) (0,0,[])).2.2 (ax q):=by
 obtain⟨f1,f2,f3⟩:=Ss h _ (bC l k (0,0,[]) w!);exact⟨f3,f1,by grind[pS],X5 hq⟩
theorem al4(h:¬(iv docs l).2=0):fE docs l q=([],7):=by simp_all[fE,M!,al2]
theorem abW {docs:List B8}{l:List aY}(h:(iv docs l).2=0)(hq:bw q=false):fE docs l q=([],1):=by
 simp_all[fE,J!,wA,M!]
theorem abX(h:gv docs l=true)(hq:bw q=true){k:Nat}(h1:gX l k)(hk:¬(k:Int)<l.length):
  kv ((len docs:Nat):Int) (root (leaves docs)) (cB docs l) (iL l (ax q) k)=fE docs l q/\qD (iL l (ax q) k):=by
 rw [arh h1 hk];refine⟨by unfold fE;rw [if_neg x!,if_neg x!];rfl,?_,?_⟩
 . grind[Jd,Ye]
 . intro x hx p hp;have:=(Sq.1 ((al1 h (pS hq) x hx).2 p hp)).2.2.2.2;omega
def kx:QS:=([zA],[(0,1,[(zA,[0])])])
def kP:List (List Pf):=Ye kx.2 (ax fy)
theorem al5:fV fy:=⟨by unfold small;decide,by unfold small;decide⟩
theorem a2t(h:gv docs l=true)(hq:bw q=false):fE docs l q=([],1):=by
 simp_all[fE,J!,M!]
theorem aZV(h:gv docs l=true):mG docs l=(a2s docs l,0):=by unfold mG;rw [if_pos h];rfl
theorem aQQ(l:List rf):(hx l).1=(fq l).1:=(pf l).1
theorem azG(l:List rf):gv (hx l).1 (hx l).2=true:=by rw [aQQ];exact(pf l).2.2.2.2
def vz(n:Int)(g:B8)(l:List Sg)(root:B8):Bool:=decide ((im n g l).2=0)&&decide ((im n g l).1=root)
def qF(a:List (List Pf))(i:Int)(t:List B8):Bool:=decide ((a.getD i.toNat []).length=t.length)
def xl(l:List Int)(a b:Int)(k:Nat):Prop:=∀j,j<k->a<=l.getD j 0/\l.getD j 0<b
def wB(l:List Int)(a b:Int):Bool:=l.all λx=>decide (a<=x)&&decide (x<b)
theorem ari{l:List Sg}{root:B8}:(bif decide ((im n g l).2=0) then decide ((im n g l).1=root) else false)=vz n g l root:=by
 grind[decide,im,vz]
variable {l:List Int}{d:B8}
theorem zB{b:Int}{k:Nat}(h:xl l a b k)(h1:a<=l.getD k 0)(h2:l.getD k 0<b):xl l a b (k+1):=λj hj=>by
 by_cases Dj:j=k
 . grind
 . exact h j w!
theorem Da{b:Int}{k:Nat}(h:xl l a b k)(hk:l.length<=k):wB l a b=true:=by
 simp [wB,List.all_eq_true,Bool.and_eq_true,decide_eq_true_eq];intro x hx;obtain⟨j,hj,rfl⟩:=List.getElem_of_mem hx;have:=h j w!;grind
theorem Hr{b:Int}{k:Nat}(hk:k<l.length)(h:l.getD k 0<a\/b<=l.getD k 0):wB l a b=false:=by
 rw [Bool.eq_false_iff];intro hx;simp [wB,Z!,B!,H!] at hx;have:=hx l[k] (List.getElem_mem hk);rw [G!,D! hk] at h;simp at h;omega
theorem aHa(h:eM i n):j6 i n (i,n,[]):=⟨h.1,h.2.1,Int.le_refl _,z!,z!⟩
theorem OR(hp:eM i n)(h:j6 i n x)(h1:1<x.2.1):
  split x.2.1=((sp x.2.1.toNat:Nat):Int)/\1<=split x.2.1/\split x.2.1<x.2.1/\x.2.1<=1099511627776/\x.2.2.length<=1099511627776/\0<=x.1/\x.1<x.2.1:=by
 obtain⟨_,_,p3⟩:=hp;obtain⟨q1,q2,q3,_,q5⟩:=h;grind[nD,gN]
theorem aHb(hp:eM i n)(h:j6 i n x)(h1:1<x.2.1)(h2:x.1<split x.2.1):j6 i n (x.1,split x.2.1,x.2.2++[false]):=by
 obtain⟨b1,b2,b3,b4,b5,_⟩:=OR hp h h1;obtain⟨q1,q2,q3,q4,q5⟩:=h;refine⟨q1,h2,x!,?_,x!⟩;grind[mq]
theorem aHc(hp:eM i n)(h:j6 i n x)(h1:1<x.2.1)(h2:¬x.1<split x.2.1):j6 i n (x.1-split x.2.1,x.2.1-split x.2.1,x.2.2++[true]):=by
 obtain⟨b1,b2,b3,b4,b5,_⟩:=OR hp h h1;obtain⟨q1,q2,q3,q4,q5⟩:=h;refine⟨w!,x!,x!,?_,x!⟩;grind[nH]
theorem sd_end(h:j6 i n x)(h1:¬1<x.2.1):x.2.2=aZ i n:=by
 rw [h.2.2.2.1,jK w!];simp
theorem mg(hp:eM i n):((aZ i n).length:Int)<=1099511627776:=by
 have :∀m:Nat,∀i n:Int,n.toNat=m->0<=i->i<n->((aZ i n).length:Int)+1<=n:=by
  intro m;induction m using E6 with
  |h0 m hm=>grind[jK]
  |h1 m hm ihl ihr=>
   intro i n e h0 h1;have hb:=gN hm;by_cases hi:i<((sp n.toNat:Nat):Int)
   . rw [mq w! hi];have:=ihl i ((sp n.toNat:Nat):Int) (by rw [e];simp) h0 hi;simp;rw [e] at this |-;omega
   . rw [nH w! hi];have:=ihr (i-((sp n.toNat:Nat):Int)) (n-((sp n.toNat:Nat):Int)) (by rw [e];omega) w! w!;simp;rw [e] at this |-;omega
 have:=this n.toNat i n rfl hp.1 hp.2.1;have:=hp.2.2;omega
theorem aBh {d:B8}(h:¬((d.length:Int)=32/\1<=n/\n<=1099511627776/\0<=i/\i<n)): []=kq d i n p/\1=eQ d i n p:=by
 simp_all[eQ,J!,kq]
theorem abY {d:B8}(h:(d.length:Int)=32/\1<=n/\n<=1099511627776/\0<=i/\i<n):eM i n:=⟨h.2.2.2.1,h.2.2.2.2,h.2.2.1⟩
theorem arj {d:B8}{i n:Int}{p:List B8}(h:(d.length:Int)=32/\1<=n/\n<=1099511627776/\0<=i/\i<n)(h2:¬((p.length:Int)=((aZ i n).length:Int)/\bQ p=true)): []=kq d i n p/\6=eQ d i n p:=by
 have :eQ d i n p=6:=by rw [eQ,M! h];exact J! h2
 grind[kq]
theorem aBi {d:B8}{i n:Int}{p:List B8}(h:(d.length:Int)=32/\1<=n/\n<=1099511627776/\0<=i/\i<n)(h2:(p.length:Int)=((aZ i n).length:Int)/\bQ p=true):eQ d i n p=0:=by
 rw [eQ,M! h];exact M! h2
theorem Je(h:eQ d i n p=0):((d.length:Int)=32/\1<=n/\n<=1099511627776/\0<=i/\i<n)/\(p.length:Int)=((aZ i n).length:Int)/\bQ p=true:=by
 unfold eQ at h;split at h
 . rename_i h1;split at h
   . rename_i h2;exact⟨h1,h2⟩
   omega
 omega
theorem aHd(d:B8)(i n:Int)(p:List B8):d=jL d i n p 0:=by rfl
theorem al6{k:Nat}(h:eQ d i n p=0)(hk:k<p.length):
  (bif (aZ i n).getD (((aZ i n).length:Int)-1-(k:Int)).toNat false then aT (p.getD k []) (jL d i n p k) else aT (jL d i n p k) (p.getD k []))=jL d i n p (k+1):=by
 obtain⟨_,h2,_⟩:=Je h;have hz:k<(List.zip (aZ i n).reverse p).length:=by grind
 have e:jL d i n p (k+1)=Nl (jL d i n p k) ((List.zip (aZ i n).reverse p)[k]):=by
  unfold jL;rw [List.take_add_one,List.getElem?_eq_getElem hz,List.foldl_append];rfl
 rw [e,List.getElem_zip,List.getElem_reverse];have e1:(((aZ i n).length:Int)-1-(k:Int)).toNat=(aZ i n).length-1-k:=by omega
 rw [e1,G!,D! w!,G!,D! hk];cases (aZ i n)[(aZ i n).length-1-k]<;>rfl
theorem ark{k:Nat}(h:eQ d i n p=0)(hk:p.length<=k):jL d i n p k=kq d i n p:=by
 rw [kq,if_pos h,kN,wx,jL,List.take_of_length_le];grind
def Jg:List Int:=(List.range 1000).map Int.ofNat
abbrev Kp:=Bool->Bool->Bool
def Ea:Kp:=λx y=>x&&y
def UM:Kp:=λx y=>x || y
def Eb:Kp:=λx y=>x&& !y
def zC(k:Kp)(a b:List Int):List Int:=Jg.filter λn=>k (re a n) (re b n)
def Jh(k:Kp)(a b:List Int):List Int:=zC k (vv a) (vv b)
def E8(a b:List Int):List Int:=Jh Ea a b
def uX(a b:List Int):List Int:=Jh UM a b
def OS(a b:List Int):List Int:=Jh Eb a b
abbrev Pk:=List Int×List Int×List Int
def lF(k:Kp)(a b:List Int)(x:Pk):Prop:=x.2.2++zC k x.1 x.2.1=Jh k a b/\bK x.1=true/\bK x.2.1=true
def jc(x:Pk):Nat:=x.1.length+x.2.1.length
def opL(o:Int)(a b:List Int):List Int:=if o=1 then E8 a b else if o=2 then uX a b else OS a b
def Db(f:B8->List Int)(s:List (List Int))(o:dC):List (List Int):=
 if o.1=0 then s++[f o.2] else s.take (s.length-2)++[opL o.1 (s.getD (s.length-2) []) (s.getD (s.length-1) [])]
def gC(f:B8->List Int)(l:List dC)(k:Nat):List (List Int):=(l.take k).foldl (Db f) []
def pE(x:List B8)(t:B8):Nat:=(x.filter λa=>Op.bytesLess a t).length
def BY(x:List B8)(t:B8):Bool:=decide (t∈x)
def mH(t:List B8)(f:List (List Int))(s:B8):List Int:=if BY t s then f.getD (pE t s) [] else []
def OT(l:List dC)(t:List B8)(f:List (List Int)):List Int:=(gC (mH t f) l l.length).getD 0 []
def mT(l:List dC)(f:List (List Int)):Bool:=bw l&&(decide (f.length=(ax l).length)&&f.all bK)
def mh(l:List dC)(f:List (List Int)):List Int×Int:=if mT l f then(OT l (ax l) f,0) else([],1)
def xn(x:List B8):Prop:=uG x/\small x
def rO(x:List B8)(t:B8)(i j:Int):Prop:=0<=i/\i<=j/\j<=x.length/\(∀k:Nat,(k:Int)<i->Op.bytesLess (x.getD k []) t=true)/\∀k:Nat,j<=(k:Int)->k<x.length->Op.bytesLess (x.getD k []) t=false
def tE(b:B8):Nat->Int->Int->Int->List Int->List Int×Int
 |0,a,e,_,l=>if done b a e=0 then(l,0) else([],done b a e)
 |n+1,a,e,p,l=>
  if(af b a e).1.2.2≠0 then([],(af b a e).1.2.2)
  else if 998-p<(af b a e).2 then([],2)
  else tE b n (af b a e).1.2.1 (af b a e).1.2.2 (p+((af b a e).2+1)) (l++[p+((af b a e).2+1)])
def o0(b:B8):Rd×Int:=af b 0 0
def b8(b:B8):List Int×Int:=
 if(o0 b).1.2.2≠0 then([],(o0 b).1.2.2) else if 1000<(o0 b).2 then([],2) else tE b (o0 b).2.toNat (o0 b).1.2.1 (o0 b).1.2.2 (-1) []
abbrev Pr:=Int×Int×Int×List Int
def uY(b:B8)(k:Nat)(x:Pr):Prop:=(k:Int)<=(o0 b).2/\(o0 b).1.2.2=0/\(o0 b).2<=1000/\tE b ((o0 b).2.toNat-k) x.1 x.2.1 x.2.2.1 x.2.2.2=b8 b/\ -1<=x.2.2.1/\x.2.2.1<=999/\x.2.2.2.length=k
def KL(t:B8)(e:Int)(p2 p4 p6:B8):Bool:=decide (p2=t)&&(decide (e=0)&&decide (mF 2 p6=p4))
def KM(t p2 p3 p6:B8):Bool:=Op.bytesLess p2 t&&((Op.bytesLess t p3 || decide (p3=[]))&&decide (p6.length=0))
def UN(p2 p3 p4:B8):B8:=leaf (qy p2 p3 p4)
def Ec(root:B8)(n:Int)(t:B8):Bool:=decide ((root.length:Int)=32)&&(decide (1<=n)&&(decide (n<=1099511627776)&&isTerm t))
def OU(root:B8)(n:Int)(p:Pf):Bool:=fU p.2.1 p.2.2.1 p.2.2.2.1&&(decide (eQ (UN p.2.1 p.2.2.1 p.2.2.2.1) p.1 n p.2.2.2.2.1=0)&&decide (kq (UN p.2.1 p.2.2.1 p.2.2.2.1) p.1 n p.2.2.2.2.1=root))
def Su(t:B8)(p:Pf):List Int×Int:=
 if KL t (b8 p.2.2.2.2.2).2 p.2.1 p.2.2.2.1 p.2.2.2.2.2 then((b8 p.2.2.2.2.2).1,0) else if KM t p.2.1 p.2.2.1 p.2.2.2.2.2 then([],0) else([],6)
def iI(root:B8)(n:Int)(t:B8)(p:Pf):List Int×Int:=if Ec root n t then(if OU root n p then Su t p else([],6)) else([],1)
def Hu(l:List (List Int))(x:List Int):List (List Int):=l++[x]
def BZ(t:List B8)(f:List (List Int)):Prop:=xn t/\f.length=t.length/\∀x∈f,bK x=true
def sb(l:List (List Int)):Prop:=2<=l.length/\small l
def xo(o:Int)(l:List (List Int)):List (List Int):=l.take (l.length-2)++[opL o (l.getD (l.length-2) []) (l.getD (l.length-1) [])]
def E9(l:List dC)(t:List B8)(f:List (List Int)):Prop:=bw l=true/\small l/\BZ t f
def pF(l:List dC)(s:List (List Int))(k:Nat):Prop:=k<=l.length/\(s.length:Int)=gw l k
def Fa(f:List (List Int))(k:Nat):Prop:=k<=f.length/\∀x∈f.take k,bK x=true
def B0(t:B8)(p5:List B8)(p6:B8):Prop:=small t/\dM p5/\aC p6/\small p6
def ov(root:B8)(n:Int)(t:B8)(p:Pf)(k:Nat):Prop:=k<=2/\Ec root n t=true/\OU root n p=true/\(1<=k->KL t (b8 p.2.2.2.2.2).2 p.2.1 p.2.2.2.1 p.2.2.2.2.2=false)/\(2<=k->KM t p.2.1 p.2.2.1 p.2.2.2.2.2=false)
theorem Yk:∀ {l m:List Int},l.Pairwise (· < ·)->m.Pairwise (· < ·)->(∀x,x∈l↔x∈m)->l=m
 |[],[],_,_,_=>rfl
 |[],y::m,_,_,h=>by grind[List.mem_cons_self]
 |x::l,[],_,_,h=>by grind[List.mem_cons_self]
 |x::l,y::m,hl,hm,h=>by
  rw [a?] at hl hm
  have hxy:x=y:=by
   rcases P!.1 ((h x).1 (I! ..)) with e|e
   . exact e
   . rcases P!.1 ((h y).2 (I! ..)) with e'|e'
     . exact e'.symm
     . have:=hl.1 y e';have:=hm.1 x e;omega
  subst hxy;refine congrArg (x:: ·) (Yk hl.2 hm.2 λz=>⟨λhz=>?_,λhz=>?_⟩)
  . grind
  grind
theorem ø:n∈Jg↔0<=n/\n<1000:=by
 simp [Jg,T?,f?];constructor
 . grind
 . rintro⟨h1,h2⟩;exact⟨n.toNat,w!,x!⟩
theorem ù:Jg.Pairwise (· < ·):=by
 rw [Jg,List.pairwise_map];exact List.pairwise_lt_range.imp λh=>by grind
variable {a:List Int}{p:Pf}
theorem zD {k:Kp}{b:List Int}{x:Int}:x∈zC k a b↔(0<=x/\x<1000)/\k (re a x) (re b x)=true:=by
 rw [zC,List.mem_filter,ø]
theorem Fb(k:Kp)(a b:List Int):(zC k a b).Pairwise (· < ·):=ù.filter _
theorem ú(k:Kp)(a b:List Int):(zC k a b).length<=1000:=by
 refine X? (List.length_filter_le _ _) ?_;simp [Jg]
theorem B1 {x:Int}(h:bK (x::l)=true):(0<=x/\x<1000)/\bK l=true/\∀y∈l,x<y:=by
 rw [kL] at h;have h0:=(jG _ _).1 (h 0 z!)
 have hs:∀i,i<l.length->(x::l).getD i 0<l.getD i 0/\l.getD i 0<1000:=λi hi=>by
  have:=(jG _ _).1 (h (i+1) x!);grind[lM]
 have hx:∀i,i<l.length->x<l.getD i 0:=by
  intro i;induction i with
  |zero=>grind
  |succ i ih=>
   grind
 rw [yd] at h0;simp at h0;refine⟨⟨w!,h0.2⟩,(kL l).2 λi hi=>(jG _ _).2 ⟨?_,(hs i hi).2⟩,λy hy=>?_⟩
 . cases i with
   |zero=>grind[yd]
   |succ i=>grind[lM]
 . obtain⟨i,hi,rfl⟩:=j? hy;have:=hx i hi;rwa [G!,D! hi] at this
theorem aQi:∀ {l:List Int},bK l=true->l.Pairwise (· < ·)/\∀x∈l,0<=x/\x<1000
 |[],_=>⟨List.Pairwise.nil,nofun⟩
 |x::l,h=>by
  obtain⟨h1,h2,h3⟩:=B1 h;obtain⟨g1,g2⟩:=aQi h2;refine⟨a?.2 ⟨h3,g1⟩,λy hy=>?_⟩;rcases P!.1 hy with rfl|hy
  . exact h1
  . exact g2 y hy
def jt(r s:List Int):Bool:=bif decide ((0:Int)<(r.length:Int)) then bif decide ((s.length:Int)=(0:Int)) then true else decide (r.getD (Int.toNat (0:Int)) 0<=s.getD (Int.toNat (0:Int)) 0) else false
def Hv(r s:List Int):Int:=bif jt s r then s.getD (Int.toNat (0:Int)) 0 else bif jt r s then r.getD (Int.toNat (0:Int)) 0 else 0
def pG(c:Bool)(r:List Int):List Int:=bif c then r.drop (Int.toNat (1:Int)) else r
def OV(r r':List Int)(c:Bool)(n:Int):Prop:=(∀x,x∈r↔x∈r'\/(c=true/\x=n))/\(∀x∈r',n<x)/\bK r'=true
theorem Sv(hr:bK r=true)(hs:bK s=true)(fh:0<r.length\/0<s.length):
  (0<=Hv r s/\Hv r s<1000)/\OV r (pG (jt r s) r) (jt r s) (Hv r s)/\OV s (pG (jt s r) s) (jt s r) (Hv r s)/\(pG (jt r s) r).length+(pG (jt s r) s).length<r.length+s.length:=by
 cases r with
 |nil=>
  cases s with
  |nil=>grind
  |cons y s=>
   obtain⟨h1,h2,h3⟩:=B1 hs;grind[jt,Hv,pG,OV,List.length_nil,List.length_cons]
 |cons x r=>
  obtain⟨g1,g2,g3⟩:=B1 hr;cases s with
  |nil=>
   grind[jt,Hv,pG,OV,List.length_nil,List.length_cons]
  |cons y s=>
   obtain⟨h1,h2,h3⟩:=B1 hs
   have e1:jt (x::r) (y::s)=decide (x<=y):=by
    grind[jt,List.length_cons,decide_eq_true,decide_eq_false]
   have e2:jt (y::s) (x::r)=decide (y<=x):=by
    grind[jt,List.length_cons,decide_eq_true,decide_eq_false]
   grind[Hv,pG,OV]
theorem arn {k:Kp}(hk:k false false=false)(hr:bK r=true)(hs:bK s=true)(fh:0<r.length\/0<s.length):
  zC k r s=(if k (jt r s) (jt s r)=true then [Hv r s] else [])++zC k (pG (jt r s) r) (pG (jt s r) s):=by
 obtain⟨h0,⟨a1,a2,_⟩,⟨b1,b2,_⟩,_⟩:=Sv hr hs fh;generalize Hv r s=n at *;generalize pG (jt r s) r=r' at *;generalize pG (jt s r) s=s' at *;generalize jt r s=A at *;generalize jt s r=B at *
 have hn:re r' n=false/\re s' n=false:=by
  grind[re,decide_eq_false_iff_not]
 have hrn:∀x,re r x=(re r' x || (A&&decide (x=n))):=λx=>by
  simp_all[re,H!,Z?,B!]
 have hsn:∀x,re s x=(re s' x || (B&&decide (x=n))):=λx=>by
  simp_all[re,H!,Z?,B!]
 refine Yk (Fb k r s) ?_ λx=>?_
 . split
   . rw [List.singleton_append];refine a?.2 ⟨λy hy=>?_,Fb k r' s'⟩;rw [zD] at hy;cases h1:re r' y with
     |true=>exact a2 y (by simpa [re] using h1)
     |false=>
      cases h2:re s' y with
      |true=>exact b2 y (by simpa [re] using h2)
      |false=>rw [h1,h2,hk] at hy;cases hy.2
   . rw [k?];exact Fb k r' s'
 . rw [zD,hrn,hsn,List.mem_append,zD];grind
theorem Sw(l:List Int):bK (vv l)=true:=by
 unfold vv;split
 . omega
 . rfl
theorem Dc(l:List Int):(bif !bK l then [] else l)=vv l:=by
 grind[vv,bK]
theorem ama(k:Kp)(a b:List Int):lF k a b (vv a,vv b,[]):=⟨k? _,Sw a,Sw b⟩
theorem UO {k:Kp}(hk:k false false=false){b:List Int}{x:Pk}(h:lF k a b x)(hc:(bif decide ((0:Int)<(x.1.length:Int)) then true else decide ((0:Int)<(x.2.1.length:Int)))=false):x.2.2=Jh k a b:=by
 obtain⟨h1,_,_⟩:=h
 have e1:x.1=[]:=by
  simp_all
 have e2:x.2.1=[]:=by
  simp_all
 have :zC k [] []=[]:=List.eq_nil_iff_forall_not_mem.2 λy hy=>by
  rw [zD] at hy;have :re [] y=false:=rfl;grind
 grind
theorem mr(h:jt r s=true):(0:Int)<(r.length:Int)/\(1:Int)<=(r.length:Int):=by
 grind[jt]
theorem û {k:Kp}(hk:k false false=false){b:List Int}{x:Pk}(h:lF k a b x)(hc:(bif decide ((0:Int)<(x.1.length:Int)) then true else decide ((0:Int)<(x.2.1.length:Int)))=true):
  x.2.2.length<=1000/\(k (jt x.1 x.2.1) (jt x.2.1 x.1)=true->lF k a b (pG (jt x.1 x.2.1) x.1,pG (jt x.2.1 x.1) x.2.1,x.2.2++[Hv x.1 x.2.1]))/\(k (jt x.1 x.2.1) (jt x.2.1 x.1)=false->lF k a b (pG (jt x.1 x.2.1) x.1,pG (jt x.2.1 x.1) x.2.1,x.2.2))/\
  jc (pG (jt x.1 x.2.1) x.1,pG (jt x.2.1 x.1) x.2.1,x.2.2++[Hv x.1 x.2.1])<jc x/\jc (pG (jt x.1 x.2.1) x.1,pG (jt x.2.1 x.1) x.2.1,x.2.2)<jc x:=by
 obtain⟨h1,h2,h3⟩:=h
 have fh:0<x.1.length\/0<x.2.1.length:=by
  grind
 obtain⟨_,⟨_,_,f1⟩,⟨_,_,f2⟩,f3⟩:=Sv h2 h3 fh;have hl:=arn hk h2 h3 fh;have hlen:=congrArg List.length h1;rw [K!] at hlen;have:=ú k (vv a) (vv b);refine⟨?_,λhq=>⟨?_,f1,f2⟩,λhq=>⟨?_,f1,f2⟩,f3,f3⟩
 . unfold Jh at hlen;omega
 . grind
 grind
variable {x:List B8}{s:B8}{l:List dC}
theorem Hw(hp:xn x)(h:rO x t i j)(Ah:i<j):
  (i+j)%18446744073709551616/2^Int.toNat 1=(i+j)/2/\0<=i/\i<=(i+j)/2/\(i+j)/2<j/\j<=x.length/\(x.length:Int)<=1099511627776:=by
 have h2:=hp.2;unfold small at h2;obtain⟨h3,h4,h5,_⟩:=h;grind
theorem ü(h:uG x){a b:Nat}(lQ:a<b)(hb:b<x.length):Op.bytesLess (x.getD a []) (x.getD b [])=true:=by
 rw [G!,D! w!,G!,D! hb];exact List.pairwise_iff_getElem.1 h a b w! hb lQ
theorem aBl(hp:xn x)(h:rO x t i j)(h1:i<=m)(h2:m<j)(hl:Op.bytesLess (x.getD m.toNat []) t=true):rO x t (m+1) j:=by
 obtain⟨h3,h4,h5,h6,h7⟩:=h;refine⟨w!,w!,h5,λk hk=>?_,h7⟩;by_cases hkm:k=m.toNat
 . grind
 . exact mz _ _ _ (ü hp.1 (show k<m.toNat by omega) w!) hl
theorem aBm(hp:xn x)(h:rO x t i j)(h1:i<=m)(h2:m<j)(hl:Op.bytesLess (x.getD m.toNat []) t=false):rO x t i m:=by
 obtain⟨h3,h4,h5,h6,h7⟩:=h;refine⟨h3,h1,w!,h6,λk hk hk2=>?_⟩;by_cases hkm:k=m.toNat
 . grind
 . rw [Bool.eq_false_iff];intro hb;have:=mz _ _ _ (ü hp.1 (show m.toNat<k by omega) hk2) hb;grind
theorem aBn(hp:xn x)(h:rO x t i j)(h1:i<=m)(h2:m<j):
  rO x t (bif Op.bytesLess (x.getD m.toNat []) t then m+1 else i) (bif Op.bytesLess (x.getD m.toNat []) t then j else m)/\
  ((bif Op.bytesLess (x.getD m.toNat []) t then j else m)-(bif Op.bytesLess (x.getD m.toNat []) t then m+1 else i)).toNat<(j-i).toNat:=by
 grind[aBl,aBm]
theorem aro(h:rO x t i j)(Ah:¬i<j):i=(pE x t:Int):=by
 obtain⟨h3,h4,h5,h6,h7⟩:=h
 have e:x.filter (λa=>Op.bytesLess a t)=x.take j.toNat:=by
  conv=>lhs;rw [<-V? j.toNat x]
  have e1:(x.take j.toNat).filter (λa=>Op.bytesLess a t)=x.take j.toNat:=List.filter_eq_self.2 λa ha=>by
   obtain⟨k,hk,rfl⟩:=j? ha;rw [J?] at hk;have:=h6 k w!;rw [G!,D! w!] at this;rw [List.getElem_take];exact this
  have e2:(x.drop j.toNat).filter (λa=>Op.bytesLess a t)=[]:=List.filter_eq_nil_iff.2 λa ha=>by
   obtain⟨k,hk,rfl⟩:=List.getElem_of_mem ha;grind
  grind
 grind[pE,List.length_take]
theorem arp(hp:xn x)(h:rO x t i j)(Ah:¬i<j):
  (bif decide (i<(x.length:Int)) then bif decide (x.getD i.toNat []=t) then true else bif false then false else false else false)=BY x t:=by
 obtain⟨h3,h4,h5,h6,h7⟩:=h;have hj:j=i:=by omega
 subst hj;rw [BY,Bool.eq_iff_iff];have e:∀a b:Bool,(bif a then bif b then true else bif false then false else false else false)=true↔a=true/\b=true:=by decide
 rw [e,H!,H!,H!];constructor
 . grind
 . intro hm;obtain⟨k,hk,rfl⟩:=j? hm;have hg:x.getD k []=x[k]:=by rw [G!,D! hk];rfl
   have hkj:j<=k:=by
    apply P?;intro hn;have:=h6 k w!;rw [hg,eS] at this;cases this
   refine⟨w!,?_⟩;by_cases aHi:k=j.toNat
   . rw [<-aHi];exact hg
   . have h1:=ü hp.1 (show j.toNat<k by omega) hk;have h2:=h7 j.toNat w! w!;rw [hg] at h1;rw [h1] at h2;cases h2
theorem arq(h:BY x t=true):pE x t<x.length:=by
 have hm:t∈x:=of_decide_eq_true h;grind[pE,Nat.not_le,List.filter_eq_self,List.Sublist.eq_of_length_le,List.filter_sublist,eS]
variable {t:List B8}{x:Pr}{a:B8}
theorem ý(hp:BZ t f)(h:(!BY t s)=false):(0<=(pE t s:Int)/\(pE t s:Int)<(f.length:Int))/\small (f.getD (Int.toNat (pE t s:Int)) [])/\f.getD (Int.toNat (pE t s:Int)) []=mH t f s:=by
 have hs:BY t s=true:=by grind
 have hc:=arq hs;obtain⟨_,h2,h3⟩:=hp;rw [Int.toNat_natCast];refine⟨⟨w!,w!⟩,?_,by rw [mH,if_pos hs]⟩;grind[ou,bC,pE,small]
theorem ars(h:(!BY t s)=true): []=mH t f s:=by
 simp_all[BY,mH,J!]
theorem art(f:B8->List Int)(l:List dC): []=gC f l 0:=by rfl
variable {f:B8->List Int}{s:List (List Int)}
theorem OW{k:Nat}(hk:k<l.length):gC f l (k+1)=Db f (gC f l k) (l.getD k (0,[])):=by
 rw [gC,aD l k (0,[]) hk,List.foldl_append];rfl
theorem amb {o:Int}(h:2<=s.length):(xo o s).length=s.length-1:=by
 grind[xo,List.length_append,List.length_take]
theorem Yl{k:Nat}(hk:(k:Int)<l.length)(h:(jY l k).1=0):Hu (gC f l k) (f (jY l k).2)=gC f l (k+1):=by
 rw [OW w!];show _=Db f _ (jY l k);rw [Db,M! h];rfl
theorem L1{l:List dC}{k:Nat}{o:Int}(hk:(k:Int)<l.length)(h:(jY l k).1=o)(ho:o≠0):xo o (gC f l k)=gC f l (k+1):=by
 rw [OW w!];show _=Db f _ (jY l k);rw [Db,J! w!,<-h];rfl
theorem aHj(h:bw l=true){k:Nat}(hk:(k:Int)<l.length):uS l k=true:=by
 simp_all[bw,B!,Z!,f?]
theorem UP(h:bw l=true){k:Nat}(hk:(k:Int)<l.length):0<=(jY l k).1/\(jY l k).1<=3/\((jY l k).1≠0->2<=gw l k):=by
 have:=aHj h hk;grind[uS]
theorem abZ(l:List dC)(k:Nat):gw l k<=k:=by
 have:=xk l k;grind[gw]
theorem aHk(l:List dC):pF l [] 0:=⟨U! _,by rfl⟩
variable {f:List (List Int)}
theorem L2{k:Nat}(hp:E9 l t f)(h:pF l s k)(hk:(k:Int)<l.length)(ho:(jY l k).1≠0):sb s:=by
 have:=(UP hp.1 hk).2.2 ho;have h1:=h.2;have h2:=abZ l k;have h3:=hp.2.1;refine⟨w!,by grind[small]⟩
theorem ahE{k:Nat}(hp:E9 l t f)(h:pF l s k):small s:=by
 have h1:=h.2;have h2:=abZ l k;have h3:=hp.2.1;have h4:=h.1;grind[small]
theorem amc {l:List dC}{g:B8->List Int}{k:Nat}(h:pF l (gC g l k) k)(hk:(k:Int)<l.length)(ho:(jY l k).1=0):pF l (gC g l (k+1)) (k+1):=by
 refine⟨w!,?_⟩;rw [<-Yl hk ho,Hu,K!,X3 ho,<-h.2];simp
theorem OX {l:List dC}{g:B8->List Int}{k:Nat}(hp:E9 l t f)(h:pF l (gC g l k) k)(hk:(k:Int)<l.length){o:Int}(ho:(jY l k).1=o)(h0:o≠0):pF l (gC g l (k+1)) (k+1):=by
 have h2:=(L2 hp h hk w!).1;refine⟨w!,?_⟩;rw [<-L1 hk ho h0,amb h2,LS w!,<-h.2];omega
theorem ab1{k:Nat}(hp:E9 l t f)(h:pF l s k)(hk:¬(k:Int)<l.length):0<s.length/\k=l.length:=by
 have e:k=l.length:=by have:=h.1;omega
 have h1:=hp.1;simp [bw,Bool.and_eq_true,decide_eq_true_eq] at h1;have h2:=h.2;grind
theorem Sx(h:small l):xn (ax l):=by
 refine⟨l7 _,?_⟩;have h1:=rG (qC l);grind[qC,bS,List.length_map,Nat.le_trans,List.length_filter_le,small,ax]
theorem Ji(h:mT l f=false): []=(mh l f).1/\1=(mh l f).2:=by
 grind[mh]
theorem ab2(h:mT l f=true):OT l (ax l) f=(mh l f).1/\0=(mh l f).2:=by
 grind[mh]
theorem amd{k:Nat}(h:Fa f k)(hk:(k:Int)<f.length)(h1:bK (f.getD k [])=true):Fa f (k+1):=by
 refine⟨w!,λx hx=>?_⟩;rw [aD f k [] w!,F!,v?] at hx;rcases hx with hx|rfl
 . exact h.2 x hx
 omega
theorem UQ{k:Nat}(h:Fa f k)(hk:¬(k:Int)<f.length):f.all bK=true:=by
 have e:k=f.length:=by have:=h.1;omega
 have:=h.2;grind
theorem ab3{k:Nat}(hk:(k:Int)<f.length)(h1:bK (f.getD k [])=false):f.all bK=false:=by
 grind
theorem qG(b:B8)(a e:Int):0<=(af b a e).2/\(af b a e).2<=4611686018427387904:=by
 unfold af;split
 . omega
 . split
   . omega
   . rename_i h1 _
     have hp:dF b a:=by
      unfold bX at h1;unfold dF;by_cases he:e=0/\inside b a=false
      . grind
      simp_all[J!,inside,B!,H!]
     simp_all[NY]
theorem aHl {b:B8}(h1:(o0 b).1.2.2=0)(h2:¬1000<(o0 b).2):uY b 0 ((o0 b).1.2.1,(o0 b).1.2.2,-1,[]):=by
 have:=(qG b 0 0).1;refine⟨this,h1,w!,?_,z!,z!,rfl⟩;simp_all[b8,J!]
theorem ab4(h1:¬(o0 b).1.2.2=0): []=(b8 b).1/\(o0 b).1.2.2=(b8 b).2:=by
 simp_all[b8,M!]
theorem Ym {b:B8}(h1:(o0 b).1.2.2=0)(h2:1000<(o0 b).2): []=(b8 b).1/\2=(b8 b).2:=by
 simp_all[b8,J!,M!]
theorem UR{k:Nat}(h:uY b k x)(hk:(k:Int)<(o0 b).2):b8 b=
  if(af b x.1 x.2.1).1.2.2≠0 then([],(af b x.1 x.2.1).1.2.2) else if 998-x.2.2.1<(af b x.1 x.2.1).2 then([],2)
  else tE b ((o0 b).2.toNat-(k+1)) (af b x.1 x.2.1).1.2.1 (af b x.1 x.2.1).1.2.2 (x.2.2.1+((af b x.1 x.2.1).2+1)) (x.2.2.2++[x.2.2.1+((af b x.1 x.2.1).2+1)]):=by
 have h4:=h.2.2.2.1;have e:(o0 b).2.toNat-k=((o0 b).2.toNat-(k+1))+1:=by omega
 grind[tE]
theorem ab5 {b:B8}{k:Nat}(h:uY b k x)(hk:(k:Int)<(o0 b).2)(h1:¬(af b x.1 x.2.1).1.2.2=0): []=(b8 b).1/\(af b x.1 x.2.1).1.2.2=(b8 b).2:=by
 rw [UR h hk,if_pos h1];grind
theorem ab6 {b:B8}{k:Nat}{x:Pr}(h:uY b k x)(hk:(k:Int)<(o0 b).2)(h1:(af b x.1 x.2.1).1.2.2=0)(h2:998-x.2.2.1<(af b x.1 x.2.1).2): []=(b8 b).1/\2=(b8 b).2:=by
 rw [UR h hk,if_neg w!,if_pos h2];grind
theorem ame {b:B8}{k:Nat}{x:Pr}(h:uY b k x)(hk:(k:Int)<(o0 b).2)(h1:(af b x.1 x.2.1).1.2.2=0)(h2:¬998-x.2.2.1<(af b x.1 x.2.1).2):
  uY b (k+1) ((af b x.1 x.2.1).1.2.1,(af b x.1 x.2.1).1.2.2,x.2.2.1+((af b x.1 x.2.1).2+1),x.2.2.2++[x.2.2.1+((af b x.1 x.2.1).2+1)]):=by
 have hg:=UR h hk;rw [if_neg w!,if_neg h2] at hg;have hn:=(qG b x.1 x.2.1).1;obtain⟨_,g2,g3,_,g5,g6,g7⟩:=h;refine⟨w!,g2,g3,hg.symm,x!,x!,x!⟩
theorem Hx{k:Nat}(h:uY b k x)(hk:¬(k:Int)<(o0 b).2):b8 b=if done b x.1 x.2.1=0 then(x.2.2.2,0) else([],done b x.1 x.2.1):=by
 have h4:=h.2.2.2.1;simp_all[o0,tE]
variable {t:B8}
theorem aru {root:B8}(p:Pf)(h:Ec root n t=false): []=(iI root n t p).1/\1=(iI root n t p).2:=by
 grind[iI]
theorem amf {root:B8}(h:Ec root n t=true)(h2:OU root n p=false): []=(iI root n t p).1/\6=(iI root n t p).2:=by
 grind[iI]
theorem US {root:B8}(h:Ec root n t=true)(h2:OU root n p=true):iI root n t p=Su t p:=by
 grind[iI]
theorem aBp(a b:B8):(!(Op.bytesLess a b || decide (a=b)))=Op.bytesLess b a:=by
 grind[pd,CV,eS,decide_eq_false]
theorem UT {root:B8}(h:(root.length:Int)=32/\¬n<1/\¬1099511627776<n/\isTerm t=true):Ec root n t=true:=by
 simp_all[Ec,B!,H!]
theorem arv {root:B8}(h:¬(root.length:Int)=32\/n<1\/1099511627776<n\/isTerm t=false):Ec root n t=false:=by
 simp [Ec,Ne,Bool.and_eq_true,decide_eq_true_eq];grind
theorem OY(h:kM a b c=0):fU a b c=true/\fW a b c=qy a b c:=by
 simp_all[kM,fW,M!]
theorem amg(h:¬kM a b c=0):fU a b c=false:=by
 grind[kM]
theorem þ(h:kM a b c=0):aC (fW a b c):=by
 obtain⟨h1,h2⟩:=OY h;simp [fU,Bool.and_eq_true,decide_eq_true_eq] at h1;grind[q1,cX,q2,aC,qy,text,List.length_append]
theorem aBq {root:B8}(h:kM p.2.1 p.2.2.1 p.2.2.2.1=0)(h1:eQ (leaf (fW p.2.1 p.2.2.1 p.2.2.2.1)) p.1 n p.2.2.2.2.1=0/\kq (leaf (fW p.2.1 p.2.2.1 p.2.2.2.1)) p.1 n p.2.2.2.2.1=root):OU root n p=true:=by
 grind[OY,OU,UN,decide_true,Bool.and_self]
theorem arw {root:B8}(h:¬kM p.2.1 p.2.2.1 p.2.2.2.1=0):OU root n p=false:=by
 simp_all[OU,amg,Bool.false_and]
theorem arx {root:B8}(h:kM p.2.1 p.2.2.1 p.2.2.2.1=0)(h1:¬eQ (leaf (fW p.2.1 p.2.2.1 p.2.2.2.1)) p.1 n p.2.2.2.2.1=0\/¬kq (leaf (fW p.2.1 p.2.2.1 p.2.2.2.1)) p.1 n p.2.2.2.2.1=root):OU root n p=false:=by
 obtain⟨g1,g2⟩:=OY h;simp [OU,UN,g1,Bool.true_and];grind
theorem aBr {root:B8}(h1:Ec root n t=true)(h2:OU root n p=true):ov root n t p 0:=⟨w!,h1,h2,w!,w!⟩
theorem aBs {root:B8}{k:Nat}(h:ov root n t p k)(hk:(k:Int)=0)(h1:KL t (b8 p.2.2.2.2.2).2 p.2.1 p.2.2.2.1 p.2.2.2.2.2=false):ov root n t p (k+1):=
 ⟨w!,h.2.1,h.2.2.1,λ_=>h1,w!⟩
theorem aBt {root:B8}{k:Nat}(h:ov root n t p k)(hk:(k:Int)=1)(h1:KM t p.2.1 p.2.2.1 p.2.2.2.2.2=false):ov root n t p (k+1):=
 ⟨w!,h.2.1,h.2.2.1,λ_=>h.2.2.2.1 w!,λ_=>h1⟩
theorem ab7 {root:B8}{k:Nat}(h:ov root n t p k)(h1:KL t (b8 p.2.2.2.2.2).2 p.2.1 p.2.2.2.1 p.2.2.2.2.2=true):(b8 p.2.2.2.2.2).1=(iI root n t p).1/\0=(iI root n t p).2:=by
 rw [US h.2.1 h.2.2.1,Su,h1];grind
theorem ab8 {root:B8}{k:Nat}(h:ov root n t p k)(hk:(k:Int)=1)(h1:KM t p.2.1 p.2.2.1 p.2.2.2.2.2=true): []=(iI root n t p).1/\0=(iI root n t p).2:=by
 rw [US h.2.1 h.2.2.1,Su,h.2.2.2.1 w!,h1];grind
theorem ary {root:B8}{k:Nat}(h:ov root n t p k)(hk:¬(k:Int)<((2:Nat):Int)): []=(iI root n t p).1/\6=(iI root n t p).2:=by
 rw [US h.2.1 h.2.2.1,Su,h.2.2.2.1 w!,h.2.2.2.2 w!];grind
end Go.S
namespace Go.S
open Go.Vg (CF Z bZ)
def Sy(a:List (List Pf))(i j:Int):Pf:=pfD (iE a i.toNat) j.toNat
def Ak(g:Sg)(w:B8)(a:List (List Pf))(i j:Int):List Int×Int:=iI g.2.2.2 g.2.2.1 w (Sy a i j)
def sZ(g:Sg)(w:B8)(a:List (List Pf))(i j:Int):Bool:=decide ((Ak g w a i j).2=0)&&wB (Ak g w a i j).1 g.1 g.2.1
def OZ(w:B8)(a:List (List Pf))(i j:Int):Prop:=(0<=i/\i<a.length)/\(0<=j/\j<(iE a i.toNat).length)/\B0 w (Sy a i j).2.2.2.2.1 (Sy a i j).2.2.2.2.2
def Sz(j:Int)(q n:Nat)(l:List Int):Prop:=q=j.toNat/\q<n/\small l
def SA(l m:List Int):List Int:=l++m
def O0(g:Sg)(w:B8)(a:List (List Pf))(i j:Int)(l:List Int):List Int:=if sZ g w a i j then SA l (Ak g w a i j).1 else l
def amh(root:B8)(n:Int)(g:B8)(l:List Sg):CF:=λz=>(True,.bool (vz n g l root),z)
def ab9(a:List (List Pf))(i:Int)(t:List B8):CF:=λz=>(0<=i/\i<(a.length:Int),.bool (qF a i t),z)
def B2(e0 ei0:Nat)(g:Sg)(w:B8)(a:List (List Pf))(i j:Int):CF:=λz=>match z with
 |.g e ei l=>(e=e0/\ei=ei0/\OZ w a i j/\Sz j j.toNat l.length (l.getD j.toNat []),.bool (sZ g w a i j),.g e ei (l.set j.toNat (O0 g w a i j (l.getD j.toNat []))))
 |z=>(False,.bool false,z)
def Jj(l:List Sg)(i:Nat):Sg:=l.getD i (0,0,0,[])
def O1(e0 ei0:Nat)(s:List Sg)(a:List (List Pf))(t:List B8)(i k:Nat):List CF:=
 ab9 a i t::(List.range k).map λ(j:Nat)=>B2 e0 ei0 (Jj s i) (t.getD j []) a i j
def conds(e0 ei0:Nat)(root:B8)(n:Int)(g:B8)(s:List Sg)(a:List (List Pf))(t:List B8):Nat->List CF
 |0=>[amh root n g s]
 |i+1=>conds e0 ei0 root n g s a t i++O1 e0 ei0 s a t i t.length
def nJ(e0 ei0:Nat)(root:B8)(n:Int)(g:B8)(s:List Sg)(a:List (List Pf))(t:List B8)(i k:Nat):List CF:=
 conds e0 ei0 root n g s a t i++O1 e0 ei0 s a t i k
def zE(s:List Sg)(a:List (List Pf))(t:List B8)(i k:Nat):Bool:=(List.range k).all λ(j:Nat)=>sZ (Jj s i) (t.getD j []) a i j
def Fc(s:List Sg)(a:List (List Pf))(t:List B8)(i:Nat):Bool:=(List.range i).all λ(i:Nat)=>qF a i t&&zE s a t i t.length
def xp(s:List Sg)(a:List (List Pf))(t:List B8)(j:Nat):Nat->List Int
 |0=>[]
 |i+1=>SA (xp s a t j i) (Ak (Jj s i) (t.getD j []) a i j).1
def uZ(s:List Sg)(a:List (List Pf))(t:List B8)(i k:Nat):List (List Int):=(List.range t.length).map λ(j:Nat)=>xp s a t j (if j<k then i+1 else i)
def yn(s:List Sg)(a:List (List Pf))(t:List B8)(i:Nat):List (List Int):=(List.range t.length).map λ(j:Nat)=>xp s a t j i
def SB(root:B8)(a:Int×B8×List Sg×List (List Pf))(t:List B8):Bool:=vz a.1 a.2.1 a.2.2.1 root&&Fc a.2.2.1 a.2.2.2 t a.2.2.1.length
def kA(root:B8)(l:List dC)(b:B8):List Int×Int:=
 if(bif !decide ((root.length:Int)=32) then true else !bw l) then([],1) else if(bp b).2≠0 then([],(bp b).2)
 else if SB root (bp b).1 (ax l) then mh l (yn (bp b).1.2.2.1 (bp b).1.2.2.2 (ax l) (bp b).1.2.2.1.length) else([],6)
def aca(b:B8)(k:Nat):Prop:=k<=(bp b).1.2.2.1.length/\(bp b).2=0
def UU(b:B8)(t:List B8)(k j:Nat):Prop:=k<(bp b).1.2.2.1.length/\j<=t.length/\(bp b).2=0
theorem Ed:∀(l m:List CF) (z:Z),((bZ (l++m) z).1↔(bZ l z).1/\((bZ l z).2.1=true->(bZ m (bZ l z).2.2).1))/\(bZ (l++m) z).2.1=((bZ l z).2.1&&(bZ m (bZ l z).2.2).2.1)/\((bZ l z).2.1=true->(bZ (l++m) z).2.2=(bZ m (bZ l z).2.2).2.2)
 |[],m,z=>by simp [bZ]
 |F::l,m,z=>by
  obtain⟨h1,h2,h3⟩:=Ed l m (F z).2.2;simp [List.cons_append,bZ];grind
structure qH (l:List CF) (z z':Z) (o:Bool):Prop where
 pre:(bZ l z).1
 ok:(bZ l z).2.1=o
 to:o=true->(bZ l z).2.2=z'
theorem qH.snoc {l m:List CF}{z z1 z2:Z}{o1 o2:Bool}(h:qH l z z1 o1)(g:o1=true->qH m z1 z2 o2):qH (l++m) z z2 (o1&&o2):=by
 obtain⟨h1,h2,h3⟩:=Ed l m z;cases o1 with
 |false=>exact⟨h1.2 ⟨h.pre,λq=>by rw [h.ok] at q;cases q⟩,by rw [h2,h.ok];rfl,nofun⟩
 |true=>
  have e:=h.to rfl;obtain⟨g1,g2,g3⟩:=g rfl;rw [e] at h1 h2 h3;exact⟨h1.2 ⟨h.pre,λ_=>g1⟩,by rw [h2,h.ok,g2],λq=>by rw [h3 h.ok];grind⟩
theorem qH.one {F:CF}{z:Z}{b:Bool}(h:(F z).1)(h1:(F z).2.1= .bool b):qH [F] z (F z).2.2 b:=by
 refine⟨⟨h,by rw [h1];rfl,λ_=>trivial⟩,?_,λq=>?_⟩
 . simp [bZ,h1];cases b<;>rfl
 grind[bZ]
theorem arz(s:List Sg)(a:List (List Pf))(t:List B8)(i:Nat):uZ s a t i 0=yn s a t i:=by
 rfl
theorem ahF(s:List Sg)(a:List (List Pf))(t:List B8)(i:Nat):uZ s a t i t.length=yn s a t (i+1):=by
 simp_all[uZ,yn,R?,M!,f?]
theorem Jk(s:List Sg)(a:List (List Pf))(t:List B8)(i k:Nat):(uZ s a t i k).length=t.length:=by simp [uZ]
variable {a:List (List Pf)}{i e0 ei0:Nat}{s:List Sg}{t:List B8}{b g:B8}{l:List dC}{n:Int}
theorem Yn{k:Nat}(hk:k<t.length):(uZ s a t i k).getD k []=xp s a t k i:=by
 rw [G!,uZ,B?,List.getElem?_range hk];simp
theorem ahG{k:Nat}(hk:k<t.length):(uZ s a t i k).set k (xp s a t k (i+1))=uZ s a t i (k+1):=by
 apply List.ext_getElem?;intro j;rw [List.getElem?_set,Jk];by_cases hj:j<t.length
 . by_cases hkj:k=j
   . subst hkj;rw [M! rfl,M! hk,uZ,B?,List.getElem?_range hk];simp
   . rw [if_neg hkj,uZ,uZ,List.getElem?_map,List.getElem?_map,List.getElem?_range hj];grind
 grind[List.getElem?_eq_none,Jk]
theorem KN(b:B8):∀(n:Nat) (a e p:Int) (l:List Int),(tE b n a e p l).1.length<=l.length+n
 |0,a,e,p,l=>by
  grind[tE]
 |n+1,a,e,p,l=>by
  unfold tE;split
  . simp
  . split
    . simp
    . have:=KN b n (af b a e).1.2.1 (af b a e).1.2.2 (p+((af b a e).2+1)) (l++[p+((af b a e).2+1)]);rw [K!,C?] at this;omega
theorem Yo(b:B8):(b8 b).1.length<=1000:=by
 grind[b8,KN,o0,List.length_nil]
theorem SC(root:B8)(n:Int)(t:B8)(p:Pf):(iI root n t p).1.length<=1000:=by
 grind[iI,Su,Yo]
theorem O2(s:List Sg)(a:List (List Pf))(t:List B8)(j:Nat):∀i,(xp s a t j i).length<=1000*i
 |0=>by simp [xp]
 |i+1=>by
  have h1:=O2 s a t j i;have h2:=SC (Jj s i).2.2.2 (Jj s i).2.2.1 (t.getD j []) (Sy a i j);rw [xp,SA,K!,Ak];omega
def UW(s:List Sg)(a:List (List Pf))(t:List B8):Prop:=s.length=a.length/\s.length<=64/\t.length<=1099511627776/\(∀w∈t,small w)/\∀x∈a,∀p∈x,dM p.2.2.2.2.1/\aC p.2.2.2.2.2/\small p.2.2.2.2.2
theorem ami(hp:UW s a t){k:Nat}(hi:i<s.length)(hm:qF a i t=true)(hk:k<t.length):OZ (t.getD k []) a i k:=by
 obtain⟨h1,h2,h3,h4,h5⟩:=hp;have hm:(a.getD i []).length=t.length:=by grind[qF]
 have hia:i<a.length:=by omega
 have hx:=bC a i [] hia
 have hpf:Sy a i k∈a.getD i []:=by
  grind[Sy,pfD,iE,bC,X0]
 obtain⟨q1,q2,q3⟩:=h5 _ hx _ hpf;refine⟨⟨w!,w!⟩,⟨w!,?_⟩,h4 _ (bC t k [] hk),q1,q2,q3⟩;grind[iE]
theorem ahH{k:Nat}(h:sZ (Jj s i) (t.getD k []) a i k=true):O0 (Jj s i) (t.getD k []) a i k (xp s a t k i)=xp s a t k (i+1):=by
 rw [O0,M! h];rfl
theorem zZ {α:Type}(f:Nat->α)(k:Nat):(List.range (k+1)).map f=(List.range k).map f++[f k]:=by
 rw [List.range_succ,l?];rfl
theorem ayQ {e0 ei0:Nat}{s:List Sg}{a:List (List Pf)}{t:List B8}(hp:UW s a t){i:Nat}(hi:i<s.length)(hm:qF a i t=true):∀k,k<=t.length->
  qH ((List.range k).map λ(j:Nat)=>B2 e0 ei0 (Jj s i) (t.getD j []) a i j) (.g e0 ei0 (uZ s a t i 0)) (.g e0 ei0 (uZ s a t i k)) (zE s a t i k)
 |0,_=>⟨trivial,rfl,λ_=>rfl⟩
 |k+1,hk=>by
  rw [zZ]
  have e:zE s a t i (k+1)=(zE s a t i k&&sZ (Jj s i) (t.getD k []) a i k):=by
   unfold zE;rw [List.range_succ,List.all_append];simp
  rw [e];refine(ayQ hp hi hm k w!).snoc λ_=>?_;have xH:k<t.length:=by omega
  have e2:((k:Int)).toNat=k:=by simp
  have hlen:=O2 s a t k i
  have h:=qH.one (F:=B2 e0 ei0 (Jj s i) (t.getD k []) a i k) (z:=.g e0 ei0 (uZ s a t i k)) (b:=sZ (Jj s i) (t.getD k []) a i k)
   ⟨rfl,rfl,ami hp hi hm xH,by rw [e2,Yn xH,Jk];exact⟨e2.symm,xH,by have:=hp.2.1;grind[small]⟩⟩ rfl
  refine⟨h.pre,h.ok,λq=>?_⟩;rw [h.to q];grind[B2,Yn,ahH,ahG]
theorem ayR {e0 ei0:Nat}{root:B8}{n:Int}{g:B8}{s:List Sg}{a:List (List Pf)}{t:List B8}(hp:UW s a t):∀i,i<=s.length->
  qH (conds e0 ei0 root n g s a t i) (.g e0 ei0 (yn s a t 0)) (.g e0 ei0 (yn s a t i)) (vz n g s root&&Fc s a t i)
 |0,_=>by
  have:=qH.one (F:=amh root n g s) (z:=.g e0 ei0 (yn s a t 0)) (b:=vz n g s root) trivial rfl;have e:(vz n g s root&&Fc s a t 0)=vz n g s root:=by simp [Fc]
  rw [e];exact this
 |i+1,hi=>by
  have e:Fc s a t (i+1)=(Fc s a t i&&(qF a i t&&zE s a t i t.length)):=by
   unfold Fc;rw [List.range_succ,List.all_append];simp
  rw [e,<-Bool.and_assoc];refine(ayR hp i w!).snoc λ_=>?_;have h1:=qH.one (F:=ab9 a i t) (z:=.g e0 ei0 (yn s a t i)) (b:=qF a i t) (by have:=hp.1;exact⟨w!,w!⟩) rfl
  have h2:=h1.snoc (m:=(List.range t.length).map λ(j:Nat)=>B2 e0 ei0 (Jj s i) (t.getD j []) a i j) (z2:=.g e0 ei0 (yn s a t (i+1))) (o2:=zE s a t i t.length) λhm=>by
   have:=ayQ (e0:=e0) (ei0:=ei0) hp (show i<s.length by omega) hm t.length (S! _);rw [arz,ahF] at this;exact this
  exact h2
theorem arA(s:List Sg)(a:List (List Pf))(t:List B8):yn s a t 0=List.replicate t.length []:=by
 rw [List.eq_replicate_iff];refine⟨by simp [yn],λx hx=>?_⟩;obtain⟨j,_,rfl⟩:=T?.1 hx;rfl
theorem acb(hb:b.length<1099511627776)(hl:fV l)(h:(bp b).2=0):UW (bp b).1.2.2.1 (bp b).1.2.2.2 (ax l):=by
 have hq:∀(k:Nat) (a e:Int),(sL b a e k).2.length=k/\∀x∈(sL b a e k).2,∀p∈x,p.2.2.2.2.1.length<=64/\p.2.2.2.2.2.length<=b.length:=by
  intro k a e;induction k with
  |zero=>exact⟨rfl,nofun⟩
  |succ k ih=>
   refine⟨by grind[sL],λx hx=>?_⟩;simp only [sL,List.mem_append,List.mem_singleton] at hx;rcases hx with hx|rfl
   . grind
   . have hpf:∀(m:Nat) (a e:Int),∀p∈(D9 b a e m).2,p.2.2.2.2.1.length<=64/\p.2.2.2.2.2.length<=b.length:=by
      intro m a e;induction m with
      |zero=>exact nofun
      |succ m ih=>
       intro p hp;simp only [D9,F!,v?] at hp;rcases hp with hp|rfl
       . grind
       . refine⟨?_,LY _ _ _ _⟩;grind[iF,q3,iK,LZ,OP]
     exact hpf _ _ _
 have h1:(ax l).length<=1099511627776:=(Sx hl.1).2
 have h2:∀w∈ax l,small w:=λw hw=>by
  have:=(jk (qC l) w).1 hw;simp only [qC,bS,T?,List.mem_filter] at this;obtain⟨o,⟨ho,_⟩,rfl⟩:=this;exact hl.2 o (List.mem_of_mem_take ho)
 have V4:bp b=(((aH b).2.1,(aH b).2.2.1,(aH b).2.2.2,(js b (aN b)).2),0):=by
  grind[ayN,alU,ayM]
 rw [V4];have:=hq (aN b) (aH b).1.1 (aH b).1.2;refine⟨this.1.symm,ô b,h1,h2,λx hx p hp=>?_⟩;have q:=this.2 x hx p hp;grind[dM,aC,small]
theorem O3(e0 ei0:Nat)(s:List Sg)(a:List (List Pf))(t:List B8)(i k:Nat):(O1 e0 ei0 s a t i k).length=k+1:=by simp [O1]
theorem Fe {e0 ei0:Nat}{root:B8}{n:Int}{g:B8}{s:List Sg}{a:List (List Pf)}{t:List B8}:∀i,(conds e0 ei0 root n g s a t i).length=1+i*(t.length+1)
 |0=>by simp [conds]
 |i+1=>by rw [conds,K!,Fe i,O3,Nat.succ_mul];omega
theorem UX{root:B8}(i k:Nat):(nJ e0 ei0 root n g s a t i k).length=1+i*(t.length+1)+(k+1):=by
 rw [nJ,K!,Fe,O3]
theorem QV{root:B8}(i k:Nat):
  nJ e0 ei0 root n g s a t i k++[B2 e0 ei0 (Jj s i) (t.getD k []) a i k]=nJ e0 ei0 root n g s a t i (k+1):=by
 grind[nJ,O1,zZ,List.append_assoc]
theorem acd(hb:b.length<1099511627776)(hl:fV l)(h:(bp b).2=0):(bp b).1.2.2.1.length<=64:=(acb hb hl h).2.1
theorem ace {b:B8}(hb:b.length<1099511627776)(hl:fV l)(h:(bp b).2=0)(hq:bw l=true)(hi:i<=(bp b).1.2.2.1.length):i*((ax l).length+1)<=1088:=by
 have h1:=acd hb hl h;have h2:=pS hq;exact X? (Nat.mul_le_mul (show i<=64 by omega) (show(ax l).length+1<=17 by omega)) (by decide)
theorem O4 {root:B8}(h:(root.length:Int)=32/\bw l=true):¬(bif !decide ((root.length:Int)=32) then true else !bw l)=true:=by
 grind
theorem aBu {root:B8}(h:¬(root.length:Int)=32\/bw l=false):(bif !decide ((root.length:Int)=32) then true else !bw l)=true:=by
 grind
theorem arB {root:B8}(h:(bif !decide ((root.length:Int)=32) then true else !bw l)=true): []=(kA root l b).1/\1=(kA root l b).2:=by
 simp_all[kA,M!]
theorem arC {root:B8}(h:¬(bif !decide ((root.length:Int)=32) then true else !bw l)=true)(h1:¬(bp b).2=0): []=(kA root l b).1/\(bp b).2=(kA root l b).2:=by
 simp_all[kA,J!,M!]
theorem Hy{root:B8}{b:B8}(hb:b.length<1099511627776)(hl:fV l)(h:(bp b).2=0){k:Nat}(hk:k=(bp b).1.2.2.1.length):
  qH (conds e0 ei0 root (bp b).1.1 (bp b).1.2.1 (bp b).1.2.2.1 (bp b).1.2.2.2 (ax l) k) (.g e0 ei0 (Vg.bk.Kj (Int.toNat ((ax l).length:Int)))) (.g e0 ei0 (yn (bp b).1.2.2.1 (bp b).1.2.2.2 (ax l) (bp b).1.2.2.1.length)) (SB root (bp b).1 (ax l)):=by
 subst hk;have:=ayR (e0:=e0) (ei0:=ei0) (root:=root) (n:=(bp b).1.1) (g:=(bp b).1.2.1) (acb hb hl h) _ (S! _);rw [arA] at this;exact this
theorem amj {root:B8}{l:List dC}{b:B8}{c:List CF}{z z':Z}(h0:¬(bif !decide ((root.length:Int)=32) then true else !bw l)=true)(h:(bp b).2=0)(hr:qH c z z' (SB root (bp b).1 (ax l)))(h1:¬(bif (Vg.bk.run c z).2.1 then(0:Int) else 6)=0):
  []=(kA root l b).1/\(bif (Vg.bk.run c z).2.1 then(0:Int) else 6)=(kA root l b).2:=by
 have e:=hr.ok;cases hc:SB root (bp b).1 (ax l) with
 |true=>grind
 |false=>simp_all[kA,J!]
theorem acf {e0 ei0:Nat}{root:B8}{l:List dC}{b:B8}{c:List CF}{z:Z}(h0:¬(bif !decide ((root.length:Int)=32) then true else !bw l)=true)(h:(bp b).2=0)(hr:qH c z (.g e0 ei0 (yn (bp b).1.2.2.1 (bp b).1.2.2.2 (ax l) (bp b).1.2.2.1.length)) (SB root (bp b).1 (ax l)))(h1:(bif (Vg.bk.run c z).2.1 then(0:Int) else 6)=0):
  mh l (Vg.bk.rows (Vg.bk.run c z).2.2)=kA root l b:=by
 have e:=hr.ok;cases hc:SB root (bp b).1 (ax l) with
 |false=>grind
 |true=>
  rw [hr.to hc,kA,J! h0,J! w!,M! hc];rfl
end Go.S
namespace Go.S
theorem dl {p:List B8}{k:Nat}(h:(k:Int)<((p.drop (Int.toNat 1)).length:Int)):k+1<p.length:=by
 grind
def aQF(b t:B8)(k:Nat):List Int:=((List.range k).filter λ(i:Nat)=>decide ((bM b).getD i []=t)).map λ(i:Nat)=>(i:Int)
def aYn(b t:B8):List Int:=aQF b t (bM b).length
def aMb(doc t:B8):Bool:=decide ((0:Int)<((aYn doc t).length:Int))
def bOp(o:Int)(a b:Bool):Bool:=if o=1 then Ea a b else if o=2 then UM a b else Eb a b
def aUO(f:B8->Bool)(s:List Bool)(o:dC):List Bool:=
 if o.1=0 then s++[f o.2] else s.take (s.length-2)++[bOp o.1 (s.getD (s.length-2) false) (s.getD (s.length-1) false)]
def bTo(f:B8->Bool)(l:List dC)(k:Nat):List Bool:=(l.take k).foldl (aUO f) []
def aVM(l:List Bool)(x:Bool):List Bool:=l++[x]
def aUX(o:Int)(l:List Bool):List Bool:=l.take (l.length-2)++[bOp o (l.getD (l.length-2) false) (l.getD (l.length-1) false)]
def aUe(l:List dC)(doc:B8):Bool:=(bTo (aMb doc) l l.length).getD 0 false
def aVe(l:List Bool):Prop:=2<=l.length/\small l
def pmB(l:List dC)(doc:B8):Prop:=bw l=true/\small l/\small doc
def aUl(l:List dC)(s:List Bool)(k:Nat):Prop:=k<=l.length/\(s.length:Int)=gw l k
def aRW(docs:List B8)(l:List dC)(k:Nat):List Int:=((List.range k).filter λ(i:Nat)=>aUe l (docs.getD i [])).map λ(i:Nat)=>(i:Int)
def aVN(docs:List B8)(l:List dC):Bool:=bif !bw l then false else !decide ((1000:Int)<(docs.length:Int))
def aUA(docs:List B8)(l:List dC):List Int:=if aVN docs l then aRW docs l docs.length else []
def aUB(docs:List B8)(l:List dC):Int:=if aVN docs l then 0 else 1
def aVJ(docs:List B8)(l:List dC):Prop:=fV l/\∀d∈docs,small d
variable {p:Nat->Bool}{b t doc x:B8}{f:B8->Bool}{l q:List dC}{o:Int}{s:List Bool}{docs T:List B8}{d:List cr}{i n:Nat}{a:List Int}
theorem aXm{k:Nat}(h:p k=true)(f:Nat->Int):((List.range k).filter p).map f++[f k]=((List.range (k+1)).filter p).map f:=by
 rw [List.range_succ,List.filter_append,l?];simp [List.filter,h]
theorem aYo{k:Nat}(h:p k=false)(f:Nat->Int):((List.range k).filter p).map f=((List.range (k+1)).filter p).map f:=by
 rw [List.range_succ,List.filter_append,l?];simp [List.filter,h]
theorem a0M{k:Nat}(h:(bM b).getD k []=t):aQF b t k++[(k:Int)]=aQF b t (k+1):=aXm (p:=λ(i:Nat)=>decide ((bM b).getD i []=t)) (K? h) _
theorem a2v{k:Nat}(h:¬(bM b).getD k []=t):aQF b t k=aQF b t (k+1):=aYo (p:=λ(i:Nat)=>decide ((bM b).getD i []=t)) (Y? h) _
theorem a0N(b t:B8)(k:Nat):(aQF b t k).length<=k:=by
 grind[aQF,List.length_map,Nat.le_trans,List.length_filter_le]
theorem a2w(f:B8->Bool)(l:List dC): []=bTo f l 0:=by rfl
theorem aVA{k:Nat}(hk:k<l.length):bTo f l (k+1)=aUO f (bTo f l k) (l.getD k (0,[])):=by
 rw [bTo,aD l k (0,[]) hk,List.foldl_append];rfl
theorem aZk(h:2<=s.length):(aUX o s).length=s.length-1:=by
 grind[aUX,List.length_append,List.length_take]
theorem aYp{k:Nat}(hk:(k:Int)<l.length)(h:(jY l k).1=0):aVM (bTo f l k) (f (jY l k).2)=bTo f l (k+1):=by
 rw [aVA w!];show _=aUO f _ (jY l k);rw [aUO,M! h];rfl
theorem aXc{l:List dC}{k:Nat}{o:Int}(hk:(k:Int)<l.length)(h:(jY l k).1=o)(ho:o≠0):aUX o (bTo f l k)=bTo f l (k+1):=by
 rw [aVA w!];show _=aUO f _ (jY l k);rw [aUO,J! w!,<-h];rfl
theorem a3H(l:List dC):aUl l [] 0:=⟨U! _,by rfl⟩
theorem aVK{k:Nat}(hp:pmB l doc)(h:aUl l s k)(hk:(k:Int)<l.length)(ho:(jY l k).1≠0):aVe s:=by
 have:=(UP hp.1 hk).2.2 ho;have h1:=h.2;have h2:=abZ l k;have h3:=hp.2.1;refine⟨w!,by grind[small]⟩
theorem aZl{k:Nat}(hp:pmB l doc)(h:aUl l s k):small s:=by
 have h1:=h.2;have h2:=abZ l k;have h3:=hp.2.1;have h4:=h.1;grind[small]
theorem aZW {l:List dC}{g:B8->Bool}{k:Nat}(h:aUl l (bTo g l k) k)(hk:(k:Int)<l.length)(ho:(jY l k).1=0):aUl l (bTo g l (k+1)) (k+1):=by
 refine⟨w!,?_⟩;rw [<-aYp hk ho,aVM,K!,X3 ho,<-h.2];simp
theorem aVO {l:List dC}{g:B8->Bool}{k:Nat}(hp:pmB l doc)(h:aUl l (bTo g l k) k)(hk:(k:Int)<l.length){o:Int}(ho:(jY l k).1=o)(h0:o≠0):aUl l (bTo g l (k+1)) (k+1):=by
 have h2:=(aVK hp h hk w!).1;refine⟨w!,?_⟩;rw [<-aXc hk ho h0,aZk h2,LS w!,<-h.2];omega
theorem aYq{k:Nat}(hp:pmB l doc)(h:aUl l s k)(hk:¬(k:Int)<l.length):0<s.length/\k=l.length:=by
 have e:k=l.length:=by have:=h.1;omega
 have h1:=hp.1;simp [bw,Bool.and_eq_true,decide_eq_true_eq] at h1;have h2:=h.2;grind
theorem a0O{k:Nat}(h:aUe l (docs.getD k [])=true):aRW docs l k++[(k:Int)]=aRW docs l (k+1):=aXm (p:=λ(i:Nat)=>aUe l (docs.getD i [])) h _
theorem a2x{k:Nat}(h:aUe l (docs.getD k [])=false):aRW docs l k=aRW docs l (k+1):=aYo (p:=λ(i:Nat)=>aUe l (docs.getD i [])) h _
theorem a0P(docs:List B8)(l:List dC)(k:Nat):(aRW docs l k).length<=k:=by
 grind[aRW,List.length_map,Nat.le_trans,List.length_filter_le]
theorem a3I(h:bw l=false): []=aUA docs l/\1=aUB docs l:=by grind[aUA,aUB,aVN]
theorem a3J(h:(1000:Int)<docs.length): []=aUA docs l/\1=aUB docs l:=by
 grind[aVN,decide_eq_true,bw,aUA,aUB]
theorem aZX(h:bw l=true)(h1:¬(1000:Int)<docs.length){k:Nat}(hk:k=docs.length):aRW docs l k=aUA docs l/\0=aUB docs l:=by
 grind[aUA,aUB,aVN,decide_eq_false]
def aHp:B8:=[119,97,105,110,32,104,97,121]
def ky:QS:=([zA,aHp],[(0,2,[(zA,[0,1]),([119,97,105,110],[1])])])
abbrev ky0:(List B8×List aY)×Int:=cP (Vg.ur B8) (Vg.ur (Int×Int×List (B8×List Int))) [104,97,121]
theorem UZ:(bY (cP ky0.1.1 ky0.1.2 [119,97,105,110,32,104,97,121]).1.1 (cP ky0.1.1 ky0.1.2 [119,97,105,110,32,104,97,121]).1.2).1=ky:=by rfl
theorem L3:(fE ky.1 ky.2 fy).1.length<1099511627776/\0<(fE ky.1 ky.2 fy).1.length:=by decide+kernel
theorem aHq:kA (mG ky.1 ky.2).1 fy (fE ky.1 ky.2 fy).1=([0,1],0):=by decide+kernel
theorem aHr:(kA (mG ky.1 ky.2).1 fy ((fE ky.1 ky.2 fy).1.set ((fE ky.1 ky.2 fy).1.length-1) ((fE ky.1 ky.2 fy).1.getD ((fE ky.1 ky.2 fy).1.length-1) 0+1))).2≠0:=by decide+kernel
theorem arJ(a:UInt8):UInt8.ofNat (Int.toNat (((a.toNat:Int)+1)%256))=a+1:=by
 apply UInt8.toNat.inj;rw [UInt8.toNat_add];simp only [UInt8.toNat_ofNat'];have:=a.toNat_lt;have e:(1:UInt8).toNat=1:=rfl;rw [e];omega
theorem ayT(h:x=List.set (fE ky.1 ky.2 fy).1 (Int.toNat (((fE ky.1 ky.2 fy).1.length:Int)-1)) (UInt8.ofNat (Int.toNat (((((fE ky.1 ky.2 fy).1.getD (Int.toNat (((fE ky.1 ky.2 fy).1.length:Int)-1)) 0).toNat:Int)+1)%256)))):
  x.length<1099511627776/\(kA (mG ky.1 ky.2).1 fy x).2≠0:=by
 have e:Int.toNat (((fE ky.1 ky.2 fy).1.length:Int)-1)=(fE ky.1 ky.2 fy).1.length-1:=by omega
 rw [arJ,e] at h;refine⟨by rw [h,m?];exact L3.1,?_⟩;rw [h];exact aHr
theorem arK(h:(kA (mG ky.1 ky.2).1 fy x).2≠0):
  (bif sH (kA (mG ky.1 ky.2).1 fy (fE ky.1 ky.2 fy).1).1 [0,1] then bif decide ((kA (mG ky.1 ky.2).1 fy (fE ky.1 ky.2 fy).1).2=0) then !decide ((kA (mG ky.1 ky.2).1 fy x).2=0) else false else false)=true:=by
 rw [aHq];simp only [Y? h];rfl
variable {l:List aY}
theorem aNU(h:gv docs l=true):vz ((docs.length:Nat):Int) (root (leaves docs)) (cB docs l) (mG docs l).1=true:=by
 have e:im ((docs.length:Nat):Int) (root (leaves docs)) (cB docs l)=mG docs l:=by
  unfold im mG;rw [if_pos (ï h),if_pos h]
 have e2:(mG docs l).2=0:=by unfold mG;rw [if_pos h]
 simp [vz,e,e2]
theorem aNV(h:gv docs l=true):(mG docs l).1.length=32:=by
 unfold mG;rw [if_pos h];exact IP _ _
theorem aJ4 {d:List cr}(h:bg d=true)(hp:d.length<=65000)(hd:∀t,(qz d t).length<=200)(t:B8):(afW (la d t)).length<=1200:=by
 obtain⟨f1,f2,f3⟩:=X1 (t:=t) h;have hlen:(leaves (ie d)).length=d.length+1:=by rw [Yf,f3]
 have a1:=cX (bt d t+1);have a2:=EW (aBd h (i:=(bt d t+1).toNat) w!);have a3:=alK (qy (bj (l9 d (bt d t+1).toNat)).1.1 (bj (l9 d (bt d t+1).toNat)).1.2.1 (bj (l9 d (bt d t+1).toNat)).1.2.2);have a4:=aMF (ñ _ (leaves (ie d)) (bt d t+1) rfl (tB _));have a5:=alB (l:=leaves (ie d)) (i:=bt d t+1) (t:=16) f1 w! w!
 have a6:(text (if k9 d t then BF (qz d t) else [])).length<=411:=by
  grind[alK,alZ,ahD]
 simp [afW,la,K!];omega
theorem aNW(h:gv docs l=true)(hq:bw q=true)(hd:docs.length<=40)(hl:l.length<=41):(fE docs l q).2=0:=by
 rw [aNT h hq];refine(aJ3 ?_).2;have ht:=pS hq;have R:=RI.of (uR.1 h).1
 have mP:∀x∈Ye l (ax q),(aje x x.length).length<=1200*16+9:=by
  intro x hx;obtain⟨s,hs,rfl⟩:=T?.1 hx;obtain⟨f1,f2,f3⟩:=Ss h s hs;obtain⟨r1,r2,r3,r4⟩:=R.seg s hs;obtain⟨b1,b2,b3,b4,b5⟩:=rI r4;have e2:s.2.2=make docs s.1 s.2.1:=by rw [r3]
  have hlen:s.2.2.length<=65000:=by
   rw [e2,CZ];unfold dA;have:=rG (xh docs s.1 (s.2.1-s.1).toNat);have:=Si b5 s.1 (s.2.1-s.1).toNat;omega
  have hd:∀t,(qz s.2.2 t).length<=200:=by
   intro t;rw [aMv f1,e2,Hj (uM r4)];have:=Xt docs s.1 t (s.2.1-s.1).toNat;omega
  have:=az2 afW 1200 (Lm s.2.2 (ax q)) (λp hp=>by
   obtain⟨t,_,rfl⟩:=T?.1 hp;exact aJ4 f1 hlen hd t)
  grind[cX,Lm,ax,aBo,List.length_append,Nat.mul_le_mul_left]
 have:=az2 (λx=>aje x x.length) _ _ mP;have hn:(Ye l (ax q)).length=l.length:=by simp [Ye]
 have a1:=aME (ï h);grind[Nat.mul_le_mul_left,aAr,aAo,List.length_append,List.length_singleton,List.take_length]
theorem aJ5(l:List rf):(hx l).1.length<=40/\(hx l).2.length<=41:=by
 have:=pf l;have:=alA l;grind [hx]
theorem aJL(l:List rf)(hq:bw q=true):(fE (hx l).1 (hx l).2 q).2=0:=aNW (azG l) hq (aJ5 l).1 (aJ5 l).2
theorem aJ6{p:List dC}(h:gv docs l=true)(hp:bw p=true)(hq:bw q=true)(he:(fE docs l p).2=0):
  kA (mG docs l).1 q (fE docs l p).1=if Fc (cB docs l) (Ye l (ax p)) (ax q) l.length then mh q (yn (cB docs l) (Ye l (ax p)) (ax q) l.length) else([],6):=by
 obtain⟨_,_,h3⟩:=aJy h hp he;unfold kA;rw [h3];have e:((mG docs l).1.length:Int)=32:=by rw [aNV h];rfl
 simp only [e,hq,decide_true,Bool.not_true,O!,L?,n?,ne_eq,not_true,SB,aNU h,Bool.true_and,az1 h]
theorem aO5(o:Int):opL o [] []=[]:=by
 have :∀k:Kp,k false false=false->Jh k [] []=[]:=λk hk=>by
  unfold Jh zC;have e:vv []=[]:=rfl;grind[List.filter_eq_nil_iff,re]
 unfold opL E8 uX OS;rw [this _ rfl,this _ rfl,this _ rfl];simp
theorem aO6 {f:B8->List Int}(hf:∀t,f t=[])(l:List dC):∀s:List (List Int),(∀x∈s,x=[])->∀x∈l.foldl (Db f) s,x=[]:=by
 induction l with
 |nil=>grind
 |cons o l ih=>
  intro s hs;refine ih _ λx hx=>?_
  have hg:∀i,s.getD i []=[]:=λi=>by
   rw [G!];cases e:s[i]? with
   |none=>rfl
   |some y=>exact hs y (E? e)
  unfold Db at hx;split at hx
  . rcases F!.1 hx with h|h
    . exact hs x h
    . rw [v?.1 h];exact hf _
  . rcases F!.1 hx with h|h
    . exact hs x (List.mem_of_mem_take h)
    . rw [v?.1 h,hg,hg];exact aO5 _
variable {f:List (List Int)}
theorem aO7 {t:List B8}(hf:∀x∈f,x=[])(s:B8):mH t f s=[]:=by
 unfold mH;split
 . rw [G!];cases e:f[pE t s]? with
   |none=>rfl
   |some y=>exact hf y (E? e)
 . rfl
theorem aNX {q:List dC}(hq:bw q=true)(hl:f.length=(ax q).length)(hf:∀x∈f,x=[]):mh q f=([],0):=by
 have h1:mT q f=true:=by
  simp [mT,hq,hl,decide_true,Bool.true_and,Z!];intro x hx;rw [hf x hx];rfl
 have h2:OT q (ax q) f=[]:=by
  unfold OT gC;have:=aO6 (aO7 (t:=ax q) hf) (q.take q.length) [] z!;rw [List.getD_eq_getElem?_getD];cases e:(List.foldl (Db (mH (ax q) f)) [] (q.take q.length))[0]? with
  |none=>rfl
  |some y=>exact this y (E? e)
 simp_all[mh,M!]
theorem aSt(l:List rf)(hq:bw q=true):(fE (hx l).1 (hx l).2 q).1.length<1099511627776:=by
 grind[aJy,azG,aJL]
theorem aZY {P R:B8}{v:Int}(hb:b=P++(num v++R))(h:0<=v)(h1:v<=4611686018427387904):af b (P.length:Int) 0=((b,(P.length:Int)+((num v).length:Int),0),v):=by
 have e:b.drop ((P.length:Int)).toNat=num v++R:=by simp_all
 grind[C3,E3]
theorem aVB(l:List Int)(k:Nat):jb l (k+1)=jb l k++num (l.getD k 0-gi l k-1):=by
 simp [jb,List.range_succ]
theorem aVP(l:List Int):∀n k,k+n=l.length->∃R,BF l=jb l k++R
 |0,k,h=>⟨[],by grind[BF]⟩
 |n+1,k,h=>by
  obtain⟨R,e⟩:=aVP l n (k+1) w!;grind[aVB,List.append_assoc]
theorem aXn {l:List Int}(h:bK l=true){k:Nat}(hk:k<l.length):gi l k<l.getD k 0/\l.getD k 0<1000:=by
 have:=List.all_eq_true.1 h k (List.mem_range.2 hk);grind[Ob]
theorem aXo {l:List Int}(h:bK l=true):∀ {k:Nat},k<=l.length-> -1<=gi l k
 |0,_=>by simp [gi]
 |k+1,hk=>by
  have i:=aXo h (k:=k) w!;have g:=aXn h (k:=k) w!;grind[gi]
theorem aXp {l:List Int}(h:bK l=true):∀n k,k+n=l.length->tE (BF l) n ((jb l k).length:Int) 0 (gi l k) (l.take k)=(l,0)
 |0,k,hk=>by
  have :k=l.length:=by omega
  subst this
  have e:done (BF l) ((jb l l.length).length:Int) 0=0:=by
   have :(jb l l.length).length=(BF l).length:=rfl;grind[done,inside]
  rw [tE,M! e,List.take_length]
 |n+1,k,hk=>by
  obtain⟨R,e⟩:=aVP l n (k+1) w!;rw [aVB,W!] at e;have g:=aXn h (k:=k) w!;have p:=aXo h (k:=k) w!;have r:=aZY e w! w!;rw [tE,r,J! z!,J! w!];have i:=aXp h n (k+1) w!
  have e1:gi l k+(l.getD k 0-gi l k-1+1)=gi l (k+1):=by
   have :gi l (k+1)=l.getD k 0:=by simp [gi]
   omega
  have e2:l.take k++[gi l (k+1)]=l.take (k+1):=by
   have :gi l (k+1)=l.getD k 0:=by simp [gi]
   rw [this,aD _ k 0 w!]
  have e3:((jb l k).length:Int)+((num (l.getD k 0-gi l k-1)).length:Int)=((jb l (k+1)).length:Int):=by rw [aVB,K!];omega
  simp only [e1,e2,e3];exact i
theorem aXB {l:List Int}(h:bK l=true):b8 (BF l)=(l,0):=by
 obtain⟨R,e⟩:=aVP l l.length 0 w!;have hl:=ou h;have e0:jb l 0=num (l.length:Int):=by simp [jb]
 have r:o0 (BF l)=((BF l,((num (l.length:Int)).length:Int),0),(l.length:Int)):=by
  have:=aZY (b:=BF l) (P:=[]) (v:=(l.length:Int)) (R:=R) x! w! w!;grind[o0]
 have i:=aXp h l.length 0 w!;rw [b8,r,if_neg z!,if_neg w!];grind[Int.toNat_natCast,gi]
theorem aZZ(h:bg d=true)(hi:i<=d.length):(bj (l9 d i)).1=(if i=0 then [] else fY d (i-1),if i<d.length then fY d i else [],CW (if i=0 then [] else jS d (i-1))):=by
 rcases Hc h (k:=i) with q|q
 . have e:l9 d i=qy (if i=0 then [] else fY d (i-1)) (if i<d.length then fY d i else []) (CW (if i=0 then [] else jS d (i-1))):=rfl;grind[ak8]
 omega
theorem aXO {l:List B8}(hl:l.length<=1099511627776)(hd:bQ l=true){i:Int}(h0:0<=i)(h1:i<l.length)(h32:(l.getD i.toNat []).length=32):
  eQ (l.getD i.toNat []) i l.length (path l i)=0/\kq (l.getD i.toNat []) i l.length (path l i)=root l:=by
 have e:eQ (l.getD i.toNat []) i l.length (path l i)=0:=by
  unfold eQ;rw [if_pos ⟨w!,w!,w!,h0,h1⟩,if_pos ⟨by rw [ahu _ l i rfl];rfl,ñ _ l i rfl hd⟩]
 refine⟨e,?_⟩;unfold kq;rw [if_pos e];exact aXk _ l i rfl h0 h1
theorem aZ0(d:List cr){i:Int}(h0:0<=i)(h:i<=d.length):(leaves (ie d)).getD i.toNat []=leaf (l9 d i.toNat):=by
 have e:=ahy d h0 h;have hl:(ie d).length=d.length+1:=by simp [ie,iV]
 have jU:i.toNat<(ie d).length:=by omega
 unfold leaves;rw [List.getD_eq_getElem?_getD,List.getElem?_map,List.getElem?_eq_getElem jU];rw [List.getD_eq_getElem?_getD,List.getElem?_eq_getElem jU] at e;simpa using congrArg leaf e
theorem a0R(h:bg d=true)(hp:d.length<=1048576)(t:B8):OU (tA d) ((ie d).length:Int) (la d t)=true:=by
 obtain⟨f1,f2,f3⟩:=X1 (t:=t) h;have hi:(bt d t+1).toNat<=d.length:=by omega
 have hlen:(leaves (ie d)).length=d.length+1:=by rw [Yf,f3]
 have e:=aZZ h hi;have hk:=aBd h hi
 have hB:UN (la d t).2.1 (la d t).2.2.1 (la d t).2.2.2.1=leaf (l9 d (bt d t+1).toNat):=by
  unfold UN la;rw [e];rfl
 have c:=aXO (l:=leaves (ie d)) w! (tB _) (i:=bt d t+1) f1 w! (by rw [aZ0 d f1 w!];exact IP _ _);rw [aZ0 d f1 w!,hlen,<-f3] at c;unfold OU;rw [hB];simp only [Bool.and_eq_true,decide_eq_true_eq];exact⟨hk,c.1,c.2⟩
theorem aZ1(h:bg d=true)(hn:k9 d t=false)(ht:t≠ []):
  Op.bytesLess (if(bt d t+1).toNat=0 then [] else fY d ((bt d t+1).toNat-1)) t=true/\((bt d t+1).toNat<d.length->Op.bytesLess t (fY d (bt d t+1).toNat)=true):=by
 have hf:bt d t=ek d t d.length:=(akQ h).symm;rcases aJR (d:=d) (t:=t) d.length with⟨h1,h2⟩|⟨q,h1,h2,h3,h4⟩
 . have e:(bt d t+1).toNat=0:=by omega
   rw [e];refine⟨by rw [M! rfl];exact a0I ht,λhl=>?_⟩;have:=h2 0 hl;rw [Xr] at this;simpa using this
 . have e:(bt d t+1).toNat=q+1:=by omega
   rw [e];refine⟨?_,λhl=>?_⟩
   . rw [J! w!];show Op.bytesLess (fY d q) t=true
     have fh:fY d q≠t:=λhe=>by
      simp only [k9,Bool.and_eq_false_iff,q?] at hn;rcases hn with g|g
      . omega
      . exact g (by rw [show(bt d t).toNat=q by omega];exact he)
     simp only [Ll,Z?,H!] at h3;rcases h3 with g|g
     . exact g
     . exact absurd g fh
   . have:=h4 (q+1) w! hl;rw [Xr] at this;simpa using this
theorem a0S:(b8 []).2≠0:=by decide
theorem aZ2(h:bg d=true)(ht:isTerm t=true):Su t (la d t)=(qz d t,0):=by
 obtain⟨f1,f2,f3⟩:=X1 (t:=t) h;have hi:(bt d t+1).toNat<=d.length:=by omega
 have e:=aZZ h hi;unfold Su;cases hb:k9 d t with
 |true=>
  have hd:=LN hb;have e6:(la d t).2.2.2.2.2=BF (qz d t):=by simp [la,hb]
  have e2:(la d t).2.1=t:=by
   unfold la;rw [e];show(if(bt d t+1).toNat=0 then [] else fY d ((bt d t+1).toNat-1))=t;rw [if_neg w!,show(bt d t+1).toNat-1=(bt d t).toNat by omega];simp only [k9,Bool.and_eq_true,decide_eq_true_eq] at hb;exact hb.2
  have e4:(la d t).2.2.2.1=mF 2 (BF (qz d t)):=by
   unfold la;rw [e];show CW (if(bt d t+1).toNat=0 then [] else jS d ((bt d t+1).toNat-1))=_;rw [if_neg w!,show(bt d t+1).toNat-1=(bt d t).toNat by omega];unfold CW qz;rw [if_pos hb]
  rw [e6,e2,e4,aXB (ahD h t)];rw [M! (by simp [KL])]
 |false=>
  have e6:(la d t).2.2.2.2.2=[]:=by simp [la,hb]
  obtain⟨g1,g2⟩:=aZ1 h hb (aZS ht)
  have e2:(la d t).2.1=if(bt d t+1).toNat=0 then [] else fY d ((bt d t+1).toNat-1):=by
   unfold la;rw [e]
  have e3:(la d t).2.2.1=if(bt d t+1).toNat<d.length then fY d (bt d t+1).toNat else []:=by
   unfold la;rw [e]
  rw [e6,J! (by simp [KL,a0S]),M! ?_]
  . simp [qz,hb]
  . unfold KM;rw [e2,g1,e3];by_cases hl:(bt d t+1).toNat<d.length
    . rw [M! hl,g2 hl];rfl
    . rw [J! hl];simp
theorem aZ3(h:bg d=true)(hp:d.length<=1048576)(ht:isTerm t=true):iI (tA d) ((ie d).length:Int) t (la d t)=(qz d t,0):=by
 obtain⟨f1,f2,f3⟩:=X1 (t:=t) h;have hr:(tA d).length=32:=agS _ _ (S! _) (tB _)
 have ha:Ec (tA d) ((ie d).length:Int) t=true:=by
  simp only [Ec,B!,H!];exact⟨w!,w!,w!,ht⟩
 unfold iI;rw [if_pos ha,if_pos (a0R h hp t),aZ2 h ht]
def aOl(docs T:List B8):List (List Int):=T.map λt=>dS docs 0 t docs.length
theorem aXC {α:Type}{l:List α}(h:i<l.length)(x:α):l.getD i x=l[i]:=by
 grind
theorem aYr(h:gv docs l=true)(hi:i<l.length):Jj (cB docs l) i=Hh l[i]:=by
 have e:cB docs l=l.map Hh:=by unfold cB;rw [me (uR.1 h).1]
 unfold Jj;rw [e,aXC (by simpa using hi),List.getElem_map]
theorem a0T{j:Nat}(hi:i<l.length)(hj:j<T.length):Sy (Ye l T) (i:Int) (j:Int)=la l[i].2.2 (T.getD j []):=by
 have e1:(Ye l T).getD i []=Lm l[i].2.2 T:=by
  unfold Ye;rw [aXC (by simpa using hi),List.getElem_map]
 have e2:(Lm l[i].2.2 T).getD j X0=la l[i].2.2 (T.getD j []):=by
  unfold Lm;rw [aXC (by simpa using hj),List.getElem_map,aXC hj]
 grind[Sy,pfD,iE,Int.toNat_natCast]
theorem aYs(h:gv docs l=true)(hT:∀t∈T,isTerm t=true){j:Nat}(hi:i<l.length)(hj:j<T.length):
  Ak (Jj (cB docs l) i) (T.getD j []) (Ye l T) i j=(qz l[i].2.2 (T.getD j []),0):=by
 have ht:=hT _ (bC T j [] hj);obtain⟨f1,f2,f3⟩:=Ss h _ (List.getElem_mem hi);unfold Ak;rw [aYr h hi,a0T hi hj];exact aZ3 f1 f2 ht
theorem aZ4(h:gv docs l=true)(hi:i<l.length)(t:B8):wB (qz l[i].2.2 t) l[i].1 l[i].2.1=true:=by
 have R:=RI.of (uR.1 h).1;obtain⟨r1,r2,r3,r4⟩:=R.seg _ (List.getElem_mem hi);grind[make,rI,aVL,uM,wB,dS]
theorem a0U(h:gv docs l=true)(hT:∀t∈T,isTerm t=true):Fc (cB docs l) (Ye l T) T l.length=true:=by
 unfold Fc;rw [List.all_eq_true];intro i hi;have hi:=List.mem_range.1 hi;rw [Bool.and_eq_true];refine⟨?_,?_⟩
 . grind[qF,decide_eq_true,Int.toNat_natCast,aXC,Ye,Lm]
 . unfold zE;rw [List.all_eq_true];intro j hj;have hj:=List.mem_range.1 hj;unfold sZ;rw [aYs h hT hi hj,aYr h hi];exact aZ4 h hi _
theorem aYt {docs:List B8}{l:List aY}(h:gv docs l=true){T:List B8}(hT:∀t∈T,isTerm t=true){j:Nat}(hj:j<T.length):∀i,i<=l.length->
  xp (cB docs l) (Ye l T) T j i=(l.take i).flatMap λs=>qz s.2.2 (T.getD j [])
 |0,_=>by rfl
 |i+1,hi=>by
  have ih:=aYt h hT hj i w!;rw [xp,ih,aYs h hT w! hj,List.take_succ_eq_append_getElem w!,List.flatMap_append];simp [SA]
theorem aZ5(h:gv docs l=true)(t:B8):(l.flatMap λs=>qz s.2.2 t)=dS docs 0 t docs.length:=by
 have R:=RI.of (uR.1 h).1;have h1:=BU (t:=t) R.row;have hc:cO l=(docs.length:Int):=by grind[KF,uR]
 rw [<-R.eq,<-R.XG,hc,show(((docs.length:Nat):Int)-0).toNat=docs.length by omega] at h1;rw [<-h1];unfold I0;rw [List.flatMap_def,List.flatMap_def];congr 1
 refine R? λs hs=>?_;exact aMv (alk (R.seg s hs).1) t
theorem a2y(h:gv docs l=true)(hT:∀t∈T,isTerm t=true):yn (cB docs l) (Ye l T) T l.length=aOl docs T:=by
 unfold yn aOl;refine List.ext_getElem z! λj h1 h2=>?_;have hj:j<T.length:=by grind
 simp;rw [aYt h hT hj _ (S! _),List.take_length,aZ5 h,aXC hj]
theorem aW4(h:gv docs l=true)(t:B8):bK (dS docs 0 t docs.length)=true:=by
 have hf:=(RI.of (uR.1 h).1).fair
 have hp:oY docs 0 docs.length:=by
  simp [eZ,Bool.and_eq_true,List.all_eq_true,decide_eq_true_eq] at hf;refine⟨w!,w!,w!,w!,λd hd=>?_⟩;grind
 have e:=aVL hp t;grind[ahD,BQ]
def aXq(docs:List B8)(q:List dC):List Int:=OT q (ax q) (aOl docs (ax q))
theorem aXr(h:gv docs l=true)(hq:bw q=true)(he:(fE docs l q).2=0):
  kA (mG docs l).1 q (fE docs l q).1=(aXq docs q,0):=by
 have hT:=X5 hq;rw [aJ6 h hq hq he,M! (a0U h hT),a2y h hT]
 have e:mT q (aOl docs (ax q))=true:=by
  simp [mT,hq,Bool.true_and,Bool.and_eq_true,decide_eq_true_eq,List.all_eq_true];refine⟨by simp [aOl],λx hx=>?_⟩;obtain⟨t,_,rfl⟩:=List.mem_map.1 hx;grind[aW4]
 unfold mh;rw [if_pos e];rfl
theorem a3L(l:List rf)(hq:bw q=true):(fE (hx l).1 (hx l).2 q).2=0/\kA (mG (hx l).1 (hx l).2).1 q (fE (hx l).1 (hx l).2 q).1=(aXq (fq l).1 q,0):=by
 grind[aJL,aXr,azG,aQQ]
theorem aZ6(doc t:B8):aMb doc t=BK doc t:=rfl
theorem aUY {x:List B8}(hx:uG x)(h:t∈x):x.getD (pE x t) []=t:=by
 obtain⟨i,hi,e⟩:=List.mem_iff_getElem.1 h;have e':x.getD i []=t:=by grind
 have hb:rO x t (i:Int) (i:Int):=by
  refine⟨w!,Int.le_refl _,w!,λk hk=>?_,λk hk hl=>?_⟩
  . grind[ü]
  grind[eS,ü,CV]
 grind[aro]
def pb(n:Nat)(a:List Int):Prop:=bK a=true/\∀y∈a,y<(n:Int)
theorem aTl(h:bK a=true):vv a=a:=by grind[vv]
theorem aRE {l:List Int}(h:l.Pairwise (· < ·))(h2:∀x∈l,0<=x/\x<1000):bK l=true:=by
 grind[kL,jG,bC,gi,aXC,List.pairwise_iff_getElem]
theorem aXs(k:Kp)(a b:List Int):bK (zC k a b)=true:=aRE (Fb k a b) λx hx=>(zD.1 hx).1
theorem a0Y{b:List Int}(hn:n<=1000)(ha:pb n a)(hb:pb n b)(i:Nat)(hi:i<n):((i:Int)∈opL o a b↔bOp o (decide ((i:Int)∈a)) (decide ((i:Int)∈b))=true)/\pb n (opL o a b):=by
 have key:∀k:Kp,k false false=false->(((i:Int)∈Jh k a b↔k (decide ((i:Int)∈a)) (decide ((i:Int)∈b))=true)/\pb n (Jh k a b)):=λk hk=>by
  unfold Jh;rw [aTl ha.1,aTl hb.1];refine⟨?_,aXs k a b,λy hy=>?_⟩
  . rw [zD];constructor
    . exact λh=>h.2
    . exact λh=>⟨w!,h⟩
  . have h2:=(zD.1 hy).2;by_cases ya:y∈a
    . exact ha.2 y ya
    . by_cases yb:y∈b
      . exact hb.2 y yb
      grind[re]
 unfold opL bOp E8 uX OS;by_cases h1:o=1
 . rw [M! h1,M! h1];exact key Ea rfl
 . rw [J! h1,J! h1];by_cases h2:o=2
   . rw [M! h2,M! h2];exact key UM rfl
   . rw [J! h2,J! h2];exact key Eb rfl
theorem aZ7(hi:i<docs.length):(i:Int)∈dS docs 0 t docs.length↔BK (docs.getD i []) t=true:=by
 unfold dS;rw [List.mem_map];constructor
 . grind
 . intro h;refine⟨i,List.mem_filter.2 ⟨List.mem_range.2 hi,?_⟩,w!⟩;grind
theorem a00:∀y∈dS docs 0 t docs.length,y<(docs.length:Int):=by
 intro y hy;obtain⟨k,hk,rfl⟩:=List.mem_map.1 hy;grind
theorem aZ8(hT:uG T){s:B8}(hs:s∈T):mH T (aOl docs T) s=dS docs 0 s docs.length:=by
 have h1:BY T s=true:=decide_eq_true hs;have h2:=arq h1;unfold mH;rw [if_pos h1];unfold aOl;rw [aXC (by simpa using h2),List.getElem_map];have:=aUY hT hs;rw [aXC h2] at this;rw [this]
def aV4(n i:Nat)(s:List (List Int))(b:List Bool):Prop:=s.length=b.length/\∀j,j<s.length->pb n (s.getD j [])/\((i:Int)∈s.getD j []↔b.getD j false=true)
variable {b:List Bool}{s:List (List Int)}
theorem aW5 {i:Nat}(h:aV4 n i s b){x:List Int}{y:Bool}(hx:pb n x)(hy:(i:Int)∈x↔y=true):aV4 n i (s++[x]) (b++[y]):=by
 refine⟨by simp [h.1],λj hj=>?_⟩;by_cases e:j<s.length
 . have:=h.2 j e;have e2:j<b.length:=by have:=h.1;omega
   grind
 . have e2:s.length=b.length:=h.1;grind
theorem aXP(h:aV4 n i s b)(k:Nat):aV4 n i (s.take k) (b.take k):=by
 refine⟨by simp [h.1],λj hj=>?_⟩;have h1:j<k/\j<s.length:=by grind
 have h2:=h.2 j h1.2;grind
theorem aXQ {docs:List B8}(hT:uG T)(hn:docs.length<=1000)(hp:∀t,bK (dS docs 0 t docs.length)=true)(hi:i<docs.length)(h:aV4 docs.length i s b){o:dC}(ho:o.1=0->o.2∈T)(h2:o.1≠0->2<=s.length):
  aV4 docs.length i (Db (mH T (aOl docs T)) s o) (aUO (aMb (docs.getD i [])) b o):=by
 unfold Db aUO;by_cases h0:o.1=0
 . rw [if_pos h0,if_pos h0,aZ8 hT (ho h0)];exact aW5 h ⟨hp _,a00⟩ (by grind[aZ6,aZ7])
 . have a1:=h.2 (s.length-2) w!;have a2:=h.2 (s.length-1) w!;have g:=a0Y (o:=o.1) hn a1.1 a2.1 i hi;have e:b.length=s.length:=h.1.symm;grind[aW5,aXP]
theorem aUZ{k:Nat}(hk:k<q.length)(h0:(jY q k).1=0):(jY q k).2∈ax q:=by
 unfold ax;rw [jk];unfold qC bS;rw [List.take_length];exact List.mem_map.2 ⟨_,List.mem_filter.2 ⟨bC q k (0,[]) hk,decide_eq_true h0⟩,rfl⟩
theorem aW6 {docs:List B8}{q:List dC}(hq:bw q=true)(hn:docs.length<=1000)(hp:∀t,bK (dS docs 0 t docs.length)=true){i:Nat}(hi:i<docs.length):∀k,k<=q.length->
  aV4 docs.length i (gC (mH (ax q) (aOl docs (ax q))) q k) (bTo (aMb (docs.getD i [])) q k)/\((gC (mH (ax q) (aOl docs (ax q))) q k).length:Int)=gw q k
 |0,_=>⟨⟨rfl,λj hj=>by grind[gC]⟩,by rfl⟩
 |k+1,hk=>by
  obtain⟨ih,il⟩:=aW6 hq hn hp hi k w!;have hkd:=UP hq (k:=k) w!;rw [OW w!,aVA w!];refine⟨aXQ (l7 _) hn hp hi ih (λh=>aUZ w! h) (λh=>by have:=hkd.2.2 h;omega),?_⟩;by_cases h0:(jY q k).1=0
  . simp_all[X3,Db,jY,M!]
  . rw [LS h0,<-il];show((Db _ _ (jY q k)).length:Int)=_;rw [Db,if_neg h0,List.length_append,List.length_take];grind
theorem a01(h:gv docs l=true)(hq:bw q=true)(hn:docs.length<=1000):aXq docs q=aRW docs q docs.length:=by
 have hp:=λt=>aW4 h t
 have hlen:gw q q.length=1:=by
  simp_all[bw,B!,H!]
 have main:∀i,i<docs.length->((i:Int)∈aXq docs q↔aUe q (docs.getD i [])=true)/\pb docs.length (aXq docs q):=λi hi=>by
  obtain⟨t1,t2⟩:=aW6 hq hn hp hi q.length (S! _);have:=t1.2 0 w!;exact⟨this.2,this.1⟩
 by_cases h0:docs.length=0
 . have e:docs=[]:=d?.1 h0;subst e
   have hF:∀x∈aOl [] (ax q),x=[]:=λx hx=>by
    obtain⟨t,_,rfl⟩:=T?.1 hx;rfl
   have:=aNX hq (f:=aOl [] (ax q)) (by simp [aOl]) hF;unfold mh at this;split at this
   . exact(Prod.mk.inj this).1
   . exact absurd (Prod.mk.inj this).2 (by decide)
 . have hpb:=(main 0 w!).2;have V8:=aQi hpb.1;refine Yk V8.1 ?_ λx=>?_
   . unfold aRW;rw [List.pairwise_map];exact((List.pairwise_lt_range).filter _).imp λ{a b} lQ=>by omega
   . constructor
     . intro hx;have b1:=V8.2 x hx;have b2:=hpb.2 x hx;have e:((x.toNat:Nat):Int)=x:=by omega
       have g:=(main x.toNat w!).1;rw [e] at g;exact T?.2 ⟨x.toNat,List.mem_filter.2 ⟨f?.2 w!,g.1 hx⟩,e⟩
     . intro hx;obtain⟨i,hi,rfl⟩:=T?.1 hx;obtain⟨h1,h2⟩:=List.mem_filter.1 hi;exact(main i (f?.1 h1)).1.2 h2
def aAt(l:List dC):Prop:=l.length<=5864062014805
theorem aU0 {l:List dC}(h:small l):aAt l:=by unfold small at h;unfold aAt;omega
theorem a02(l:List rf)(hq:bw q=false):(mG (hx l).1 (hx l).2).2=0/\(fE (hx l).1 (hx l).2 q).2=1:=by
 rw [aZV (azG l),a2t (azG l) hq];exact⟨rfl,rfl⟩
theorem aZ9(l:List rf)(hq:bw q=true):(mG (hx l).1 (hx l).2).2=0/\(fE (hx l).1 (hx l).2 q).2=0/\kA (mG (hx l).1 (hx l).2).1 q (fE (hx l).1 (hx l).2 q).1=(aUA (hx l).1 q,0)/\aUB (hx l).1 q=0:=by
 have g:=a3L l hq;have h40:=(aJ5 l).1;have m:=aZX (docs:=(hx l).1) hq w! rfl;refine⟨by rw [aZV (azG l)],g.1,?_,m.2.symm⟩;rw [aXr (azG l) hq g.1,a01 (azG l) hq w!,m.1]
theorem a0a(l:List rf)(h:fV q):aVJ (hx l).1 q:=by
 refine⟨h,λd hd=>?_⟩;rw [aQQ] at hd;obtain⟨i,hi,e⟩:=List.mem_iff_getElem.1 hd;have:=aZi l i;rw [aXC hi,e] at this;unfold small;omega
def hz(l m:List rf):QS:=(bY (ayO l m (min m.length 40)).1 (ayO l m (min m.length 40)).2).1
abbrev Lf:=B8×Int
def gD(b:B8)(e:Int):Lf×Int:=if e≠0 then((b,e),0) else((b.drop (first b).2.1.toNat,(first b).2.2),(first b).1)
def iq(b:B8)(e m:Int):Lf×B8:=if e≠0 then((b,e),[]) else((b.drop (aq b m).2.1.toNat,(aq b m).2.2),(aq b m).1)
def bO(b:B8)(e m:Int):Lf×Int:=if(gD b e).1.2=0/\m<(gD b e).2 then(([],2),0) else gD b e
def nK(b:B8)(k:Nat):List B8:=(List.range k).map λi=>(b.drop (32*i)).take 32
def Ln(b:B8)(e:Int):Nat:=(bO b e 64).2.toNat
def fM(b:B8)(e:Int):Lf×List B8:=
 if(bO b e 64).1.1.length<32*Ln b e then(([],4),[]) else(((bO b e 64).1.1.drop (32*Ln b e),(bO b e 64).1.2),nK (bO b e 64).1.1 (Ln b e))
def u1(b:B8)(e:Int):Lf×Int:=gD b e
def u2(b:B8)(e:Int):Lf×B8:=iq (u1 b e).1.1 (u1 b e).1.2 200
def u3(b:B8)(e:Int):Lf×List B8:=fM (u2 b e).1.1 (u2 b e).1.2
def u4(b:B8)(e:Int):Lf×B8:=iq (u3 b e).1.1 (u3 b e).1.2 4000
end Go.S
namespace Go.Vg
open Go
variable [HP]
def Pb {P:Program}{W:World}:∀ {laid:List (String×DataW Unit)} {ps:List MemPlace} {name:String} {d:DataW Unit},DataW.LaidVars P W laid ps->(name,d)∈laid->
  ∃(g:Nat) (t:TypeId) (cs:Array Value) (fuel:Nat) (p:List MemPlace),P.globalNamed name=some g/\(P.globals[g]?).map (·.type)=some t/\W.var? P name=some cs/\DataW.trod (λ_=>()) P W 0 (λ_=>true) false fuel t cs.toList=some (d,p)
 |[],_,_,_,_,hm=>by grind
 |x::rest,ps,name,d,h,hm=>by
  obtain⟨g',t',cs,fuel,p,q,xR,ht',aHC,hd,hr,hps⟩:=h;rcases P!.1 hm with rfl|hm
  . exact⟨g',t',cs,fuel,p,xR,ht',aHC,hd⟩
  . exact Pb hr hm
def Pc {H:Type}{enc:TypeId×Value->H}{P:Program}{w:World}{base:Nat}{sp:Nat->Bool}{held:Bool}{fuel:Nat}{t e:TypeId}{n m:Nat}{k:IntKind}{cs:List Value}{zss:List (List Int)}{p:List MemPlace}{fs:Array Field}
  (ht:P.underlying t=some (.array n e)) (he:P.underlying e=some (.struct fs)) (T4:P.cellsOf e=m) (hct:P.cellsOf t=n*m) (hfs:fs.size=m) (hf:∀(i:Nat) (f:Field),fs[i]? =some f->f.offset=i/\P.underlying f.type=some (.int k)/\P.cellsOf f.type=1)
  (hz:∀r∈zss,r.length=m) (h:DataW.trod enc P w base sp held fuel t cs=some (.agg (zss.map λr=>.agg (r.map λz=>.lit (.int k z))),p)):cs.length=n*m/\zss.length=n/\
    ∀i j,i<n->j<m->cs[i*m+j]? =some (.int k ((zss.getD i []).getD j 0)):=by
 cases fuel with
 |zero=>simp [DataW.trod] at h
 |succ fuel=>
  simp only [DataW.trod,ht,T4,hct] at h;split at h
  . rename_i hl;obtain⟨xs,hm,hx⟩:=Option.map_eq_some_iff.1 h
    have hxs:xs.map (·.1)=zss.map λr=>(DataW.agg (r.map λz=>.lit (.int k z)):DataW H):=by
     have:=congrArg Prod.fst hx;simpa using this
    have Lg:xs.length=n:=by simpa using Lib.mapM_length hm
    have hzl:zss.length=n:=by
     have:=congrArg List.length hxs;simp at this;omega
    refine⟨hl,hzl,λi j hi hj=>?_⟩;obtain⟨b,hb,hfb⟩:=Lib.mapM_at hm i i (by simp [hi])
    have fi:b.1=DataW.agg ((zss.getD i []).map λz=>.lit (.int k z)):=by
     have h2:(xs.map (·.1))[i]? =some b.1:=by simp [hb]
     rw [hxs] at h2;rw [B?,D! w!] at h2;simp at h2;rw [<-h2,G!,D! w!];rfl
    obtain⟨ys,n',_,hy,_,hyl,hyf⟩:=DataW.trod_struct he hfb
    have hyr:ys.map (·.1)=(zss.getD i []).map λz=>(DataW.lit (.int k z):DataW H):=by
     rw [hy] at fi;simpa using fi
    have hrl:(zss.getD i []).length=m:=hz _ (by rw [G!,D! w!];exact List.getElem_mem _);have hjf:j<fs.size:=by omega
    have hfj:=hyf j fs[j] (Array.getElem?_eq_getElem hjf);obtain⟨f1,f2,f3⟩:=hf j fs[j] (Array.getElem?_eq_getElem hjf);rw [f1,f3] at hfj;have hyj:j<ys.length:=by omega
    rw [D! hyj] at hfj;obtain⟨z,hc,hzv,_⟩:=DataW.trod_int f2 hfj
    have h1:cs[i*m+j]? =some (.int k z):=by
     have:=congrArg (·[0]?) hc;simpa [hj,Nat.add_comm] using this
    have h3:(ys.map (·.1))[j]? =some (DataW.lit (.int k z)):=by rw [B?,D! hyj,hzv];rfl
    rw [hyr,B?,D! w!] at h3;simp only [Option.map_some,A!,DataW.lit.injEq,Lit.int.injEq,true_and] at h3;rw [h1,G!,D! w!];simp only [Option.getD_some,h3]
  grind
variable {W:World}
def acu {P:Program}{name:String}{g:Nat}{cs:Array Value}(hg:P.globalNamed name=some g)(h:W.var? P name=some cs)(hn:0<cs.size):g<W.heap.size:=by
 have h1:=World.var?_cell hg h 0;grind[Array.getElem?_eq_getElem,World.cell?,Array.getElem?_eq_some_iff]
def ph(k:IntKind):(ts:List Ty)->List Int->Row ts->Prop
 |[],[],_=>True
 |.int k'::ts,z::zs,x=>k'=k/\DI.toInt k' (Row.hd (t:=.int k') (ts:=ts) x)=z/\lo k<=z/\z<=hi k/\ph k ts zs (Row.tl x)
 |_,_,_=>False
def Pd {w:World}{A:Nat->Prop}{k:IntKind}:∀(ts:List Ty) (zs:List Int) (x:Row ts),ph k ts zs x->bx w A ts (zs.map (Value.int k)) x
 |[],[],x,_=>by rfl
 |.int k'::ts,z::zs,x,h=>by
   obtain⟨rfl,h2,h3,h4,h5⟩:=h;refine⟨_,_,rfl,?_,Pd ts zs _ h5⟩;simp [Rd];rw [h2];exact⟨rfl,h3,h4⟩
 |.bool::_,_,_,h|.str::_,_,_,h|.slice _::_,_,_,h|[],_::_,_,h|.int _::_,[],_,h=>by grind[ph]
def xr(k:IntKind)(ts:List Ty):List (List Int)->List (Row ts)->Prop
 |[],[]=>True
 |zs::r,x::l=>ph k ts zs x/\xr k ts r l
 |_,_=>False
theorem Jn {w:World}{A:Nat->Prop}{k:IntKind}{ts:List Ty}:∀(zss:List (List Int)) (l:List (Row ts)),xr k ts zss l->dJ (bx w A ts) (zss.flatten.map (Value.int k)) l
 |[],[],_=>by rfl
 |zs::r,x::l,h=>by
  exact⟨zs.map (Value.int k),r.flatten.map (Value.int k),z!,Pd ts zs x h.1,Jn r l h.2⟩
 |[],_::_,h|_::_,[],h=>by grind[xr]
def KP {m:Nat}:∀(zss:List (List Int)),(∀r∈zss,r.length=m)->∀q (z:Int),zss.flatten[q]? =some z->∃i j,i<zss.length/\j<m/\q=i*m+j/\(zss.getD i []).getD j 0=z
 |[],_,q,z,h=>by grind
 |r::rs,hz,q,z,h=>by
  have hr:r.length=m:=hz r z!;by_cases hq:q<m
  . refine⟨0,q,z!,hq,z!,?_⟩;grind
  . rw [List.flatten_cons,List.getElem?_append_right w!,hr] at h;obtain⟨i,j,h1,h2,h3,h4⟩:=KP rs (λr p9=>hz r x!) (q-m) z h;refine⟨i+1,j,x!,h2,?_,x!⟩;grind
def Pe {P:Program}{name:String}{g:Nat}{t e:TypeId}{n m:Nat}{k:IntKind}{fs:Array Field}{zss:List (List Int)}{row:List Ty}{l:List (Row row)}{laid:List (String×DataW Unit)}
  (hm:laidMet P laid W) (ay:(name,DataW.agg (zss.map λr=>.agg (r.map λz=>.lit (.int k z))))∈laid) (hg:P.globalNamed name=some g) (gw:(P.globals[g]?).map (·.type)=some t)
  (ht:P.underlying t=some (.array n e)) (he:P.underlying e=some (.struct fs)) (T4:P.cellsOf e=m) (hct:P.cellsOf t=n*m) (hfs:fs.size=m) (hf:∀(i:Nat) (f:Field),fs[i]? =some f->f.offset=i/\P.underlying f.type=some (.int k)/\P.cellsOf f.type=1)
  (hz:∀r∈zss,r.length=m) (mQ:0<n*m) (hl:xr k row zss l):oB W (λb=>b<W.heap.size) g ⟨row,l⟩:=by
 obtain⟨ps,Qx,_⟩:=hm;obtain⟨g',t',cs,fuel,p,h1,h2,h3,h4⟩:=Pb Qx ay;obtain rfl:=W? (hg.symm.trans h1);obtain rfl:=W? (gw.symm.trans h2);obtain⟨q1,q2,q3⟩:=Pc ht he T4 hct hfs hf hz h4;have aLD:cs.size=n*m:=by omega
 refine⟨acu hg h3 w!,zss.flatten.map (Value.int k),λq v hq=>?_,Jn zss l hl⟩;rw [B?] at hq;obtain⟨z,hz1,rfl⟩:=Option.map_eq_some_iff.1 hq;obtain⟨i,j,hi,hj,rfl,hv⟩:=KP zss hz q z hz1;rw [r?,World.var?_cell hg h3,<-U?,q3 i j w! hj,hv]
theorem HE:∀zs:List Int,(zs.map λz=>[z]).flatten=zs
 |[]=>rfl
 |z::zs=>by simp only [G?,List.flatten_cons,HE zs];rfl
def Ph {P:Program}{name:String}{g:Nat}{t e:TypeId}{n:Nat}{k:IntKind}{zs:List Int}{row:List Ty}{l:List (Row row)}{laid:List (String×DataW Unit)}
  (hm:laidMet P laid W) (ay:(name,DataW.agg (zs.map λz=>.lit (.int k z)))∈laid) (hg:P.globalNamed name=some g) (gw:(P.globals[g]?).map (·.type)=some t)
  (ht:P.underlying t=some (.array n e)) (he:P.underlying e=some (.int k)) (T4:P.cellsOf e=1) (hct:P.cellsOf t=n) (mQ:0<zs.length) (hl:xr k row (zs.map λz=>[z]) l):oB W (λb=>b<W.heap.size) g ⟨row,l⟩:=by
 obtain⟨ps,Qx,_⟩:=hm;obtain⟨g',t',cs,fuel,p,h1,h2,h3,h4⟩:=Pb Qx ay;obtain rfl:=W? (hg.symm.trans h1);obtain rfl:=W? (gw.symm.trans h2);have hc:=Lib.cells_of_tab ht he T4 hct h4
 have dQ:0<cs.size:=by
  grind
 refine⟨acu hg h3 dQ,zs.map (Value.int k),λq v hq=>?_,?_⟩
 . rw [r?,World.var?_cell hg h3,<-U?,hc];omega
 grind[Jn,HE]
end Go.Vg
namespace Go.Vg
open Go Go.ChangeShapes Go.WideShapes Go.ChangeAt Go.RowKit
variable [HP]
end Go.Vg
namespace Go.Proofs
open Go Go.RowKit Go.ChangeShapes Go.Vg
set_option maxHeartbeats 1000000 in
def Tryz.aBH:aaY Tryz.prog 193 194:=by
 refine⟨λargs w=>by kernel_rfl,λw y p=>?_⟩;go_enter Tryz.func193,Tryz.ntmps193
 go_wp2
 go_ret
 exact⟨_,rfl,rfl⟩
set_option maxHeartbeats 1000000 in
def Tryz.aBI:aaY Tryz.prog 230 231:=by
 refine⟨λargs w=>by kernel_rfl,λw y p=>?_⟩;go_enter Tryz.func230,Tryz.ntmps230
 go_wp2
 go_ret
 exact⟨_,rfl,rfl⟩
def Tryz.mkf(f:Nat):Option Nat:=bif Nat.beq f 193 then some 194 else bif Nat.beq f 230 then some 231 else none
theorem Tryz.S8(P:Program)(hP:P=Tryz.prog)(f g:Nat)(h:Tryz.mkf f=some g):aaY P f g:=by
 subst hP;unfold Tryz.mkf at h;cases h1:Nat.beq f 193 with
 |true=>
  rw [h1] at h;cases C! h1;cases h;exact Tryz.aBH
 |false=>
  cases h2:Nat.beq f 230 with
  |true=>
   rw [h1,h2] at h;cases C! h2;cases h;exact Tryz.aBI
  |false=>rw [h1,h2] at h;cases h
end Go.Proofs
namespace Go.Vg
open Go.Proofs
open Go
instance :HP:=⟨λP=>P=Tryz.prog,Tryz.mkf,Tryz.S8⟩
def fc:Vg.b9:=(.node (.node (.node (.node (.node (.node (.node .leaf 3 ⟨.int .i64,1,8, .int .i64 (0)⟩ .leaf) 4 ⟨.bool,1,1, .bool false⟩ .leaf) 5 ⟨.int .u8,1,1, .int .u8 (0)⟩ (.node (.node .leaf 9 ⟨.string,1,16, .string ⟨#[]⟩⟩ .leaf) 22 ⟨.slice 90,1,24, .slice none 0 0⟩ .leaf)) 23 ⟨.slice 5,1,24, .slice none 0 0⟩ (.node (.node (.node .leaf 26 ⟨.func #[] #[4] false,1,8, .nilFunc⟩ .leaf) 27 ⟨.slice 3,1,24, .slice none 0 0⟩ .leaf) 28 ⟨.int .i64,1,8, .int .i64 (0)⟩ (.node (.node .leaf 33 ⟨.slice 122,1,24, .slice none 0 0⟩ .leaf) 37 ⟨.slice 48,1,24, .slice none 0 0⟩ .leaf))) 39 ⟨.slice 23,1,24, .slice none 0 0⟩ (.node (.node (.node (.node .leaf 40 ⟨.slice 128,1,24, .slice none 0 0⟩ .leaf) 42 ⟨.struct #[⟨ "Docs",39,0,false,"","",0⟩,⟨ "Segs",40,1,false,"","",24⟩],2,48, .agg #[.slice none 0 0, .slice none 0 0]⟩ .leaf) 48 ⟨.struct #[⟨ "Kind",3,0,false,"","",0⟩,⟨ "I",3,1,false,"","",8⟩,⟨ "Many",3,2,false,"","",16⟩,⟨ "Doc",23,3,false,"","",24⟩],4,48, .agg #[.int .i64 (0), .int .i64 (0), .int .i64 (0), .slice none 0 0]⟩ (.node (.node .leaf 56 ⟨.slice 9,1,24, .slice none 0 0⟩ .leaf) 69 ⟨.slice 100,1,24, .slice none 0 0⟩ .leaf)) 71 ⟨.struct #[⟨ "Size",3,0,false,"","",0⟩,⟨ "Log",9,1,false,"","",8⟩,⟨ "Segs",69,2,false,"","",24⟩],3,48, .agg #[.int .i64 (0), .string ⟨#[]⟩, .slice none 0 0]⟩ (.node (.node (.node .leaf 72 ⟨.slice 101,1,24, .slice none 0 0⟩ .leaf) 74 ⟨.struct #[⟨ "Head",71,0,false,"","",0⟩,⟨ "Proofs",72,3,false,"","",48⟩],4,72, .agg #[.int .i64 (0), .string ⟨#[]⟩, .slice none 0 0, .slice none 0 0]⟩ .leaf) 78 ⟨.struct #[⟨ "Head",71,0,false,"","",0⟩,⟨ "At",3,3,false,"","",48⟩,⟨ "Doc",23,4,false,"","",56⟩,⟨ "Path",56,5,false,"","",80⟩],6,104, .agg #[.int .i64 (0), .string ⟨#[]⟩, .slice none 0 0, .int .i64 (0), .slice none 0 0, .slice none 0 0]⟩ (.node .leaf 82 ⟨.struct #[⟨ "Old",71,0,false,"","",0⟩,⟨ "New",71,3,false,"","",48⟩,⟨ "Proof",56,6,false,"","",96⟩],7,120, .agg #[.int .i64 (0), .string ⟨#[]⟩, .slice none 0 0, .int .i64 (0), .string ⟨#[]⟩, .slice none 0 0, .slice none 0 0]⟩ .leaf)))) 90 ⟨.struct #[⟨ "Kind",3,0,false,"","",0⟩,⟨ "Term",9,1,false,"","",8⟩],2,24, .agg #[.int .i64 (0), .string ⟨#[]⟩]⟩ (.node (.node (.node (.node (.node .leaf 94 ⟨.slice 27,1,24, .slice none 0 0⟩ .leaf) 96 ⟨.slice 26,1,24, .slice none 0 0⟩ .leaf) 98 ⟨.struct #[⟨ "From",3,0,false,"","",0⟩,⟨ "To",3,1,false,"","",8⟩],2,16, .agg #[.int .i64 (0), .int .i64 (0)]⟩ (.node (.node .leaf 100 ⟨.struct #[⟨ "Span",98,0,false,"","",0⟩,⟨ "Links",3,2,false,"","",16⟩,⟨ "Root",9,3,false,"","",24⟩],4,40, .agg #[.int .i64 (0), .int .i64 (0), .int .i64 (0), .string ⟨#[]⟩]⟩ .leaf) 101 ⟨.slice 106,1,24, .slice none 0 0⟩ .leaf)) 104 ⟨.struct #[⟨ "Term",9,0,false,"","",0⟩,⟨ "Next",9,1,false,"","",16⟩,⟨ "Posts",9,2,false,"","",32⟩],3,48, .agg #[.string ⟨#[]⟩, .string ⟨#[]⟩, .string ⟨#[]⟩]⟩ (.node (.node (.node .leaf 106 ⟨.struct #[⟨ "At",3,0,false,"","",0⟩,⟨ "Link",104,1,false,"","",8⟩,⟨ "Path",56,4,false,"","",56⟩,⟨ "Docs",23,5,false,"","",80⟩],6,104, .agg #[.int .i64 (0), .string ⟨#[]⟩, .string ⟨#[]⟩, .string ⟨#[]⟩, .slice none 0 0, .slice none 0 0]⟩ .leaf) 110 ⟨.slice 219,1,24, .slice none 0 0⟩ .leaf) 112 ⟨.struct #[⟨ "Size",3,0,false,"","",0⟩,⟨ "Log",9,1,false,"","",8⟩,⟨ "Segs",110,2,false,"","",24⟩],3,48, .agg #[.int .i64 (0), .string ⟨#[]⟩, .slice none 0 0]⟩ (.node .leaf 113 ⟨.slice 208,1,24, .slice none 0 0⟩ .leaf))) 115 ⟨.struct #[⟨ "Head",112,0,false,"","",0⟩,⟨ "Proofs",113,3,false,"","",48⟩],4,72, .agg #[.int .i64 (0), .string ⟨#[]⟩, .slice none 0 0, .slice none 0 0]⟩ (.node (.node (.node (.node .leaf 122 ⟨.struct #[⟨ "Kind",3,0,false,"","",0⟩,⟨ "Term",9,1,false,"","",8⟩],2,24, .agg #[.int .i64 (0), .string ⟨#[]⟩]⟩ .leaf) 123 ⟨.func #[9] #[4] false,1,8, .nilFunc⟩ .leaf) 126 ⟨.slice 228,1,24, .slice none 0 0⟩ (.node (.node .leaf 128 ⟨.struct #[⟨ "Span",98,0,false,"","",0⟩,⟨ "Dict",126,2,false,"","",16⟩],3,40, .agg #[.int .i64 (0), .int .i64 (0), .slice none 0 0]⟩ .leaf) 138 ⟨.func #[9] #[] false,1,8, .nilFunc⟩ .leaf)) 146 ⟨.struct #[⟨ "Head",112,0,false,"","",0⟩,⟨ "At",3,3,false,"","",48⟩,⟨ "Doc",23,4,false,"","",56⟩,⟨ "Path",56,5,false,"","",80⟩],6,104, .agg #[.int .i64 (0), .string ⟨#[]⟩, .slice none 0 0, .int .i64 (0), .slice none 0 0, .slice none 0 0]⟩ (.node (.node (.node .leaf 153 ⟨.struct #[⟨ "Old",112,0,false,"","",0⟩,⟨ "New",112,3,false,"","",48⟩,⟨ "Proof",56,6,false,"","",96⟩],7,120, .agg #[.int .i64 (0), .string ⟨#[]⟩, .slice none 0 0, .int .i64 (0), .string ⟨#[]⟩, .slice none 0 0, .slice none 0 0]⟩ .leaf) 157 ⟨.pointer 167,1,8, .pointer none⟩ .leaf) 165 ⟨.struct #[⟨ "B",23,0,false,"","",0⟩,⟨ "At",3,1,false,"","",24⟩,⟨ "E",28,2,false,"","",32⟩],3,40, .agg #[.slice none 0 0, .int .i64 (0), .int .i64 (0)]⟩ (.node .leaf 167 ⟨.struct #[⟨ "Reader",165,0,true,"","",0⟩],3,40, .agg #[.slice none 0 0, .int .i64 (0), .int .i64 (0)]⟩ .leaf))))) 168 ⟨.func #[] #[3] false,1,8, .nilFunc⟩ (.node (.node (.node (.node (.node (.node .leaf 177 ⟨.slice 183,1,24, .slice none 0 0⟩ .leaf) 180 ⟨.struct #[⟨ "elems",177,0,false,"","rubrick/query",0⟩,⟨ "next",3,1,false,"","rubrick/query",24⟩,⟨ "words",3,2,false,"","rubrick/query",32⟩,⟨ "ops",22,3,false,"","rubrick/query",40⟩],4,64, .agg #[.slice none 0 0, .int .i64 (0), .int .i64 (0), .slice none 0 0]⟩ .leaf) 183 ⟨.struct #[⟨ "kind",3,0,false,"","rubrick/query",0⟩,⟨ "at",3,1,false,"","rubrick/query",8⟩,⟨ "term",9,2,false,"","rubrick/query",16⟩],3,32, .agg #[.int .i64 (0), .int .i64 (0), .string ⟨#[]⟩]⟩ (.node (.node .leaf 187 ⟨.slice 191,1,24, .slice none 0 0⟩ .leaf) 189 ⟨.func #[106] #[4] false,1,8, .nilFunc⟩ .leaf)) 191 ⟨.struct #[⟨ "holds",189,0,false,"","rubrick/term",0⟩,⟨ "docs",27,1,false,"","rubrick/term",8⟩],2,32, .agg #[.nilFunc, .slice none 0 0]⟩ (.node (.node (.node .leaf 196 ⟨.func #[9] #[27] false,1,8, .nilFunc⟩ .leaf) 198 ⟨.func #[27,27] #[27] false,1,8, .nilFunc⟩ .leaf) 200 ⟨.struct #[⟨ "find",196,0,false,"","rubrick/eval",0⟩,⟨ "both",198,1,false,"","rubrick/eval",8⟩,⟨ "either",198,2,false,"","rubrick/eval",16⟩,⟨ "but",198,3,false,"","rubrick/eval",24⟩],4,32, .agg #[.nilFunc, .nilFunc, .nilFunc, .nilFunc]⟩ (.node (.node .leaf 202 ⟨.struct #[⟨ "B",23,0,false,"","",0⟩,⟨ "E",3,1,false,"","",24⟩],2,32, .agg #[.slice none 0 0, .int .i64 (0)]⟩ .leaf) 208 ⟨.slice 211,1,24, .slice none 0 0⟩ .leaf))) 209 ⟨.struct #[⟨ "Term",9,0,false,"","",0⟩,⟨ "Next",9,1,false,"","",16⟩,⟨ "Posts",9,2,false,"","",32⟩],3,48, .agg #[.string ⟨#[]⟩, .string ⟨#[]⟩, .string ⟨#[]⟩]⟩ (.node (.node (.node (.node .leaf 211 ⟨.struct #[⟨ "At",3,0,false,"","",0⟩,⟨ "Link",209,1,false,"","",8⟩,⟨ "Path",56,4,false,"","",56⟩,⟨ "Docs",23,5,false,"","",80⟩],6,104, .agg #[.int .i64 (0), .string ⟨#[]⟩, .string ⟨#[]⟩, .string ⟨#[]⟩, .slice none 0 0, .slice none 0 0]⟩ .leaf) 219 ⟨.struct #[⟨ "Span",98,0,false,"","",0⟩,⟨ "Links",3,2,false,"","",16⟩,⟨ "Root",9,3,false,"","",24⟩],4,40, .agg #[.int .i64 (0), .int .i64 (0), .int .i64 (0), .string ⟨#[]⟩]⟩ .leaf) 228 ⟨.struct #[⟨ "Term",9,0,false,"","",0⟩,⟨ "Docs",27,1,false,"","",16⟩],2,40, .agg #[.string ⟨#[]⟩, .slice none 0 0]⟩ (.node (.node .leaf 232 ⟨.slice 98,1,24, .slice none 0 0⟩ .leaf) 245 ⟨.struct #[⟨ "b",23,0,false,"","rubrick/reply",0⟩,⟨ "bad",4,1,false,"","rubrick/reply",24⟩],2,32, .agg #[.slice none 0 0, .bool false]⟩ .leaf)) 253 ⟨.func #[4,4] #[4] false,1,8, .nilFunc⟩ (.node (.node (.node .leaf 255 ⟨.struct #[⟨ "find",123,0,false,"","rubrick/eval",0⟩,⟨ "both",253,1,false,"","rubrick/eval",8⟩,⟨ "either",253,2,false,"","rubrick/eval",16⟩,⟨ "but",253,3,false,"","rubrick/eval",24⟩],4,32, .agg #[.nilFunc, .nilFunc, .nilFunc, .nilFunc]⟩ .leaf) 256 ⟨.slice 4,1,24, .slice none 0 0⟩ .leaf) 279 ⟨.pointer 180,1,8, .pointer none⟩ (.node .leaf 283 ⟨.int .u64,1,8, .int .u64 (0)⟩ .leaf)))) 286 ⟨.func #[9,9] #[4] false,1,8, .nilFunc⟩ (.node (.node (.node (.node (.node .leaf 288 ⟨.map 3 138,1,8, .map none⟩ .leaf) 290 ⟨.func #[3,4,4] #[4] false,1,8, .nilFunc⟩ .leaf) 305 ⟨.map 9 27,1,8, .map none⟩ (.node (.node .leaf 308 ⟨.func #[123] #[] false,1,8, .nilFunc⟩ .leaf) 319 ⟨.pointer 245,1,8, .pointer none⟩ .leaf)) 323 ⟨.int .u32,1,4, .int .u32 (0)⟩ (.node (.node (.node .leaf 324 ⟨.array 8 323,8,32, .agg #[.int .u32 (0), .int .u32 (0), .int .u32 (0), .int .u32 (0), .int .u32 (0), .int .u32 (0), .int .u32 (0), .int .u32 (0)]⟩ .leaf) 326 ⟨.struct #[⟨ "H",324,0,false,"","",0⟩,⟨ "Rest",23,8,false,"","",32⟩,⟨ "N",3,9,false,"","",56⟩],10,64, .agg #[.int .u32 (0), .int .u32 (0), .int .u32 (0), .int .u32 (0), .int .u32 (0), .int .u32 (0), .int .u32 (0), .int .u32 (0), .slice none 0 0, .int .i64 (0)]⟩ .leaf) 333 ⟨.slice 323,1,24, .slice none 0 0⟩ (.node .leaf 335 ⟨.func #[] #[9] false,1,8, .nilFunc⟩ .leaf))) 344 ⟨.struct #[⟨ "from",3,0,false,"","rubrick/utf",0⟩,⟨ "to",3,1,false,"","rubrick/utf",8⟩],2,16, .agg #[.int .i64 (0), .int .i64 (0)]⟩ (.node (.node (.node (.node .leaf 345 ⟨.array 9 344,18,144, .agg #[.int .i64 (0), .int .i64 (0), .int .i64 (0), .int .i64 (0), .int .i64 (0), .int .i64 (0), .int .i64 (0), .int .i64 (0), .int .i64 (0), .int .i64 (0), .int .i64 (0), .int .i64 (0), .int .i64 (0), .int .i64 (0), .int .i64 (0), .int .i64 (0), .int .i64 (0), .int .i64 (0)]⟩ .leaf) 349 ⟨.int .i64,1,8, .int .i64 (0)⟩ .leaf) 357 ⟨.int .u64,1,8, .int .u64 (0)⟩ (.node (.node .leaf 366 ⟨.func #[228,228] #[4] false,1,8, .nilFunc⟩ .leaf) 368 ⟨.func #[9,9] #[3] false,1,8, .nilFunc⟩ .leaf)) 380 ⟨.int .u64,1,8, .int .u64 (0)⟩ (.node (.node (.node .leaf 384 ⟨.pointer 3,1,8, .pointer none⟩ .leaf) 394 ⟨.struct #[⟨ "from",3,0,false,"","rubrick/utf",0⟩,⟨ "to",3,1,false,"","rubrick/utf",8⟩,⟨ "add",3,2,false,"","rubrick/utf",16⟩],3,24, .agg #[.int .i64 (0), .int .i64 (0), .int .i64 (0)]⟩ .leaf) 395 ⟨.array 7 394,21,168, .agg #[.int .i64 (0), .int .i64 (0), .int .i64 (0), .int .i64 (0), .int .i64 (0), .int .i64 (0), .int .i64 (0), .int .i64 (0), .int .i64 (0), .int .i64 (0), .int .i64 (0), .int .i64 (0), .int .i64 (0), .int .i64 (0), .int .i64 (0), .int .i64 (0), .int .i64 (0), .int .i64 (0), .int .i64 (0), .int .i64 (0), .int .i64 (0)]⟩ (.node .leaf 400 ⟨.array 64 323,64,256, .agg #[.int .u32 (0), .int .u32 (0), .int .u32 (0), .int .u32 (0), .int .u32 (0), .int .u32 (0), .int .u32 (0), .int .u32 (0), .int .u32 (0), .int .u32 (0), .int .u32 (0), .int .u32 (0), .int .u32 (0), .int .u32 (0), .int .u32 (0), .int .u32 (0), .int .u32 (0), .int .u32 (0), .int .u32 (0), .int .u32 (0), .int .u32 (0), .int .u32 (0), .int .u32 (0), .int .u32 (0), .int .u32 (0), .int .u32 (0), .int .u32 (0), .int .u32 (0), .int .u32 (0), .int .u32 (0), .int .u32 (0), .int .u32 (0), .int .u32 (0), .int .u32 (0), .int .u32 (0), .int .u32 (0), .int .u32 (0), .int .u32 (0), .int .u32 (0), .int .u32 (0), .int .u32 (0), .int .u32 (0), .int .u32 (0), .int .u32 (0), .int .u32 (0), .int .u32 (0), .int .u32 (0), .int .u32 (0), .int .u32 (0), .int .u32 (0), .int .u32 (0), .int .u32 (0), .int .u32 (0), .int .u32 (0), .int .u32 (0), .int .u32 (0), .int .u32 (0), .int .u32 (0), .int .u32 (0), .int .u32 (0), .int .u32 (0), .int .u32 (0), .int .u32 (0), .int .u32 (0)]⟩ .leaf))))))
set_option maxRecDepth 100000 in
def acv:fc.Ok Tryz.prog:=⟨⟨⟨⟨⟨⟨⟨trivial,trivial,Tryz.underlying3,trivial,Tryz.t3,rfl,rfl,rfl,rfl⟩,trivial,Tryz.underlying4,trivial,Tryz.t4,rfl,rfl,rfl,rfl⟩,⟨⟨trivial,trivial,Tryz.underlying9,trivial,Tryz.t9,rfl,rfl,rfl,rfl⟩,trivial,Tryz.underlying22,trivial,Tryz.t22,rfl,rfl,rfl,rfl⟩,Tryz.underlying5,trivial,Tryz.t5,rfl,rfl,rfl,rfl⟩,⟨⟨⟨trivial,trivial,Tryz.underlying26,trivial,Tryz.t26,rfl,rfl,rfl,rfl⟩,trivial,Tryz.underlying27,trivial,Tryz.t27,rfl,rfl,rfl,rfl⟩,⟨⟨trivial,trivial,Tryz.underlying33,trivial,Tryz.t33,rfl,rfl,rfl,rfl⟩,trivial,Tryz.underlying37,trivial,Tryz.t37,rfl,rfl,rfl,rfl⟩,Tryz.underlying28,trivial,Tryz.t28,rfl,rfl,rfl,rfl⟩,Tryz.underlying23,trivial,Tryz.t23,rfl,rfl,rfl,rfl⟩,⟨⟨⟨⟨trivial,trivial,Tryz.underlying40,trivial,Tryz.t40,rfl,rfl,rfl,rfl⟩,trivial,Tryz.underlying42,⟨y!,y!,y!⟩,Tryz.t42,rfl,rfl,rfl,rfl⟩,⟨⟨trivial,trivial,Tryz.underlying56,trivial,Tryz.t56,rfl,rfl,rfl,rfl⟩,trivial,Tryz.underlying69,trivial,Tryz.t69,rfl,rfl,rfl,rfl⟩,Tryz.underlying48,⟨y!,y!,y!⟩,Tryz.t48,rfl,rfl,rfl,rfl⟩,⟨⟨⟨trivial,trivial,Tryz.underlying72,trivial,Tryz.t72,rfl,rfl,rfl,rfl⟩,trivial,Tryz.underlying74,⟨y!,y!,y!⟩,Tryz.t74,rfl,rfl,rfl,rfl⟩,⟨trivial,trivial,Tryz.underlying82,⟨y!,y!,y!⟩,Tryz.t82,rfl,rfl,rfl,rfl⟩,Tryz.underlying78,⟨y!,y!,y!⟩,Tryz.t78,rfl,rfl,rfl,rfl⟩,Tryz.underlying71,⟨y!,y!,y!⟩,Tryz.t71,rfl,rfl,rfl,rfl⟩,Tryz.underlying39,trivial,Tryz.t39,rfl,rfl,rfl,rfl⟩,⟨⟨⟨⟨⟨trivial,trivial,Tryz.underlying94,trivial,Tryz.t94,rfl,rfl,rfl,rfl⟩,trivial,Tryz.underlying96,trivial,Tryz.t96,rfl,rfl,rfl,rfl⟩,⟨⟨trivial,trivial,Tryz.underlying100,⟨y!,y!,y!⟩,Tryz.t100,rfl,rfl,rfl,rfl⟩,trivial,Tryz.underlying101,trivial,Tryz.t101,rfl,rfl,rfl,rfl⟩,Tryz.underlying98,⟨y!,y!,y!⟩,Tryz.t98,rfl,rfl,rfl,rfl⟩,⟨⟨⟨trivial,trivial,Tryz.underlying106,⟨y!,y!,y!⟩,Tryz.t106,rfl,rfl,rfl,rfl⟩,trivial,Tryz.underlying110,trivial,Tryz.t110,rfl,rfl,rfl,rfl⟩,⟨trivial,trivial,Tryz.underlying113,trivial,Tryz.t113,rfl,rfl,rfl,rfl⟩,Tryz.underlying112,⟨y!,y!,y!⟩,Tryz.t112,rfl,rfl,rfl,rfl⟩,Tryz.underlying104,⟨y!,y!,y!⟩,Tryz.t104,rfl,rfl,rfl,rfl⟩,⟨⟨⟨⟨trivial,trivial,Tryz.underlying122,⟨y!,y!,y!⟩,Tryz.t122,rfl,rfl,rfl,rfl⟩,trivial,Tryz.underlying123,trivial,Tryz.t123,rfl,rfl,rfl,rfl⟩,⟨⟨trivial,trivial,Tryz.underlying128,⟨y!,y!,y!⟩,Tryz.t128,rfl,rfl,rfl,rfl⟩,trivial,Tryz.underlying138,trivial,Tryz.t138,rfl,rfl,rfl,rfl⟩,Tryz.underlying126,trivial,Tryz.t126,rfl,rfl,rfl,rfl⟩,⟨⟨⟨trivial,trivial,Tryz.underlying153,⟨y!,y!,y!⟩,Tryz.t153,rfl,rfl,rfl,rfl⟩,trivial,Tryz.underlying157,trivial,Tryz.t157,rfl,rfl,rfl,rfl⟩,⟨trivial,trivial,Tryz.underlying167,⟨y!,y!,y!⟩,Tryz.t167,rfl,rfl,rfl,rfl⟩,Tryz.underlying165,⟨y!,y!,y!⟩,Tryz.t165,rfl,rfl,rfl,rfl⟩,Tryz.underlying146,⟨y!,y!,y!⟩,Tryz.t146,rfl,rfl,rfl,rfl⟩,Tryz.underlying115,⟨y!,y!,y!⟩,Tryz.t115,rfl,rfl,rfl,rfl⟩,Tryz.underlying90,⟨y!,y!,y!⟩,Tryz.t90,rfl,rfl,rfl,rfl⟩,⟨⟨⟨⟨⟨⟨trivial,trivial,Tryz.underlying177,trivial,Tryz.t177,rfl,rfl,rfl,rfl⟩,trivial,Tryz.underlying180,⟨y!,y!,y!⟩,Tryz.t180,rfl,rfl,rfl,rfl⟩,⟨⟨trivial,trivial,Tryz.underlying187,trivial,Tryz.t187,rfl,rfl,rfl,rfl⟩,trivial,Tryz.underlying189,trivial,Tryz.t189,rfl,rfl,rfl,rfl⟩,Tryz.underlying183,⟨y!,y!,y!⟩,Tryz.t183,rfl,rfl,rfl,rfl⟩,⟨⟨⟨trivial,trivial,Tryz.underlying196,trivial,Tryz.t196,rfl,rfl,rfl,rfl⟩,trivial,Tryz.underlying198,trivial,Tryz.t198,rfl,rfl,rfl,rfl⟩,⟨⟨trivial,trivial,Tryz.underlying202,⟨y!,y!,y!⟩,Tryz.t202,rfl,rfl,rfl,rfl⟩,trivial,Tryz.underlying208,trivial,Tryz.t208,rfl,rfl,rfl,rfl⟩,Tryz.underlying200,⟨y!,y!,y!⟩,Tryz.t200,rfl,rfl,rfl,rfl⟩,Tryz.underlying191,⟨y!,y!,y!⟩,Tryz.t191,rfl,rfl,rfl,rfl⟩,⟨⟨⟨⟨trivial,trivial,Tryz.underlying211,⟨y!,y!,y!⟩,Tryz.t211,rfl,rfl,rfl,rfl⟩,trivial,Tryz.underlying219,⟨y!,y!,y!⟩,Tryz.t219,rfl,rfl,rfl,rfl⟩,⟨⟨trivial,trivial,Tryz.underlying232,trivial,Tryz.t232,rfl,rfl,rfl,rfl⟩,trivial,Tryz.underlying245,⟨y!,y!,y!⟩,Tryz.t245,rfl,rfl,rfl,rfl⟩,Tryz.underlying228,⟨y!,y!,y!⟩,Tryz.t228,rfl,rfl,rfl,rfl⟩,⟨⟨⟨trivial,trivial,Tryz.underlying255,⟨y!,y!,y!⟩,Tryz.t255,rfl,rfl,rfl,rfl⟩,trivial,Tryz.underlying256,trivial,Tryz.t256,rfl,rfl,rfl,rfl⟩,⟨trivial,trivial,Tryz.underlying283,trivial,Tryz.t283,rfl,rfl,rfl,rfl⟩,Tryz.underlying279,trivial,Tryz.t279,rfl,rfl,rfl,rfl⟩,Tryz.underlying253,trivial,Tryz.t253,rfl,rfl,rfl,rfl⟩,Tryz.underlying209,⟨y!,y!,y!⟩,Tryz.t209,rfl,rfl,rfl,rfl⟩,⟨⟨⟨⟨⟨trivial,trivial,Tryz.underlying288,trivial,Tryz.t288,rfl,rfl,rfl,rfl⟩,trivial,Tryz.underlying290,trivial,Tryz.t290,rfl,rfl,rfl,rfl⟩,⟨⟨trivial,trivial,Tryz.underlying308,trivial,Tryz.t308,rfl,rfl,rfl,rfl⟩,trivial,Tryz.underlying319,trivial,Tryz.t319,rfl,rfl,rfl,rfl⟩,Tryz.underlying305,trivial,Tryz.t305,rfl,rfl,rfl,rfl⟩,⟨⟨⟨trivial,trivial,Tryz.underlying324,trivial,Tryz.t324,rfl,rfl,rfl,rfl⟩,trivial,Tryz.underlying326,⟨y!,y!,y!⟩,Tryz.t326,rfl,rfl,rfl,rfl⟩,⟨trivial,trivial,Tryz.underlying335,trivial,Tryz.t335,rfl,rfl,rfl,rfl⟩,Tryz.underlying333,trivial,Tryz.t333,rfl,rfl,rfl,rfl⟩,Tryz.underlying323,trivial,Tryz.t323,rfl,rfl,rfl,rfl⟩,⟨⟨⟨⟨trivial,trivial,Tryz.underlying345,trivial,Tryz.t345,rfl,rfl,rfl,rfl⟩,trivial,Tryz.underlying349,trivial,Tryz.t349,rfl,rfl,rfl,rfl⟩,⟨⟨trivial,trivial,Tryz.underlying366,trivial,Tryz.t366,rfl,rfl,rfl,rfl⟩,trivial,Tryz.underlying368,trivial,Tryz.t368,rfl,rfl,rfl,rfl⟩,Tryz.underlying357,trivial,Tryz.t357,rfl,rfl,rfl,rfl⟩,⟨⟨⟨trivial,trivial,Tryz.underlying384,trivial,Tryz.t384,rfl,rfl,rfl,rfl⟩,trivial,Tryz.underlying394,⟨y!,y!,y!⟩,Tryz.t394,rfl,rfl,rfl,rfl⟩,⟨trivial,trivial,Tryz.underlying400,trivial,Tryz.t400,rfl,rfl,rfl,rfl⟩,Tryz.underlying395,trivial,Tryz.t395,rfl,rfl,rfl,rfl⟩,Tryz.underlying380,trivial,Tryz.t380,rfl,rfl,rfl,rfl⟩,Tryz.underlying344,⟨y!,y!,y!⟩,Tryz.t344,rfl,rfl,rfl,rfl⟩,Tryz.underlying286,trivial,Tryz.t286,rfl,rfl,rfl,rfl⟩,Tryz.underlying168,trivial,Tryz.t168,rfl,rfl,rfl,rfl⟩
end Go.Vg
namespace Go.J
open Go.Proofs
def G0:Nat->Option Go.Vg.GD:=λi=>match i with
 |0=>some ⟨[.int .i64,.int .i64],[(65,90),(97,122),(192,214),(216,246),(248,255),(913,929),(931,937),(945,969),(1024,1119)]⟩
 |1=>some ⟨[.int .u32],[1779033703,3144134277,1013904242,2773480762,1359893119,2600822924,528734635,1541459225]⟩
 |2=>some ⟨[.int .i64,.int .i64,.int .i64],[(65,90,32),(192,214,32),(216,222,32),(913,929,32),(931,937,32),(1024,1039,80),(1040,1071,32)]⟩
 |3=>some ⟨[.int .u32],Go.S.xU⟩
 |_=>none
end Go.J
namespace Go.J
open Go Vg
abbrev q0p:List PS:=[.one (.int .u32),.one (.int .i64)]
abbrev amD:Type:=Int×Int
abbrev q1p:List PS:=[]
abbrev ayZ:Type:=Unit
abbrev jd:List PS:=[.agg [.int .u32,.int .u32,.int .u32,.int .u32,.int .u32,.int .u32,.int .u32,.int .u32,.slice [.int .u8],.int .i64]]
abbrev eN:Type:=Int×Int×Int×Int×Int×Int×Int×Int×B8×Int
abbrev q3p:List PS:=[.agg [.int .u32,.int .u32,.int .u32,.int .u32,.int .u32,.int .u32,.int .u32,.int .u32],.one (.slice [.int .u8])]
abbrev ay0:Type:=Int×Int×Int×Int×Int×Int×Int×Int×B8
abbrev q4p:List PS:=[.agg [.int .u32,.int .u32,.int .u32,.int .u32,.int .u32,.int .u32,.int .u32,.int .u32,.slice [.int .u8],.int .i64],.one (.slice [.int .u8])]
abbrev amE:Type:=Int×Int×Int×Int×Int×Int×Int×Int×B8×Int×B8
abbrev q5p:List PS:=[.one (.slice [.int .u8])]
abbrev acw:Type:=B8
abbrev q6p:List TA:=[.own 50000,.dR (.int .i64)]
abbrev aHI:Type:=Int
abbrev q0q:List TB:=[.row 5 [.int .u8]]
abbrev amF:Type:=B8×Unit
abbrev Pj:List TA:=[.own 50000,.dR (.str)]
abbrev vf:Type:=B8
abbrev ć:List PS:=[.one (.slice [.int .u8]),.one (.int .i64)]
abbrev YB:Type:=B8×Int
abbrev q9p:List PS:=[.one (.slice [.int .u8]),.one (.str)]
abbrev ay1:Type:=B8×B8
abbrev aHL:List PS:=[.agg [.slice [.int .u8],.int .i64,.int .i64]]
abbrev aBM:Type:=B8×Int×Int
abbrev aHM:List PS:=[.one (.slice [.int .u8]),.one (.int .i64),.one (.int .i64)]
abbrev aBN:Type:=B8×Int×Int
abbrev SJ:List PS:=[.agg [.slice [.int .u8],.int .i64,.int .i64],.one (.int .i64)]
abbrev Pl:Type:=B8×Int×Int×Int
abbrev ay2:List PS:=[.one (.int .u8),.one (.slice [.slice [.int .u8]])]
abbrev aBO:Type:=UInt8×List B8
abbrev aHN:List PS:=[.one (.str),.one (.str)]
abbrev aBP:Type:=B8×B8
abbrev amG:List PS:=[.one (.int .i64)]
abbrev Ĉ:Type:=Int
abbrev Pm:List PS:=[.one (.int .i64),.one (.int .i64),.one (.int .i64)]
abbrev Fg:Type:=Int×Int×Int
abbrev ay3:List PS:=[.one (.int .i64),.one (.int .i64)]
abbrev amH:Type:=Int×Int
abbrev Pn:List PS:=[.one (.slice [.int .i64])]
abbrev B7:Type:=List Int
abbrev amI:List PS:=[.one (.str)]
abbrev ĉ:Type:=B8
abbrev aHO:List TA:=[.dR (.str),.dR (.str),.ref 50000 0]
abbrev aBQ:Type:=B8×B8
abbrev q1q:List TB:=[.cells [.fn (.func 282) [] []]]
abbrev aHP:Type:=Unit×Unit
abbrev aHQ:List TA:=[.own 50000,.fn (.func 309) [] [.ref 50001 0]]
abbrev amJ:Type:=Unit
abbrev q2q:List TB:=[.row 9 [.str],.cells [.fn (.func 282) [] []]]
abbrev ay4:Type:=(List B8)×Unit×Unit
abbrev Po:List PS:=[.one (.slice [.str])]
abbrev B9:Type:=List B8
abbrev aHR:List TA:=[.own 50000,.fn (.func 282) [] []]
abbrev aBR:Type:=Unit
abbrev q3q:List TB:=[.row 9 [.str]]
abbrev SK:Type:=(List B8)×Unit
abbrev aHS:List TA:=[.dR (.slice [.str]),.fn (.func 282) [] []]
abbrev aBS:Type:=List B8
abbrev yr:List TB:=[]
abbrev wF:Type:=Unit
abbrev acx:List TA:=[.own 50000]
abbrev Pq:Type:=Unit
abbrev ay5:List PS:=[.one (.slice [.slice [.int .u8]])]
abbrev amL:Type:=List B8
abbrev aHT:List PS:=[.one (.slice [.str]),.one (.int .i64)]
abbrev amM:Type:=List B8×Int
abbrev aHU:List TA:=[.dR (.int .i64),.dR (.bool),.dR (.bool),.ref 50000 0]
abbrev aBT:Type:=Int×Bool×Bool
abbrev q5q:List TB:=[.cells [.dR (.int .i64),.dR (.int .i64)]]
abbrev amN:Type:=(Int×Int)×Unit
abbrev ay6:List TA:=[.dR (.slice [.int .i64]),.dR (.slice [.int .i64]),.fn (.func 311) [] [.ref 50000 0]]
abbrev amO:Type:=List Int×List Int
abbrev amP:List PS:=[.one (.slice [.int .i64]),.agg [.int .i64,.int .i64]]
abbrev Ċ:Type:=List Int×Int×Int
abbrev Pt:List PS:=[.one (.slice [.int .i64]),.one (.slice [.int .i64])]
abbrev Fh:Type:=List Int×List Int
abbrev acy:List PS:=[.one (.slice [.str,.slice [.int .i64]])]
abbrev Jo:Type:=List (B8×List Int)
abbrev aHV:List PS:=[.agg [.str,.str,.str]]
abbrev aBV:Type:=B8×B8×B8
abbrev amQ:List PS:=[.one (.slice [.str,.slice [.int .i64]]),.one (.str)]
abbrev U8:Type:=List (B8×List Int)×B8
abbrev ay7:List PS:=[.one (.slice [.slice [.int .u8]]),.agg [.int .i64,.int .i64]]
abbrev amR:Type:=List B8×Int×Int
abbrev amS:List PS:=[.agg [.int .i64,.int .i64]]
abbrev amT:Type:=Int×Int
abbrev amU:List PS:=[.agg [.int .i64,.int .i64,.slice [.str,.slice [.int .i64]]]]
abbrev ċ:Type:=Int×Int×List (B8×List Int)
abbrev amV:List PS:=[.agg [.int .i64,.int .i64,.int .i64,.str]]
abbrev amW:Type:=Int×Int×Int×B8
abbrev amX:List PS:=[.one (.slice [.int .i64,.int .i64,.int .i64,.str]),.one (.int .i64)]
abbrev U9:Type:=List (Int×Int×Int×B8)×Int
abbrev aHW:List PS:=[.one (.slice [.int .i64,.int .i64,.slice [.str,.slice [.int .i64]]])]
abbrev aBW:Type:=List (Int×Int×List (B8×List Int))
abbrev aHX:List PS:=[.one (.slice [.int .i64,.int .i64])]
abbrev amY:Type:=List (Int×Int)
abbrev aHY:List PS:=[.agg [.str,.slice [.int .i64]],.agg [.str,.slice [.int .i64]]]
abbrev aBX:Type:=B8×List Int×B8×List Int
abbrev z6:List TA:=[.dR (.slice [.str,.slice [.int .i64]]),.dR (.slice [.str,.slice [.int .i64]]),.fn (.func 279) [] []]
abbrev sM:Type:=List (B8×List Int)×List (B8×List Int)
abbrev aHZ:List PS:=[.one (.slice [.str,.slice [.int .i64]]),.one (.slice [.str,.slice [.int .i64]])]
abbrev aBY:Type:=List (B8×List Int)×List (B8×List Int)
abbrev HF:List PS:=[.agg [.slice [.slice [.int .u8]],.slice [.int .i64,.int .i64,.slice [.str,.slice [.int .i64]]]]]
abbrev Ca:Type:=List B8×List (Int×Int×List (B8×List Int))
abbrev acz:List PS:=[.one (.slice [.int .i64,.int .i64,.slice [.str,.slice [.int .i64]]]),.one (.int .i64),.one (.int .i64),.agg [.int .i64,.int .i64,.slice [.str,.slice [.int .i64]]]]
abbrev amZ:Type:=List (Int×Int×List (B8×List Int))×Int×Int×Int×Int×List (B8×List Int)
abbrev aH4:List PS:=[.agg [.slice [.slice [.int .u8]],.slice [.int .i64,.int .i64,.slice [.str,.slice [.int .i64]]]],.one (.slice [.int .u8])]
abbrev aBZ:Type:=List B8×List (Int×Int×List (B8×List Int))×B8
abbrev vg:List PS:=[.agg [.slice [.slice [.int .u8]],.slice [.int .i64,.int .i64,.slice [.str,.slice [.int .i64]]]],.one (.int .i64),.one (.int .i64)]
abbrev sN:Type:=List B8×List (Int×Int×List (B8×List Int))×Int×Int
abbrev aH6:List PS:=[.agg [.slice [.slice [.int .u8]],.slice [.int .i64,.int .i64,.slice [.str,.slice [.int .i64]]]],.agg [.int .i64,.int .i64,.int .i64,.slice [.int .u8]]]
abbrev aB0:Type:=List B8×List (Int×Int×List (B8×List Int))×Int×Int×Int×B8
abbrev ay8:List PS:=[.one (.slice [.int .i64,.int .i64,.int .i64,.slice [.int .u8]])]
abbrev Vb:Type:=List (Int×Int×Int×B8)
abbrev aH8:List PS:=[.agg [.int .i64,.str,.slice [.int .i64,.int .i64,.int .i64,.str]]]
abbrev aB2:Type:=Int×B8×List (Int×Int×Int×B8)
abbrev SL:List TA:=[.dR (.int .i64),.ref 50000 0,.ref 50001 0]
abbrev Cb:Type:=Int
abbrev q6q:List TB:=[.cells [.dR (.int .i64)],.cells [.nil]]
abbrev aH1:Type:=Int×Unit×Unit
abbrev q7q:List TB:=[.cells [.dR (.int .i64)],.cells [.own 50002],.row 5 [.int .u8]]
abbrev aH3:Type:=Int×Unit×B8×Unit
abbrev aIa:List TA:=[.dR (.str),.ref 50000 0]
abbrev aB5:Type:=B8
abbrev q8q:List TB:=[.cells [.own 50001],.row 5 [.int .u8]]
abbrev aH5:Type:=Unit×B8×Unit
abbrev aIb:List TA:=[.ref 50000 0]
abbrev aB6:Type:=Unit
abbrev Va:List TB:=[.cells [.dR (.slice [.int .u8]),.dR (.int .i64),.dR (.int .i64)]]
abbrev Ee:Type:=(B8×Int×Int)×Unit
abbrev aIc:List TA:=[.ref 50000 0,.ref 50001 0,.ref 50002 0]
abbrev am0:Type:=Unit
abbrev aH7:List TB:=[.cells [.dR (.int .i64)],.cells [.fn (.func 243) [] [.ref 50003 0]],.cells [.fn (.func 244) [] [.ref 50003 0]],.cells [.dR (.slice [.int .u8]),.dR (.int .i64),.dR (.int .i64)]]
abbrev aB1:Type:=Int×Unit×Unit×(B8×Int×Int)×Unit
abbrev aId:List PS:=[.one (.slice [.int .i64,.str])]
abbrev aB7:Type:=List (Int×B8)
abbrev acA:List TA:=[.ref 50000 0,.ref 50001 0,.ref 50002 0,.ref 50003 0]
abbrev Vc:Type:=Unit
abbrev aH9:List TB:=[.cells [.dR (.int .i64)],.cells [.nil],.cells [.dR (.slice [.int .u8])],.cells [.dR (.int .i64)]]
abbrev aB3:Type:=Int×Unit×B8×Int×Unit
abbrev YC:List TB:=[.cells [.dR (.slice [.int .i64,.int .i64,.str]),.dR (.int .i64),.dR (.int .i64),.nil]]
abbrev Jp:Type:=(List (Int×Int×B8)×Int×Int)×Unit
abbrev ay9:List TB:=[.cells [.dR (.slice [.int .i64,.int .i64,.str]),.dR (.int .i64),.dR (.int .i64),.own 50001],.row 90 [.int .i64,.str]]
abbrev aB4:Type:=(List (Int×Int×B8)×Int×Int)×(List (Int×B8))×Unit
abbrev Ef:List TA:=[.ref 50000 0,.dR (.int .i64)]
abbrev am1:Type:=Int
abbrev HG:List TB:=[.cells [.own 50001,.dR (.bool)],.row 5 [.int .u8]]
abbrev Cc:Type:=Bool×B8×Unit
abbrev acB:List TA:=[.ref 50000 0,.dR (.slice [.int .u8]),.dR (.int .i64)]
abbrev am2:Type:=B8×Int
abbrev azc:List TA:=[.ref 50000 0,.agg [.dR (.int .i64),.dR (.str),.dR (.slice [.int .i64,.int .i64,.int .i64,.str])]]
abbrev am3:Type:=Int×B8×List (Int×Int×Int×B8)
abbrev acC:List TA:=[.ref 50000 0,.dR (.slice [.str])]
abbrev Vd:Type:=List B8
abbrev am5:List TA:=[.ref 50000 0,.agg [.dR (.int .i64),.dR (.str),.dR (.str),.dR (.str),.dR (.slice [.str]),.dR (.slice [.int .u8])]]
abbrev Ve:Type:=Int×B8×B8×B8×List B8×B8
abbrev acD:List PS:=[.agg [.int .i64,.str,.slice [.int .i64,.int .i64,.int .i64,.str],.slice [.slice [.int .i64,.str,.str,.str,.slice [.str],.slice [.int .u8]]]]]
abbrev Vf:Type:=Int×B8×List (Int×Int×Int×B8)×List (List (Int×B8×B8×B8×List B8×B8))
abbrev am6:List TA:=[.dR (.slice [.int .u8]),.dR (.int .u8)]
abbrev Č:Type:=B8×UInt8
abbrev aze:List TA:=[.dR (.str),.ref 50000 0,.ref 50001 0,.ref 50002 0]
abbrev am7:Type:=B8
abbrev aza:List TB:=[.cells [.dR (.slice [.str,.slice [.int .i64]])],.cells [.dR (.int .i64)],.cells [.nil]]
abbrev aB8:Type:=(List (B8×List Int))×Int×Unit×Unit
abbrev azb:List TB:=[.cells [.dR (.slice [.str,.slice [.int .i64]])],.cells [.dR (.int .i64)],.cells [.own 50003],.row 106 [.int .i64,.str,.str,.str,.slice [.str],.slice [.int .u8]]]
abbrev aB9:Type:=(List (B8×List Int))×Int×Unit×(List (Int×B8×B8×B8×List B8×B8))×Unit
abbrev azf:List TA:=[.dR (.slice [.str,.slice [.int .i64]]),.ref 50000 0,.ref 50001 0]
abbrev am8:Type:=List (B8×List Int)
abbrev azd:List TB:=[.cells [.dR (.int .i64)],.cells [.dR (.slice [.str])]]
abbrev am4:Type:=Int×(List B8)×Unit
abbrev azg:List PS:=[.agg [.slice [.slice [.int .u8]],.slice [.int .i64,.int .i64,.slice [.str,.slice [.int .i64]]]],.one (.slice [.int .i64,.str])]
abbrev am9:Type:=List B8×List (Int×Int×List (B8×List Int))×List (Int×B8)
abbrev aIe:List PS:=[.one (.str),.one (.int .i64),.one (.int .i64),.one (.slice [.str])]
abbrev ana:Type:=B8×Int×Int×List B8
abbrev aIf:List PS:=[.one (.int .i64),.one (.bool),.one (.bool)]
abbrev aCa:Type:=Int×Bool×Bool
abbrev Pu:List TA:=[.dR (.slice [.int .i64]),.dR (.slice [.int .i64]),.fn (.func 197) [] []]
abbrev Vh:Type:=List Int×List Int
abbrev azk:List TA:=[.dR (.slice [.int .i64]),.dR (.slice [.int .i64]),.fn (.func 198) [] []]
abbrev anb:Type:=List Int×List Int
abbrev azl:List TA:=[.dR (.slice [.int .i64]),.dR (.slice [.int .i64]),.fn (.func 199) [] []]
abbrev anc:Type:=List Int×List Int
abbrev aIh:List PS:=[.one (.slice [.str]),.one (.str)]
abbrev aCf:Type:=List B8×B8
abbrev aIi:List PS:=[.one (.str),.var [.slice [.str]],.var [.slice [.slice [.int .i64]]]]
abbrev aCg:Type:=B8×List B8×List (List Int)
abbrev aIj:List TA:=[.dR (.str),.ref 50000 0,.ref 50001 0]
abbrev aCh:Type:=B8
abbrev azh:List TB:=[.cells [.own 50002],.cells [.fn (.func 107) [] []],.row 27 [.slice [.int .i64]]]
abbrev aCb:Type:=Unit×Unit×(List (List Int))×Unit
abbrev azi:List TB:=[.cells [.own 50002],.cells [.fn (.func 108) [] []],.row 27 [.slice [.int .i64]]]
abbrev aCc:Type:=Unit×Unit×(List (List Int))×Unit
abbrev azj:List TB:=[.cells [.own 50002],.cells [.fn (.func 109) [] []],.row 27 [.slice [.int .i64]]]
abbrev aCd:Type:=Unit×Unit×(List (List Int))×Unit
abbrev aIg:List TB:=[.cells [.own 50002],.cells [.fn (.func 103) [] [.var [.slice [.str]],.var [.slice [.slice [.int .i64]]]],.fn (.func 107) [] [],.fn (.func 108) [] [],.fn (.func 109) [] []],.row 27 [.slice [.int .i64]]]
abbrev aCe:Type:=Unit×(List B8×List (List Int))×(List (List Int))×Unit
abbrev aIk:List TA:=[.dR (.slice [.int .i64,.str]),.agg [.fn (.func 103) [] [.var [.slice [.str]],.var [.slice [.slice [.int .i64]]]],.fn (.func 107) [] [],.fn (.func 108) [] [],.fn (.func 109) [] []]]
abbrev ane:Type:=List (Int×B8)×List B8×List (List Int)
abbrev KQ:List PS:=[.one (.slice [.int .i64,.str]),.one (.slice [.slice [.int .i64]])]
abbrev Jq:Type:=List (Int×B8)×List (List Int)
abbrev aIl:List PS:=[.agg [.int .i64,.str,.str,.str,.slice [.str],.slice [.int .u8]],.var [.str],.var [.int .i64]]
abbrev aCi:Type:=Int×B8×B8×B8×List B8×B8×B8×Int
abbrev aIm:List PS:=[.agg [.int .i64,.str,.str,.str,.slice [.str],.slice [.int .u8]],.var [.str]]
abbrev aCj:Type:=Int×B8×B8×B8×List B8×B8×B8
abbrev aIn:List TA:=[.dR (.str),.agg [.dR (.int .i64),.dR (.str),.dR (.str),.dR (.str),.dR (.slice [.str]),.dR (.slice [.int .u8])]]
abbrev aCk:Type:=B8×Int×B8×B8×B8×List B8×B8
abbrev azm:List PS:=[.one (.str),.one (.int .i64),.one (.str),.agg [.int .i64,.str,.str,.str,.slice [.str],.slice [.int .u8]]]
abbrev anf:Type:=B8×Int×B8×Int×B8×B8×B8×List B8×B8
abbrev Pv:List PS:=[.var [.int .i64,.str,.slice [.int .i64,.int .i64,.int .i64,.str]],.var [.str]]
abbrev č:Type:=Int×B8×List (Int×Int×Int×B8)×B8
abbrev YD:List PS:=[.agg [.int .i64,.str,.slice [.int .i64,.int .i64,.int .i64,.str]],.one (.str)]
abbrev Ď:Type:=Int×B8×List (Int×Int×Int×B8)×B8
abbrev azn:List PS:=[.var [.int .i64,.str,.slice [.int .i64,.int .i64,.int .i64,.str],.slice [.slice [.int .i64,.str,.str,.str,.slice [.str],.slice [.int .u8]]]],.var [.int .i64],.var [.slice [.str]]]
abbrev aCl:Type:=Int×B8×List (Int×Int×Int×B8)×List (List (Int×B8×B8×B8×List B8×B8))×Int×List B8
abbrev aIo:List TA:=[.var [.int .i64,.int .i64,.int .i64,.str],.var [.str],.var [.int .i64,.str,.slice [.int .i64,.int .i64,.int .i64,.str],.slice [.slice [.int .i64,.str,.str,.str,.slice [.str],.slice [.int .u8]]]],.var [.int .i64],.var [.int .i64],.ref 50000 0]
abbrev ang:Type:=Int×Int×Int×B8×B8×Int×B8×List (Int×Int×Int×B8)×List (List (Int×B8×B8×B8×List B8×B8))×Int×Int
abbrev YE:List TB:=[.cells [.own 50001],.eF 27 50002,.row 3 [.int .i64]]
abbrev ď:Type:=Unit×(List Value×Nat)×(List Int)×Unit
abbrev azo:List PS:=[.var [.int .i64,.int .i64,.int .i64,.str],.var [.str],.var [.int .i64,.str,.slice [.int .i64,.int .i64,.int .i64,.str],.slice [.slice [.int .i64,.str,.str,.str,.slice [.str],.slice [.int .u8]]]],.var [.int .i64],.var [.int .i64]]
abbrev aCm:Type:=Int×Int×Int×B8×B8×Int×B8×List (Int×Int×Int×B8)×List (List (Int×B8×B8×B8×List B8×B8))×Int×Int
abbrev anh:List PS:=[.one (.str),.one (.slice [.int .i64,.str]),.one (.slice [.int .u8])]
abbrev ani:Type:=B8×List (Int×B8)×B8
abbrev acE:List PS:=[.one (.str),.var [.slice [.int .u8]]]
abbrev Đ:Type:=B8×B8
abbrev KR:List PS:=[.one (.bool),.one (.bool)]
abbrev Pw:Type:=Bool×Bool
abbrev azp:List TB:=[.cells [.own 50002],.cells [.fn (.func 147) [] []],.row 4 [.bool]]
abbrev aCn:Type:=Unit×Unit×(List Bool)×Unit
abbrev a1F:List TB:=[.cells [.own 50002],.cells [.fn (.func 148) [] []],.row 4 [.bool]]
abbrev a2C:Type:=Unit×Unit×(List Bool)×Unit
abbrev a1G:List TB:=[.cells [.own 50002],.cells [.fn (.func 149) [] []],.row 4 [.bool]]
abbrev a2D:Type:=Unit×Unit×(List Bool)×Unit
abbrev a3X:List TB:=[.cells [.own 50002],.cells [.fn (.func 145) [] [.var [.slice [.int .u8]]],.fn (.func 147) [] [],.fn (.func 148) [] [],.fn (.func 149) [] []],.row 4 [.bool]]
abbrev a2E:Type:=Unit×B8×(List Bool)×Unit
abbrev acF:List TA:=[.dR (.slice [.int .i64,.str]),.agg [.fn (.func 145) [] [.var [.slice [.int .u8]]],.fn (.func 147) [] [],.fn (.func 148) [] [],.fn (.func 149) [] []]]
abbrev anj:Type:=List (Int×B8)×B8
abbrev azq:List PS:=[.one (.slice [.int .u8]),.one (.slice [.int .i64,.str])]
abbrev aCo:Type:=B8×List (Int×B8)
abbrev azr:List PS:=[.one (.slice [.slice [.int .u8]]),.one (.slice [.int .i64,.str])]
abbrev ank:Type:=List B8×List (Int×B8)
abbrev aZh:List PS:=[.one (.slice [.int .i64,.int .i64,.int .i64,.slice [.int .u8]]),.one (.slice [.int .i64,.str])]
abbrev aXT:Type:=List (Int×Int×Int×B8)×List (Int×B8)
end Go.J
namespace Go
open List (length getD take drop replicate)
open Int (toNat)
def q17(a:Bool)(b c:Prop):Prop:=(a->b)/\(a=false->c)
def q19(a:Bool)(b c d:Prop):Prop:=q17 a (b/\c) d
def fX(a:Nat):Prop:=a<=140737488355328
def uH(a:Int):Prop:=-9223372036854775808<=a/\a<=9223372036854775807
def q25(a b c:Int):Prop:=a<=b/\b<c
def q26(a b:Int):=Bool.not (decide (a=b))
def q29(a b:Bool):=bif a then true else b
def q30(a:Bool)(b c d e:Prop):Prop:=q19 a b c (d/\e)
def ir(a:B8):Int:=a.length
def q34(a b:Bool):=bif a then b else false
def dH(a b c:Nat):Prop:=S.ag a b<c
def na(a b c:Nat):Prop:=dH a b (S.ag a c)
def q43(a:B8):Prop:=fX a.length
def iy(a:UInt8):=(S.cP (Vg.ur B8) (Vg.ur (Prod Int (Prod Int (List (Prod B8 (List Int)))))) [104,a,121]).1
def q48(a:Prop):Prop:=True/\a
def vA(a:List Int):Int:=a.length
def ec(a:B8):Prop:=a.length<=35184372088832
def o8(a:UInt8):Int:=UInt8.toNat a
def q59(a:Int):=UInt8.ofNat (toNat a)
def q68(a:List B8):Int:=a.length
def q69(a b:Int):=a^toNat b
def eI(a:List B8)(b:Nat):=getD a b []
def q72(a:Bool)(b:Prop):Prop:=q17 a True b
def q73(a:Int):=a%4294967296
def lG(a:Nat):Prop:=a<=17592186044416
def q77(a:Int)(b:Prop):Prop:=uH (a+1)/\b
def q78(a:Bool)(b c d e f:Prop):Prop:=q30 a b c d (e/\f)
def q82(a b c:Int)(d:Prop):Prop:=uH a/\q25 b a c/\d
def HJ(a:Bool)(b c d:Int)(e f:Prop):Prop:=q19 a (q25 b c d) e f
def qJ(a b:Int)(c:Bool):=q29 (decide (a<b)) c
def q86(a:List B8)(b:Int):=eI a (toNat b)
def q91(a b:UInt8):=(S.cP (iy a).1 (iy a).2 [119,a,105,110,b,104,a,121]).1
def q95(a:Bool)(b c:Prop)(d:Int)(e:Prop):Prop:=q30 a b c (uH d) e
def Ds(a b:Int)(c:Bool):=q34 (decide (a<=b)) c
def đ(a:Nat):Prop:=a<=5864062014805
def wG(a:List (B8×List Int)):Int:=a.length
def HK:=Vg.ur UInt8
def mY(a:Bool):Prop:=(a->True)/\(a=false->True)
def ajb(a b:Bool)(c:Prop):Prop:=q17 a (false=b) c
def aV5(a b:UInt8):=(S.bY (q91 a b).1 (q91 a b).2).1
def aP6(a b:Bool):=q29 a (Bool.not b)
def aXt(a:Int):=140737488355328/a
def PA(a b:Prop):Prop:=q48 (a/\b)
def aUM(a:Int)(b:Nat):Prop:=toNat a<b
def Cf(a:Int):=a%18446744073709551616
def aUP(a:List Bool)(b:Nat):=getD a b false
def aVE(a:Nat):Prop:=a<=3518437208883
def aT9(a:Bool)(b:Int)(c:List Int):=bif a then drop (toNat b) c else c
def HL(a b c:Int):=Ds a b (decide (b<=c))
def aWJ(a:Bool)(b c d:Int):Prop:=(bif a then b else c)=d
def sB(a b c d:Int)(e:Prop):Prop:=q25 a b c/\q25 a d c/\e
def aHG(a:B8)(b:S.Wp):=a++S.bytesOf b
def azI(a:Int)(b:B8):=take (toNat a) b
def aWK(a b c:Int)(d:Prop):Prop:=uH a/\(b<=a/\a<=c)/\d
def az4(a b c:Bool):=q29 a (q29 b c)
def Ch(a:Int)(b:B8):=drop (toNat a) b
def wK(a b:UInt8):=(S.fE (aV5 a b).1 (aV5 a b).2 S.fy).1
def az5(a:Int):=Bool.not (decide (a=a))
def KT(a:Bool)(b c:B8):=q34 a (decide (b=c))
def aP9(a:B8)(b:Prop):Prop:=S.small a/\b
def aJz(a:List (List Int))(b:Nat):=getD a b []
def aUa(a:Bool)(b c:Int):=q29 a (decide (b<c))
def aFD(a:B8):Prop:=a.length<=1099511627776
def mw(a b:Bool)(c:Int)(d:Prop):Prop:=ajb a b (q77 c d)
def aji(a b:List Int):Prop:=(bif Bool.not (S.bK a) then([]:List Int) else a)=b
def aVr:=vA S.sa
def aUD(a b:List Int):Prop:=lG (a.length+b.length)
def aRJ(a:Int):=q59 (a%256)
def YF(a:List (B8×List Int))(b:Int):=getD a (toNat b) ([],[])
def aVg(a:Bool)(b:Int)(c:Bool)(d e:Int):=bif a then b else bif c then d else e
def aWL:Prop:=[]=S.fy
def aWQ(a b:B8):=Bool.not (decide (a=b))
def aVs(a:Bool)(b c d:Int):Prop:=q19 a (b<=b/\b<c) (b<=d/\d<=c) True
def aTV(a b:Nat)(c d:Prop)(e:Nat):Prop:=((a:Int)+1=b/\c)/\d/\na e b a
def aW7(a b:Bool)(c:Prop):Prop:=q72 a (q48 (q72 b (q48 c)))
def PC(a:Int):=decide (a=0)
def Ei(a:Int)(b:List Int):=a::a::a::a::a::a::a::a::a::a::a::a::a::a::a::a::b
def aUb(a b:Nat)(c:Prop)(d:Nat):Prop:=(a:Int)+1=b/\c/\na d b a
def aFG(a:Int):=q26 a 0
def aW8(a b:Int)(c:Prop):Prop:=a=a/\b=b/\c
def aVt(a b:B8):Prop:=fX (a.length+b.length)
def SO(a b:B8):=Op.bytesLess a b||decide (a=b)
def aWR(a:Bool)(b c:S.Wp):Prop:=S.rM a b=S.iG c
def qL(a:Int)(b:B8):=decide (a<ir b)
def aYu(a:B8):Prop:=a.length<1099511627776
def aVF(a b:Bool)(c d:Int):=q34 a (q29 b (decide (c<=d)))
def apS(a b:Nat)(c d e:Prop)(f:Nat):Prop:=((a:Int)+1=b/\c/\d)/\e/\na f b a
def aUt(a:Int)(b:UInt8):=replicate (toNat a) b
def wM(a:Int):Prop:=a=a/\S.fy=S.fy
def aWS(a b:List B8):Prop:=a.length+b.length<=8796093022208
def aVG(a:Int):=Bool.not (S.cA a)
def aUu(a:Int):Prop:=(0:Int)<=0/\0<a
def aW9(a:B8)(b:Nat):Prop:=fX (a.length+b)
def aP1(a b:Int)(c:Prop):Prop:=(0<=a/\a<=b)/\c
def aVu(a b:Bool)(c d:Int):Prop:=q17 a (q72 b (aUu c/\aUu d)) True
def aTW(a b:Int):Prop:=0<=a/\a<=b
def aXa(a:Int):=getD S.sa (toNat a) a
def aXu(a b c:Int):Prop:=a<=b/\b<=b/\b<=aXt c
def aXb(a b c d:Int):=Vg.eP (Vg.eP (S.rotl a (-b)) (S.rotl a (-c))) d
def aUd(a:Prop)(b:Bool)(c d:Int)(e f g:Prop):Prop:=a->q30 b (q25 0 c d) e f g
def aXv(a:List B8)(b:UInt8)(c:Nat)(d:B8):Prop:=S.oW a/\S.gM b a=S.oE c d
def aT3(a:Bool)(b c d e f g h i:Int):=(bif a then 1779033703 else b,bif a then 3144134277 else c,bif a then 1013904242 else d,bif a then 2773480762 else e,bif a then 1359893119 else f,bif a then 2600822924 else g,bif a then 528734635 else h,bif a then 1541459225 else i)
def aYv(a b c d:Int)(e f g:Nat)(h i:List (List Int))(j:Int):Prop:=uH a/\aWK b c d (q82 b c d (e<f/\q25 c a d/\g<f/\PA (đ (e+h.length)) (take e i++h=S.xo j i)))
def aYw(a b c d:Int)(e f g:Nat)(h i:List Bool)(j:Int):Prop:=uH a/\aWK b c d (q82 b c d (e<f/\q25 c a d/\g<f/\PA (fX (e+h.length)) (take e i++h=S.aUX j i)))
def aYx(a:List (Int×Int×B8)):Prop:=length S.kE1+a.length<=4398046511104
def aL0(a:B8)(b:Int):=o8 (getD a (toNat b) 0)
def aWT:=ir (wK 97 32)-1
def aUE:Prop:=(0:Int)=0
def aM2(a:Int):=decide (0<a)
def aVH:Int:=((64:Nat):Int)
def aVv(a:B8):=q26 (ir a) 32
def agm(a:List Int)(b:Nat):=getD a b 0
def aXR(a b c:Int):=bif q34 (PC a) (q26 (S.vw S.kE b).1 (-c)) then c else a
def aXS:Prop:=aUM aWT (length (wK 97 32))
def aUv:Int×Int×Int×Int×Int×Int×Int×Int:=(1779033703,3144134277,1013904242,2773480762,1359893119,2600822924,528734635,1541459225)
def aXd(a b c:Int):Prop:=(a=b->False)/\(a=c->False)/\True
def aJN(a:List (Int×B8))(b:Int):=getD a (toNat b) (0,[])
def aT7:Int:=((8:Nat):Int)
def aVk(a b c:Int):Prop:=0<=a/\a<=b/\b<=c
def aUp(a:Int):=decide (0<=a)
def aUQ(a:Int):=decide (a=1)
def aT8(a:List Int)(b:Int):=getD a (toNat b) 0
def aVC:Int:=((1:Nat):Int)
def aXU:=S.kA (S.mG (aV5 97 32).1 (aV5 97 32).2).1 S.fy (wK 97 32)
def ajt(a:B8)(b c:Int):=S.kQ a (S.af a b c).1.2.1 (S.af a b c).1.2.2
def ajw(a:B8):=S.bp a
def aKE(a:B8)(b:Nat):=getD (ajw a).1.2.2.1 (toNat b) (0,0,0,[])
def PG(a:B8)(b:List (Int×B8))(c:B8)(d:Nat):=Vg.bk.run (S.conds 27 3 c (ajw a).1.1 (ajw a).1.2.1 (ajw a).1.2.2.1 (ajw a).1.2.2.2 (S.ax b) d) (Vg.Z.g 27 3 (Vg.bk.Kj (toNat (q68 (S.ax b)))))
def aqK(a:List (List (Int×B8×B8×B8×List B8×B8)))(b c:Int):=getD (getD a (toNat b) []) (toNat c) (0,[],[],[],[],[])
def arI(a:List (List (Int×B8×B8×B8×List B8×B8)))(b c:Int):=getD (getD a (toNat b) []) (toNat c) (0,[],[],[],[],[])
def arQ(a:List (List (Int×B8×B8×B8×List B8×B8)))(b:Int)(c:B8)(d e:Int)(f:B8):=S.iI c b f ((arI a d e).1,(arI a d e).2.1,(arI a d e).2.2.1,(arI a d e).2.2.2.1,(arI a d e).2.2.2.2.1,(arI a d e).2.2.2.2.2)
def aBG(a:B8)(b:Int)(c:Nat):=Vg.aM (aL0 a (b+c)) 127*q69 2 (7*c)
def aH2(a:List (B8×List Int)):=a.length
def aIB(a:List (B8×List Int))(b:Nat):=[S.fW (bif decide ((b:Int)<aH2 a) then bif aM2 b then(YF a (b-1)).1 else [] else bif aM2 b then(YF a (b-1)).1 else []) (bif decide ((b:Int)<aH2 a) then(YF a b).1 else bif aM2 b then [] else []) (S.aNO (bif aM2 b then(YF a (b-1)).2 else []))]
def agl(a:B8):=S.an (S.an a 0 0 64).1.1 (S.an a 0 0 64).1.2.1 (S.an a 0 0 64).1.2.2 64
def ajl(a:B8):=S.ar (agl a).1.1 (agl a).1.2.1 (agl a).1.2.2
def Jr(a:List (List Int)):=a.length
def ajB(a:List (List Int)):=a.length
def aUG(a:List (List Int)):=a.length
def apz(a:List Bool):=a.length
def aF4(a:List Bool):=a.length
def azL(a:List Bool):=a.length
def aIU(a:B8)(b:Nat):=S.tC a (S.jJ a b).1.1 (S.jJ a b).1.2 (S.jJ a b).2.1
def azM(a:B8):=S.ar a (S.af a 0 0).1.2.1 (S.af a 0 0).1.2.2
def aT4(a:B8):=(S.iw a).1
def aIV(a:List (Int×Int×Int×B8))(b:Nat):=(getD a (toNat b) (0,0,0,[])).2
def aBK(a:Int):=Vg.aM (Cf a) 31
def aI1(a:List (Int×Int×List (B8×List Int)))(b:Nat):=getD a (toNat b) (0,0,[])
def aI2(a:List (Int×Int×List (B8×List Int)))(b:Nat):=getD a (toNat b) (0,0,[])
def aCp(a:List (Int×Int×List (B8×List Int)))(b:Nat×Nat):=S.af2 a (S.kR a b.2) b.1
def aI3(a:List (Int×Int×List (B8×List Int)))(b:Nat×Nat):=(getD a (toNat (aCp a b)) (0,0,[])).2.2
def aI7(a:Nat×Nat):=toNat a.1
def aCq(a:List (Int×Int×List (B8×List Int)))(b:Nat×Nat):=(getD a (aI7 b) (0,0,[])).2.2
def aJb(a:List (Int×Int×List (B8×List Int)))(b:Nat×Nat):=S.eu a b.2 b.1
def aCy(a:List (Int×Int×List (B8×List Int))):=a.length
def aC5(a b:Int)(c:List B8)(d:List (Int×Int×List (B8×List Int))):=drop (toNat a) (take (toNat (a+b)) (S.ao c d).2)
def aF6(a:List (Int×Int×List (B8×List Int)))(b:Nat):=getD a (toNat b) (0,0,[])
def aC6(a:List B8)(b:List (Int×Int×List (B8×List Int)))(c:List (Int×Int)):=take (toNat ((S.zu (S.fL (S.bF (S.ao a b).1 c))).1+2)-toNat (S.zu (S.fL (S.bF (S.ao a b).1 c))).1) (drop (toNat (S.zu (S.fL (S.bF (S.ao a b).1 c))).1) (S.bF (S.ao a b).1 c))
def aF7(a:List B8)(b:List (Int×Int×List (B8×List Int)))(c:Nat):=getD (S.ao a b).2 (toNat c) (0,0,[])
def aUJ(a:List B8)(b:List (Int×Int×List (B8×List Int)))(c:Nat):=(S.sJ (aF7 a b c).1 (aF7 a b c).2.1 (aF7 a b c).2.2).1
def aUK(a:List (Int×Int×List (B8×List Int)))(b:Nat):=getD a (toNat b) (0,0,[])
def aQX(a:List Int×List Int×List Int):=getD a.1 (toNat 0) 0
def aWU(a:List Int×List Int×List Int):=getD a.2.1 (toNat 0) 0
def Ck(a:List Int×List Int×List Int):=aVF (aM2 (vA a.2.1)) (PC (vA a.1)) (aWU a) (aQX a)
def azN(a:List Int×List Int×List Int):=aVF (aM2 (vA a.1)) (PC (vA a.2.1)) (aQX a) (aWU a)
def agb(a:List Int×List Int×List Int):=getD a.1 (toNat 0) 0
def aWV(a:List Int×List Int×List Int):=getD a.2.1 (toNat 0) 0
def aj0(a:List Int×List Int×List Int):=aVF (aM2 (vA a.1)) (PC (vA a.2.1)) (agb a) (aWV a)
def aAj(a:List Int×List Int×List Int):=aVF (aM2 (vA a.2.1)) (PC (vA a.1)) (aWV a) (agb a)
def aWW(a:List Int×List Int×List Int):=getD a.1 (toNat 0) 0
def aAk(a:List Int×List Int×List Int):=getD a.2.1 (toNat 0) 0
def apB(a:List Int×List Int×List Int):=aVF (aM2 (vA a.2.1)) (PC (vA a.1)) (aAk a) (aWW a)
def azP(a:List Int×List Int×List Int):=aVF (aM2 (vA a.1)) (PC (vA a.2.1)) (aWW a) (aAk a)
def ajS(a:List Int×List Int):=getD a.1 (toNat 0) 0
def azQ(a:List Int×List Int):=aVF (aM2 (vA a.1)) (PC aVr) (ajS a) (aXa 0)
def arR(a:List Int×List Int):=q34 (decide (0<aVr)) (q29 (PC (vA a.1)) (decide (aXa 0<=ajS a)))
def aC7(a:List B8):=S.root (S.leaves a)
def aKF(a:List B8):=S.root (S.leaves a)
def azR(a:Nat):=toNat a
def azT(a:B8)(b:Nat×Nat):=S.BX a b.2 b.1
def aTY(a:B8)(b:Nat×Nat):=S.iF a (azT a b).1.1 (azT a b).1.2
def aQY(a:B8):=(S.aH a).2
def aj1(a:List (List (Int×B8×B8×B8×List B8×B8)))(b:Nat)(c:Nat×Nat):=getD (getD a (toNat b) []) (toNat c.1) (0,[],[],[],[],[])
def aoH(a:List (List (Int×B8×B8×B8×List B8×B8)))(b:Nat)(c:Nat×Nat):=getD (getD a (toNat b) []) (toNat c.1) (0,[],[],[],[],[])
def ajT(a:List (Int×Int×Int×B8))(b:Nat):=getD a (toNat b) (0,0,0,[])
def aKG(a:List (Int×Int×Int×B8))(b:Nat):=S.mW ([],[]) a b
def ep(a:List (Int×Int×Int×B8)):=(S.bY (S.fq a).1 (S.fq a).2).1
def aF9(a:B8):=a.length
def aVl(a:B8)(b:Nat×Nat):=S.xc (drop b.2 a) b.1
def aGb(a:Nat×List Int):=toNat a.1
def azV(a:Int):=q34 (decide (57343<a)) (decide (a<1114112))
def apD(a:B8):=length (S.decode a)
def aKH(a:List (Int×B8)):Int:=a.length
def ajO(a:List (Int×Int×Int×B8))(b:Nat):=getD a (toNat b) (0,0,0,[])
def axQ(a:Int):=1099511627776-a
def aKQ(a:B8):=a.length
def ajQ(a:Int)(b:B8):=Bool.not (S.qo b a)
def axR(a:B8)(b:Int)(c:B8):=bif aUa (ajQ b c) (axQ b) (aKQ a) then [] else c
def apE(a:Int)(b:B8):=Bool.not (S.qo b a)
def apN(a b c d e f g h i:Int)(j:B8)(k l:Nat):=aT8 [(S.aI (aT3 (apE a j) b c d e f g h i) (S.jX j a k)).1,(S.aI (aT3 (apE a j) b c d e f g h i) (S.jX j a k)).2.1,(S.aI (aT3 (apE a j) b c d e f g h i) (S.jX j a k)).2.2.1,(S.aI (aT3 (apE a j) b c d e f g h i) (S.jX j a k)).2.2.2.1,(S.aI (aT3 (apE a j) b c d e f g h i) (S.jX j a k)).2.2.2.2.1,(S.aI (aT3 (apE a j) b c d e f g h i) (S.jX j a k)).2.2.2.2.2.1,(S.aI (aT3 (apE a j) b c d e f g h i) (S.jX j a k)).2.2.2.2.2.2.1,(S.aI (aT3 (apE a j) b c d e f g h i) (S.jX j a k)).2.2.2.2.2.2.2] l
def aXV(a:B8):=((S.aI aUv a).1,(S.aI aUv a).2.1,(S.aI aUv a).2.2.1,(S.aI aUv a).2.2.2.1,(S.aI aUv a).2.2.2.2.1,(S.aI aUv a).2.2.2.2.2.1,(S.aI aUv a).2.2.2.2.2.2.1,(S.aI aUv a).2.2.2.2.2.2.2)
def aJl(a:Nat):=0+toNat (a-15)*1
def ajf(a:B8):=S.sched a 64
def aKR(a:Nat):=0+toNat (a-2)*1
def aUL(a:Int×Int):=Cf (a.1+a.2)/q69 2 1
def aGe(a:Nat×Nat×List B8×Nat):=length a.2.2.1
def aUw(a:Nat×Nat×List B8×Nat):=toNat a.1
def aGc(a:Nat×Nat×List B8×Nat):=take (aUw a) a.2.2.1++replicate (aGe a-aUw a) HK++drop (aUw a+(aGe a-aUw a)) a.2.2.1
def aGd(a:Nat):=toNat a
def aUf(a:List B8):=a.length
def aUx(a:Nat×Nat×List B8×Nat):=toNat a.1
def aUq(a:Nat×Nat×List B8×Nat):=length a.2.2.1
def aS6(a:Nat):=toNat a
def aXZ(a:Nat×Nat×List B8×Nat):=take (aUx a) a.2.2.1++replicate (aUq a-aUx a) HK++drop (aUx a+(aUq a-aUx a)) a.2.2.1
def aUk(a:List B8):=a.length
def aWX(a:List Int)(b:Nat×B8):=S.iU (S.bT (aT8 a b.1))
def aSI(a:List B8):=a.length
def aX0(a:List B8):=List.set a (toNat (aSI a-2)) (S.aT (eI a (toNat (aSI a-2))) (eI a (toNat (aSI a-2+1))))
def aXe(a:Int):=[q59 (o8 (S.more a))]
def aVD(a:B8):=Ch 1 (azI 3 a)
def mI(a:B8):=Ch 1 (azI 4 a)
def PH(a:B8):=Ch 1 (azI 2 a)
theorem aE {p q:Prop}(h:q)(e:p=q:=by(try delta q17 q19 fX uH q25 q26 q29 q30 ir q34 dH na q43 iy q48 vA ec o8 q59 q68 q69 eI q72 q73 lG q77 q78 q82 HJ qJ q86 q91 q95 Ds đ wG HK mY ajb aV5 aP6 aXt PA aUM Cf aUP aVE aT9 HL aWJ sB aHG azI aWK az4 Ch wK az5 KT aP9 aJz aUa aFD mw aji aVr aUD aRJ YF aVg aWL aWQ aVs aTV aW7 PC Ei aUb aFG aW8 aVt SO aWR qL aYu aVF apS aUt wM aWS aVG aUu aW9 aP1 aVu aTW aXa aXu aXb aUd aXv aT3 aYv aYw aYx aL0 aWT aUE aM2 aVH aVv agm aXR aXS aUv aXd aJN aT7 aVk aUp aUQ aT8 aVC aXU ajt ajw aKE PG aqK arI arQ aBG aH2 aIB agl ajl Jr ajB aUG apz aF4 azL aIU azM aT4 aIV aBK aI1 aI2 aCp aI3 aI7 aCq aJb aCy aC5 aF6 aC6 aF7 aUJ aUK aQX aWU Ck azN agb aWV aj0 aAj aWW aAk apB azP ajS azQ arR aC7 aKF azR azT aTY aQY aj1 aoH ajT aKG ep aF9 aVl aGb azV apD aKH ajO axQ aKQ ajQ axR apE apN aXV aJl ajf aKR aUL aGe aUw aGc aGd aUf aUx aUq aS6 aXZ aUk aWX aSI aX0 aXe aVD mI PH);exact rfl):p:=e.mpr h
end Go
