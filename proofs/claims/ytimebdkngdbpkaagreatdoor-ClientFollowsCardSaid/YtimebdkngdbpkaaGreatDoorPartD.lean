import Derived.Test.YtimebdkngdbpkaaGreatDoorPartC
import Derived.Lib.LaidTab
import Derived.Test.YtimebdkngdbpkaaGreatDoorProg
import Derived.WalkKit
set_option linter.unusedVariables false
set_option linter.unusedSimpArgs false
set_option linter.unusedSectionVars false
set_option linter.defProp false
namespace Go.S
variable {docs p5 ts:List B8}{l:List aY}{g P R b p6:B8}{n i m v a p1 e:Int}{j t:Nat}{p:Bool}{d:List cr}{s:List Sg}{c:UInt8}{x:Int×Int×List Bool}{r:List Int}{f:List (List Int)}
theorem uR:gv docs l=true↔bG docs l=true/\mc docs l=(docs.length:Int):=by
 simp_all[gv,B!,H!]
theorem alx(h:gv docs l=false):iv docs l=((0,[],[]),7):=by grind[iv]
theorem C7(h:gv docs l=true):iv docs l=(((docs.length:Int),root (leaves docs),cB docs l),0):=XS (uR.1 h)
theorem ï(h:gv docs l=true):bN (docs.length:Int) (root (leaves docs)) (cB docs l)=true:=by
 obtain⟨h1,h2⟩:=uR.1 h;have hb:=(RI.of h1).bd;grind[jm,Int.natCast_nonneg,LL,tB,ç]
theorem aly{l:List Sg}(h:(hW n g l).2=0):bN n g l=true/\hW n g l=(hB n g l,0):=by
 grind[LQ,í]
theorem abA{l:List Sg}(h:bN n g l=true):(hB n g l).length<=100000:=by
 have:=C6 (k:=l.length) ⟨h,Nat.le_refl _⟩;grind[UD]
theorem alz(l:List rf):(fq l).2.length<=40:=by
 grind[Sj,min,Ov,fq]
theorem aht(h:bG docs l=true)(a b c:Int)(d:B8):(pA docs l a b c d).1.1.length<=docs.length+1:=by
 by_cases h0:a=0
 . have hg:=me h;unfold pA;grind[cP]
 grind[keeps]
theorem ð(docs:List B8)(l:List aY):bY docs l=pA docs l 1 0 0 []:=by rfl
theorem XV(h:bG docs l=true)(hl:l.length<64):
  (bY docs l).1.1=docs/\bG docs (bY docs l).1.2=true/\cO (bY docs l).1.2=docs.length/\(bY docs l).1.2.length<=l.length+1/\gv docs (bY docs l).1.2=true:=by
 grind[keeps,Hm,XI,ð,uR,KF]
theorem pf(l:List rf):(bY (fq l).1 (fq l).2).1.1=(fq l).1/\bG (fq l).1 (bY (fq l).1 (fq l).2).1.2=true/\cO (bY (fq l).1 (fq l).2).1.2=(fq l).1.length/\(bY (fq l).1 (fq l).2).1.2.length<=41/\gv (fq l).1 (bY (fq l).1 (fq l).2).1.2=true:=by
 grind[alz,XV,aqI]
def aZ(i n:Int):List Bool:=if h:n<2 then [] else if i<((sp n.toNat:Nat):Int) then false ::aZ i ((sp n.toNat:Nat):Int) else true ::aZ (i-((sp n.toNat:Nat):Int)) (n-((sp n.toNat:Nat):Int))
termination_by n.toNat
decreasing_by
 . have:=gN (n:=n.toNat) w!;omega
 . have:=gN (n:=n.toNat) w!;omega
def Nl(d:B8)(x:Bool×B8):B8:=if x.1 then aT x.2 d else aT d x.2
def wx(d:B8)(s:List Bool)(p:List B8):B8:=(List.zip s.reverse p).foldl Nl d
def kN(d:B8)(i n:Int)(p:List B8):B8:=wx d (aZ i n) p
def e8(i n:Int):Int:=((aZ i n).length:Int)
def path(l:List B8)(i:Int):List B8:=if h:l.length<2 then [] else if i<((sp l.length:Nat):Int) then path (l.take (sp l.length)) i++[root (l.drop (sp l.length))] else path (l.drop (sp l.length)) (i-((sp l.length:Nat):Int))++[root (l.take (sp l.length))]
termination_by l.length
decreasing_by
 . have:=gN (n:=l.length) w!;rw [J?];omega
 . have:=gN (n:=l.length) w!;rw [N?];omega
theorem jK(h:n<2):aZ i n=[]:=by rw [aZ,dif_pos h]
theorem mq {n:Int}(h:2<=n)(hi:i<((sp n.toNat:Nat):Int)):aZ i n=false ::aZ i ((sp n.toNat:Nat):Int):=by rw [aZ,dif_neg w!,M! hi]
theorem nH {n:Int}(h:2<=n)(hi:¬i<((sp n.toNat:Nat):Int)):aZ i n=true ::aZ (i-((sp n.toNat:Nat):Int)) (n-((sp n.toNat:Nat):Int)):=by rw [aZ,dif_neg w!,J! hi]
variable {l:List B8}
theorem UE(h:l.length<2):path l i=[]:=by rw [path,dif_pos h]
theorem UF {l:List B8}(h:2<=l.length)(hi:i<((sp l.length:Nat):Int)):path l i=path (l.take (sp l.length)) i++[root (l.drop (sp l.length))]:=by rw [path,dif_neg w!,M! hi]
theorem UG {l:List B8}(h:2<=l.length)(hi:¬i<((sp l.length:Nat):Int)):path l i=path (l.drop (sp l.length)) (i-((sp l.length:Nat):Int))++[root (l.take (sp l.length))]:=by rw [path,dif_neg w!,J! hi]
theorem E6 {C:Nat->Prop}(h0:∀n,n<2->C n)(h1:∀n,2<=n->C (sp n)->C (n-sp n)->C n)(n:Nat):C n:=by
 induction n using Nat.strongRecOn with
 |_ n ih=>
  by_cases h:n<2
  . exact h0 n h
  . have hb:=gN (n:=n) w!;exact h1 n w! (ih _ w!) (ih _ w!)
theorem ahu(n:Nat):∀(l:List B8) (i:Int),l.length=n->(path l i).length=(aZ i l.length).length:=by
 refine E6 (C:=λn=>∀(l:List B8) (i:Int),l.length=n->(path l i).length=(aZ i l.length).length) (λn h l i e=>?_) (λn h i1 i2 l i e=>?_) n
 . grind[UE,jK]
 . have hb:=gN (n:=l.length) w!;by_cases hi:i<((sp l.length:Nat):Int)
   . rw [UF w! hi,mq w! x!,List.length_append];grind
   . rw [UG w! hi,nH w! x!,List.length_append];grind
theorem KG(d:B8)(x:Bool)(s:List Bool)(p:List B8)(y:B8)(h:p.length=s.length):wx d (x::s) (p++[y])=Nl (wx d s p) (x,y):=by
 simp_all[wx,List.reverse_cons,List.zip_append,List.foldl_append]
theorem aXk(n:Nat):∀(l:List B8) (i:Int),l.length=n->0<=i->i<l.length->kN (l.getD i.toNat []) i l.length (path l i)=root l:=by
 refine E6 (C:=λn=>∀(l:List B8) (i:Int),l.length=n->0<=i->i<l.length->kN (l.getD i.toNat []) i l.length (path l i)=root l) (λn h l i e h0 h1=>?_) (λn h i1 i2 l i e h0 h1=>?_) n
 . unfold kN;have :l.length=1:=by omega
   have hi:i=0:=by omega
   rw [UE w!,jK w!,R6 this,hi];rfl
 . have hb:=gN (n:=l.length) w!;unfold kN at *;by_cases hi:i<((sp l.length:Nat):Int)
   . have er:=IW (l:=l) w! rfl;rw [UF w! hi,mq w! x!,er];have e1:(l.take (sp l.length)).length=sp n:=by grind
     have:=i1 (l.take (sp l.length)) i e1 h0 x!;rw [Int.toNat_natCast];have hl:=ahu _ (l.take (sp l.length)) i rfl;rw [List.length_take,Nat.min_eq_left w!] at hl this;rw [KG _ _ _ _ _ hl]
     have eg:(l.take (sp l.length)).getD i.toNat []=l.getD i.toNat []:=by
      grind
     rw [eg] at this;rw [this];rfl
   . have er:=IW (l:=l) w! rfl;rw [UG w! hi,nH w! x!,er];have e1:(l.drop (sp l.length)).length=n-sp n:=by grind
     have:=i2 (l.drop (sp l.length)) (i-((sp l.length:Nat):Int)) e1 w! x!;have hl:=ahu _ (l.drop (sp l.length)) (i-((sp l.length:Nat):Int)) rfl;have en:(((l.length-sp l.length:Nat)):Int)=(l.length:Int)-((sp l.length:Nat):Int):=by omega
     rw [N?,en] at hl this;rw [X!,KG _ _ _ _ _ hl]
     have eg:(l.drop (sp l.length)).getD (i-((sp l.length:Nat):Int)).toNat []=l.getD i.toNat []:=by
      grind
     rw [eg] at this;rw [this];rfl
def rK(l:List B8)(i:Int):List B8:=if bQ l=true/\0<=i/\i<l.length then path l i else []
def BW(l:List B8)(i:Int):Int:=if bQ l=true/\0<=i/\i<l.length then 0 else 1
def dM(l:List B8):Prop:=l.length<=1099511627776
def gj(l:List B8)(i:Int)(k:List B8×Int×List B8):Prop:=
 bQ k.1=true/\k.1.length<=l.length/\0<=k.2.1/\k.2.1<k.1.length/\path l i=path k.1 k.2.1++k.2.2.reverse/\k.2.2.length+k.1.length<=l.length
def eQ(d:B8)(i n:Int)(p:List B8):Int:=
 if(d.length:Int)=32/\1<=n/\n<=1099511627776/\0<=i/\i<n then(if(p.length:Int)=e8 i n/\bQ p=true then 0 else 6) else 1
def kq(d:B8)(i n:Int)(p:List B8):B8:=if eQ d i n p=0 then kN d i n p else []
def jL(d:B8)(i n:Int)(p:List B8)(k:Nat):B8:=((List.zip (aZ i n).reverse p).take k).foldl Nl d
def eM(i n:Int):Prop:=0<=i/\i<n/\n<=1099511627776
def j6(i n:Int)(k:Int×Int×List Bool):Prop:=0<=k.1/\k.1<k.2.1/\k.2.1<=n/\aZ i n=k.2.2++aZ k.1 k.2.1/\(k.2.2.length:Int)+k.2.1<=n
def gy(m n:Int):List Bool:=if h:n<=m\/n<2 then [] else if m<=((sp n.toNat:Nat):Int) then false ::gy m ((sp n.toNat:Nat):Int) else true ::gy (m-((sp n.toNat:Nat):Int)) (n-((sp n.toNat:Nat):Int))
termination_by n.toNat
decreasing_by
 . have:=gN (n:=n.toNat) w!;omega
 . have:=gN (n:=n.toNat) w!;omega
def il(l:List B8)(m:Int)(p:Bool):List B8:=
 if(l.length:Int)=m then(if p then [root l] else [])
 else if h:l.length<2 then []
 else if m<=((sp l.length:Nat):Int) then il (l.take (sp l.length)) m p++[root (l.drop (sp l.length))]
 else il (l.drop (sp l.length)) (m-((sp l.length:Nat):Int)) true++[root (l.take (sp l.length))]
termination_by l.length
decreasing_by
 . have:=gN (n:=l.length) w!;rw [J?];omega
 . have:=gN (n:=l.length) w!;rw [N?];omega
def afY(l:List B8)(m:Int):List B8:=if bQ l=true/\0<=m/\m<=l.length then(if m=0 then [] else il l m false) else []
def aT1(l:List B8)(m:Int):Int:=if bQ l=true/\0<=m/\m<=l.length then 0 else 1
def aT0(l:List B8)(m:Int):Prop:=nC l/\1<=m/\m<=l.length
def abB(r:B8×B8)(x:Bool×B8):B8×B8:=if x.1 then(aT x.2 r.1,aT x.2 r.2) else(r.1,aT r.2 x.2)
def mf(s:List Bool)(r:B8×B8)(p:List B8):B8×B8:=(List.zip s.reverse p).foldl abB r
def ayJ(one two:B8)(s:List Bool)(r:B8×B8)(p:List B8):Bool:=decide (p.length=s.length)&&decide (mf s r p=(one,two))
def abC(s:List Bool)(one two:B8)(p:List B8):Bool:=decide (1<=p.length)&&ayJ one two s (p.getD 0 [],p.getD 0 []) (p.drop 1)
def qB(m:Int):Bool:=decide (Vg.aM m (m-1)=0)
def accepted(m n:Int)(one two:B8)(p:List B8):Bool:=
 if m=0 then decide (p.length=0)&&decide (one=sum [])
 else if m=n then decide (p.length=0)&&decide (one=two)
 else abC (gy m n) one two (if qB m then one::p else p)
def ia(m n:Int)(one two:B8)(p:List B8):Int:=
 if m<0\/n<m\/1099511627776<n\/(one.length:Int)≠32\/(two.length:Int)≠32 then 1 else if bQ p=true/\accepted m n one two p=true then 0 else 6
def strip(i j:Nat):Nat×Nat:=if h:i%2=1 then strip (i/2) (j/2) else(i,j)
termination_by i
def mX(i j:Int)(one two:B8)(p:List B8):Bool:=abC (aZ ((strip i.toNat j.toNat).1:Int) ((strip i.toNat j.toNat).2+1:Int)) one two p
def nI(i j:Int)(p:List B8):Prop:=0<=i/\i<j/\1<=p.length/\j<1099511627776
theorem I6(h:n<=m\/n<2):gy m n=[]:=by rw [gy,dif_pos h]
theorem yl {n:Int}(h:2<=n)(h1:m<n)(hi:m<=((sp n.toNat:Nat):Int)):gy m n=false ::gy m ((sp n.toNat:Nat):Int):=by rw [gy,dif_neg w!,M! hi]
theorem C8 {n:Int}(h:2<=n)(h1:m<n)(hi:¬m<=((sp n.toNat:Nat):Int)):gy m n=true ::gy (m-((sp n.toNat:Nat):Int)) (n-((sp n.toNat:Nat):Int)):=by rw [gy,dif_neg w!,J! hi]
theorem XW {n:Nat}(h:3<=n):sp n=2*sp ((n+1)/2):=by
 unfold sp;have e:((n+1)/2-1)=(n-1)/2:=by omega
 have h1:2<=n-1:=by omega
 rw [e,Nat.log2_def,M! h1,y?];omega
theorem XX:sp 2=1:=by decide
def I7(i n:Int):List Bool:=if i%2=1 then [true] else if i<n-1 then [false] else []
theorem XY(n:Nat):∀i:Int,0<=i->i<n->2<=n->aZ i n=aZ (i/2) ((n+1)/2:Int)++I7 i n:=by
 induction n using Nat.strongRecOn with
 |_ n ih=>
  intro i h0 h1 h2;by_cases h3:n=2
  . subst h3;have e2:(((2:Nat):Int)+1)/2=1:=by decide
    rw [e2,jK (show(1:Int)<2 by omega)];rcases(by omega :i=0\/i=1) with h|h
    . subst h;rw [mq w! (by rw [X!,XX];omega),X!,XX,jK w!];rfl
    . subst h;rw [nH w! (by rw [X!,XX];omega),X!,XX,jK w!];rfl
  . have hs:=XW (n:=n) w!;have hb:=gN (n:=n) w!;have en:(((n:Nat):Int)+1)/2=(((n+1)/2:Nat):Int):=by omega
    rw [en];by_cases hi:i<((sp n:Nat):Int)
    . rw [mq (n:=(n:Int)) w! (by exact hi),mq (n:=(((n+1)/2:Nat):Int)) w! (by rw [X!];omega)];rw [X!,X!];have:=ih (sp n) w! i h0 hi w!;rw [this,e?];have e1:(((sp n:Nat):Int)+1)/2=((sp ((n+1)/2):Nat):Int):=by omega
      rw [e1];unfold I7;split
      . rfl
      . rw [M! w!,M! w!]
    . rw [nH (n:=(n:Int)) w! (by exact hi),nH (n:=(((n+1)/2:Nat):Int)) w! (by rw [X!];omega)];rw [X!,X!];have ed:(n:Int)-((sp n:Nat):Int)=((n-sp n:Nat):Int):=by omega
      have ed2:i/2-((sp ((n+1)/2):Nat):Int)=(i-((sp n:Nat):Int))/2:=by omega
      have ed3:(((n+1)/2:Nat):Int)-((sp ((n+1)/2):Nat):Int)=(((n-sp n:Nat):Int)+1)/2:=by omega
      have el:I7 i n=I7 (i-((sp n:Nat):Int)) ((n-sp n:Nat):Int):=by
       unfold I7;by_cases q:i%2=1
       . rw [M! q,M! w!]
       . have q':¬(i-((sp n:Nat):Int))%2=1:=by omega
         rw [J! q,J! q'];by_cases q2:i<(n:Int)-1
         . rw [M! q2,M! w!]
         . rw [J! q2,J! w!]
      rw [ed,ed2,ed3,el,e?];congr 1
      by_cases h1':n-sp n=1
      . rw [h1'];have :i-((sp n:Nat):Int)=0:=by omega
        rw [this,jK w!,jK (by decide)];rfl
      . exact ih (n-sp n) w! _ w! w! w!
theorem UH(n:Nat):∀m:Int,1<=m->m<n->2<=n->gy m n=if m%2=1 then aZ (m-1) n else gy (m/2) (((n+1)/2:Nat):Int):=by
 induction n using Nat.strongRecOn with
 |_ n ih=>
  intro m h0 h1 h2;by_cases h3:n=2
  . have :m=1:=by omega
    simp_all[M!,yl,X!,XX,I6,mq,jK]
  . have hs:=XW (n:=n) w!;have hb:=gN (n:=n) w!;by_cases hi:m<=((sp n:Nat):Int)
    . rw [yl (n:=(n:Int)) w! h1 x!,Int.toNat_natCast];by_cases hm:m%2=1
      . rw [if_pos hm,mq (n:=(n:Int)) w! x!,Int.toNat_natCast];grind
      . rw [if_neg hm,yl (n:=(((n+1)/2:Nat):Int)) w! w! x!,Int.toNat_natCast];grind[I6]
    . rw [C8 (n:=(n:Int)) w! h1 x!,Int.toNat_natCast];have ed:(n:Int)-((sp n:Nat):Int)=((n-sp n:Nat):Int):=by omega
      have:=ih (n-sp n) w! (m-((sp n:Nat):Int)) w! w! w!;rw [ed,this];by_cases hm:m%2=1
      . rw [if_pos hm,if_pos w!,nH (n:=(n:Int)) w! x!,Int.toNat_natCast,ed];grind
      . rw [if_neg hm,if_neg w!,C8 (n:=(((n+1)/2:Nat):Int)) w! w! x!,Int.toNat_natCast];grind
theorem OG {i:Nat}(h:i%2=1):strip i j=strip (i/2) (j/2):=by rw [strip,dif_pos h]
theorem KI {i:Nat}(h:¬i%2=1):strip i j=(i,j):=by rw [strip,dif_neg h]
theorem QU(i:Nat):∀j:Nat,i<j->gy ((i:Int)+1) ((j:Int)+1)=aZ ((strip i j).1:Int) ((strip i j).2+1:Int):=by
 induction i using Nat.strongRecOn with
 |_ i ih=>
  intro j h;have e:(j:Int)+1=((j+1:Nat):Int):=by omega
  rw [e,UH (j+1) _ w! w! w!];by_cases hi:i%2=1
  . rw [if_neg w!,OG hi];grind
  . rw [if_pos w!,KI hi];grind
def OH(l:List B8):List B8:=l.reverse
theorem aqQ {n:Nat}(h:2<=n):n<=2*sp n:=by
 have:=Nat.lt_log2_self (n:=n-1);grind[sp,Nat.pow_succ]
theorem XZ {n:Nat}(h:2<=n)(h1:n<=2^(t+1)):sp n<=2^t/\n-sp n<=2^t:=by
 have h2:=gN h;have h3:=aqQ h
 have :sp n<=2^t:=by
  unfold sp at *;have :2^Nat.log2 (n-1)<2^(t+1):=by omega
  grind[Nat.pow_lt_pow_iff_right]
 omega
theorem I8:∀(t n:Nat) (i:Int),0<=i->i<n->n<=2^t->(aZ i n).length<=t
 |0,n,i,h0,h1,h=>by grind[jK]
 |t+1,n,i,h0,h1,h=>by
  by_cases h2:2<=n
  . have hs:=XZ h2 h;by_cases hi:i<((sp n:Nat):Int)
    . rw [mq w! (by exact hi),X!];have:=I8 t (sp n) i h0 hi hs.1;simp;omega
    . rw [nH w! (by exact hi),X!];have:=I8 t (n-sp n) (i-((sp n:Nat):Int)) w! w! hs.2;rw [Int.natCast_sub w!] at this;simp;omega
  grind[jK]
theorem alB(h0:0<=i)(h1:i<l.length)(h:l.length<=2^t):(path l i).length<=t:=by
 rw [ahu _ l i rfl];simp_all[I8]
theorem pC(h:bQ l=true)(k:Nat):bQ (l.take k)=true:=(eA _).2 λd hd=>(eA l).1 h d (List.mem_of_mem_take hd)
theorem zz(h:bQ l=true)(k:Nat):bQ (l.drop k)=true:=(eA _).2 λd hd=>(eA l).1 h d (List.mem_of_mem_drop hd)
theorem OI{d:B8}(h:bQ l=true)(h1:d.length=32):bQ (l++[d])=true:=
 (eA _).2 λx hx=>by
   grind[eA,List.mem_singleton]
theorem ñ(n:Nat):∀(l:List B8) (i:Int),l.length=n->bQ l=true->bQ (path l i)=true:=by
 refine E6 (C:=λn=>∀(l:List B8) (i:Int),l.length=n->bQ l=true->bQ (path l i)=true) ?_ ?_ n
 . intro n h l i e _;rw [UE w!];rfl
 . intro n h h1 h2 l i e hd;have hb:=gN h;by_cases hi:i<((sp l.length:Nat):Int)
   . grind[UF,OI,pC,LL,zz,List.length_take]
   grind[UG,OI,zz,LL,pC,List.length_drop]
theorem aZA {l:List B8}(h:(l.length:Int)=m):il l m p=if p then [root l] else []:=by rw [il,M! h]
theorem a0n {l:List B8}(h:¬(l.length:Int)=m)(h2:2<=l.length)(h3:m<=((sp l.length:Nat):Int)):il l m p=il (l.take (sp l.length)) m p++[root (l.drop (sp l.length))]:=by
 rw [il,J! h,dif_neg w!,M! h3]
theorem a0o {l:List B8}(h:¬(l.length:Int)=m)(h2:2<=l.length)(h3:¬m<=((sp l.length:Nat):Int)):il l m p=il (l.drop (sp l.length)) (m-((sp l.length:Nat):Int)) true++[root (l.take (sp l.length))]:=by
 rw [il,J! h,dif_neg w!,J! h3]
theorem aYR:∀(t:Nat) (l:List B8) (m:Int) (p:Bool),bQ l=true->l.length<=2^t->bQ (il l m p)=true/\(il l m p).length<=t+1
 |t,l,m,p,hd,hl=>by
  by_cases h:(l.length:Int)=m
  . rw [aZA h];cases p
    . exact⟨rfl,U! _⟩
    . exact⟨OI (l:=[]) rfl (LL hd),z!⟩
  . by_cases h2:2<=l.length
    . cases t with
      |zero=>omega
      |succ t=>
       have hs:=XZ h2 hl;by_cases h3:m<=((sp l.length:Nat):Int)
       . rw [a0n h h2 h3];have ih:=aYR t (l.take (sp l.length)) m p (pC hd _) x!;grind[OI,LL,zz,List.length_append,List.length_singleton]
       . rw [a0o h h2 h3];have ih:=aYR t (l.drop (sp l.length)) (m-((sp l.length:Nat):Int)) true (zz hd _) x!;grind[OI,LL,pC,List.length_append,List.length_singleton]
    . rw [il,J! h,dif_pos w!];exact⟨rfl,U! _⟩
theorem I9(h:2<=l.length)(h1:l.length<=1099511627776):split l.length=((sp l.length:Nat):Int):=by
 grind[nD,Int.toNat_natCast]
theorem aG1(h:bQ l=true)(h0:0<=i)(h1:i<l.length):gj l i (l,i,[]):=
 ⟨h,S! _,h0,h1,z!,z!⟩
theorem aG2 {m acc:List B8}{j:Int}(h:gj l i (m,j,acc))(h2:2<=m.length)(hj:j<((sp m.length:Nat):Int)):
  gj l i (m.take (sp m.length),j,acc++[root (m.drop (sp m.length))]):=by
 obtain⟨a1,a2,a3,a4,a5,a6⟩:=h;have hb:=gN h2;refine⟨pC a1 _,?_,a3,?_,?_,?_⟩
 . grind
 . grind
 . grind[UF,List.reverse_append]
 grind
theorem aG3 {m acc:List B8}{j:Int}(h:gj l i (m,j,acc))(h2:2<=m.length)(hj:¬j<((sp m.length:Nat):Int)):
  gj l i (m.drop (sp m.length),j-((sp m.length:Nat):Int),acc++[root (m.take (sp m.length))]):=by
 obtain⟨a1,a2,a3,a4,a5,a6⟩:=h;have hb:=gN h2;refine⟨zz a1 _,?_,x!,?_,?_,?_⟩
 . grind
 . grind
 . grind[UG,List.reverse_append]
 grind
theorem aqR {m acc:List B8}{j:Int}(h:gj l i (m,j,acc))(h2:¬1<(m.length:Int)):OH acc=path l i:=by
 have:=h.2.2.2.2.1;grind[OH,UE]
def ahw(l:List B8)(i:Int):Prop:=nC l/\0<=i/\i<l.length
theorem aA0 {l:List B8}(h:bQ l=false\/i<0\/(l.length:Int)<=i): []=rK l i/\1=BW l i:=by
 grind[bQ,rK,BW]
theorem aqS {l:List B8}(h:bQ l=true/\¬i<0/\¬(l.length:Int)<=i):rK l i=path l i/\BW l i=0:=by
 grind[bQ,rK,BW]
theorem Hp{x:List B8×Int×List B8}(hp:l.length<=1099511627776)(h:gj l i x)(h2:1<(x.1.length:Int)):
  (0<=split x.1.length/\split x.1.length<=x.1.length/\ -9223372036854775808<=x.2.1-split x.1.length/\x.2.1-split x.1.length<=9223372036854775807)/\
  nC (x.1.take (split x.1.length).toNat)/\nC (x.1.drop (split x.1.length).toNat)/\(∀d:B8,x.2.2.length+[d].length<=8796093022208)/\
  len (x.1.take (split x.1.length).toNat)<len x.1/\len (x.1.drop (split x.1.length).toNat)<len x.1:=by
 obtain⟨a1,a2,a3,a4,a5,a6⟩:=h;have hb:=gN (n:=x.1.length) w!;rw [I9 w! w!,Int.toNat_natCast];refine⟨w!,⟨pC a1 _,x!⟩,⟨zz a1 _,x!⟩,λd=>by grind,?_,?_⟩
 . grind[len,List.length_take]
 grind[len,List.length_drop]
theorem aA1{x:List B8×Int×List B8}(hp:l.length<=1099511627776)(h:gj l i x)(h2:1<(x.1.length:Int))(hj:x.2.1<split x.1.length):
  gj l i (x.1.take (split x.1.length).toNat,x.2.1,x.2.2++[root (x.1.drop (split x.1.length).toNat)]):=by
 have:=h.2.1;grind[I9,Int.toNat_natCast,aG2]
theorem aA2{x:List B8×Int×List B8}(hp:l.length<=1099511627776)(h:gj l i x)(h2:1<(x.1.length:Int))(hj:¬x.2.1<split x.1.length):
  gj l i (x.1.drop (split x.1.length).toNat,x.2.1-split x.1.length,x.2.2++[root (x.1.take (split x.1.length).toNat)]):=by
 have:=h.2.1;rw [I9 w! w!] at hj |-;exact aG3 h w! hj
theorem aA3{x:List B8×Int×List B8}(hp:l.length<=1099511627776)(h:gj l i x):small x.2.2:=by
 have:=h.2.2.2.2.2;grind[small]
theorem aqT {l:List B8}{x:List B8×Int×List B8}(h0:bQ l=true/\¬i<0/\¬(l.length:Int)<=i)(h:gj l i x)(h2:¬1<(x.1.length:Int)):OH x.2.2=rK l i/\0=BW l i:=by
 grind[aqS,aqR]
theorem ahx {l:List B8}(h:bQ l=true/\¬i<0/\¬(l.length:Int)<=i):gj l i (l,i,[]):=aG1 h.1 w! w!
theorem aY9 {l:List B8}(hp:aT0 l n)(h:¬n=(l.length:Int)):
  (0<=split l.length/\split l.length<=l.length/\ -9223372036854775808<=n-split l.length/\n-split l.length<=9223372036854775807)/\
  (nC (l.take (split l.length).toNat)/\nC (l.drop (split l.length).toNat)/\small (l.take (split l.length).toNat)/\small (l.drop (split l.length).toNat))/\
  (∀(p:Bool) (d:B8),(il (l.take (split l.length).toNat) n p).length+[d].length<=8796093022208)/\(∀(p:Bool) (d:B8),(il (l.drop (split l.length).toNat) (n-split l.length) p).length+[d].length<=8796093022208)/\
  (len (l.take (split l.length).toNat)<len l/\len (l.drop (split l.length).toNat)<len l)/\
  (n<=split l.length->aT0 (l.take (split l.length).toNat) n/\∀p,il (l.take (split l.length).toNat) n p++[root (l.drop (split l.length).toNat)]=il l n p)/\
  (¬n<=split l.length->aT0 (l.drop (split l.length).toNat) (n-split l.length)/\∀p,il (l.drop (split l.length).toNat) (n-split l.length) true++[root (l.take (split l.length).toNat)]=il l n p)/\
  (zp (l.take (split l.length).toNat)=root (l.take (split l.length).toNat)/\zp (l.drop (split l.length).toNat)=root (l.drop (split l.length).toNat)):=by
 obtain⟨⟨a1,a2⟩,a3,a4⟩:=hp;have hb:=gN (n:=l.length) w!;rw [I9 w! w!,Int.toNat_natCast];have l1:(l.take (sp l.length)).length=sp l.length:=by grind
 have l2:(l.drop (sp l.length)).length=l.length-sp l.length:=List.length_drop;have d1:=pC a1 (sp l.length);have d2:=zz a1 (sp l.length);refine⟨w!,⟨⟨d1,w!⟩,⟨d2,w!⟩,by grind[small],by grind[small]⟩,λp d=>?_,λp d=>?_,⟨by grind[len],by grind[len]⟩,λh1=>?_,λh1=>?_,by grind[zp]⟩
 . have:=(aYR 40 (l.take (sp l.length)) n p d1 w!).2;grind
 . have:=(aYR 40 (l.drop (sp l.length)) (n-((sp l.length:Nat):Int)) p d2 w!).2;grind
 . exact⟨⟨⟨d1,w!⟩,w!,w!⟩,λp=>(a0n w! w! h1).symm⟩
 . exact⟨⟨⟨d2,w!⟩,w!,w!⟩,λp=>(a0o w! w! h1).symm⟩
theorem a5L {l:List B8}(h:¬xe l=0\/m<0\/(l.length:Int)<m): []=afY l m/\1=aT1 l m:=by
 grind[bQ,xe,afY,aT1]
theorem a4q {l:List B8}(hp:l.length<=1099511627776)(h:xe l=0/\¬m<0/\¬(l.length:Int)<m):aT1 l m=0/\(m=0->afY l m=[])/\(¬m=0->aT0 l m/\il l m false=afY l m):=by
 have hd:bQ l=true:=by
  grind[bQ,xe]
 have q:bQ l=true/\0<=m/\m<=l.length:=⟨hd,w!,w!⟩;unfold afY aT1;rw [if_pos q,if_pos q];exact⟨rfl,λh=>if_pos h,λh=>⟨⟨⟨hd,hp⟩,w!,w!⟩,x!⟩⟩
abbrev Pf:=Int×B8×B8×B8×List B8×B8
def la(d:List cr)(t:B8):Pf:=
 (bt d t+1,(bj (l9 d (bt d t+1).toNat)).1.1,(bj (l9 d (bt d t+1).toNat)).1.2.1,(bj (l9 d (bt d t+1).toNat)).1.2.2,path (leaves (ie d)) (bt d t+1),if k9 d t then BF (qz d t) else [])
def X0:Pf:=(0,[],[],[],[],[])
def ij(d:List cr)(t:B8):Pf×Int:=if bg d&&isTerm t then(la d t,0) else(X0,1)
variable {t:B8}{p:List B8}
theorem abD(h:dE d≠0\/isTerm t=false):ij d t=(X0,1):=by
 grind[ij,dE,bg]
theorem OJ(h:bg d=true)(h1:isTerm t=true):ij d t=(la d t,0):=by
 grind[ij]
theorem X1(h:bg d=true):0<=bt d t+1/\bt d t+1<=d.length/\(ie d).length=d.length+1:=by
 have:=He (d:=d) (t:=t) d.length;unfold bt;grind[ie,iV]
theorem ahy(d:List cr)(h0:0<=i)(h:i<=d.length):(ie d).getD i.toNat []=l9 d i.toNat:=by
 grind[ie,iV]
theorem X2(hp:bn d)(hr:bg d=true)(t:B8):
  (0<=bt d t+1/\bt d t+1<=1048576/\bt d t+1<(bU d).length/\(bt d t+1).toNat<(bU d).length)/\((bU d).getD (bt d t+1).toNat []).length<=140737488355328/\l8 (bU d)/\dM (leaves (bU d))/\ahw (leaves (bU d)) (bt d t+1)/\
  (bU d).getD (bt d t+1).toNat []=l9 d (bt d t+1).toNat/\rK (leaves (bU d)) (bt d t+1)=path (leaves (ie d)) (bt d t+1)/\bU d=ie d:=by
 obtain⟨f1,f2,f3⟩:=X1 (t:=t) hr;have e:bU d=ie d:=by grind[bU]
 have hl:=hp.1;have hlen:(leaves (ie d)).length=d.length+1:=by grind[leaves]
 have ha:=ahy d f1 f2;rw [e];refine⟨w!,?_,(pz hp hr).1,by grind[dM],⟨(pz hp hr).2,f1,w!⟩,ha,?_,rfl⟩
 . rcases Hc hr (k:=(bt d t+1).toNat) with q|q
   . grind[EW,l9]
   omega
 . have q:bQ (leaves (ie d))=true/\0<=bt d t+1/\bt d t+1<(leaves (ie d)).length:=⟨(pz hp hr).2.1,f1,w!⟩;simp_all[rK,M!]
theorem aA4(hp:bn d)(hr:bg d=true)(t:B8):
  la d t=(bt d t+1,(bj ((bU d).getD (bt d t+1).toNat [])).1.1,(bj ((bU d).getD (bt d t+1).toNat [])).1.2.1,(bj ((bU d).getD (bt d t+1).toNat [])).1.2.2,rK (leaves (bU d)) (bt d t+1),if k9 d t then qw (qz d t) else []):=by
 have q:=X2 hp hr t;rw [q.2.2.2.2.2.1,q.2.2.2.2.2.2.1];unfold la;congr 5
 split
 . have :bK (qz d t)=true:=by
    unfold qz;rename_i h1;rw [if_pos h1];have hb:=LN h1;exact(ye hr (i:=(bt d t).toNat) w!).2
   unfold qw;rw [this];rfl
 . rfl
abbrev dC:=Int×B8
def jY(l:List dC)(i:Nat):dC:=l.getD i (0,[])
def nW(l:List dC):Nat->Int
 |0=>0
 |k+1=>nW l k+if(jY l k).1=0 then 1 else 0
def gw(l:List dC)(k:Nat):Int:=2*nW l k-k
def uS(l:List dC)(i:Nat):Bool:=
 if(jY l i).1=0 then isTerm (jY l i).2 else(decide (1<=(jY l i).1)&&decide ((jY l i).1<=3))&&(decide ((jY l i).2=[])&&decide (2<=gw l i))
def bw(l:List dC):Bool:=(List.range l.length).all (uS l)&&(decide (gw l l.length=1)&&decide (nW l l.length<=16))
def oF(l:List dC)(k:Nat):Prop:=k<=l.length/\l.length<=1099511627776/\∀i,i<k->uS l i=true
def bS(l:List dC)(k:Nat):List B8:=((l.take k).filter λo=>decide (o.1=0)).map (·.2)
def qC(l:List dC):List B8:=bS l l.length
def ax(l:List dC):List B8:=sorted (qC l)
theorem xk(l:List dC):∀k,0<=nW l k/\nW l k<=k
 |0=>by simp [nW]
 |k+1=>by have:=xk l k;grind[nW]
variable {l q:List dC}
theorem UI{k:Nat}(h:(jY l k).1=0):nW l (k+1)=nW l k+1:=by simp_all[nW,M!]
theorem OK{k:Nat}(h:¬(jY l k).1=0):nW l (k+1)=nW l k:=by simp_all[nW,J!]
theorem X3{k:Nat}(h:(jY l k).1=0):gw l (k+1)=gw l k+1:=by grind[gw,UI]
theorem LS{k:Nat}(h:¬(jY l k).1=0):gw l (k+1)=gw l k-1:=by grind[gw,OK]
theorem aG4(h:small l):oF l 0:=⟨U! _,h,λi hi=>by omega⟩
theorem X4{k:Nat}(h:oF l k)(hk:(k:Int)<l.length)(h1:uS l k=true):oF l (k+1):=by
 refine⟨w!,h.2.1,λi hi=>?_⟩;by_cases he:i=k
 . grind
 . exact h.2.2 i w!
theorem abE{k:Nat}(hk:(k:Int)<l.length)(h:uS l k=false):false=bw l:=by
 grind[List.range,uS,bw]
theorem aqU{k:Nat}(h:oF l k)(hk:¬(k:Int)<l.length):(decide (gw l k=1)&&decide (nW l k<=16))=bw l:=by
 have e:k=l.length:=by have:=h.1;omega
 subst e;have :(List.range l.length).all (uS l)=true:=List.all_eq_true.2 λi hi=>h.2.2 i (List.mem_range.1 hi);grind[bw]
theorem OL{k:Nat}(h:(jY l k).1=0):uS l k=isTerm (jY l k).2:=by simp_all[uS,M!]
theorem alC {l:List dC}{k:Nat}(h:¬(jY l k).1=0)(h1:1<=(jY l k).1)(h2:(jY l k).1<=3)(h3:(jY l k).2=[])(h4:2<=gw l k):uS l k=true:=by
 simp_all[uS,J!]
theorem aqV {l:List dC}{k:Nat}(h:¬(jY l k).1=0)(h1:¬1<=(jY l k).1\/¬(jY l k).1<=3\/¬(jY l k).2=[]\/¬2<=gw l k):uS l k=false:=by
 grind[uS]
theorem abF{k:Nat}(hk:(k:Int)<l.length)(h:(jY l k).1=0):bS l k++[(jY l k).2]=bS l (k+1):=by
 unfold bS;rw [aD l k (0,[]) w!,List.filter_append,List.map_append];have :(List.filter (λo:dC=>decide (o.1=0)) [l.getD k (0,[])])=[jY l k]:=by grind[jY]
 grind
theorem alD{k:Nat}(hk:(k:Int)<l.length)(h:¬(jY l k).1=0):bS l k=bS l (k+1):=by
 unfold bS;rw [aD l k (0,[]) w!,List.filter_append,List.map_append];have :(List.filter (λo:dC=>decide (o.1=0)) [l.getD k (0,[])])=[]:=by grind[jY]
 grind
theorem aqW{k:Nat}(h:k<=l.length)(hk:¬(k:Int)<l.length):bS l k=qC l:=by
 grind[qC]
theorem alE(l:List dC):∀k,k<=l.length->((bS l k).length:Int)=nW l k
 |0,_=>by rfl
 |k+1,hk=>by
  have ih:=alE l k w!;by_cases h:(jY l k).1=0
  . rw [<-abF w! h,UI h,K!,<-ih];simp
  . rw [<-alD w! h,OK h,ih]
theorem abG:bw l=true↔(∀i,i<l.length->uS l i=true)/\gw l l.length=1/\nW l l.length<=16:=by
 simp_all[bw,B!,Z!,f?,H!]
theorem pS(h:bw l=true):(ax l).length<=16:=by
 obtain⟨_,_,h3⟩:=abG.1 h;have:=rG (qC l);have e:=alE l l.length (Nat.le_refl _);grind[ax,qC]
theorem X5(h:bw l=true):∀t∈ax l,isTerm t=true:=by
 obtain⟨h1,_,_⟩:=abG.1 h;intro t ht;have:=(jk (qC l) t).1 ht;simp only [qC,bS,List.mem_map,List.mem_filter,decide_eq_true_eq,List.take_length] at this;obtain⟨o,⟨ho,h0⟩,rfl⟩:=this;obtain⟨i,hi,rfl⟩:=List.mem_iff_getElem.1 ho;grind[jY,OL]
theorem alF {l:List dC}{k:Nat}(h:oF l k)(hk:(k:Int)<l.length)(h0:(l.getD k (0,[])).1=0)(ht:isTerm (l.getD (Int.toNat (k:Int)) (0,[])).2=true):oF l (k+1):=
 X4 h hk (by rw [OL h0];rwa [X!] at ht)
theorem alG {l:List dC}{k:Nat}(hk:(k:Int)<l.length)(h0:(l.getD k (0,[])).1=0)(ht:isTerm (l.getD (Int.toNat (k:Int)) (0,[])).2=false):false=bw l:=
 abE hk (by rw [OL h0];rwa [X!] at ht)
theorem OM {l:List dC}{k:Nat}(h:oF l k)(hk:(k:Int)<l.length)(h0:¬(l.getD k (0,[])).1=0)(h1:1<=(l.getD k (0,[])).1/\(l.getD k (0,[])).1<=3)(h2:(l.getD k (0,[])).2=[]/\¬gw l k<2):oF l (k+1):=
 X4 h hk (alC h0 h1.1 h1.2 h2.1 w!)
theorem Hq {l:List dC}{k:Nat}(hk:(k:Int)<l.length)(h0:¬(l.getD k (0,[])).1=0)(h:¬(1<=(l.getD k (0,[])).1/\(l.getD k (0,[])).1<=3)\/¬(l.getD k (0,[])).2=[]\/gw l k<2):false=bw l:=
 abE hk (aqV h0 (by
  grind[jY]))
theorem aqX{k:Nat}(h:oF l k)(hk:¬(k:Int)<l.length):(bif decide (gw l k=1) then decide (nW l k<=16) else false)=bw l:=by
 grind[aqU]
theorem aG5(l:List dC): []=bS l 0:=rfl
theorem alH{k:Nat}(hk:(k:Int)<l.length)(h:(l.getD k (0,[])).1=0):bS l k++[(l.getD (Int.toNat (k:Int)) (0,[])).2]=bS l (k+1):=by exact abF hk h
theorem alI{k:Nat}(hp:l.length<=1099511627776)(h:gX l k)(s:B8):(bS l k).length+[s].length<=8796093022208/\small (bS l k)/\small (fm (bS l k))/\small (bW (fm (bS l k))):=by
 grind[Î,bS,rG,N9,gX,List.length_singleton,small]
theorem aqY{k:Nat}(h:gX l k)(hk:¬(k:Int)<l.length):bW (fm (bS l k))=ax l/\sorted (bS l k)=ax l:=by
 have:=aqW h hk;rw [N9,this];exact⟨rfl,rfl⟩
def zA:B8:=[104,97,121]
abbrev El:=Int×Int×B8
def kE1:List El:=[(-1,0,zA)]
def kE:List El:=[(-1,0,zA),(-2,3,[])]
def fy:List dC:=[(0,zA)]
def hdT(l:List B8):B8:=l.getD 0 []
def tD(k:Nat):Int:=if k=0 then -1 else 0
def vw(l:List El)(n:Int):El:=l.getD n.toNat (0,0,[])
def fV(l:List dC):Prop:=small l/\∀o∈l,small o.2
theorem aA5(h:fV l)(k:Nat):small (jY l k).2:=by
 by_cases hk:k<l.length
 . exact h.2 _ (bC l k _ hk)
 . unfold jY;rw [List.getD_eq_getElem?_getD,List.getElem?_eq_none w!];exact Nat.zero_le _
theorem ym {x:Nat}(h:(x:Int)<(([104,97,121]:List Int).length:Int)):x=0\/x=1\/x=2:=by
 grind
theorem ge3 {x:Nat}(h2:cc x 3)(h:¬(x:Int)<(([104,97,121]:List Int).length:Int)):x=3:=by
 grind[cc]
abbrev Wp:=B8×Bool
def lO(v:Int):Wp:=if fT v then([],true) else(num v,false)
def ik(b:B8)(cd:Int):Wp:=if cd<b.length then([],true) else(text b,false)
def ajd(n:Int)(g:B8)(l:List Sg):Wp:=if bN n g l then ik (hB n g l) 10000 else([],true)
def KJ(d:B8):Bool:=decide ((d.length:Int)=32)
def kO(p:List B8):Wp:=if 64<(p.length:Int) then([],true) else(num p.length++(p.takeWhile KJ).flatten,!bQ p)
def aL4(p:List B8)(k:Nat):B8:=num p.length++(p.take k).flatten
def mA(p:List B8)(k:Nat):Prop:=p.length<=64/\k<=p.length/\∀d∈p.take k,(d.length:Int)=32
def cat(a b:Wp):Wp:=(a.1++b.1,a.2 || b.2)
def ku(p:Pf):Wp:=
 if fU p.2.1 p.2.2.1 p.2.2.2.1 then cat (cat (cat (lO p.1) (ik (qy p.2.1 p.2.2.1 p.2.2.2.1) 200)) (kO p.2.2.2.2.1)) (ik p.2.2.2.2.2 4000)
 else((lO p.1).1,true)
def pfD(l:List Pf)(i:Nat):Pf:=l.getD i X0
def ON(l:List Pf):Nat->Wp
 |0=>(num l.length,false)
 |k+1=>cat (ON l k) (ku (pfD l k))
def iE(l:List (List Pf))(i:Nat):List Pf:=l.getD i []
def cY(n:Int)(g:B8)(s:List Sg)(l:List (List Pf)):Nat->Wp
 |0=>cat ([1],false) (ajd n g s)
 |k+1=>cat (cY n g s l k) (ON (iE l k) (iE l k).length)
def wy(w:Wp):B8:=if w.2 then [] else if 1048576<(w.1.length:Int) then [] else w.1
def wz(w:Wp):Int:=if w.2 then 1 else if 1048576<(w.1.length:Int) then 3 else 0
def UJ(l:List (List Pf)):Bool:=l.all λx=>decide ((x.length:Int)<=16)
def kv(n:Int)(g:B8)(s:List Sg)(l:List (List Pf)):B8×Int:=
 if(l.length:Int)≠s.length\/UJ l=false then([],1) else(wy (cY n g s l l.length),wz (cY n g s l l.length))
def a0s(n:Int)(g:B8)(s:List Sg)(a:Int)(d:B8)(p:List B8):Wp:=
 cat (cat (cat (cat ([2],false) (ajd n g s)) (lO a)) (ik d 2000)) (kO p)
def aZr(n:Int)(g:B8)(s:List Sg)(a:Int)(d:B8)(p:List B8):B8×Int:=(wy (a0s n g s a d p),wz (a0s n g s a d p))
def a0t(n:Int)(g:B8)(s:List Sg)(n':Int)(g':B8)(s':List Sg)(p:List B8):Wp:=
 cat (cat (cat ([3],false) (ajd n g s)) (ajd n' g' s')) (kO p)
def aZj(n:Int)(g:B8)(s:List Sg)(n':Int)(g':B8)(s':List Sg)(p:List B8):B8×Int:=(wy (a0t n g s n' g' s' p),wz (a0t n g s n' g' s' p))
def ahO(p:List B8):B8:=num p.length++p.flatten
def alJ(n:Int)(g:B8)(s:List Sg):B8:=text (hB n g s)
def aYZ(n:Int)(g:B8)(s:List Sg)(a:Int)(d:B8)(p:List B8):B8:=[2]++alJ n g s++num a++text d++ahO p
def aZd(n:Int)(g:B8)(s:List Sg)(n':Int)(g':B8)(s':List Sg)(p:List B8):B8:=[3]++alJ n g s++alJ n' g' s'++ahO p
def X6(p:Pf):Bool:= !fT p.1&&(fU p.2.1 p.2.2.1 p.2.2.2.1&&(decide ((p.2.2.2.2.1.length:Int)<=64)&&(bQ p.2.2.2.2.1&&decide ((p.2.2.2.2.2.length:Int)<=4000))))
abbrev Rs:=Int×Int
def cC(b:B8)(a e:Int):Rs×Hd:=
 if(an b a e 10000).1.2.2≠0 then((an b a e 10000).1.2,(0,[],[]))
 else(((an b a e 10000).1.2.1,(hR (an b a e 10000).2).2),(hR (an b a e 10000).2).1)
def kQ(b:B8)(a e:Int):Rs×Lk:=
 if(an b a e 200).1.2.2≠0 then((an b a e 200).1.2,([],[],[]))
 else(((an b a e 200).1.2.1,(bj (an b a e 200).2).2),(bj (an b a e 200).2).1)
def dh(b:B8)(a e cd:Int):Rs×Int:=
 if cd<(af b a e).2 then(((af b a e).1.2.1,2),0) else((af b a e).1.2,(af b a e).2)
def rL(b:B8)(a e:Int):Nat->Rs×List B8
 |0=>((a,e),[])
 |k+1=>((ar b (rL b a e k).1.1 (rL b a e k).1.2).1.2,(rL b a e k).2++[(ar b (rL b a e k).1.1 (rL b a e k).1.2).2])
def pg(b:B8)(a e:Int):Nat:=(dh b a e 64).2.toNat
def dB(b:B8)(a e:Int)(k:Nat):Rs×List B8:=rL b (dh b a e 64).1.1 (dh b a e 64).1.2 k
def iK(b:B8)(a e:Int):Rs×List B8:=dB b a e (pg b a e)
def q1(b:B8)(a e:Int):Rs×Int:=((af b a e).1.2,(af b a e).2)
def q2(b:B8)(a e:Int):Rs×Lk:=kQ b (q1 b a e).1.1 (q1 b a e).1.2
def q3(b:B8)(a e:Int):Rs×List B8:=iK b (q2 b a e).1.1 (q2 b a e).1.2
def q4(b:B8)(a e:Int):Rs×B8:=((an b (q3 b a e).1.1 (q3 b a e).1.2 4000).1.2,(an b (q3 b a e).1.1 (q3 b a e).1.2 4000).2)
def iF(b:B8)(a e:Int):Rs×Pf:=((q4 b a e).1,((q1 b a e).2,(q2 b a e).2.1,(q2 b a e).2.2.1,(q2 b a e).2.2.2,(q3 b a e).2,(q4 b a e).2))
def D9(b:B8)(a e:Int):Nat->Rs×List Pf
 |0=>((a,e),[])
 |k+1=>((iF b (D9 b a e k).1.1 (D9 b a e k).1.2).1,(D9 b a e k).2++[(iF b (D9 b a e k).1.1 (D9 b a e k).1.2).2])
def ò(b:B8)(a e:Int):Nat:=(dh b a e 16).2.toNat
def abH(b:B8)(a e:Int)(k:Nat):Rs×List Pf:=D9 b (dh b a e 16).1.1 (dh b a e 16).1.2 k
def ayK(b:B8)(a e:Int):Rs×List Pf:=abH b a e (ò b a e)
def sL(b:B8)(a e:Int):Nat->Rs×List (List Pf)
 |0=>((a,e),[])
 |k+1=>((ayK b (sL b a e k).1.1 (sL b a e k).1.2).1,(sL b a e k).2++[(ayK b (sL b a e k).1.1 (sL b a e k).1.2).2])
def dY(b:B8)(kind:UInt8):Int:=if 1048576<(b.length:Int) then 3 else if b.length=0 then 4 else if b.getD 0 0=kind then 0 else 2
def aH(b:B8):Rs×Hd:=cC b 1 0
def js(b:B8)(k:Nat):Rs×List (List Pf):=sL b (aH b).1.1 (aH b).1.2 k
def aN(b:B8):Nat:=(aH b).2.2.2.length
def bp(b:B8):(Int×B8×List Sg×List (List Pf))×Int:=
 if dY b 1≠0 then((0,[],[],[]),dY b 1)
 else if done b (js b (aN b)).1.1 (js b (aN b)).1.2≠0 then((0,[],[],[]),done b (js b (aN b)).1.1 (js b (aN b)).1.2)
 else(((aH b).2.1,(aH b).2.2.1,(aH b).2.2.2,(js b (aN b)).2),0)
def Ja(b:B8):Rs×Hd:=cC b 1 0
def X7(b:B8):Rs×Int:=q1 b (Ja b).1.1 (Ja b).1.2
def pg3(b:B8):Rs×B8:=((an b (X7 b).1.1 (X7 b).1.2 2000).1.2,(an b (X7 b).1.1 (X7 b).1.2 2000).2)
def uU(b:B8):Rs×List B8:=iK b (pg3 b).1.1 (pg3 b).1.2
def ak(b:B8):(Int×B8×List Sg×Int×B8×List B8)×Int:=
 if dY b 2≠0 then((0,[],[],0,[],[]),dY b 2)
 else if done b (uU b).1.1 (uU b).1.2≠0 then((0,[],[],0,[],[]),done b (uU b).1.1 (uU b).1.2)
 else(((Ja b).2.1,(Ja b).2.2.1,(Ja b).2.2.2,(X7 b).2,(pg3 b).2,(uU b).2),0)
def st1(b:B8):Rs×Hd:=cC b 1 0
def st2(b:B8):Rs×Hd:=cC b (st1 b).1.1 (st1 b).1.2
def uV(b:B8):Rs×List B8:=iK b (st2 b).1.1 (st2 b).1.2
def ah(b:B8):(Int×B8×List Sg×Int×B8×List Sg×List B8)×Int:=
 if dY b 3≠0 then((0,[],[],0,[],[],[]),dY b 3)
 else if done b (uV b).1.1 (uV b).1.2≠0 then((0,[],[],0,[],[],[]),done b (uV b).1.1 (uV b).1.2)
 else(((st1 b).2.1,(st1 b).2.2.1,(st1 b).2.2.2,(st2 b).2.1,(st2 b).2.2.1,(st2 b).2.2.2,(uV b).2),0)
theorem aLi(h:fT v=false):af (P++(num v++R)) P.length 0=((P++(num v++R),(P.length:Int)+(num v).length,0),v):=by
 simp [fT,Bool.or_eq_false_iff,decide_eq_false_iff_not] at h;grind[Int.toNat_natCast,List.drop_left,C3,E3,List.length_append,Int.natCast_add]
theorem aJK {d:B8}(h:(d.length:Int)<=m)(hm:m<=1048576):an (P++(text d++R)) P.length 0 m=((P++(text d++R),(P.length:Int)+(text d).length,0),d):=by
 have hd:(P++(text d++R)).drop ((P.length:Nat):Int).toNat=text d++R:=by rw [X!,List.drop_left]
 have e:text d++R=num (d.length:Int)++(d++R):=by simp [text]
 have hf:=C3 (v:=(d.length:Int)) w! w! (d++R)
 have hT:aq (text d++R) m=(d,((text d).length:Int),0):=by
  unfold aq;rw [e,hf,if_neg z!,if_neg w!,if_neg (by simp;omega)];simp [text]
 unfold an;rw [zr w! (by simp;omega),uK w! (by simp;omega),hd,hT];simp
theorem aO1 {d:B8}(h:(d.length:Int)=32):ar (P++(d++R)) P.length 0=((P++(d++R),(P.length:Int)+d.length,0),d):=by
 rw [ë w! (by simp;omega),X!,List.drop_left];have :(d++R).take 32=d:=by rw [show 32=d.length by omega,List.take_left]
 rw [this,h]
theorem aJt:∀(l:List Sg),(∀i,i<l.length->jH (sg l i).1 (sg l i).2.1 (sg l i).2.2.1 (sg l i).2.2.2=true)->(jl l).length<=50*l.length
 |[],_=>by simp [jl]
 |s::l,h=>by
  have h0:=I5 (h 0 z!);have ih:=aJt l λi hi=>by have:=h (i+1) (by simp;omega);simpa [sg] using this
  have e:jl (s::l)=E2 s++jl l:=rfl;rw [e,K!,O?];have hs:s.2.2.2.length=32:=h0.2.2.2.2.2;have n1:=cX s.2.1;have n2:=cX s.2.2.1;simp [E2,K!];omega
variable {l:List Sg}
theorem aKu(h:bN n g l=true):((hB n g l).length:Int)<=4000:=by
 grind[jm,rJ,aJt,cX,hB,List.length_append]
theorem aFZ {b:B8}(h:(b.length:Int)<=m):ik b m=(text b,false):=by simp_all[ik,J!]
theorem aNP(h:fT v=false):lO v=(num v,false):=by grind[lO]
theorem aMz(h:bN n g l=true):ajd n g l=(alJ n g l,false):=by
 have:=aKu h;unfold ajd alJ;rw [if_pos h,aFZ w!]
theorem aqZ(h:bQ p=true):p.takeWhile KJ=p:=by
 induction p with
 |nil=>rfl
 |cons a l ih=>
  simp_all[bQ,List.all_cons,B!,List.takeWhile_cons_of_pos,KJ]
theorem aMA {p:List B8}(h:(p.length:Int)<=64)(h1:bQ p=true):kO p=(ahO p,false):=by
 simp_all[kO,ahO,J!,aqZ]
theorem Sq {p:Pf}:X6 p=true↔fT p.1=false/\fU p.2.1 p.2.2.1 p.2.2.2.1=true/\(p.2.2.2.2.1.length:Int)<=64/\bQ p.2.2.2.2.1=true/\(p.2.2.2.2.2.length:Int)<=4000:=by
 simp_all[X6,B!,M?,H!]
theorem aMB(h:bN n g s=true):
  cC (P++(alJ n g s++R)) P.length 0=(((P.length:Int)+(alJ n g s).length,0),(n,g,s)):=by
 have:=aKu h;unfold cC alJ;rw [aJK w! (by decide),if_neg z!,é h]
theorem aHD(h:0<=v)(h1:v<=m)(hm:m<=64):
  dh (P++(num v++R)) P.length 0 m=(((P.length:Int)+(num v).length,0),v):=by
 unfold dh;rw [aLi (by grind[fT]),if_neg w!]
theorem aJv {P R:B8}{p:List B8}(h:bQ p=true):∀k,k<=p.length->
  rL (P++(p.flatten++R)) P.length 0 k=(((P.length:Int)+((p.take k).flatten).length,0),p.take k)
 |0,_=>by rfl
 |k+1,hk=>by
  have hd:((p.getD k []).length:Int)=32:=by grind[eA,bC]
  have e:P++(p.flatten++R)=(P++(p.take k).flatten)++(p.getD k []++((p.drop (k+1)).flatten++R)):=by
   have :p.flatten=(p.take k).flatten++(p.getD k []++(p.drop (k+1)).flatten):=by
    conv=>lhs;rw [<-V? (k+1) p,aD p k [] w!]
    simp
   grind
  simp only [rL];rw [aJv h k w!];have:=aO1 (P:=P++(p.take k).flatten) (R:=(p.drop (k+1)).flatten++R) hd;rw [<-e,K!,Int.natCast_add] at this;rw [this,aD p k [] w!];simp [Int.add_assoc]
theorem aMD{p:List B8}(h:(p.length:Int)<=64)(h1:bQ p=true):
  iK (P++(ahO p++R)) P.length 0=(((P.length:Int)+(ahO p).length,0),p):=by
 have e:P++(ahO p++R)=P++(num p.length++(p.flatten++R)):=by simp [ahO]
 have hc:=aHD (P:=P) (R:=p.flatten++R) (v:=(p.length:Int)) (m:=64) w! h (by decide);rw [<-e] at hc;unfold iK dB pg;rw [hc];simp;have hd:=aJv (P:=P++num p.length) (R:=R) h1 p.length (Nat.le_refl _);rw [show P++num p.length++(p.flatten++R)=P++(ahO p++R) by simp [ahO],List.length_append,Int.natCast_add] at hd;rw [hd,List.take_length];simp [ahO,Int.add_assoc]
theorem aNR(h:a=b.length):done b a 0=0:=by
 simp_all[Xv,J!]
theorem a2n {n:Int}{g:B8}{s:List Sg}{a:Int}{d:B8}{p:List B8}(hr:bN n g s=true)(ha:fT a=false)(hd:(d.length:Int)<=2000)(h3:(p.length:Int)<=64)(h4:bQ p=true)(hb:((aYZ n g s a d p).length:Int)<=1048576):
  ak (aYZ n g s a d p)=((n,g,s,a,d,p),0):=by
 have e:aYZ n g s a d p=[2]++(alJ n g s++(num a++(text d++(ahO p++[])))):=by simp [aYZ]
 generalize aYZ n g s a d p=b at *;have hg:dY b 2=0:=by unfold dY;rw [if_neg w!,if_neg (by rw [e];simp),if_pos (by rw [e];rfl)]
 have h1:Ja b=((1+((alJ n g s).length:Int),0),(n,g,s)):=by
  rw [e];exact aMB (P:=[2]) hr
 have h2:X7 b=((1+((alJ n g s).length:Int)+(num a).length,0),a):=by
  unfold X7 q1;rw [h1];have:=aLi (P:=[2]++alJ n g s) (R:=text d++(ahO p++[])) ha;rw [show [2]++alJ n g s++(num a++(text d++(ahO p++[])))=b by rw [e];simp,List.length_append,Int.natCast_add] at this;simp at this;simp only [this]
 have h3':pg3 b=((1+((alJ n g s).length:Int)+(num a).length+(text d).length,0),d):=by
  unfold pg3;rw [h2];have:=aJK (P:=[2]++alJ n g s++num a) (R:=ahO p++[]) hd (by decide);rw [show [2]++alJ n g s++num a++(text d++(ahO p++[]))=b by rw [e];simp,List.length_append,List.length_append,Int.natCast_add,Int.natCast_add] at this;simp at this;simp only [this]
 have h4':uU b=((1+((alJ n g s).length:Int)+(num a).length+(text d).length+(ahO p).length,0),p):=by
  unfold uU;rw [h3'];have:=aMD (P:=[2]++alJ n g s++num a++text d) (R:=[]) h3 h4;rw [show [2]++alJ n g s++num a++text d++(ahO p++[])=b by rw [e];simp,List.length_append,List.length_append,List.length_append,Int.natCast_add,Int.natCast_add,Int.natCast_add] at this;exact this
 have hlen:(b.length:Int)=1+((alJ n g s).length:Int)+(num a).length+(text d).length+(ahO p).length:=by rw [e];simp;omega
 unfold ak;rw [if_neg w!,h4',aNR hlen.symm,if_neg (by decide),h1,h2,h3']
theorem a2o {n n':Int}{g g':B8}{s s':List Sg}{p:List B8}(hr:bN n g s=true)(p9:bN n' g' s'=true)(h3:(p.length:Int)<=64)(h4:bQ p=true)(hb:((aZd n g s n' g' s' p).length:Int)<=1048576):
  ah (aZd n g s n' g' s' p)=((n,g,s,n',g',s',p),0):=by
 have e:aZd n g s n' g' s' p=[3]++(alJ n g s++(alJ n' g' s'++(ahO p++[]))):=by simp [aZd]
 generalize aZd n g s n' g' s' p=b at *;have hg:dY b 3=0:=by unfold dY;rw [if_neg w!,if_neg (by rw [e];simp),if_pos (by rw [e];rfl)]
 have h1:st1 b=((1+((alJ n g s).length:Int),0),(n,g,s)):=by
  rw [e];exact aMB (P:=[3]) hr
 have h2:st2 b=((1+((alJ n g s).length:Int)+(alJ n' g' s').length,0),(n',g',s')):=by
  unfold st2;rw [h1];have:=aMB (P:=[3]++alJ n g s) (R:=ahO p++[]) p9;rw [show [3]++alJ n g s++(alJ n' g' s'++(ahO p++[]))=b by rw [e];simp,List.length_append,Int.natCast_add] at this;exact this
 have h3':uV b=((1+((alJ n g s).length:Int)+(alJ n' g' s').length+(ahO p).length,0),p):=by
  unfold uV;rw [h2];have:=aMD (P:=[3]++alJ n g s++alJ n' g' s') (R:=[]) h3 h4;rw [show [3]++alJ n g s++alJ n' g' s'++(ahO p++[])=b by rw [e];simp,List.length_append,List.length_append,Int.natCast_add,Int.natCast_add] at this;exact this
 have hlen:(b.length:Int)=1+((alJ n g s).length:Int)+(alJ n' g' s').length+(ahO p).length:=by rw [e];simp;omega
 unfold ah;rw [if_neg w!,h3',aNR hlen.symm,if_neg (by decide),h1,h2]
def rM(d:Bool)(w:Wp):Bool:=d || w.2
def bytesOf(w:Wp):B8:=w.1
def iG(w:Wp):Bool:=w.2
def qD(l:List (List Pf)):Prop:=l.length<=1000/\∀x∈l,∀p∈x,p.2.2.2.2.2.length<=1099511627776
def dN(n:Int)(g:B8)(s:List Sg)(l:List (List Pf))(k j:Nat):Wp:=cat (cY n g s l k) (ON (iE l k) j)
def kz(s:List Sg)(l:List (List Pf))(k:Nat):Prop:=k<=l.length/\l.length=s.length/\qD l/\∀i,i<k->(iE l i).length<=16
def iH(s:List Sg)(l:List (List Pf))(k j:Nat):Prop:=kz s l k/\k<l.length/\(iE l k).length<=16/\j<=(iE l k).length
def BX(b:B8)(k j:Nat):Rs×List Pf:=abH b (js b k).1.1 (js b k).1.2 j
def qE(b:B8)(k:Nat):Nat:=ò b (js b k).1.1 (js b k).1.2
def a2p(p:List B8):Prop:=p.length<=64/\bQ p=true
theorem alK(s:B8):(text s).length<=s.length+9:=by
 grind[cX,text,List.length_append]
theorem C9(b:B8)(hm:0<=m):((ik b m).1.length:Int)<=m+9:=by
 grind[ik,alK]
theorem X8(v:Int):(lO v).1.length<=9:=by
 grind[lO,cX]
theorem ahC(n:Int)(g:B8)(s:List Sg):(ajd n g s).1.length<=10009:=by
 unfold ajd;split
 . have:=C9 (hB n g s) (m:=10000) (by decide);omega
 grind
theorem abI:∀(p:List B8),(p.takeWhile KJ).flatten.length<=32*p.length
 |[]=>by simp
 |a::p=>by
  have:=abI p;by_cases h:KJ a=true
  . rw [List.takeWhile_cons_of_pos h,List.flatten_cons,K!,O?];have :(a.length:Int)=32:=of_decide_eq_true h;omega
  simp_all
theorem OO(p:List B8):(kO p).1.length<=2057:=by
 grind[kO,cX,abI,List.length_append]
theorem X9(p:Pf):(ku p).1.length<=7000:=by
 have h1:=X8 p.1;have h2:=C9 (qy p.2.1 p.2.2.1 p.2.2.2.1) (m:=200) (by decide);have h3:=OO p.2.2.2.2.1;have h4:=C9 p.2.2.2.2.2 (m:=4000) (by decide);grind[ku,cat,List.length_append]
theorem Jb(l:List Pf):∀k,(ON l k).1.length<=7000*k+9
 |0=>by grind[ON,cX]
 |k+1=>by
  have:=Jb l k;have:=X9 (pfD l k);simp [ON,cat,K!];omega
theorem Sr(n:Int)(g:B8)(s:List Sg)(l:List (List Pf)):∀k,(∀i,i<k->(iE l i).length<=16)->(cY n g s l k).1.length<=120000*k+20000
 |0,_=>by
  grind[ahC,cY,cat,List.length_append,List.length_singleton]
 |k+1,h=>by
  have:=Sr n g s l k λi hi=>h i w!;have:=Jb (iE l k) (iE l k).length;have:=h k w!;simp [cY,cat,K!];omega
theorem aG7(h:¬(64:Int)<p.length):mA p 0:=⟨w!,U! _,z!⟩
theorem aq0{k:Nat}(h:mA p k):(aL4 p k).length<=2057:=by
 obtain⟨h1,h2,h3⟩:=h
 have q:∀(l:List B8),(∀d∈l,(d.length:Int)=32)->l.flatten.length=32*l.length:=by
  intro l;induction l with
  |nil=>grind
  |cons a l ih=>
   grind
 grind[cX,List.length_take,aL4,List.length_append]
theorem Ya {p:List B8}{k:Nat}(h:mA p k)(hk:(k:Int)<p.length)(hd:((p.getD k []).length:Int)=32):mA p (k+1)/\aL4 p k++p.getD k []=aL4 p (k+1):=by
 have e:=aD p k [] w!;refine⟨⟨h.1,w!,?_⟩,?_⟩
 . rw [e];intro d hm;rcases F!.1 hm with q|q
   . exact h.2.2 d q
   grind
 grind[aL4]
theorem aq1:∀ {k:Nat},(∀d∈p.take k,(d.length:Int)=32)->k<p.length->¬((p.getD k []).length:Int)=32->p.takeWhile KJ=p.take k:=by
 induction p with
 |nil=>grind
 |cons a p ih=>
  intro k h hk hd;cases k with
  |zero=>simp_all[List.takeWhile_cons_of_neg,KJ,H!]
  |succ k=>
   have ha:=h a z!;rw [List.takeWhile_cons_of_pos (show KJ a=true from K? ha),List.take_succ_cons,ih (k:=k) (λd hd=>h d (by exact E! _ hd)) (by simpa using hk) hd]
theorem abJ {p:List B8}{k:Nat}(h:mA p k)(hk:(k:Int)<p.length)(hd:¬((p.getD k []).length:Int)=32):kO p=(aL4 p k,true):=by
 have hD:bQ p=false:=by
  grind[eA,bC]
 unfold kO aL4;rw [if_neg (by have:=h.1;omega),hD,aq1 h.2.2 w! hd];rfl
theorem abK{k:Nat}(h:mA p k)(hk:¬(k:Int)<p.length):kO p=(aL4 p k,false):=by
 have e:k=p.length:=by have:=h.2.1;omega
 have hD:bQ p=true:=(eA p).2 λd hd=>by have:=h.2.2 d x!;omega
 unfold kO aL4;rw [if_neg (by have:=h.1;omega),hD,aqZ hD,e,List.take_length];rfl
theorem alL(h:(64:Int)<p.length):kO p=([],true):=by simp_all[kO,M!]
theorem ayL{l:List (List Pf)}(hp:qD l)(h:(l.length:Int)=s.length):kz s l 0:=⟨U! _,w!,hp,λi hi=>by omega⟩
variable {l:List (List Pf)}
theorem alM{k:Nat}(h:kz s l k)(hk:(k:Int)<l.length)(h1:¬(16:Int)<(iE l k).length):iH s l k 0:=⟨h,w!,w!,U! _⟩
theorem Yb{k j:Nat}(h:iH s l k j)(hj:(j:Int)<(iE l k).length):iH s l k (j+1):=⟨h.1,h.2.1,h.2.2.1,w!⟩
theorem LU{k j:Nat}(h:iH s l k j)(hj:¬(j:Int)<(iE l k).length):kz s l (k+1)/\dN n g s l k j=cY n g s l (k+1):=by
 have e:j=(iE l k).length:=by have:=h.2.2.2;omega
 refine⟨⟨by have:=h.2.1;omega,h.1.2.1,h.1.2.2.1,λi hi=>?_⟩,by subst e;rfl⟩;by_cases q:i=k
 . subst q;exact h.2.2.1
 . exact h.1.2.2.2 i w!
theorem alN{l:List (List Pf)}(h:¬(l.length:Int)=s.length):kv n g s l=([],1):=by simp_all[kv,M!]
theorem LV{k:Nat}(hk:(k:Int)<l.length)(h:(16:Int)<(iE l k).length):kv n g s l=([],1):=by
 have :UJ l=false:=by
  rw [<-Bool.not_eq_true];intro q;have:=of_decide_eq_true (List.all_eq_true.1 q _ (bC l k [] w!));grind[iE]
 simp_all[kv,M!]
theorem LW{k:Nat}(h:kz s l k)(hk:¬(k:Int)<l.length):kv n g s l=(wy (cY n g s l k),wz (cY n g s l k)):=by
 have e:k=l.length:=by have:=h.1;omega
 subst e
 have :UJ l=true:=Z!.2 λx hx=>by
  obtain⟨i,hi,rfl⟩:=List.mem_iff_getElem.1 hx;have:=h.2.2.2 i hi;have e:iE l i=l[i]:=by simp [iE,G!,hi]
  rw [e] at this;exact K? w!
 unfold kv;rw [if_neg (by rw [this,h.2.1];simp)]
theorem Yc{k j:Nat}(h:iH s l k j)(hj:(j:Int)<(iE l k).length):(pfD (iE l k) j).2.2.2.2.2.length<=1099511627776:=
 h.1.2.2.1.2 _ (bC l k [] h.2.1) _ (bC (iE l k) j X0 w!)
theorem UK{k:Nat}(h:kz s l k):(cY n g s l k).1.length<=130000000:=by
 have:=Sr n g s l k h.2.2.2;have:=h.1;have:=h.2.2.1.1;omega
theorem Yd{k:Nat}(h:iH s l k j):(dN n g s l k j).1.length<=140000000:=by
 have:=UK (n:=n) (g:=g) h.1;have:=Jb (iE l k) j;have:=h.2.2.1;have:=h.2.2.2
 grind[dN,cat,List.length_append]
theorem aq2(v:Int):(mn [] v).length<=9:=by
 grind[mn,cX]
theorem aG8(v:Int):mn [] v=(lO v).1:=by grind[mn,lO]
theorem aG9(v:Int)(d:Bool):(bif !decide (xV v=0) then true else d)=rM d (lO v):=by
 grind[xV,lO,rM,fT]
theorem LX {n:Nat}(h:n<=1000):lO (n:Int)=(num (n:Int),false):=by
 grind[lO,OD]
theorem abL(h:m<b.length):ik b m=([],true):=by simp_all[ik,M!]
theorem alO(h:¬m<b.length):ik b m=(text b,false):=by simp_all[ik,J!]
theorem alP(h:¬(hW n g s).2=0):ajd n g s=([],true):=by
 grind[bN,LQ,ajd]
theorem aq3(h:(hW n g s).2=0):ajd n g s=ik (hW n g s).1 10000/\(hW n g s).1.length<=100000:=by
 simp_all[aly,ajd,M!,abA]
theorem aq4(a b c:B8):(fW a b c).length<=200:=by
 grind[fW,EW]
theorem aA6 {a c:B8}(h:¬kM a b c=0):fU a b c=false:=by
 grind[fU,kM]
theorem aq5 {a c:B8}(h:kM a b c=0):fU a b c=true/\fW a b c=qy a b c:=by
 cases q:fU a b c with
 |true=>exact⟨rfl,by grind[fW]⟩
 |false=>grind[kM]
theorem abM{p2 p3 p4:B8}(h:¬kM p2 p3 p4=0):ku (p1,p2,p3,p4,p5,p6)=((lO p1).1,true):=by
 grind[ku,aA6]
theorem alQ{p2 p3 p4:B8}(h:kM p2 p3 p4=0):ku (p1,p2,p3,p4,p5,p6)=cat (cat (cat (lO p1) (ik (fW p2 p3 p4) 200)) (kO p5)) (ik p6 4000):=by
 grind[ku,aq5]
theorem abN {n:Int}{g:B8}{s:List Sg}{l:List (List Pf)}{k j:Nat}(p:Pf)(hp:p=pfD (iE l k) j)(d:Bool)(b:B8)(hd:d=iG (dN n g s l k j))(hb:b=bytesOf (dN n g s l k j)):
  rM d (ku p)=iG (dN n g s l k (j+1))/\b++bytesOf (ku p)=bytesOf (dN n g s l k (j+1)):=by
 subst hp;subst hd;subst hb;simp [rM,iG,bytesOf,dN,ON,cat,Bool.or_assoc,W!,and_self]
theorem abO(h:(1048576:Int)<b.length):dY b c=3:=by simp_all[dY,M!]
theorem abP {b:B8}(h:¬(1048576:Int)<b.length)(h1:(b.length:Int)=0):dY b c=4:=by simp_all[dY,J!,M!]
theorem alR {b:B8}(h:¬(1048576:Int)<b.length)(h1:¬(b.length:Int)=0)(h2:¬((b.getD (Int.toNat 0) 0).toNat:Int)=c.toNat):dY b c=2:=by
 grind[dY]
theorem aA7 {b:B8}(h:¬(1048576:Int)<b.length)(h1:¬(b.length:Int)=0)(h2:((b.getD (Int.toNat 0) 0).toNat:Int)=c.toNat):dY b c=0:=by
 unfold dY;grind[UInt8.toNat_inj]
theorem LY(b:B8)(a e m:Int):(an b a e m).2.length<=b.length:=by
 grind[an,di]
theorem alS(b:B8)(a e:Int)(hm:0<=m):(dh b a e m).2<=m:=by
 grind[dh]
theorem aq6(h:m<(af b a e).2):dh b a e m=(((af b a e).1.2.1,2),0):=by simp_all[dh,M!]
theorem aA8(h:¬m<(af b a e).2):dh b a e m=((af b a e).1.2,(af b a e).2):=by simp_all[dh,J!]
theorem aA9(h:¬(an b a e 10000).1.2.2=0):cC b a e=((an b a e 10000).1.2,(0,[],[])):=by simp_all[cC,M!]
theorem aq7(h:(an b a e 10000).1.2.2=0):cC b a e=(((an b a e 10000).1.2.1,(hR (an b a e 10000).2).2),(hR (an b a e 10000).2).1):=by simp_all[cC,J!]
theorem aBa(h:¬(an b a e 200).1.2.2=0):kQ b a e=((an b a e 200).1.2,([],[],[])):=by simp_all[kQ,M!]
theorem aq8(h:(an b a e 200).1.2.2=0):kQ b a e=(((an b a e 200).1.2.1,(bj (an b a e 200).2).2),(bj (an b a e 200).2).1):=by simp_all[kQ,J!]
theorem abQ(b:B8)(a e:Int):∀k,(rL b a e k).2.length=k
 |0=>rfl
 |k+1=>by simp only [rL];rw [K!,abQ b a e k];rfl
theorem LZ(b:B8)(a e:Int)(k:Nat):(dB b a e k).2.length=k:=abQ ..
theorem abR(b:B8)(a e:Int):∀k,(D9 b a e k).2.length=k
 |0=>rfl
 |k+1=>by simp only [D9];rw [K!,abR b a e k];rfl
theorem aq9(b:B8)(k j:Nat):(BX b k j).2.length=j:=abR ..
theorem abS(b:B8)(a e:Int):∀k,(sL b a e k).2.length=k
 |0=>rfl
 |k+1=>by simp only [sL];rw [K!,abS b a e k];rfl
theorem ara(b:B8)(k:Nat):(js b k).2.length=k:=abS ..
theorem OP(b:B8)(a e:Int):pg b a e<=64:=by simp_all[alS,pg]
theorem alT(b:B8)(k:Nat):qE b k<=16:=by simp_all[alS,js,qE,ò]
theorem ó {x:Nat}(h:(x:Int)<v):x+1<=v.toNat:=by omega
theorem OQ {x:Nat}(h:cc x v.toNat)(h1:¬(x:Int)<v):x=v.toNat:=by grind[cc]
theorem arb(b:B8):(hR b).1.2.2.length<=64:=by
 by_cases h:(hR b).2=0
 . grind[rJ,jm,Ox]
 simp_all[als,U!]
theorem ô(b:B8):aN b<=64:=by
 grind[aN,aH,cC,arb]
theorem UL {b:B8}{x:Nat}(h:(x:Int)<((cC b 1 0).2.2.2.length:Int)):x+1<=aN b:=by
 have :aN b=(cC b 1 0).2.2.2.length:=rfl;omega
theorem õ {b:B8}{x:Nat}(h:cc x (aN b))(h1:¬(x:Int)<((cC b 1 0).2.2.2.length:Int)):x=aN b:=by
 have :aN b=(cC b 1 0).2.2.2.length:=rfl;grind[cc]
theorem ayM(h:¬dY b 1=0):bp b=((0,[],[],[]),dY b 1):=by simp_all[bp,M!]
theorem alU{k:Nat}(h:dY b 1=0)(hk:k=aN b)(h1:¬done b (js b k).1.1 (js b k).1.2=0):bp b=((0,[],[],[]),done b (js b k).1.1 (js b k).1.2):=by simp_all[bp,J!,M!]
theorem ayN{k:Nat}(h:dY b 1=0)(hk:k=aN b)(h1:done b (js b k).1.1 (js b k).1.2=0):bp b=(((aH b).2.1,(aH b).2.2.1,(aH b).2.2.2,(js b k).2),0):=by simp_all[bp,J!]
theorem aBb(h:¬dY b 2=0):ak b=((0,[],[],0,[],[]),dY b 2):=by simp_all[ak,M!]
theorem alV(h:dY b 2=0)(h1:¬done b (uU b).1.1 (uU b).1.2=0):ak b=((0,[],[],0,[],[]),done b (uU b).1.1 (uU b).1.2):=by simp_all[ak,J!,M!]
theorem alW(h:dY b 2=0)(h1:done b (uU b).1.1 (uU b).1.2=0):ak b=(((Ja b).2.1,(Ja b).2.2.1,(Ja b).2.2.2,(X7 b).2,(pg3 b).2,(uU b).2),0):=by simp_all[ak,J!]
theorem aBc(h:¬dY b 3=0):ah b=((0,[],[],0,[],[],[]),dY b 3):=by simp_all[ah,M!]
theorem str_1(h:dY b 3=0)(h1:¬done b (uV b).1.1 (uV b).1.2=0):ah b=((0,[],[],0,[],[],[]),done b (uV b).1.1 (uV b).1.2):=by simp_all[ah,J!,M!]
theorem alX(h:dY b 3=0)(h1:done b (uV b).1.1 (uV b).1.2=0):ah b=(((st1 b).2.1,(st1 b).2.2.1,(st1 b).2.2.2,(st2 b).2.1,(st2 b).2.2.1,(st2 b).2.2.2,(uV b).2),0):=by simp_all[ah,J!]
variable {l:List Sg}{a b:List B8}{m:List aY}{s:List Int}{j:Int}
theorem pT(h:bN n g l=true):0<=n/\n<=1000/\g.length=32/\l.length<=64:=by
 grind[jm,rJ]
theorem abT(h:bN n g l=true):aC (hB n g l)/\small (hB n g l):=by
 grind[abA,aC,small]
def im(n:Int)(g:B8)(l:List Sg):B8×Int:=if bN n g l then(mF 3 (hB n g l),0) else([],1)
def uW(n:Int)(g:B8)(l:List Sg):B8:=eW 3 (hB n g l)
def mG(docs:List B8)(l:List aY):B8×Int:=
 if gv docs l then(mF 3 (hB docs.length (root (leaves docs)) (cB docs l)),0) else([],7)
def a0J(docs:List B8)(i:Int):B8:=docs.getD i.toNat []
def a0A(a b:B8):Bool:=decide (a=b)
def Lm(d:List cr)(ts:List B8):List Pf:=ts.map (la d)
def rN(d:List cr)(ts:List B8)(k:Nat):List Pf:=(ts.take k).map (la d)
def Jc(d:List cr)(ts:List B8):Prop:=bn d/\bg d=true/\ts.length<=1000/\∀t∈ts,isTerm t=true
def Ye(l:List aY)(ts:List B8):List (List Pf):=l.map λs=>Lm s.2.2 ts
def iL(l:List aY)(ts:List B8)(k:Nat):List (List Pf):=Ye (l.take k) ts
def fE(docs:List B8)(l:List aY)(q:List dC):B8×Int:=
 if gv docs l=false then([],7) else if bw q=false then([],1)
 else kv docs.length (root (leaves docs)) (cB docs l) (Ye l (ax q))
def aMW(docs:List B8)(l:List aY)(i:Int):B8×Int:=
 if gv docs l=false then([],7) else if i<0\/(docs.length:Int)<=i then([],5)
 else aZr docs.length (root (leaves docs)) (cB docs l) i (docs.getD i.toNat []) (path (leaves docs) i)
def aXA(a b:List B8):Bool:=decide (a.length<=b.length)&&decide (a=b.take a.length)
def aZm(a b:List B8)(k:Nat):Prop:=a.length<=b.length/\k<=a.length/\a.take k=b.take k
def aLX(docs:List B8)(l:List aY)(aJo:List B8)(l':List aY):B8×Int:=
 if gv docs l=false\/gv aJo l'=false then([],7) else if aXA docs aJo=false then([],1)
 else aZj docs.length (root (leaves docs)) (cB docs l) aJo.length (root (leaves aJo)) (cB aJo l') (afY (leaves aJo) docs.length)
theorem aME(h:bN n g l=true):((alJ n g l).length:Int)<=4009:=by
 have:=aKu h;grind[alK,hB,alJ]
theorem aLj:∀(p:List B8),bQ p=true->p.flatten.length=32*p.length
 |[],_=>rfl
 |a::p,h=>by
  have ha:=(eA _).1 h a (I! ..);have:=aLj p ((eA _).2 λd hd=>(eA _).1 h d (E! _ hd));rw [List.flatten_cons,K!,O?,ha,this];omega
theorem aMF(h:bQ p=true):(ahO p).length<=32*p.length+9:=by
 grind[cX,ahO,List.length_append,aLj]
theorem aJ3 {b:B8}(h:(b.length:Int)<=1048576):wy (b,false)=b/\wz (b,false)=0:=by
 simp_all[wy,wz,J!]
variable {l:List aY}
theorem aY0(h:gv docs l=true):docs.length<=1000/\(∀i,((docs.getD i []).length:Int)<=2000):=by
 have hf:=(RI.of (uR.1 h).1).fair;simp [eZ,Bool.and_eq_true,List.all_eq_true,decide_eq_true_eq] at hf;grind
theorem Yf(l:List B8):(leaves l).length=l.length:=by simp [leaves]
theorem a0K(h:gv docs l=true)(h0:0<=i)(h1:i<docs.length):
  (path (leaves docs) i).length<=10/\bQ (path (leaves docs) i)=true:=by
 have:=(aY0 h).1;exact⟨alB h0 (by grind[Yf]) (by grind[Yf]),ñ _ _ _ rfl (tB docs)⟩
theorem a0B(h:gv docs l=true)(h0:0<=i)(h1:i<docs.length):
  aMW docs l i=(aYZ docs.length (root (leaves docs)) (cB docs l) i (docs.getD i.toNat []) (path (leaves docs) i),0)/\
  ak (aMW docs l i).1=(((docs.length:Int),root (leaves docs),cB docs l,i,docs.getD i.toNat [],path (leaves docs) i),0)/\
  ((aMW docs l i).1.length:Int)<=1048576:=by
 obtain⟨d1,d2⟩:=aY0 h;obtain⟨p1,p2⟩:=a0K h h0 h1;have hr:=ï h;have hn:fT i=false:=OD h0 w!
 have hl:((aYZ docs.length (root (leaves docs)) (cB docs l) i (docs.getD i.toNat []) (path (leaves docs) i)).length:Int)<=1048576:=by
  have a1:=aME hr;grind[cX,alK,aMF,aYZ,List.length_append,List.length_singleton]
 have e:aMW docs l i=(aYZ docs.length (root (leaves docs)) (cB docs l) i (docs.getD i.toNat []) (path (leaves docs) i),0):=by
  unfold aMW aZr a0s;rw [if_neg (by rw [h];decide),if_neg w!,aMz hr,aNP hn,aFZ (d2 _),aMA w! p2];have:=aJ3 hl;simp only [aYZ] at this;simp only [cat,Bool.or_false,aYZ];rw [this.1,this.2]
 grind[a2n]
theorem a3p(h:aXA a b=true):a.length<=b.length:=by
 simp [aXA,B!,H!] at h;omega
theorem a0C {aJo:List B8}{l':List aY}(h:gv docs l=true)(h':gv aJo l'=true)(hb:aXA docs aJo=true):
  aLX docs l aJo l'=(aZd docs.length (root (leaves docs)) (cB docs l) aJo.length (root (leaves aJo)) (cB aJo l') (afY (leaves aJo) docs.length),0)/\
  ah (aLX docs l aJo l').1=(((docs.length:Int),root (leaves docs),cB docs l,(aJo.length:Int),root (leaves aJo),cB aJo l',afY (leaves aJo) docs.length),0)/\
  ((aLX docs l aJo l').1.length:Int)<=1048576:=by
 have d1:=(aY0 h').1;have hr:=ï h;have p9:=ï h'
 have hp:bQ (afY (leaves aJo) docs.length)=true/\(afY (leaves aJo) docs.length).length<=11:=by
  unfold afY;split
  . split
    . exact⟨rfl,U! _⟩
    . exact aYR 10 _ _ _ (tB aJo) (by grind[Yf])
  . exact⟨rfl,U! _⟩
 unfold aLX;generalize afY (leaves aJo) docs.length=p at *
 have hl:((aZd docs.length (root (leaves docs)) (cB docs l) aJo.length (root (leaves aJo)) (cB aJo l') p).length:Int)<=1048576:=by
  have a1:=aME hr;have a2:=aME p9;grind[aMF,aZd,List.length_append,List.length_singleton]
 have e:(if gv docs l=false\/gv aJo l'=false then(([]:B8),(7:Int)) else if aXA docs aJo=false then([],1) else aZj docs.length (root (leaves docs)) (cB docs l) aJo.length (root (leaves aJo)) (cB aJo l') p)=(aZd docs.length (root (leaves docs)) (cB docs l) aJo.length (root (leaves aJo)) (cB aJo l') p,0):=by
  unfold aZj a0t;rw [if_neg x!,if_neg x!,aMz hr,aMz p9,aMA w! hp.1];simp_all[aJ3,aZd,cat,Bool.or_false]
 grind[a2o]
theorem alY(h:v<16384):(num v).length<=2:=by
 grind[num,ra]
theorem alZ {l:List Int}(h:bK l=true):(BF l).length<=2*l.length+2:=by
 have hl:=ou h
 have q:∀k,k<=l.length->((List.range k).flatMap (λi=>num (l.getD i 0-gi l i-1))).length<=2*k:=by
  intro k;induction k with
  |zero=>simp
  |succ k ih=>
   intro hk;have h1:=R9 (abp h (k:=k) w!);have h2:=(jG l k).1 ((kL l).1 h k w!);have h3:=alY (v:=l.getD k 0-gi l k-1) w!;rw [List.range_succ,List.flatMap_append,K!];simp only [List.flatMap_cons,List.flatMap_nil,H?];omega
 have:=q l.length (S! _);have h3:=alY (v:=(l.length:Int)) w!;simp only [BF,jb,K!];omega
theorem ahD(h:bg d=true)(t:B8):bK (qz d t)=true:=by
 unfold qz;split
 . rename_i h1;have hb:=LN h1;simp_all[ye,bt]
 . rfl
theorem aBd(h:bg d=true){i:Nat}(hi:i<=d.length):fU (bj (l9 d i)).1.1 (bj (l9 d i)).1.2.1 (bj (l9 d i)).1.2.2=true:=by
 rcases Hc h (k:=i) with q|q
 . have e:l9 d i=qy (if i=0 then [] else fY d (i-1)) (if i<d.length then fY d i else []) (CW (if i=0 then [] else jS d (i-1))):=rfl;grind[ak8]
 omega
theorem ö(h:bg d=true)(hp:d.length<=1048576)(t:B8):X6 (la d t)=true:=by
 obtain⟨f1,f2,f3⟩:=X1 (t:=t) h;have hlen:(leaves (ie d)).length=d.length+1:=by rw [Yf,f3]
 refine Sq.2 ⟨OD f1 (by grind[la]),aBd h w!,?_,ñ _ _ _ rfl (tB _),?_⟩
 . have:=alB (l:=leaves (ie d)) (i:=bt d t+1) (t:=21) f1 w! w!;grind[la]
 grind[la,ahD,alZ,ou]
theorem al0(h:bg d=true)(hp:d.length<=1048576)(ts:List B8):∀p∈Lm d ts,X6 p=true:=by
 intro p Bn;obtain⟨t,_,rfl⟩:=List.mem_map.1 Bn;grind[ö]
theorem Ss(h:gv docs l=true):∀s∈l,bg s.2.2=true/\s.2.2.length<=1048576/\bn s.2.2:=by
 intro s hs;have R:=RI.of (uR.1 h).1;obtain⟨h1,h2,_⟩:=R.seg s hs;refine⟨?_,h2.1,h2⟩;have :amC s.1 s.2.1 s.2.2=true:=h1;simp [amC,Bool.and_eq_true] at this;grind
theorem al1(h:gv docs l=true)(ht:ts.length<=16):∀x∈Ye l ts,(x.length:Int)<=16/\∀p∈x,X6 p=true:=by
 intro x hx;obtain⟨s,hs,rfl⟩:=List.mem_map.1 hx;grind[Ss,Lm,al0]
def a2s(docs:List B8)(l:List aY):B8:=uW docs.length (root (leaves docs)) (cB docs l)
def hx(l:List rf):QS:=(bY (fq l).1 (fq l).2).1
def ayO(l m:List rf)(k:Nat):QS:=mW (hx l) m k
theorem aBe{l:List Sg}(h:¬(hW n g l).2=0):im n g l=([],1)/\(hW n g l).2=1:=by
 grind[bN,LQ,í,im]
theorem arc{l:List Sg}(h:(hW n g l).2=0):im n g l=(mF 3 (hW n g l).1,0)/\aC (hW n g l).1:=by
 simp_all[aly,im,M!,abT]
theorem al2(h:¬(iv docs l).2=0):gv docs l=false:=by
 grind[C7]
theorem wA(h:(iv docs l).2=0):gv docs l=true/\(iv docs l).1.1=(docs.length:Int)/\(iv docs l).1.2.1=root (leaves docs)/\(iv docs l).1.2.2=cB docs l:=by
 grind[gv,C7,alx]
theorem aBf(h:¬(iv docs l).2=0):mG docs l=([],7):=by grind[mG,al2]
theorem ard(h:(iv docs l).2=0):im (iv docs l).1.1 (iv docs l).1.2.1 (iv docs l).1.2.2=mG docs l:=by
 simp_all[wA,mG,im,M!,ï]
theorem KK(h:isTerm t=true):small t:=by grind[BL,small]
theorem are(d:List cr)(ts:List B8)(k:Nat):(rN d ts k).length<=ts.length:=by grind[rN,List.length_take]
theorem al3{k:Nat}(h:(k:Int)<ts.length):rN d ts k++[la d (ts.getD (Int.toNat (k:Int)) [])]=rN d ts (k+1):=by
 grind[Int.toNat_natCast,rN,aD]
theorem arf{k:Nat}(h:gX ts k)(hk:¬(k:Int)<ts.length):rN d ts k=Lm d ts:=by
 grind[gX,rN,Lm,List.take_length]
theorem aBg(h:Jc d ts){k:Nat}(hk:(k:Int)<ts.length):isTerm (ts.getD (Int.toNat (k:Int)) [])=true:=by
 exact h.2.2.2 _ (bC ts k [] w!)
theorem abU(l:List aY)(ts:List B8)(k:Nat):(iL l ts k).length<=l.length:=by grind[iL,Ye,List.length_take]
theorem Yg{k:Nat}(h:(k:Int)<l.length):iL l ts k++[Lm (l.getD (Int.toNat (k:Int)) (0,0,[])).2.2 ts]=iL l ts (k+1):=by
 grind[Int.toNat_natCast,iL,Ye,aD]
theorem arh{k:Nat}(h:gX l k)(hk:¬(k:Int)<l.length):iL l ts k=Ye l ts:=by
 grind[gX,iL,List.take_length]
theorem Jd(h:gv docs l=true):l.length<=64:=by simpa [fL] using(RI.of (uR.1 h).1).le
theorem aY1(h:gv docs l=true):l8 docs/\dM (leaves docs)/\small (leaves docs):=by
 obtain⟨h1,h2⟩:=OC (uR.1 h).1;exact⟨h1,h2,h2⟩
theorem abV(h:gv docs l=true)(hq:bw q=true){k:Nat}(hk:(k:Int)<l.length):Jc (l.getD (Int.toNat (k:Int)) (0,0,[])).2.2 (ax q):=by
 obtain⟨f1,f2,f3⟩:=Ss h _ (bC l k (0,0,[]) w!);exact⟨f3,f1,by grind[pS],X5 hq⟩
theorem al4(h:¬(iv docs l).2=0):fE docs l q=([],7):=by simp_all[fE,M!,al2]
theorem abW {docs:List B8}{l:List aY}(h:(iv docs l).2=0)(hq:bw q=false):fE docs l q=([],1):=by
 simp_all[fE,J!,wA,M!]
theorem abX(h:gv docs l=true)(hq:bw q=true){k:Nat}(h1:gX l k)(hk:¬(k:Int)<l.length):
  kv ((len docs:Nat):Int) (root (leaves docs)) (cB docs l) (iL l (ax q) k)=fE docs l q/\qD (iL l (ax q) k):=by
 rw [arh h1 hk];refine⟨by unfold fE;rw [if_neg x!,if_neg x!];rfl,?_,?_⟩
 . grind[Jd,Ye]
 . intro x hx p hp;have:=(Sq.1 ((al1 h (pS hq) x hx).2 p hp)).2.2.2.2;omega
theorem a5M(h:¬(iv docs l).2=0):aMW docs l i=([],7):=by simp_all[aMW,M!,al2]
theorem a4s {docs:List B8}{l:List aY}(h:(iv docs l).2=0)(hi:i<0\/(docs.length:Int)<=i):aMW docs l i=([],5):=by
 simp_all[aMW,J!,wA,M!]
theorem a1K {docs:List B8}{l:List aY}(h:(iv docs l).2=0)(hi:¬i<0/\¬(docs.length:Int)<=i):
  BW (leaves docs) i=0/\aZr (iv docs l).1.1 (iv docs l).1.2.1 (iv docs l).1.2.2 i (docs.getD i.toNat []) (rK (leaves docs) i)=aMW docs l i/\(docs.getD i.toNat []).length<=1099511627776:=by
 obtain⟨h1,h2,h3,h4⟩:=wA h;have q:bQ (leaves docs)=true/\0<=i/\i<(leaves docs).length:=⟨tB docs,w!,by grind[Yf]⟩;refine⟨by simp_all[BW,if_pos],?_,by grind[aY0]⟩;simp_all[aMW,rK,if_pos,if_neg]
theorem a3q(h:¬(iv a l).2=0\/¬(iv b m).2=0):aLX a l b m=([],7):=by
 unfold aLX;grind[al2]
theorem a0u {a:List B8}{l:List aY}{b:List B8}{m:List aY}(h:(iv a l).2=0)(h':(iv b m).2=0)(hb:aXA a b=false):aLX a l b m=([],1):=by
 simp_all[aLX,J!,wA,M!]
theorem a0v {a:List B8}{l:List aY}{b:List B8}{m:List aY}(h:(iv a l).2=0)(h':(iv b m).2=0)(hb:aXA a b=true):
  aZj (iv a l).1.1 (iv a l).1.2.1 (iv a l).1.2.2 (iv b m).1.1 (iv b m).1.2.1 (iv b m).1.2.2 (afY (leaves b) (a.length:Int))=aLX a l b m/\aT1 (leaves b) (a.length:Int)=0:=by
 obtain⟨h1,h2,h3,h4⟩:=wA h;obtain⟨g1,g2,g3,g4⟩:=wA h';simp_all[a3p,aLX,J!,aT1,M!,tB,Yf]
theorem a4t {b:List B8}(h:(b.length:Int)<a.length):aXA a b=false:=by
 grind[aXA,decide_eq_false]
theorem a7a {b:List B8}(h:¬(b.length:Int)<a.length):aZm a b 0:=⟨w!,U! _,z!⟩
theorem a1L {a b:List B8}{k:Nat}(h:aZm a b k)(hk:(k:Int)<a.length)(he:a0A (a.getD (Int.toNat (k:Int)) []) (b.getD (Int.toNat (k:Int)) [])=false):aXA a b=false:=by
 have fh:=of_decide_eq_false he;grind[aXA]
theorem a3r {a b:List B8}{k:Nat}(h:aZm a b k)(hk:(k:Int)<a.length)(he:a0A (a.getD (Int.toNat (k:Int)) []) (b.getD (Int.toNat (k:Int)) [])=true):aZm a b (k+1):=by
 rw [X!] at he;refine⟨h.1,w!,?_⟩;rw [aD a k [] w!,aD b k [] (by have:=h.1;omega),h.2.2,of_decide_eq_true he]
theorem a0w{k:Nat}(h:aZm a b k)(hk:¬(k:Int)<a.length):aXA a b=true:=by
 have q:=h.2.2;grind[List.take_length,aXA,decide_eq_true]
def kx:QS:=([zA],[(0,1,[(zA,[0])])])
def kP:List (List Pf):=Ye kx.2 (ax fy)
theorem al5:fV fy:=⟨by unfold small;decide,by unfold small;decide⟩
theorem aZV(h:gv docs l=true):mG docs l=(a2s docs l,0):=by unfold mG;rw [if_pos h];rfl
theorem a3s(h:gv b m=true):a2p (afY (leaves b) ((len a:Nat):Int)):=by
 have d1:=(aY0 h).1;unfold afY;split
 . split
   . exact⟨U! _,rfl⟩
   . have:=aYR 10 (leaves b) ((len a:Nat):Int) false (tB b) (by grind[Yf]);exact⟨w!,this.1⟩
 . exact⟨U! _,rfl⟩
theorem aLk {docs:List B8}:∀(S:List Sp) (a:Int),fD docs a S=true->(S.length:Int)<=e7 a S-a
 |[],a,_=>by simp [e7]
 |s::r,a,h=>by
  simp [fD,Bool.and_eq_true,decide_eq_true_eq,jI] at h;have ih:=aLk r s.2 h.2.2;grind[List.length_cons,e7]
theorem aO2(h:bG docs l=true):l.length<=docs.length:=by
 have R:=RI.of h;have h1:=aLk _ 0 R.row;have h2:=R.bd;have h3:=R.XG;omega
theorem a3t(h:bG docs l=true)(a b c:Int)(d:B8):
  (pA docs l a b c d).1.1.length+(pA docs l a b c d).1.2.length<=docs.length+l.length+1/\(pA docs l a b c d).1.1.take docs.length=docs/\docs.length<=(pA docs l a b c d).1.1.length:=by
 have h2:=XI h a b c d;by_cases h0:a=0
 . have h1:=aht h a b c d;rw [J! w!] at h2;have hg:=me h;refine⟨w!,?_,?_⟩
   . unfold pA;grind[cP]
   . unfold pA;grind[cP]
 grind[keeps]
theorem aZN {x:QS}(h:bG x.1 x.2=true)(m:List rf):∀k,(mW x m k).1.length+(mW x m k).2.length<=x.1.length+x.2.length+k/\(mW x m k).1.take x.1.length=x.1/\x.1.length<=(mW x m k).1.length
 |0=>⟨S! _,List.take_length,S! _⟩
 |k+1=>by
  have ih:=aZN h m k;rw [mW];split
  . grind
  . have hr:=KD h m k;have:=a3t hr (uQ m k).1 (uQ m k).2.1 (uQ m k).2.2.1 (uQ m k).2.2.2;grind
theorem aQQ(l:List rf):(hx l).1=(fq l).1:=(pf l).1
theorem azG(l:List rf):gv (hx l).1 (hx l).2=true:=by rw [aQQ];exact(pf l).2.2.2.2
theorem a4u(l:List rf):(hx l).1.length+(hx l).2.length<=41:=by
 have h:=(aZN (x:=([],[])) abu l (min l.length 40)).1;grind[List.length_nil,alz,XV,aqI,aQQ,hx,fq]
theorem a2q(l m:List rf)(k:Nat):bG (ayO l m k).1 (ayO l m k).2=true:=KD (uR.1 (azG l)).1 m k
theorem aZO(l m:List rf){k:Nat}(hk:k<=40):
  gv (bY (ayO l m k).1 (ayO l m k).2).1.1 (bY (ayO l m k).1 (ayO l m k).2).1.2=true/\aXA (hx l).1 (bY (ayO l m k).1 (ayO l m k).2).1.1=true:=by
 have hr:=a2q l m k;have hs:=aZN (uR.1 (azG l)).1 m k;have h41:=a4u l;have hle:=aO2 hr;have e:ayO l m k=mW (hx l) m k:=rfl;grind[XV,aXA,decide_eq_true]
theorem a0D(l m:List rf)(k:Nat):
  (bif decide (((m.getD (Int.toNat (k:Int)) (0,0,0,[])).2.2.2.length:Int)<=2500) then(pA (ayO l m k).1 (ayO l m k).2 (m.getD (Int.toNat (k:Int)) (0,0,0,[])).1 (m.getD (Int.toNat (k:Int)) (0,0,0,[])).2.1 (m.getD (Int.toNat (k:Int)) (0,0,0,[])).2.2.1 (m.getD (Int.toNat (k:Int)) (0,0,0,[])).2.2.2).1.1 else(ayO l m k).1)=(ayO l m (k+1)).1/\
  (bif decide (((m.getD (Int.toNat (k:Int)) (0,0,0,[])).2.2.2.length:Int)<=2500) then(pA (ayO l m k).1 (ayO l m k).2 (m.getD (Int.toNat (k:Int)) (0,0,0,[])).1 (m.getD (Int.toNat (k:Int)) (0,0,0,[])).2.1 (m.getD (Int.toNat (k:Int)) (0,0,0,[])).2.2.1 (m.getD (Int.toNat (k:Int)) (0,0,0,[])).2.2.2).1.2 else(ayO l m k).2)=(ayO l m (k+1)).2:=by
 have e:ayO l m (k+1)=if(2500:Int)<(uQ m k).2.2.2.length then ayO l m k else(pA (ayO l m k).1 (ayO l m k).2 (uQ m k).1 (uQ m k).2.1 (uQ m k).2.2.1 (uQ m k).2.2.2).1:=by
  rfl
 rw [e];show(bif decide (((uQ m k).2.2.2.length:Int)<=2500) then _ else _)=_/\(bif decide (((uQ m k).2.2.2.length:Int)<=2500) then _ else _)=_;by_cases h:((uQ m k).2.2.2.length:Int)<=2500
 . rw [K? h,J! w!];exact⟨rfl,rfl⟩
 grind
theorem a0E(h:gv a l=true)(h':gv b m=true)(hb:aXA a b=true):
  (aLX a l b m).1.length<=140737488355328/\(aLX a l b m).2=0/\ah (aLX a l b m).1=((((len a:Nat):Int),root (leaves a),cB a l,((len b:Nat):Int),root (leaves b),cB b m,afY (leaves b) (a.length:Int)),0):=by
 have:=a0C h h' hb;exact⟨w!,x!,this.2.1⟩
def vz(n:Int)(g:B8)(l:List Sg)(root:B8):Bool:=decide ((im n g l).2=0)&&decide ((im n g l).1=root)
def qF(a:List (List Pf))(i:Int)(t:List B8):Bool:=decide ((a.getD i.toNat []).length=t.length)
def xl(l:List Int)(a b:Int)(k:Nat):Prop:=∀j,j<k->a<=l.getD j 0/\l.getD j 0<b
def wB(l:List Int)(a b:Int):Bool:=l.all λx=>decide (a<=x)&&decide (x<b)
theorem ari{l:List Sg}{root:B8}:(bif decide ((im n g l).2=0) then decide ((im n g l).1=root) else false)=vz n g l root:=by
 grind[decide,im,vz]
variable {a b m:Int}{l:List Int}{d:B8}
theorem zB{k:Nat}(h:xl l a b k)(h1:a<=l.getD k 0)(h2:l.getD k 0<b):xl l a b (k+1):=λj hj=>by
 by_cases Dj:j=k
 . grind
 . exact h j w!
theorem Da{k:Nat}(h:xl l a b k)(hk:l.length<=k):wB l a b=true:=by
 simp [wB,List.all_eq_true,Bool.and_eq_true,decide_eq_true_eq];intro x hx;obtain⟨j,hj,rfl⟩:=List.getElem_of_mem hx;have:=h j w!;grind
theorem Hr{k:Nat}(hk:k<l.length)(h:l.getD k 0<a\/b<=l.getD k 0):wB l a b=false:=by
 rw [Bool.eq_false_iff];intro hx;simp [wB,Z!,B!,H!] at hx;have:=hx l[k] (List.getElem_mem hk);rw [G!,D! hk] at h;simp at h;omega
theorem aHa(h:eM i n):j6 i n (i,n,[]):=⟨h.1,h.2.1,Int.le_refl _,z!,z!⟩
theorem OR(hp:eM i n)(h:j6 i n x)(h1:1<x.2.1):
  split x.2.1=((sp x.2.1.toNat:Nat):Int)/\1<=split x.2.1/\split x.2.1<x.2.1/\x.2.1<=1099511627776/\x.2.2.length<=1099511627776/\0<=x.1/\x.1<x.2.1:=by
 obtain⟨_,_,p3⟩:=hp;obtain⟨q1,q2,q3,_,q5⟩:=h;grind[nD,gN]
theorem aHb(hp:eM i n)(h:j6 i n x)(h1:1<x.2.1)(h2:x.1<split x.2.1):j6 i n (x.1,split x.2.1,x.2.2++[false]):=by
 obtain⟨b1,b2,b3,b4,b5,_⟩:=OR hp h h1;obtain⟨q1,q2,q3,q4,q5⟩:=h;refine⟨q1,h2,x!,?_,x!⟩;grind[mq]
theorem aHc(hp:eM i n)(h:j6 i n x)(h1:1<x.2.1)(h2:¬x.1<split x.2.1):j6 i n (x.1-split x.2.1,x.2.1-split x.2.1,x.2.2++[true]):=by
 obtain⟨b1,b2,b3,b4,b5,_⟩:=OR hp h h1;obtain⟨q1,q2,q3,q4,q5⟩:=h;refine⟨w!,x!,x!,?_,x!⟩;grind[nH]
theorem sd_end(h:j6 i n x)(h1:¬1<x.2.1):x.2.2=aZ i n:=by
 rw [h.2.2.2.1,jK w!];simp
theorem mg(hp:eM i n):((aZ i n).length:Int)<=1099511627776:=by
 have :∀m:Nat,∀i n:Int,n.toNat=m->0<=i->i<n->((aZ i n).length:Int)+1<=n:=by
  intro m;induction m using E6 with
  |h0 m hm=>grind[jK]
  |h1 m hm ihl ihr=>
   intro i n e h0 h1;have hb:=gN hm;by_cases hi:i<((sp n.toNat:Nat):Int)
   . rw [mq w! hi];have:=ihl i ((sp n.toNat:Nat):Int) (by rw [e];simp) h0 hi;simp;rw [e] at this |-;omega
   . rw [nH w! hi];have:=ihr (i-((sp n.toNat:Nat):Int)) (n-((sp n.toNat:Nat):Int)) (by rw [e];omega) w! w!;simp;rw [e] at this |-;omega
 have:=this n.toNat i n rfl hp.1 hp.2.1;have:=hp.2.2;omega
theorem aBh {d:B8}(h:¬((d.length:Int)=32/\1<=n/\n<=1099511627776/\0<=i/\i<n)): []=kq d i n p/\1=eQ d i n p:=by
 simp_all[eQ,J!,kq]
theorem abY {d:B8}(h:(d.length:Int)=32/\1<=n/\n<=1099511627776/\0<=i/\i<n):eM i n:=⟨h.2.2.2.1,h.2.2.2.2,h.2.2.1⟩
theorem arj {d:B8}{i n:Int}{p:List B8}(h:(d.length:Int)=32/\1<=n/\n<=1099511627776/\0<=i/\i<n)(h2:¬((p.length:Int)=((aZ i n).length:Int)/\bQ p=true)): []=kq d i n p/\6=eQ d i n p:=by
 have :eQ d i n p=6:=by rw [eQ,M! h];exact J! h2
 grind[kq]
theorem aBi {d:B8}{i n:Int}{p:List B8}(h:(d.length:Int)=32/\1<=n/\n<=1099511627776/\0<=i/\i<n)(h2:(p.length:Int)=((aZ i n).length:Int)/\bQ p=true):eQ d i n p=0:=by
 rw [eQ,M! h];exact M! h2
theorem Je(h:eQ d i n p=0):((d.length:Int)=32/\1<=n/\n<=1099511627776/\0<=i/\i<n)/\(p.length:Int)=((aZ i n).length:Int)/\bQ p=true:=by
 unfold eQ at h;split at h
 . rename_i h1;split at h
   . rename_i h2;exact⟨h1,h2⟩
   omega
 omega
theorem aHd(d:B8)(i n:Int)(p:List B8):d=jL d i n p 0:=by rfl
theorem al6{k:Nat}(h:eQ d i n p=0)(hk:k<p.length):
  (bif (aZ i n).getD (((aZ i n).length:Int)-1-(k:Int)).toNat false then aT (p.getD k []) (jL d i n p k) else aT (jL d i n p k) (p.getD k []))=jL d i n p (k+1):=by
 obtain⟨_,h2,_⟩:=Je h;have hz:k<(List.zip (aZ i n).reverse p).length:=by grind
 have e:jL d i n p (k+1)=Nl (jL d i n p k) ((List.zip (aZ i n).reverse p)[k]):=by
  unfold jL;rw [List.take_add_one,List.getElem?_eq_getElem hz,List.foldl_append];rfl
 rw [e,List.getElem_zip,List.getElem_reverse];have e1:(((aZ i n).length:Int)-1-(k:Int)).toNat=(aZ i n).length-1-k:=by omega
 rw [e1,G!,D! w!,G!,D! hk];cases (aZ i n)[(aZ i n).length-1-k]<;>rfl
theorem ark{k:Nat}(h:eQ d i n p=0)(hk:p.length<=k):jL d i n p k=kq d i n p:=by
 rw [kq,if_pos h,kN,wx,jL,List.take_of_length_le];grind
def xm(n:Int)(g doc:B8)(p:List B8)(i:Int):Bool:=decide (eQ (leaf doc) i n p=0)&&decide (kq (leaf doc) i n p=g)
abbrev Pg:=Int×B8×List Sg×Int×B8×List B8
def Yi(root:B8)(i:Int)(p:Pg):Bool:=vz p.1 p.2.1 p.2.2.1 root&&(decide (p.2.2.2.1=i)&&xm p.1 p.2.1 p.2.2.2.2.1 p.2.2.2.2.2 i)
def fS(root:B8)(i:Int)(b:B8):B8×Int:=
 if ¬root.length=32 then([],1) else if ¬(ak b).2=0 then([],(ak b).2) else if Yi root i (ak b).1 then((ak b).1.2.2.2.2.1,0) else([],6)
theorem al8(b:B8):dM (ak b).1.2.2.2.2.2:=by
 unfold ak;split
 . exact U! _
 . split
   . exact U! _
   . show(uU b).2.length<=_;grind[uU,iK,LZ,OP]
theorem arl(b:B8):(ak b).1.2.2.2.2.1.length<=b.length:=by
 unfold ak;split
 . grind
 . split
   . grind
   . exact LY _ _ _ _
variable {b:B8}{a:List Int}{p:Pf}
theorem Yj(h:b.length<1099511627776):dM (ak b).1.2.2.2.2.2/\aC (ak b).1.2.2.2.2.1:=⟨al8 b,Nat.lt_of_le_of_lt (arl b) h⟩
theorem aBj {root:B8}(h:¬(root.length:Int)=32):fS root i b=([],1):=by rw [fS,M! w!]
theorem aBk {root:B8}(h:(root.length:Int)=32)(h2:¬(ak b).2=0):fS root i b=([],(ak b).2):=by rw [fS,J! w!,M! h2]
theorem al9 {root:B8}(h:(root.length:Int)=32)(h2:(ak b).2=0):fS root i b=if Yi root i (ak b).1 then((ak b).1.2.2.2.2.1,0) else([],6):=by rw [fS,J! w!,J! w!]
def Jg:List Int:=(List.range 1000).map Int.ofNat
abbrev Kp:=Bool->Bool->Bool
def Ea:Kp:=λx y=>x&&y
def UM:Kp:=λx y=>x || y
def Eb:Kp:=λx y=>x&& !y
def zC(k:Kp)(a b:List Int):List Int:=Jg.filter λn=>k (re a n) (re b n)
def Jh(k:Kp)(a b:List Int):List Int:=zC k (vv a) (vv b)
def E8(a b:List Int):List Int:=Jh Ea a b
def uX(a b:List Int):List Int:=Jh UM a b
def OS(a b:List Int):List Int:=Jh Eb a b
abbrev Pk:=List Int×List Int×List Int
def lF(k:Kp)(a b:List Int)(x:Pk):Prop:=x.2.2++zC k x.1 x.2.1=Jh k a b/\bK x.1=true/\bK x.2.1=true
def jc(x:Pk):Nat:=x.1.length+x.2.1.length
def opL(o:Int)(a b:List Int):List Int:=if o=1 then E8 a b else if o=2 then uX a b else OS a b
def Db(f:B8->List Int)(s:List (List Int))(o:dC):List (List Int):=
 if o.1=0 then s++[f o.2] else s.take (s.length-2)++[opL o.1 (s.getD (s.length-2) []) (s.getD (s.length-1) [])]
def gC(f:B8->List Int)(l:List dC)(k:Nat):List (List Int):=(l.take k).foldl (Db f) []
def pE(x:List B8)(t:B8):Nat:=(x.filter λa=>Op.bytesLess a t).length
def BY(x:List B8)(t:B8):Bool:=decide (t∈x)
def mH(t:List B8)(f:List (List Int))(s:B8):List Int:=if BY t s then f.getD (pE t s) [] else []
def OT(l:List dC)(t:List B8)(f:List (List Int)):List Int:=(gC (mH t f) l l.length).getD 0 []
def mT(l:List dC)(f:List (List Int)):Bool:=bw l&&(decide (f.length=(ax l).length)&&f.all bK)
def mh(l:List dC)(f:List (List Int)):List Int×Int:=if mT l f then(OT l (ax l) f,0) else([],1)
def xn(x:List B8):Prop:=uG x/\small x
def rO(x:List B8)(t:B8)(i j:Int):Prop:=0<=i/\i<=j/\j<=x.length/\(∀k:Nat,(k:Int)<i->Op.bytesLess (x.getD k []) t=true)/\∀k:Nat,j<=(k:Int)->k<x.length->Op.bytesLess (x.getD k []) t=false
def tE(b:B8):Nat->Int->Int->Int->List Int->List Int×Int
 |0,a,e,_,l=>if done b a e=0 then(l,0) else([],done b a e)
 |n+1,a,e,p,l=>
  if(af b a e).1.2.2≠0 then([],(af b a e).1.2.2)
  else if 998-p<(af b a e).2 then([],2)
  else tE b n (af b a e).1.2.1 (af b a e).1.2.2 (p+((af b a e).2+1)) (l++[p+((af b a e).2+1)])
def o0(b:B8):Rd×Int:=af b 0 0
def b8(b:B8):List Int×Int:=
 if(o0 b).1.2.2≠0 then([],(o0 b).1.2.2) else if 1000<(o0 b).2 then([],2) else tE b (o0 b).2.toNat (o0 b).1.2.1 (o0 b).1.2.2 (-1) []
abbrev Pr:=Int×Int×Int×List Int
def uY(b:B8)(k:Nat)(x:Pr):Prop:=(k:Int)<=(o0 b).2/\(o0 b).1.2.2=0/\(o0 b).2<=1000/\tE b ((o0 b).2.toNat-k) x.1 x.2.1 x.2.2.1 x.2.2.2=b8 b/\ -1<=x.2.2.1/\x.2.2.1<=999/\x.2.2.2.length=k
def KL(t:B8)(e:Int)(p2 p4 p6:B8):Bool:=decide (p2=t)&&(decide (e=0)&&decide (mF 2 p6=p4))
def KM(t p2 p3 p6:B8):Bool:=Op.bytesLess p2 t&&((Op.bytesLess t p3 || decide (p3=[]))&&decide (p6.length=0))
def UN(p2 p3 p4:B8):B8:=leaf (qy p2 p3 p4)
def Ec(root:B8)(n:Int)(t:B8):Bool:=decide ((root.length:Int)=32)&&(decide (1<=n)&&(decide (n<=1099511627776)&&isTerm t))
def OU(root:B8)(n:Int)(p:Pf):Bool:=fU p.2.1 p.2.2.1 p.2.2.2.1&&(decide (eQ (UN p.2.1 p.2.2.1 p.2.2.2.1) p.1 n p.2.2.2.2.1=0)&&decide (kq (UN p.2.1 p.2.2.1 p.2.2.2.1) p.1 n p.2.2.2.2.1=root))
def Su(t:B8)(p:Pf):List Int×Int:=
 if KL t (b8 p.2.2.2.2.2).2 p.2.1 p.2.2.2.1 p.2.2.2.2.2 then((b8 p.2.2.2.2.2).1,0) else if KM t p.2.1 p.2.2.1 p.2.2.2.2.2 then([],0) else([],6)
def iI(root:B8)(n:Int)(t:B8)(p:Pf):List Int×Int:=if Ec root n t then(if OU root n p then Su t p else([],6)) else([],1)
def Hu(l:List (List Int))(x:List Int):List (List Int):=l++[x]
def BZ(t:List B8)(f:List (List Int)):Prop:=xn t/\f.length=t.length/\∀x∈f,bK x=true
def sb(l:List (List Int)):Prop:=2<=l.length/\small l
def xo(o:Int)(l:List (List Int)):List (List Int):=l.take (l.length-2)++[opL o (l.getD (l.length-2) []) (l.getD (l.length-1) [])]
def E9(l:List dC)(t:List B8)(f:List (List Int)):Prop:=bw l=true/\small l/\BZ t f
def pF(l:List dC)(s:List (List Int))(k:Nat):Prop:=k<=l.length/\(s.length:Int)=gw l k
def Fa(f:List (List Int))(k:Nat):Prop:=k<=f.length/\∀x∈f.take k,bK x=true
def B0(t:B8)(p5:List B8)(p6:B8):Prop:=small t/\dM p5/\aC p6/\small p6
def ov(root:B8)(n:Int)(t:B8)(p:Pf)(k:Nat):Prop:=k<=2/\Ec root n t=true/\OU root n p=true/\(1<=k->KL t (b8 p.2.2.2.2.2).2 p.2.1 p.2.2.2.1 p.2.2.2.2.2=false)/\(2<=k->KM t p.2.1 p.2.2.1 p.2.2.2.2.2=false)
theorem Yk:∀ {l m:List Int},l.Pairwise (· < ·)->m.Pairwise (· < ·)->(∀x,x∈l↔x∈m)->l=m
 |[],[],_,_,_=>rfl
 |[],y::m,_,_,h=>by grind[List.mem_cons_self]
 |x::l,[],_,_,h=>by grind[List.mem_cons_self]
 |x::l,y::m,hl,hm,h=>by
  rw [a?] at hl hm
  have hxy:x=y:=by
   rcases P!.1 ((h x).1 (I! ..)) with e|e
   . exact e
   . rcases P!.1 ((h y).2 (I! ..)) with e'|e'
     . exact e'.symm
     . have:=hl.1 y e';have:=hm.1 x e;omega
  subst hxy;refine congrArg (x:: ·) (Yk hl.2 hm.2 λz=>⟨λhz=>?_,λhz=>?_⟩)
  . grind
  grind
theorem ø:n∈Jg↔0<=n/\n<1000:=by
 simp [Jg,T?,f?];constructor
 . grind
 . rintro⟨h1,h2⟩;exact⟨n.toNat,w!,x!⟩
theorem ù:Jg.Pairwise (· < ·):=by
 rw [Jg,List.pairwise_map];exact List.pairwise_lt_range.imp λh=>by grind
theorem zD {k:Kp}{b:List Int}{x:Int}:x∈zC k a b↔(0<=x/\x<1000)/\k (re a x) (re b x)=true:=by
 rw [zC,List.mem_filter,ø]
theorem Fb(k:Kp)(a b:List Int):(zC k a b).Pairwise (· < ·):=ù.filter _
theorem ú(k:Kp)(a b:List Int):(zC k a b).length<=1000:=by
 refine X? (List.length_filter_le _ _) ?_;simp [Jg]
theorem B1 {x:Int}(h:bK (x::l)=true):(0<=x/\x<1000)/\bK l=true/\∀y∈l,x<y:=by
 rw [kL] at h;have h0:=(jG _ _).1 (h 0 z!)
 have hs:∀i,i<l.length->(x::l).getD i 0<l.getD i 0/\l.getD i 0<1000:=λi hi=>by
  have:=(jG _ _).1 (h (i+1) x!);grind[lM]
 have hx:∀i,i<l.length->x<l.getD i 0:=by
  intro i;induction i with
  |zero=>grind
  |succ i ih=>
   grind
 rw [yd] at h0;simp at h0;refine⟨⟨w!,h0.2⟩,(kL l).2 λi hi=>(jG _ _).2 ⟨?_,(hs i hi).2⟩,λy hy=>?_⟩
 . cases i with
   |zero=>grind[yd]
   |succ i=>grind[lM]
 . obtain⟨i,hi,rfl⟩:=j? hy;have:=hx i hi;rwa [G!,D! hi] at this
def jt(r s:List Int):Bool:=bif decide ((0:Int)<(r.length:Int)) then bif decide ((s.length:Int)=(0:Int)) then true else decide (r.getD (Int.toNat (0:Int)) 0<=s.getD (Int.toNat (0:Int)) 0) else false
def Hv(r s:List Int):Int:=bif jt s r then s.getD (Int.toNat (0:Int)) 0 else bif jt r s then r.getD (Int.toNat (0:Int)) 0 else 0
def pG(c:Bool)(r:List Int):List Int:=bif c then r.drop (Int.toNat (1:Int)) else r
def OV(r r':List Int)(c:Bool)(n:Int):Prop:=(∀x,x∈r↔x∈r'\/(c=true/\x=n))/\(∀x∈r',n<x)/\bK r'=true
theorem Sv(hr:bK r=true)(hs:bK s=true)(fh:0<r.length\/0<s.length):
  (0<=Hv r s/\Hv r s<1000)/\OV r (pG (jt r s) r) (jt r s) (Hv r s)/\OV s (pG (jt s r) s) (jt s r) (Hv r s)/\(pG (jt r s) r).length+(pG (jt s r) s).length<r.length+s.length:=by
 cases r with
 |nil=>
  cases s with
  |nil=>grind
  |cons y s=>
   obtain⟨h1,h2,h3⟩:=B1 hs;grind[jt,Hv,pG,OV,List.length_nil,List.length_cons]
 |cons x r=>
  obtain⟨g1,g2,g3⟩:=B1 hr;cases s with
  |nil=>
   grind[jt,Hv,pG,OV,List.length_nil,List.length_cons]
  |cons y s=>
   obtain⟨h1,h2,h3⟩:=B1 hs
   have e1:jt (x::r) (y::s)=decide (x<=y):=by
    grind[jt,List.length_cons,decide_eq_true,decide_eq_false]
   have e2:jt (y::s) (x::r)=decide (y<=x):=by
    grind[jt,List.length_cons,decide_eq_true,decide_eq_false]
   grind[Hv,pG,OV]
theorem arn {k:Kp}(hk:k false false=false)(hr:bK r=true)(hs:bK s=true)(fh:0<r.length\/0<s.length):
  zC k r s=(if k (jt r s) (jt s r)=true then [Hv r s] else [])++zC k (pG (jt r s) r) (pG (jt s r) s):=by
 obtain⟨h0,⟨a1,a2,_⟩,⟨b1,b2,_⟩,_⟩:=Sv hr hs fh;generalize Hv r s=n at *;generalize pG (jt r s) r=r' at *;generalize pG (jt s r) s=s' at *;generalize jt r s=A at *;generalize jt s r=B at *
 have hn:re r' n=false/\re s' n=false:=by
  grind[re,decide_eq_false_iff_not]
 have hrn:∀x,re r x=(re r' x || (A&&decide (x=n))):=λx=>by
  simp_all[re,H!,Z?,B!]
 have hsn:∀x,re s x=(re s' x || (B&&decide (x=n))):=λx=>by
  simp_all[re,H!,Z?,B!]
 refine Yk (Fb k r s) ?_ λx=>?_
 . split
   . rw [List.singleton_append];refine a?.2 ⟨λy hy=>?_,Fb k r' s'⟩;rw [zD] at hy;cases h1:re r' y with
     |true=>exact a2 y (by simpa [re] using h1)
     |false=>
      cases h2:re s' y with
      |true=>exact b2 y (by simpa [re] using h2)
      |false=>rw [h1,h2,hk] at hy;cases hy.2
   . rw [k?];exact Fb k r' s'
 . rw [zD,hrn,hsn,List.mem_append,zD];grind
theorem Sw(l:List Int):bK (vv l)=true:=by
 unfold vv;split
 . omega
 . rfl
theorem Dc(l:List Int):(bif !bK l then [] else l)=vv l:=by
 grind[vv,bK]
theorem ama(k:Kp)(a b:List Int):lF k a b (vv a,vv b,[]):=⟨k? _,Sw a,Sw b⟩
theorem UO {k:Kp}(hk:k false false=false){b:List Int}{x:Pk}(h:lF k a b x)(hc:(bif decide ((0:Int)<(x.1.length:Int)) then true else decide ((0:Int)<(x.2.1.length:Int)))=false):x.2.2=Jh k a b:=by
 obtain⟨h1,_,_⟩:=h
 have e1:x.1=[]:=by
  simp_all
 have e2:x.2.1=[]:=by
  simp_all
 have :zC k [] []=[]:=List.eq_nil_iff_forall_not_mem.2 λy hy=>by
  rw [zD] at hy;have :re [] y=false:=rfl;grind
 grind
theorem mr(h:jt r s=true):(0:Int)<(r.length:Int)/\(1:Int)<=(r.length:Int):=by
 grind[jt]
theorem û {k:Kp}(hk:k false false=false){b:List Int}{x:Pk}(h:lF k a b x)(hc:(bif decide ((0:Int)<(x.1.length:Int)) then true else decide ((0:Int)<(x.2.1.length:Int)))=true):
  x.2.2.length<=1000/\(k (jt x.1 x.2.1) (jt x.2.1 x.1)=true->lF k a b (pG (jt x.1 x.2.1) x.1,pG (jt x.2.1 x.1) x.2.1,x.2.2++[Hv x.1 x.2.1]))/\(k (jt x.1 x.2.1) (jt x.2.1 x.1)=false->lF k a b (pG (jt x.1 x.2.1) x.1,pG (jt x.2.1 x.1) x.2.1,x.2.2))/\
  jc (pG (jt x.1 x.2.1) x.1,pG (jt x.2.1 x.1) x.2.1,x.2.2++[Hv x.1 x.2.1])<jc x/\jc (pG (jt x.1 x.2.1) x.1,pG (jt x.2.1 x.1) x.2.1,x.2.2)<jc x:=by
 obtain⟨h1,h2,h3⟩:=h
 have fh:0<x.1.length\/0<x.2.1.length:=by
  grind
 obtain⟨_,⟨_,_,f1⟩,⟨_,_,f2⟩,f3⟩:=Sv h2 h3 fh;have hl:=arn hk h2 h3 fh;have hlen:=congrArg List.length h1;rw [K!] at hlen;have:=ú k (vv a) (vv b);refine⟨?_,λhq=>⟨?_,f1,f2⟩,λhq=>⟨?_,f1,f2⟩,f3,f3⟩
 . unfold Jh at hlen;omega
 . grind
 grind
variable {x:List B8}{s:B8}{l:List dC}
theorem Hw(hp:xn x)(h:rO x t i j)(Ah:i<j):
  (i+j)%18446744073709551616/2^Int.toNat 1=(i+j)/2/\0<=i/\i<=(i+j)/2/\(i+j)/2<j/\j<=x.length/\(x.length:Int)<=1099511627776:=by
 have h2:=hp.2;unfold small at h2;obtain⟨h3,h4,h5,_⟩:=h;grind
theorem ü(h:uG x){a b:Nat}(lQ:a<b)(hb:b<x.length):Op.bytesLess (x.getD a []) (x.getD b [])=true:=by
 rw [G!,D! w!,G!,D! hb];exact List.pairwise_iff_getElem.1 h a b w! hb lQ
theorem aBl(hp:xn x)(h:rO x t i j)(h1:i<=m)(h2:m<j)(hl:Op.bytesLess (x.getD m.toNat []) t=true):rO x t (m+1) j:=by
 obtain⟨h3,h4,h5,h6,h7⟩:=h;refine⟨w!,w!,h5,λk hk=>?_,h7⟩;by_cases hkm:k=m.toNat
 . grind
 . exact mz _ _ _ (ü hp.1 (show k<m.toNat by omega) w!) hl
theorem aBm(hp:xn x)(h:rO x t i j)(h1:i<=m)(h2:m<j)(hl:Op.bytesLess (x.getD m.toNat []) t=false):rO x t i m:=by
 obtain⟨h3,h4,h5,h6,h7⟩:=h;refine⟨h3,h1,w!,h6,λk hk hk2=>?_⟩;by_cases hkm:k=m.toNat
 . grind
 . rw [Bool.eq_false_iff];intro hb;have:=mz _ _ _ (ü hp.1 (show m.toNat<k by omega) hk2) hb;grind
theorem aBn(hp:xn x)(h:rO x t i j)(h1:i<=m)(h2:m<j):
  rO x t (bif Op.bytesLess (x.getD m.toNat []) t then m+1 else i) (bif Op.bytesLess (x.getD m.toNat []) t then j else m)/\
  ((bif Op.bytesLess (x.getD m.toNat []) t then j else m)-(bif Op.bytesLess (x.getD m.toNat []) t then m+1 else i)).toNat<(j-i).toNat:=by
 grind[aBl,aBm]
theorem aro(h:rO x t i j)(Ah:¬i<j):i=(pE x t:Int):=by
 obtain⟨h3,h4,h5,h6,h7⟩:=h
 have e:x.filter (λa=>Op.bytesLess a t)=x.take j.toNat:=by
  conv=>lhs;rw [<-V? j.toNat x]
  have e1:(x.take j.toNat).filter (λa=>Op.bytesLess a t)=x.take j.toNat:=List.filter_eq_self.2 λa ha=>by
   obtain⟨k,hk,rfl⟩:=j? ha;rw [J?] at hk;have:=h6 k w!;rw [G!,D! w!] at this;rw [List.getElem_take];exact this
  have e2:(x.drop j.toNat).filter (λa=>Op.bytesLess a t)=[]:=List.filter_eq_nil_iff.2 λa ha=>by
   obtain⟨k,hk,rfl⟩:=List.getElem_of_mem ha;grind
  grind
 grind[pE,List.length_take]
theorem arp(hp:xn x)(h:rO x t i j)(Ah:¬i<j):
  (bif decide (i<(x.length:Int)) then bif decide (x.getD i.toNat []=t) then true else bif false then false else false else false)=BY x t:=by
 obtain⟨h3,h4,h5,h6,h7⟩:=h;have hj:j=i:=by omega
 subst hj;rw [BY,Bool.eq_iff_iff];have e:∀a b:Bool,(bif a then bif b then true else bif false then false else false else false)=true↔a=true/\b=true:=by decide
 rw [e,H!,H!,H!];constructor
 . grind
 . intro hm;obtain⟨k,hk,rfl⟩:=j? hm;have hg:x.getD k []=x[k]:=by rw [G!,D! hk];rfl
   have hkj:j<=k:=by
    apply P?;intro hn;have:=h6 k w!;rw [hg,eS] at this;cases this
   refine⟨w!,?_⟩;by_cases aHi:k=j.toNat
   . rw [<-aHi];exact hg
   . have h1:=ü hp.1 (show j.toNat<k by omega) hk;have h2:=h7 j.toNat w! w!;rw [hg] at h1;rw [h1] at h2;cases h2
theorem arq(h:BY x t=true):pE x t<x.length:=by
 have hm:t∈x:=of_decide_eq_true h;grind[pE,Nat.not_le,List.filter_eq_self,List.Sublist.eq_of_length_le,List.filter_sublist,eS]
variable {t:List B8}{x:Pr}
theorem ý(hp:BZ t f)(h:(!BY t s)=false):(0<=(pE t s:Int)/\(pE t s:Int)<(f.length:Int))/\small (f.getD (Int.toNat (pE t s:Int)) [])/\f.getD (Int.toNat (pE t s:Int)) []=mH t f s:=by
 have hs:BY t s=true:=by grind
 have hc:=arq hs;obtain⟨_,h2,h3⟩:=hp;rw [Int.toNat_natCast];refine⟨⟨w!,w!⟩,?_,by rw [mH,if_pos hs]⟩;grind[ou,bC,pE,small]
theorem ars(h:(!BY t s)=true): []=mH t f s:=by
 simp_all[BY,mH,J!]
theorem art(f:B8->List Int)(l:List dC): []=gC f l 0:=by rfl
variable {f:B8->List Int}{s:List (List Int)}
theorem OW{k:Nat}(hk:k<l.length):gC f l (k+1)=Db f (gC f l k) (l.getD k (0,[])):=by
 rw [gC,aD l k (0,[]) hk,List.foldl_append];rfl
theorem amb {o:Int}(h:2<=s.length):(xo o s).length=s.length-1:=by
 grind[xo,List.length_append,List.length_take]
theorem Yl{k:Nat}(hk:(k:Int)<l.length)(h:(jY l k).1=0):Hu (gC f l k) (f (jY l k).2)=gC f l (k+1):=by
 rw [OW w!];show _=Db f _ (jY l k);rw [Db,M! h];rfl
theorem L1{l:List dC}{k:Nat}{o:Int}(hk:(k:Int)<l.length)(h:(jY l k).1=o)(ho:o≠0):xo o (gC f l k)=gC f l (k+1):=by
 rw [OW w!];show _=Db f _ (jY l k);rw [Db,J! w!,<-h];rfl
theorem aHj(h:bw l=true){k:Nat}(hk:(k:Int)<l.length):uS l k=true:=by
 simp_all[bw,B!,Z!,f?]
theorem UP(h:bw l=true){k:Nat}(hk:(k:Int)<l.length):0<=(jY l k).1/\(jY l k).1<=3/\((jY l k).1≠0->2<=gw l k):=by
 have:=aHj h hk;grind[uS]
theorem abZ(l:List dC)(k:Nat):gw l k<=k:=by
 have:=xk l k;grind[gw]
theorem aHk(l:List dC):pF l [] 0:=⟨U! _,by rfl⟩
variable {f:List (List Int)}
theorem L2{k:Nat}(hp:E9 l t f)(h:pF l s k)(hk:(k:Int)<l.length)(ho:(jY l k).1≠0):sb s:=by
 have:=(UP hp.1 hk).2.2 ho;have h1:=h.2;have h2:=abZ l k;have h3:=hp.2.1;refine⟨w!,by grind[small]⟩
theorem ahE{k:Nat}(hp:E9 l t f)(h:pF l s k):small s:=by
 have h1:=h.2;have h2:=abZ l k;have h3:=hp.2.1;have h4:=h.1;grind[small]
theorem amc {l:List dC}{g:B8->List Int}{k:Nat}(h:pF l (gC g l k) k)(hk:(k:Int)<l.length)(ho:(jY l k).1=0):pF l (gC g l (k+1)) (k+1):=by
 refine⟨w!,?_⟩;rw [<-Yl hk ho,Hu,K!,X3 ho,<-h.2];simp
theorem OX {l:List dC}{g:B8->List Int}{k:Nat}(hp:E9 l t f)(h:pF l (gC g l k) k)(hk:(k:Int)<l.length){o:Int}(ho:(jY l k).1=o)(h0:o≠0):pF l (gC g l (k+1)) (k+1):=by
 have h2:=(L2 hp h hk w!).1;refine⟨w!,?_⟩;rw [<-L1 hk ho h0,amb h2,LS w!,<-h.2];omega
theorem ab1{k:Nat}(hp:E9 l t f)(h:pF l s k)(hk:¬(k:Int)<l.length):0<s.length/\k=l.length:=by
 have e:k=l.length:=by have:=h.1;omega
 have h1:=hp.1;simp [bw,Bool.and_eq_true,decide_eq_true_eq] at h1;have h2:=h.2;grind
theorem Sx(h:small l):xn (ax l):=by
 refine⟨l7 _,?_⟩;have h1:=rG (qC l);grind[qC,bS,List.length_map,Nat.le_trans,List.length_filter_le,small,ax]
theorem Ji(h:mT l f=false): []=(mh l f).1/\1=(mh l f).2:=by
 grind[mh]
theorem ab2(h:mT l f=true):OT l (ax l) f=(mh l f).1/\0=(mh l f).2:=by
 grind[mh]
theorem amd{k:Nat}(h:Fa f k)(hk:(k:Int)<f.length)(h1:bK (f.getD k [])=true):Fa f (k+1):=by
 refine⟨w!,λx hx=>?_⟩;rw [aD f k [] w!,F!,v?] at hx;rcases hx with hx|rfl
 . exact h.2 x hx
 omega
theorem UQ{k:Nat}(h:Fa f k)(hk:¬(k:Int)<f.length):f.all bK=true:=by
 have e:k=f.length:=by have:=h.1;omega
 have:=h.2;grind
theorem ab3{k:Nat}(hk:(k:Int)<f.length)(h1:bK (f.getD k [])=false):f.all bK=false:=by
 grind
theorem qG(b:B8)(a e:Int):0<=(af b a e).2/\(af b a e).2<=4611686018427387904:=by
 unfold af;split
 . omega
 . split
   . omega
   . rename_i h1 _
     have hp:dF b a:=by
      unfold bX at h1;unfold dF;by_cases he:e=0/\inside b a=false
      . grind
      simp_all[J!,inside,B!,H!]
     simp_all[NY]
theorem aHl {b:B8}(h1:(o0 b).1.2.2=0)(h2:¬1000<(o0 b).2):uY b 0 ((o0 b).1.2.1,(o0 b).1.2.2,-1,[]):=by
 have:=(qG b 0 0).1;refine⟨this,h1,w!,?_,z!,z!,rfl⟩;simp_all[b8,J!]
theorem ab4(h1:¬(o0 b).1.2.2=0): []=(b8 b).1/\(o0 b).1.2.2=(b8 b).2:=by
 simp_all[b8,M!]
theorem Ym {b:B8}(h1:(o0 b).1.2.2=0)(h2:1000<(o0 b).2): []=(b8 b).1/\2=(b8 b).2:=by
 simp_all[b8,J!,M!]
theorem UR{k:Nat}(h:uY b k x)(hk:(k:Int)<(o0 b).2):b8 b=
  if(af b x.1 x.2.1).1.2.2≠0 then([],(af b x.1 x.2.1).1.2.2) else if 998-x.2.2.1<(af b x.1 x.2.1).2 then([],2)
  else tE b ((o0 b).2.toNat-(k+1)) (af b x.1 x.2.1).1.2.1 (af b x.1 x.2.1).1.2.2 (x.2.2.1+((af b x.1 x.2.1).2+1)) (x.2.2.2++[x.2.2.1+((af b x.1 x.2.1).2+1)]):=by
 have h4:=h.2.2.2.1;have e:(o0 b).2.toNat-k=((o0 b).2.toNat-(k+1))+1:=by omega
 grind[tE]
theorem ab5 {b:B8}{k:Nat}(h:uY b k x)(hk:(k:Int)<(o0 b).2)(h1:¬(af b x.1 x.2.1).1.2.2=0): []=(b8 b).1/\(af b x.1 x.2.1).1.2.2=(b8 b).2:=by
 rw [UR h hk,if_pos h1];grind
theorem ab6 {b:B8}{k:Nat}{x:Pr}(h:uY b k x)(hk:(k:Int)<(o0 b).2)(h1:(af b x.1 x.2.1).1.2.2=0)(h2:998-x.2.2.1<(af b x.1 x.2.1).2): []=(b8 b).1/\2=(b8 b).2:=by
 rw [UR h hk,if_neg w!,if_pos h2];grind
theorem ame {b:B8}{k:Nat}{x:Pr}(h:uY b k x)(hk:(k:Int)<(o0 b).2)(h1:(af b x.1 x.2.1).1.2.2=0)(h2:¬998-x.2.2.1<(af b x.1 x.2.1).2):
  uY b (k+1) ((af b x.1 x.2.1).1.2.1,(af b x.1 x.2.1).1.2.2,x.2.2.1+((af b x.1 x.2.1).2+1),x.2.2.2++[x.2.2.1+((af b x.1 x.2.1).2+1)]):=by
 have hg:=UR h hk;rw [if_neg w!,if_neg h2] at hg;have hn:=(qG b x.1 x.2.1).1;obtain⟨_,g2,g3,_,g5,g6,g7⟩:=h;refine⟨w!,g2,g3,hg.symm,x!,x!,x!⟩
theorem Hx{k:Nat}(h:uY b k x)(hk:¬(k:Int)<(o0 b).2):b8 b=if done b x.1 x.2.1=0 then(x.2.2.2,0) else([],done b x.1 x.2.1):=by
 have h4:=h.2.2.2.1;simp_all[o0,tE]
variable {t:B8}
theorem aru {root:B8}(p:Pf)(h:Ec root n t=false): []=(iI root n t p).1/\1=(iI root n t p).2:=by
 grind[iI]
theorem amf {root:B8}(h:Ec root n t=true)(h2:OU root n p=false): []=(iI root n t p).1/\6=(iI root n t p).2:=by
 grind[iI]
theorem US {root:B8}(h:Ec root n t=true)(h2:OU root n p=true):iI root n t p=Su t p:=by
 grind[iI]
theorem aBp(a b:B8):(!(Op.bytesLess a b || decide (a=b)))=Op.bytesLess b a:=by
 grind[pd,CV,eS,decide_eq_false]
theorem UT {root:B8}(h:(root.length:Int)=32/\¬n<1/\¬1099511627776<n/\isTerm t=true):Ec root n t=true:=by
 simp_all[Ec,B!,H!]
theorem arv {root:B8}(h:¬(root.length:Int)=32\/n<1\/1099511627776<n\/isTerm t=false):Ec root n t=false:=by
 simp [Ec,Ne,Bool.and_eq_true,decide_eq_true_eq];grind
theorem OY {a c:B8}(h:kM a b c=0):fU a b c=true/\fW a b c=qy a b c:=by
 simp_all[kM,fW,M!]
theorem amg {a c:B8}(h:¬kM a b c=0):fU a b c=false:=by
 grind[kM]
theorem þ {a c:B8}(h:kM a b c=0):aC (fW a b c):=by
 obtain⟨h1,h2⟩:=OY h;simp [fU,Bool.and_eq_true,decide_eq_true_eq] at h1;grind[q1,cX,q2,aC,qy,text,List.length_append]
theorem aBq {root:B8}(h:kM p.2.1 p.2.2.1 p.2.2.2.1=0)(h1:eQ (leaf (fW p.2.1 p.2.2.1 p.2.2.2.1)) p.1 n p.2.2.2.2.1=0/\kq (leaf (fW p.2.1 p.2.2.1 p.2.2.2.1)) p.1 n p.2.2.2.2.1=root):OU root n p=true:=by
 grind[OY,OU,UN,decide_true,Bool.and_self]
theorem arw {root:B8}(h:¬kM p.2.1 p.2.2.1 p.2.2.2.1=0):OU root n p=false:=by
 simp_all[OU,amg,Bool.false_and]
theorem arx {root:B8}(h:kM p.2.1 p.2.2.1 p.2.2.2.1=0)(h1:¬eQ (leaf (fW p.2.1 p.2.2.1 p.2.2.2.1)) p.1 n p.2.2.2.2.1=0\/¬kq (leaf (fW p.2.1 p.2.2.1 p.2.2.2.1)) p.1 n p.2.2.2.2.1=root):OU root n p=false:=by
 obtain⟨g1,g2⟩:=OY h;simp [OU,UN,g1,Bool.true_and];grind
theorem aBr {root:B8}(h1:Ec root n t=true)(h2:OU root n p=true):ov root n t p 0:=⟨w!,h1,h2,w!,w!⟩
theorem aBs {root:B8}{k:Nat}(h:ov root n t p k)(hk:(k:Int)=0)(h1:KL t (b8 p.2.2.2.2.2).2 p.2.1 p.2.2.2.1 p.2.2.2.2.2=false):ov root n t p (k+1):=
 ⟨w!,h.2.1,h.2.2.1,λ_=>h1,w!⟩
theorem aBt {root:B8}{k:Nat}(h:ov root n t p k)(hk:(k:Int)=1)(h1:KM t p.2.1 p.2.2.1 p.2.2.2.2.2=false):ov root n t p (k+1):=
 ⟨w!,h.2.1,h.2.2.1,λ_=>h.2.2.2.1 w!,λ_=>h1⟩
theorem ab7 {root:B8}{k:Nat}(h:ov root n t p k)(h1:KL t (b8 p.2.2.2.2.2).2 p.2.1 p.2.2.2.1 p.2.2.2.2.2=true):(b8 p.2.2.2.2.2).1=(iI root n t p).1/\0=(iI root n t p).2:=by
 rw [US h.2.1 h.2.2.1,Su,h1];grind
theorem ab8 {root:B8}{k:Nat}(h:ov root n t p k)(hk:(k:Int)=1)(h1:KM t p.2.1 p.2.2.1 p.2.2.2.2.2=true): []=(iI root n t p).1/\0=(iI root n t p).2:=by
 rw [US h.2.1 h.2.2.1,Su,h.2.2.2.1 w!,h1];grind
theorem ary {root:B8}{k:Nat}(h:ov root n t p k)(hk:¬(k:Int)<((2:Nat):Int)): []=(iI root n t p).1/\6=(iI root n t p).2:=by
 rw [US h.2.1 h.2.2.1,Su,h.2.2.2.1 w!,h.2.2.2.2 w!];grind
end Go.S
namespace Go.S
open Go.Vg (CF Z bZ)
def Sy(a:List (List Pf))(i j:Int):Pf:=pfD (iE a i.toNat) j.toNat
def Ak(g:Sg)(w:B8)(a:List (List Pf))(i j:Int):List Int×Int:=iI g.2.2.2 g.2.2.1 w (Sy a i j)
def sZ(g:Sg)(w:B8)(a:List (List Pf))(i j:Int):Bool:=decide ((Ak g w a i j).2=0)&&wB (Ak g w a i j).1 g.1 g.2.1
def OZ(w:B8)(a:List (List Pf))(i j:Int):Prop:=(0<=i/\i<a.length)/\(0<=j/\j<(iE a i.toNat).length)/\B0 w (Sy a i j).2.2.2.2.1 (Sy a i j).2.2.2.2.2
def Sz(j:Int)(q n:Nat)(l:List Int):Prop:=q=j.toNat/\q<n/\small l
def SA(l m:List Int):List Int:=l++m
def O0(g:Sg)(w:B8)(a:List (List Pf))(i j:Int)(l:List Int):List Int:=if sZ g w a i j then SA l (Ak g w a i j).1 else l
def amh(root:B8)(n:Int)(g:B8)(l:List Sg):CF:=λz=>(True,.bool (vz n g l root),z)
def ab9(a:List (List Pf))(i:Int)(t:List B8):CF:=λz=>(0<=i/\i<(a.length:Int),.bool (qF a i t),z)
def B2(e0 ei0:Nat)(g:Sg)(w:B8)(a:List (List Pf))(i j:Int):CF:=λz=>match z with
 |.g e ei l=>(e=e0/\ei=ei0/\OZ w a i j/\Sz j j.toNat l.length (l.getD j.toNat []),.bool (sZ g w a i j),.g e ei (l.set j.toNat (O0 g w a i j (l.getD j.toNat []))))
 |z=>(False,.bool false,z)
def Jj(l:List Sg)(i:Nat):Sg:=l.getD i (0,0,0,[])
def O1(e0 ei0:Nat)(s:List Sg)(a:List (List Pf))(t:List B8)(i k:Nat):List CF:=
 ab9 a i t::(List.range k).map λ(j:Nat)=>B2 e0 ei0 (Jj s i) (t.getD j []) a i j
def conds(e0 ei0:Nat)(root:B8)(n:Int)(g:B8)(s:List Sg)(a:List (List Pf))(t:List B8):Nat->List CF
 |0=>[amh root n g s]
 |i+1=>conds e0 ei0 root n g s a t i++O1 e0 ei0 s a t i t.length
def nJ(e0 ei0:Nat)(root:B8)(n:Int)(g:B8)(s:List Sg)(a:List (List Pf))(t:List B8)(i k:Nat):List CF:=
 conds e0 ei0 root n g s a t i++O1 e0 ei0 s a t i k
def zE(s:List Sg)(a:List (List Pf))(t:List B8)(i k:Nat):Bool:=(List.range k).all λ(j:Nat)=>sZ (Jj s i) (t.getD j []) a i j
def Fc(s:List Sg)(a:List (List Pf))(t:List B8)(i:Nat):Bool:=(List.range i).all λ(i:Nat)=>qF a i t&&zE s a t i t.length
def xp(s:List Sg)(a:List (List Pf))(t:List B8)(j:Nat):Nat->List Int
 |0=>[]
 |i+1=>SA (xp s a t j i) (Ak (Jj s i) (t.getD j []) a i j).1
def uZ(s:List Sg)(a:List (List Pf))(t:List B8)(i k:Nat):List (List Int):=(List.range t.length).map λ(j:Nat)=>xp s a t j (if j<k then i+1 else i)
def yn(s:List Sg)(a:List (List Pf))(t:List B8)(i:Nat):List (List Int):=(List.range t.length).map λ(j:Nat)=>xp s a t j i
def SB(root:B8)(a:Int×B8×List Sg×List (List Pf))(t:List B8):Bool:=vz a.1 a.2.1 a.2.2.1 root&&Fc a.2.2.1 a.2.2.2 t a.2.2.1.length
def kA(root:B8)(l:List dC)(b:B8):List Int×Int:=
 if(bif !decide ((root.length:Int)=32) then true else !bw l) then([],1) else if(bp b).2≠0 then([],(bp b).2)
 else if SB root (bp b).1 (ax l) then mh l (yn (bp b).1.2.2.1 (bp b).1.2.2.2 (ax l) (bp b).1.2.2.1.length) else([],6)
def aca(b:B8)(k:Nat):Prop:=k<=(bp b).1.2.2.1.length/\(bp b).2=0
def UU(b:B8)(t:List B8)(k j:Nat):Prop:=k<(bp b).1.2.2.1.length/\j<=t.length/\(bp b).2=0
theorem Ed:∀(l m:List CF) (z:Z),((bZ (l++m) z).1↔(bZ l z).1/\((bZ l z).2.1=true->(bZ m (bZ l z).2.2).1))/\(bZ (l++m) z).2.1=((bZ l z).2.1&&(bZ m (bZ l z).2.2).2.1)/\((bZ l z).2.1=true->(bZ (l++m) z).2.2=(bZ m (bZ l z).2.2).2.2)
 |[],m,z=>by simp [bZ]
 |F::l,m,z=>by
  obtain⟨h1,h2,h3⟩:=Ed l m (F z).2.2;simp [List.cons_append,bZ];grind
structure qH (l:List CF) (z z':Z) (o:Bool):Prop where
 pre:(bZ l z).1
 ok:(bZ l z).2.1=o
 to:o=true->(bZ l z).2.2=z'
theorem qH.snoc {l m:List CF}{z z1 z2:Z}{o1 o2:Bool}(h:qH l z z1 o1)(g:o1=true->qH m z1 z2 o2):qH (l++m) z z2 (o1&&o2):=by
 obtain⟨h1,h2,h3⟩:=Ed l m z;cases o1 with
 |false=>exact⟨h1.2 ⟨h.pre,λq=>by rw [h.ok] at q;cases q⟩,by rw [h2,h.ok];rfl,nofun⟩
 |true=>
  have e:=h.to rfl;obtain⟨g1,g2,g3⟩:=g rfl;rw [e] at h1 h2 h3;exact⟨h1.2 ⟨h.pre,λ_=>g1⟩,by rw [h2,h.ok,g2],λq=>by rw [h3 h.ok];grind⟩
theorem qH.one {F:CF}{z:Z}{b:Bool}(h:(F z).1)(h1:(F z).2.1= .bool b):qH [F] z (F z).2.2 b:=by
 refine⟨⟨h,by rw [h1];rfl,λ_=>trivial⟩,?_,λq=>?_⟩
 . simp [bZ,h1];cases b<;>rfl
 grind[bZ]
theorem arz(s:List Sg)(a:List (List Pf))(t:List B8)(i:Nat):uZ s a t i 0=yn s a t i:=by
 rfl
theorem ahF(s:List Sg)(a:List (List Pf))(t:List B8)(i:Nat):uZ s a t i t.length=yn s a t (i+1):=by
 simp_all[uZ,yn,R?,M!,f?]
theorem Jk(s:List Sg)(a:List (List Pf))(t:List B8)(i k:Nat):(uZ s a t i k).length=t.length:=by simp [uZ]
variable {a:List (List Pf)}{i e0 ei0:Nat}{s:List Sg}{t:List B8}{b g:B8}{l:List dC}{n:Int}
theorem Yn{k:Nat}(hk:k<t.length):(uZ s a t i k).getD k []=xp s a t k i:=by
 rw [G!,uZ,B?,List.getElem?_range hk];simp
theorem ahG{k:Nat}(hk:k<t.length):(uZ s a t i k).set k (xp s a t k (i+1))=uZ s a t i (k+1):=by
 apply List.ext_getElem?;intro j;rw [List.getElem?_set,Jk];by_cases hj:j<t.length
 . by_cases hkj:k=j
   . subst hkj;rw [M! rfl,M! hk,uZ,B?,List.getElem?_range hk];simp
   . rw [if_neg hkj,uZ,uZ,List.getElem?_map,List.getElem?_map,List.getElem?_range hj];grind
 grind[List.getElem?_eq_none,Jk]
theorem KN(b:B8):∀(n:Nat) (a e p:Int) (l:List Int),(tE b n a e p l).1.length<=l.length+n
 |0,a,e,p,l=>by
  grind[tE]
 |n+1,a,e,p,l=>by
  unfold tE;split
  . simp
  . split
    . simp
    . have:=KN b n (af b a e).1.2.1 (af b a e).1.2.2 (p+((af b a e).2+1)) (l++[p+((af b a e).2+1)]);rw [K!,C?] at this;omega
theorem Yo(b:B8):(b8 b).1.length<=1000:=by
 grind[b8,KN,o0,List.length_nil]
theorem SC(root:B8)(n:Int)(t:B8)(p:Pf):(iI root n t p).1.length<=1000:=by
 grind[iI,Su,Yo]
theorem O2(s:List Sg)(a:List (List Pf))(t:List B8)(j:Nat):∀i,(xp s a t j i).length<=1000*i
 |0=>by simp [xp]
 |i+1=>by
  have h1:=O2 s a t j i;have h2:=SC (Jj s i).2.2.2 (Jj s i).2.2.1 (t.getD j []) (Sy a i j);rw [xp,SA,K!,Ak];omega
def UW(s:List Sg)(a:List (List Pf))(t:List B8):Prop:=s.length=a.length/\s.length<=64/\t.length<=1099511627776/\(∀w∈t,small w)/\∀x∈a,∀p∈x,dM p.2.2.2.2.1/\aC p.2.2.2.2.2/\small p.2.2.2.2.2
theorem ami(hp:UW s a t){k:Nat}(hi:i<s.length)(hm:qF a i t=true)(hk:k<t.length):OZ (t.getD k []) a i k:=by
 obtain⟨h1,h2,h3,h4,h5⟩:=hp;have hm:(a.getD i []).length=t.length:=by grind[qF]
 have hia:i<a.length:=by omega
 have hx:=bC a i [] hia
 have hpf:Sy a i k∈a.getD i []:=by
  grind[Sy,pfD,iE,bC,X0]
 obtain⟨q1,q2,q3⟩:=h5 _ hx _ hpf;refine⟨⟨w!,w!⟩,⟨w!,?_⟩,h4 _ (bC t k [] hk),q1,q2,q3⟩;grind[iE]
theorem ahH{k:Nat}(h:sZ (Jj s i) (t.getD k []) a i k=true):O0 (Jj s i) (t.getD k []) a i k (xp s a t k i)=xp s a t k (i+1):=by
 rw [O0,M! h];rfl
theorem zZ {α:Type}(f:Nat->α)(k:Nat):(List.range (k+1)).map f=(List.range k).map f++[f k]:=by
 rw [List.range_succ,l?];rfl
theorem ayQ {e0 ei0:Nat}{s:List Sg}{a:List (List Pf)}{t:List B8}(hp:UW s a t){i:Nat}(hi:i<s.length)(hm:qF a i t=true):∀k,k<=t.length->
  qH ((List.range k).map λ(j:Nat)=>B2 e0 ei0 (Jj s i) (t.getD j []) a i j) (.g e0 ei0 (uZ s a t i 0)) (.g e0 ei0 (uZ s a t i k)) (zE s a t i k)
 |0,_=>⟨trivial,rfl,λ_=>rfl⟩
 |k+1,hk=>by
  rw [zZ]
  have e:zE s a t i (k+1)=(zE s a t i k&&sZ (Jj s i) (t.getD k []) a i k):=by
   unfold zE;rw [List.range_succ,List.all_append];simp
  rw [e];refine(ayQ hp hi hm k w!).snoc λ_=>?_;have xH:k<t.length:=by omega
  have e2:((k:Int)).toNat=k:=by simp
  have hlen:=O2 s a t k i
  have h:=qH.one (F:=B2 e0 ei0 (Jj s i) (t.getD k []) a i k) (z:=.g e0 ei0 (uZ s a t i k)) (b:=sZ (Jj s i) (t.getD k []) a i k)
   ⟨rfl,rfl,ami hp hi hm xH,by rw [e2,Yn xH,Jk];exact⟨e2.symm,xH,by have:=hp.2.1;grind[small]⟩⟩ rfl
  refine⟨h.pre,h.ok,λq=>?_⟩;rw [h.to q];grind[B2,Yn,ahH,ahG]
theorem ayR {e0 ei0:Nat}{root:B8}{n:Int}{g:B8}{s:List Sg}{a:List (List Pf)}{t:List B8}(hp:UW s a t):∀i,i<=s.length->
  qH (conds e0 ei0 root n g s a t i) (.g e0 ei0 (yn s a t 0)) (.g e0 ei0 (yn s a t i)) (vz n g s root&&Fc s a t i)
 |0,_=>by
  have:=qH.one (F:=amh root n g s) (z:=.g e0 ei0 (yn s a t 0)) (b:=vz n g s root) trivial rfl;have e:(vz n g s root&&Fc s a t 0)=vz n g s root:=by simp [Fc]
  rw [e];exact this
 |i+1,hi=>by
  have e:Fc s a t (i+1)=(Fc s a t i&&(qF a i t&&zE s a t i t.length)):=by
   unfold Fc;rw [List.range_succ,List.all_append];simp
  rw [e,<-Bool.and_assoc];refine(ayR hp i w!).snoc λ_=>?_;have h1:=qH.one (F:=ab9 a i t) (z:=.g e0 ei0 (yn s a t i)) (b:=qF a i t) (by have:=hp.1;exact⟨w!,w!⟩) rfl
  have h2:=h1.snoc (m:=(List.range t.length).map λ(j:Nat)=>B2 e0 ei0 (Jj s i) (t.getD j []) a i j) (z2:=.g e0 ei0 (yn s a t (i+1))) (o2:=zE s a t i t.length) λhm=>by
   have:=ayQ (e0:=e0) (ei0:=ei0) hp (show i<s.length by omega) hm t.length (S! _);rw [arz,ahF] at this;exact this
  exact h2
theorem arA(s:List Sg)(a:List (List Pf))(t:List B8):yn s a t 0=List.replicate t.length []:=by
 rw [List.eq_replicate_iff];refine⟨by simp [yn],λx hx=>?_⟩;obtain⟨j,_,rfl⟩:=T?.1 hx;rfl
theorem acb(hb:b.length<1099511627776)(hl:fV l)(h:(bp b).2=0):UW (bp b).1.2.2.1 (bp b).1.2.2.2 (ax l):=by
 have hq:∀(k:Nat) (a e:Int),(sL b a e k).2.length=k/\∀x∈(sL b a e k).2,∀p∈x,p.2.2.2.2.1.length<=64/\p.2.2.2.2.2.length<=b.length:=by
  intro k a e;induction k with
  |zero=>exact⟨rfl,nofun⟩
  |succ k ih=>
   refine⟨by grind[sL],λx hx=>?_⟩;simp only [sL,List.mem_append,List.mem_singleton] at hx;rcases hx with hx|rfl
   . grind
   . have hpf:∀(m:Nat) (a e:Int),∀p∈(D9 b a e m).2,p.2.2.2.2.1.length<=64/\p.2.2.2.2.2.length<=b.length:=by
      intro m a e;induction m with
      |zero=>exact nofun
      |succ m ih=>
       intro p hp;simp only [D9,F!,v?] at hp;rcases hp with hp|rfl
       . grind
       . refine⟨?_,LY _ _ _ _⟩;grind[iF,q3,iK,LZ,OP]
     exact hpf _ _ _
 have h1:(ax l).length<=1099511627776:=(Sx hl.1).2
 have h2:∀w∈ax l,small w:=λw hw=>by
  have:=(jk (qC l) w).1 hw;simp only [qC,bS,T?,List.mem_filter] at this;obtain⟨o,⟨ho,_⟩,rfl⟩:=this;exact hl.2 o (List.mem_of_mem_take ho)
 have V4:bp b=(((aH b).2.1,(aH b).2.2.1,(aH b).2.2.2,(js b (aN b)).2),0):=by
  grind[ayN,alU,ayM]
 rw [V4];have:=hq (aN b) (aH b).1.1 (aH b).1.2;refine⟨this.1.symm,ô b,h1,h2,λx hx p hp=>?_⟩;have q:=this.2 x hx p hp;grind[dM,aC,small]
theorem O3(e0 ei0:Nat)(s:List Sg)(a:List (List Pf))(t:List B8)(i k:Nat):(O1 e0 ei0 s a t i k).length=k+1:=by simp [O1]
theorem Fe {e0 ei0:Nat}{root:B8}{n:Int}{g:B8}{s:List Sg}{a:List (List Pf)}{t:List B8}:∀i,(conds e0 ei0 root n g s a t i).length=1+i*(t.length+1)
 |0=>by simp [conds]
 |i+1=>by rw [conds,K!,Fe i,O3,Nat.succ_mul];omega
theorem UX{root:B8}(i k:Nat):(nJ e0 ei0 root n g s a t i k).length=1+i*(t.length+1)+(k+1):=by
 rw [nJ,K!,Fe,O3]
theorem QV{root:B8}(i k:Nat):
  nJ e0 ei0 root n g s a t i k++[B2 e0 ei0 (Jj s i) (t.getD k []) a i k]=nJ e0 ei0 root n g s a t i (k+1):=by
 grind[nJ,O1,zZ,List.append_assoc]
theorem acd(hb:b.length<1099511627776)(hl:fV l)(h:(bp b).2=0):(bp b).1.2.2.1.length<=64:=(acb hb hl h).2.1
theorem ace {b:B8}(hb:b.length<1099511627776)(hl:fV l)(h:(bp b).2=0)(hq:bw l=true)(hi:i<=(bp b).1.2.2.1.length):i*((ax l).length+1)<=1088:=by
 have h1:=acd hb hl h;have h2:=pS hq;exact X? (Nat.mul_le_mul (show i<=64 by omega) (show(ax l).length+1<=17 by omega)) (by decide)
theorem O4 {root:B8}(h:(root.length:Int)=32/\bw l=true):¬(bif !decide ((root.length:Int)=32) then true else !bw l)=true:=by
 grind
theorem aBu {root:B8}(h:¬(root.length:Int)=32\/bw l=false):(bif !decide ((root.length:Int)=32) then true else !bw l)=true:=by
 grind
theorem arB {root:B8}(h:(bif !decide ((root.length:Int)=32) then true else !bw l)=true): []=(kA root l b).1/\1=(kA root l b).2:=by
 simp_all[kA,M!]
theorem arC {root:B8}(h:¬(bif !decide ((root.length:Int)=32) then true else !bw l)=true)(h1:¬(bp b).2=0): []=(kA root l b).1/\(bp b).2=(kA root l b).2:=by
 simp_all[kA,J!,M!]
theorem Hy{root:B8}{b:B8}(hb:b.length<1099511627776)(hl:fV l)(h:(bp b).2=0){k:Nat}(hk:k=(bp b).1.2.2.1.length):
  qH (conds e0 ei0 root (bp b).1.1 (bp b).1.2.1 (bp b).1.2.2.1 (bp b).1.2.2.2 (ax l) k) (.g e0 ei0 (Vg.bk.Kj (Int.toNat ((ax l).length:Int)))) (.g e0 ei0 (yn (bp b).1.2.2.1 (bp b).1.2.2.2 (ax l) (bp b).1.2.2.1.length)) (SB root (bp b).1 (ax l)):=by
 subst hk;have:=ayR (e0:=e0) (ei0:=ei0) (root:=root) (n:=(bp b).1.1) (g:=(bp b).1.2.1) (acb hb hl h) _ (S! _);rw [arA] at this;exact this
theorem amj {root:B8}{l:List dC}{b:B8}{c:List CF}{z z':Z}(h0:¬(bif !decide ((root.length:Int)=32) then true else !bw l)=true)(h:(bp b).2=0)(hr:qH c z z' (SB root (bp b).1 (ax l)))(h1:¬(bif (Vg.bk.run c z).2.1 then(0:Int) else 6)=0):
  []=(kA root l b).1/\(bif (Vg.bk.run c z).2.1 then(0:Int) else 6)=(kA root l b).2:=by
 have e:=hr.ok;cases hc:SB root (bp b).1 (ax l) with
 |true=>grind
 |false=>simp_all[kA,J!]
theorem acf {e0 ei0:Nat}{root:B8}{l:List dC}{b:B8}{c:List CF}{z:Z}(h0:¬(bif !decide ((root.length:Int)=32) then true else !bw l)=true)(h:(bp b).2=0)(hr:qH c z (.g e0 ei0 (yn (bp b).1.2.2.1 (bp b).1.2.2.2 (ax l) (bp b).1.2.2.1.length)) (SB root (bp b).1 (ax l)))(h1:(bif (Vg.bk.run c z).2.1 then(0:Int) else 6)=0):
  mh l (Vg.bk.rows (Vg.bk.run c z).2.2)=kA root l b:=by
 have e:=hr.ok;cases hc:SB root (bp b).1 (ax l) with
 |false=>grind
 |true=>
  rw [hr.to hc,kA,J! h0,J! w!,M! hc];rfl
end Go.S
namespace Go.S
def Dr(s:List Bool)(k:Nat):List Bool:=s.drop (s.length-k)
def O5(i j:Int):List Bool:=aZ ((strip i.toNat j.toNat).1:Int) ((strip i.toNat j.toNat).2+1:Int)
def SD(s:List Bool)(i j:Int)(k:Nat):Prop:=0<=i/\i<=j/\j<=1099511627776/\k<=s.length/\s=aZ i (j+1)++Dr s k
def SE(s:List Bool)(p:List B8)(k:Nat):B8×B8:=mf (Dr s k) (p.getD 0 [],p.getD 0 []) ((p.drop 1).take k)
abbrev Cl0:=Int×Int
abbrev Cl2:=Nat×Int×Int×B8×B8
abbrev Cl4:=Int×Int×Nat
def wC(i j:Int)(x:Cl0):Prop:=0<=x.1/\x.1<x.2/\x.2<=1099511627776/\strip x.1.toNat x.2.toNat=strip i.toNat j.toNat
def ow(i j:Int)(p:List B8)(x:Cl2):Prop:=SD (O5 i j) x.2.1 x.2.2.1 x.1/\(x.2.2.2.1,x.2.2.2.2)=SE (O5 i j) p x.1/\x.1+1<=p.length
def wD(i j:Int)(x:Cl4):Prop:=SD (O5 i j) x.1 x.2.1 x.2.2/\(x.1%2=1\/x.1=x.2.1/\x.1≠0)
def B3(m n:Int)(p:List B8):Prop:=0<=m/\m<=n/\n<=1099511627776/\dM p
abbrev Stp:=Int×B8×List Sg×Int×B8×List Sg×List B8
def Hz(root:B8)(s:Stp):Bool:=vz s.1 s.2.1 s.2.2.1 root&&(decide (ia s.1 s.2.2.2.1 s.2.1 s.2.2.2.2.1 s.2.2.2.2.2.2=0)&&decide ((im s.2.2.2.1 s.2.2.2.2.1 s.2.2.2.2.2.1).2=0))
def dW(root b:B8):B8×Int×Int:=
 if ¬root.length=32 then([],0,1) else if ¬(ah b).2=0 then([],0,(ah b).2)
 else if Hz root (ah b).1 then((im (ah b).1.2.2.2.1 (ah b).1.2.2.2.2.1 (ah b).1.2.2.2.2.2.1).1,(ah b).1.2.2.2.1,0) else([],0,6)
theorem amk(s:List Bool):Dr s 0=[]:=by simp [Dr]
variable {s:List Bool}{i j m n:Int}{p docs:List B8}{x:Cl0}{u v b:B8}{l:List aY}
theorem HA{k:Nat}(h:k<=s.length):(Dr s k).length=k:=by grind[Dr]
theorem wE(i:Int):i/2^Int.toNat 1=i/2:=by
 rfl
theorem O6(h0:0<=i)(h1:i<=j)(h2:1<=j):aZ i (j+1)=aZ (i/2) (j/2+1)++(if i%2=1 then [true] else if i<j then [false] else []):=by
 have:=XY (j+1).toNat i h0 w! w!;grind[I7]
theorem Yp{j:Int}{k:Nat}{x:Bool}{i' j':Int}(h:SD s i j k)(hs:aZ i (j+1)=aZ i' (j'+1)++[x])(h1:0<=i')(h2:i'<=j')(h3:j'<=1099511627776):SD s i' j' (k+1)/\Dr s (k+1)=x::Dr s k:=by
 obtain⟨_,_,_,g4,g5⟩:=h;rw [hs,W!] at g5;have hl:=congrArg List.length g5;simp [K!,C?,HA g4] at hl
 have e:Dr s (k+1)=[x]++Dr s k:=by
  have :Dr s (k+1)=(aZ i' (j'+1)++([x]++Dr s k)).drop (aZ i' (j'+1)).length:=by
   unfold Dr;congr 1
   omega
  rw [this,List.drop_left]
 exact⟨⟨h1,h2,h3,w!,by rw [e];exact g5⟩,e⟩
theorem aml{j:Int}{k:Nat}{i' j':Int}(h:SD s i j k)(hs:aZ i (j+1)=aZ i' (j'+1))(h1:0<=i')(h2:i'<=j')(h3:j'<=1099511627776):SD s i' j' k:=
 ⟨h1,h2,h3,h.2.2.2.1,by rw [<-hs];exact h.2.2.2.2⟩
theorem Yq{k:Nat}{x:Bool}(he:Dr s (k+1)=x::Dr s k)(hk:k<=s.length)(hp:k+1<p.length):SE s p (k+1)=abB (SE s p k) (x,p.getD (k+1) []):=by
 unfold SE mf
 have e:(p.drop 1).take (k+1)=(p.drop 1).take k++[p.getD (k+1) []]:=by
  rw [aD (p.drop 1) k [] x!];grind
 rw [he,List.reverse_cons,e,List.zip_append (by grind[List.length_reverse,HA,List.length_take,List.length_drop]),List.foldl_append];rfl
theorem aBx(h:nI i j p):wC i j (i,j):=⟨h.1,h.2.1,by have:=h.2.2.2;omega,rfl⟩
theorem Ff(h:0<=i):Vg.aM i 1=i%2:=by
 have:=and_1 (j:=i.toNat);grind
theorem ahJ(h:wC i j x)(h1:x.1%2=1):wC i j (x.1/2,x.2/2):=by
 obtain⟨g1,g2,g3,g4⟩:=h;refine⟨w!,w!,w!,?_⟩;rw [<-g4,OG (i:=x.1.toNat) w!];grind
theorem amm(hp:nI i j p)(h:wC i j x)(h1:¬x.1%2=1):ow i j p (0,x.1,x.2,p.getD 0 [],p.getD 0 []):=by
 obtain⟨g1,g2,g3,g4⟩:=h;rw [KI (i:=x.1.toNat) w!] at g4
 have e:O5 i j=aZ x.1 (x.2+1):=by
  grind[O5]
 refine⟨⟨g1,x!,g3,Nat.zero_le _,by rw [amk,List.append_nil,e]⟩,?_,by have:=hp.2.2.1;omega⟩;simp_all[SE,amk,mf]
theorem ÿ{j:Int}(h:1<=j):aZ i (j+1)≠[]:=by grind[mq,nH]
variable {x:Cl2}
theorem arD{one two:B8}(hp:nI i j p)(h:ow i j p x)(hk:p.length<=x.1+1):
  (bif (bif decide (x.2.2.1=0) then decide (x.2.2.2.1=one) else false) then decide (x.2.2.2.2=two) else false)=mX i j one two p:=by
 obtain⟨⟨g1,g2,g3,g4,g5⟩,g6,g7⟩:=h;have hl:=congrArg List.length g5;rw [K!,HA g4] at hl;have e0:mX i j one two p=(decide (1<=p.length)&&(decide ((p.drop 1).length=(O5 i j).length)&&decide (mf (O5 i j) (p.getD 0 [],p.getD 0 []) (p.drop 1)=(one,two)))):=rfl;by_cases hj:x.2.2.1=0
 . grind[aZ,jK,O5,Dr,List.take_of_length_le,SE]
 grind[aZ,ÿ,List.eq_nil_of_length_eq_zero,decide_eq_false,O5,List.length_drop]
theorem ahK{one two:B8}(h:ow i j p x)(hk:x.1+1<p.length)(hj:x.2.2.1=0):false=mX i j one two p:=by
 obtain⟨⟨g1,g2,g3,g4,g5⟩,g6,g7⟩:=h;have hl:=congrArg List.length g5;rw [List.length_append,HA g4,jK w!] at hl;have e0:mX i j one two p=(decide (1<=p.length)&&(decide ((p.drop 1).length=(O5 i j).length)&&decide (mf (O5 i j) (p.getD 0 [],p.getD 0 []) (p.drop 1)=(one,two)))):=rfl;grind
theorem ahL(h:ow i j p x)(hk:x.1+1<p.length)(h1:¬x.2.1%2=1)(h2:¬x.2.1=x.2.2.1):
  ow i j p (x.1+1,x.2.1/2,x.2.2.1/2,x.2.2.2.1,aT x.2.2.2.2 (p.getD (x.1+1) [])):=by
 obtain⟨g,g6,g7⟩:=h;have g1:=g.1;have g2:=g.2.1;have g3:=g.2.2.1;have hs:=O6 g1 g2 w!;rw [J! h1,M! w!] at hs;obtain⟨q1,q2⟩:=Yp g hs w! w! w!;refine⟨q1,?_,w!⟩;rw [Yq q2 g.2.2.2.1 hk,<-g6];rfl
theorem aBy(h:ow i j p x)(hj:¬x.2.2.1=0)(h1:x.2.1%2=1\/x.2.1=x.2.2.1):wD i j (x.2.1,x.2.2.1,x.1):=
 ⟨h.1,h1.imp id λe=>⟨e,w!⟩⟩
theorem ahM{x:Cl4}(h:wD i j x)(h1:x.1%2=0)(h2:¬x.1=0):wD i j (x.1/2,x.2.1/2,x.2.2):=by
 obtain⟨g,g4⟩:=h;have g1:=g.1;have g2:=g.2.1;have g3:=g.2.2.1;have hs:=O6 g1 g2 w!;rw [if_neg w!,if_neg w!,List.append_nil] at hs;exact⟨aml g hs w! x! x!,x!⟩
theorem amn{y:Cl4}(h:ow i j p x)(hk:x.1+1<p.length)(h4:wD i j y)(hy:y.2.2=x.1)(h1:¬(y.1%2=0/\¬y.1=0)):
  ow i j p (x.1+1,y.1/2,y.2.1/2,aT (p.getD (x.1+1) []) x.2.2.2.1,aT (p.getD (x.1+1) []) x.2.2.2.2):=by
 obtain⟨g,g6,g7⟩:=h;obtain⟨f,f4⟩:=h4;rw [hy] at f;have f1:=f.1;have f2:=f.2.1;have f3:=f.2.2.1;have hs:=O6 f1 f2 w!;rw [M! w!] at hs;obtain⟨q1,q2⟩:=Yp f hs w! w! w!;refine⟨q1,?_,w!⟩;rw [Yq q2 g.2.2.2.1 hk,<-g6];rfl
theorem aHm(h:m=0):(bif decide ((p.length:Int)=0) then decide (u=sum []) else false)=accepted m n u v p:=by
 simp_all[accepted,M!]
theorem aBz(h:¬m=0)(h1:m=n):(bif decide ((p.length:Int)=0) then decide (u=v) else false)=accepted m n u v p:=by
 simp_all[accepted,J!,M!]
theorem amo(hp:B3 m n p)(h:¬m=0)(h1:¬m=n):accepted m n u v p=mX (m-1) (n-1) u v (if qB m then u::p else p):=by
 obtain⟨q1,q2,q3,_⟩:=hp;rw [accepted,if_neg h,if_neg h1];have e:=QU (m-1).toNat (n-1).toNat w!;grind[mX]
theorem aHn(hp:B3 m n p)(h:¬m=0)(h1:¬m=n)(hw:Vg.aM m (m-1)=0):mX (m-1) (n-1) u v ([u]++p)=accepted m n u v p:=by
 simp_all[amo,M!,qB,H!]
theorem ayS(hp:B3 m n p)(h:¬m=0)(h1:¬m=n)(hw:¬Vg.aM m (m-1)=0):mX (m-1) (n-1) u v p=accepted m n u v p:=by
 simp_all[amo,J!,qB,H!]
theorem arE {m:Int}{p:List B8}(hp:B3 m n p)(h:¬m=0)(h1:¬m=n)(hw:¬Vg.aM m (m-1)=0)(hl:(p.length:Int)=0):false=accepted m n u v p:=by
 rw [<-ayS hp h h1 hw,mX,abC,Y? (show ¬1<=p.length by omega)];rfl
theorem acg{q:List B8}(hp:B3 m n p)(h:¬m=0)(h1:¬m=n)(hq:¬(q.length:Int)=0):nI (m-1) (n-1) q:=by
 obtain⟨q1,q2,q3,_⟩:=hp;refine⟨?_,?_,?_,?_⟩<;>omega
theorem arF{u v:B8}(h:m<0\/n<m\/1099511627776<n\/¬(u.length:Int)=32\/¬(v.length:Int)=32):1=ia m n u v p:=by
 rw [ia,M! h]
theorem Ā{u v:B8}(h:¬m<0/\¬n<m/\¬1099511627776<n/\(u.length:Int)=32/\(v.length:Int)=32):ia m n u v p=if bQ p=true/\accepted m n u v p=true then 0 else 6:=by
 simp_all[ia,J!]
theorem arG {p:List B8}{k:Nat}(hk:(k:Int)<p.length)(h:¬((p.getD k []).length:Int)=32):bQ p=false:=by
 rw [Bool.eq_false_iff];intro q;have:=List.all_eq_true.1 q _ (bC p k [] w!);grind
theorem Yr {p:List B8}{k:Nat}(h:fg p k)(hk:(k:Int)<p.length)(h1:((p.getD k []).length:Int)=32):fg p (k+1):=by
 refine⟨λd hd=>?_,w!⟩;rw [aD p k [] w!,F!,v?] at hd;rcases hd with hd|rfl
 . exact h.1 d hd
 omega
theorem arH{k:Nat}(h:fg p k)(hk:¬(k:Int)<p.length):bQ p=true:=by
 have e:k=p.length:=by have:=h.2;omega
 have:=h.1;rw [e,List.take_length] at this;exact Z!.2 λd hd=>K? (this d hd)
theorem aBA {root:B8}(h:¬(root.length:Int)=32):dW root b=([],0,1):=by rw [dW,M! w!]
theorem aBB {root:B8}(h:(root.length:Int)=32)(h2:¬(ah b).2=0):dW root b=([],0,(ah b).2):=by rw [dW,J! w!,M! h2]
theorem UY {root:B8}(h:(root.length:Int)=32)(h2:(ah b).2=0):dW root b=if Hz root (ah b).1 then((im (ah b).1.2.2.2.1 (ah b).1.2.2.2.2.1 (ah b).1.2.2.2.2.2.1).1,(ah b).1.2.2.2.1,0) else([],0,6):=by
 rw [dW,J! w!,J! w!]
theorem amp(b:B8):dM (ah b).1.2.2.2.2.2.2:=by
 unfold ah;split
 . exact U! _
 . split
   . exact U! _
   . show(uV b).2.length<=_;grind[uV,iK,LZ,OP]
theorem amq(a b c:Bool):(bif (bif a then(bif b then(bif c then true else false) else false) else false) then(0:Int) else 6)=if a&&(b&&c) then 0 else 6:=by
 grind
theorem ā {a b c:Bool}(h:(bif (bif a then(bif b then(bif c then true else false) else false) else false) then(0:Int) else 6)=0):(a&&(b&&c))=true:=by
 grind
theorem dl {p:List B8}{k:Nat}(h:(k:Int)<((p.drop (Int.toNat 1)).length:Int)):k+1<p.length:=by
 grind
theorem dl' {p:List B8}{k:Nat}(h:¬(k:Int)<((p.drop (Int.toNat 1)).length:Int)):p.length<=k+1:=by
 grind
theorem dgD(p:List B8)(k:Nat):(p.drop (Int.toNat 1)).getD (Int.toNat (k:Int)) []=p.getD (k+1) []:=by
 grind
def aHp:B8:=[119,97,105,110,32,104,97,121]
def ky:QS:=([zA,aHp],[(0,2,[(zA,[0,1]),([119,97,105,110],[1])])])
abbrev ky0:(List B8×List aY)×Int:=cP (Vg.ur B8) (Vg.ur (Int×Int×List (B8×List Int))) [104,97,121]
theorem UZ:(bY (cP ky0.1.1 ky0.1.2 [119,97,105,110,32,104,97,121]).1.1 (cP ky0.1.1 ky0.1.2 [119,97,105,110,32,104,97,121]).1.2).1=ky:=by rfl
theorem L3:(fE ky.1 ky.2 fy).1.length<1099511627776/\0<(fE ky.1 ky.2 fy).1.length:=by decide+kernel
theorem aHq:kA (mG ky.1 ky.2).1 fy (fE ky.1 ky.2 fy).1=([0,1],0):=by decide+kernel
theorem aHr:(kA (mG ky.1 ky.2).1 fy ((fE ky.1 ky.2 fy).1.set ((fE ky.1 ky.2 fy).1.length-1) ((fE ky.1 ky.2 fy).1.getD ((fE ky.1 ky.2 fy).1.length-1) 0+1))).2≠0:=by decide+kernel
theorem arJ(a:UInt8):UInt8.ofNat (Int.toNat (((a.toNat:Int)+1)%256))=a+1:=by
 apply UInt8.toNat.inj;rw [UInt8.toNat_add];simp only [UInt8.toNat_ofNat'];have:=a.toNat_lt;have e:(1:UInt8).toNat=1:=rfl;rw [e];omega
variable {x:B8}{n:Nat}
theorem ayT(h:x=List.set (fE ky.1 ky.2 fy).1 (Int.toNat (((fE ky.1 ky.2 fy).1.length:Int)-1)) (UInt8.ofNat (Int.toNat (((((fE ky.1 ky.2 fy).1.getD (Int.toNat (((fE ky.1 ky.2 fy).1.length:Int)-1)) 0).toNat:Int)+1)%256)))):
  x.length<1099511627776/\(kA (mG ky.1 ky.2).1 fy x).2≠0:=by
 have e:Int.toNat (((fE ky.1 ky.2 fy).1.length:Int)-1)=(fE ky.1 ky.2 fy).1.length-1:=by omega
 rw [arJ,e] at h;refine⟨by rw [h,m?];exact L3.1,?_⟩;rw [h];exact aHr
theorem arK(h:(kA (mG ky.1 ky.2).1 fy x).2≠0):
  (bif sH (kA (mG ky.1 ky.2).1 fy (fE ky.1 ky.2 fy).1).1 [0,1] then bif decide ((kA (mG ky.1 ky.2).1 fy (fE ky.1 ky.2 fy).1).2=0) then !decide ((kA (mG ky.1 ky.2).1 fy x).2=0) else false else false)=true:=by
 rw [aHq];simp only [Y? h];rfl
theorem aNU(h:gv docs l=true):vz ((docs.length:Nat):Int) (root (leaves docs)) (cB docs l) (mG docs l).1=true:=by
 have e:im ((docs.length:Nat):Int) (root (leaves docs)) (cB docs l)=mG docs l:=by
  unfold im mG;rw [if_pos (ï h),if_pos h]
 have e2:(mG docs l).2=0:=by unfold mG;rw [if_pos h]
 simp [vz,e,e2]
theorem aNV(h:gv docs l=true):(mG docs l).1.length=32:=by
 unfold mG;rw [if_pos h];exact IP _ _
variable {l:List B8}
theorem aXO(hl:l.length<=1099511627776)(hd:bQ l=true)(h0:0<=i)(h1:i<l.length)(h32:(l.getD i.toNat []).length=32):
  eQ (l.getD i.toNat []) i l.length (path l i)=0/\kq (l.getD i.toNat []) i l.length (path l i)=root l:=by
 have e:eQ (l.getD i.toNat []) i l.length (path l i)=0:=by
  unfold eQ;rw [if_pos ⟨w!,w!,w!,h0,h1⟩,if_pos ⟨by rw [ahu _ l i rfl];rfl,ñ _ l i rfl hd⟩]
 refine⟨e,?_⟩;unfold kq;rw [if_pos e];exact aXk _ l i rfl h0 h1
theorem aXC {α:Type}{l:List α}{i:Nat}(h:i<l.length)(x:α):l.getD i x=l[i]:=by
 grind
theorem U0(x:Bool)(s:List Bool)(p:List B8)(y:B8)(r:B8×B8)(h:p.length=s.length):mf (x::s) r (p++[y])=abB (mf s r p) (x,y):=by
 simp_all[mf,List.reverse_cons,List.zip_append,List.foldl_append]
theorem arL(h:2<=n):∃t,sp n=2^t/\2^t<n/\n<=2^(t+1):=by
 refine⟨Nat.log2 (n-1),rfl,?_,?_⟩
 . grind[Nat.log2_self_le]
 grind[Nat.lt_log2_self]
theorem a5Q {m:Nat}(h:2<=n)(h1:sp n<m)(h2:m<=n):sp m=sp n:=by
 grind[arL,Ï]
theorem a3u(n:Nat):∀(l:List B8) (m:Int),l.length=n->1<=m->m<=l.length->
  ∃h r,il l m true=h::r/\r.length=(gy m l.length).length/\mf (gy m l.length) (h,h) r=(root (l.take m.toNat),root l):=by
 induction n using Nat.strongRecOn with
 |_ n ih=>
  intro l m e h1 h2;by_cases he:(l.length:Int)=m
  . rw [il,M! he,I6 w!];refine⟨_,[],rfl,rfl,?_⟩;rw [show m.toNat=l.length by omega,List.take_length];rfl
  . have hn:2<=l.length:=by omega
    have hb:=gN hn;have er:=IW (l:=l) hn rfl;rw [il,J! he,dif_neg w!];by_cases hm:m<=((sp l.length:Nat):Int)
    . rw [if_pos hm,yl w! w! x!];have el:(l.take (sp l.length)).length=sp l.length:=by grind
      obtain⟨h,r,a1,a2,a3⟩:=ih (sp l.length) w! (l.take (sp l.length)) m el h1 w!;rw [el] at a2 a3;refine⟨h,r++[root (l.drop (sp l.length))],x!,by simp [a2],?_⟩;rw [show((l.length:Nat):Int).toNat=l.length from rfl,U0 _ _ _ _ _ a2,a3,List.take_take,show min m.toNat (sp l.length)=m.toNat by omega,er];rfl
    . rw [J! hm,C8 w! w! (by simpa using hm)];have el:(l.drop (sp l.length)).length=l.length-sp l.length:=N?;obtain⟨h,r,a1,a2,a3⟩:=ih (l.length-sp l.length) w! (l.drop (sp l.length)) (m-((sp l.length:Nat):Int)) el w! w!;have e3:(((l.drop (sp l.length)).length:Nat):Int)=((l.length:Nat):Int)-((sp l.length:Nat):Int):=by omega
      rw [e3] at a2 a3;refine⟨h,r++[root (l.take (sp l.length))],by rw [a1];rfl,by simp [a2],?_⟩;rw [show((l.length:Nat):Int).toNat=l.length from rfl,U0 _ _ _ _ _ a2,a3,er];have hm2:(l.take m.toNat).length=m.toNat:=by rw [J?];omega
      have es:sp (l.take m.toNat).length=sp l.length:=by exact a5Q hn w! w!
      have e2:=IW (l:=l.take m.toNat) w! es;rw [e2,List.take_take,show min (sp l.length) m.toNat=sp l.length by omega,List.drop_take,show m.toNat-sp l.length=(m-((sp l.length:Nat):Int)).toNat by omega];rfl
theorem arM(t:Nat):qB ((2^t:Nat):Int)=true:=by
 grind[qB,oe,Int.natCast_nonneg,decide_eq_true,Int.emod_self]
theorem ach {a t:Nat}(h:2^t<=a)(h2:a<2^(t+1)):a.testBit t=true:=by
 rw [Nat.testBit_eq_decide_div_mod_eq,show a/2^t=1 from Nat.div_eq_of_lt_le w! w!];rfl
theorem arN {t:Nat}(h:((2^t:Nat):Int)<m)(h2:m<((2^(t+1):Nat):Int)):qB m=false:=by
 refine decide_eq_false λe=>?_;have h0:m.toNat&&&(m-1).toNat=0:=by grind[Vg.aM]
 have:=congrArg (λx=>x.testBit t) h0;simp only [Nat.testBit_and,Nat.zero_testBit] at this;rw [ach w! w!,ach w! w!] at this;cases this
theorem a3v(n:Nat):∀(l:List B8) (m:Int),l.length=n->1<=m->m<=l.length->
  (qB m=true->il l m true=root (l.take m.toNat)::il l m false)/\(qB m=false->m<l.length->il l m false=il l m true):=by
 induction n using Nat.strongRecOn with
 |_ n ih=>
  intro l m e h1 h2;by_cases he:(l.length:Int)=m
  . refine⟨λ_=>?_,λ_ h=>by omega⟩;rw [il,M! he,il,M! he,show m.toNat=l.length by omega,List.take_length];rfl
  . have hn:2<=l.length:=by omega
    obtain⟨t,e1,e2,e3⟩:=arL hn
    have c:∀b,il l m b=if m<=((sp l.length:Nat):Int) then il (l.take (sp l.length)) m b++[root (l.drop (sp l.length))] else il (l.drop (sp l.length)) (m-((sp l.length:Nat):Int)) true++[root (l.take (sp l.length))]:=λb=>by
     rw [il,J! he,dif_neg w!]
    rw [c,c];by_cases hm:m<=((sp l.length:Nat):Int)
    . rw [M! hm,M! hm];have el:(l.take (sp l.length)).length=sp l.length:=by rw [J?];omega
      obtain⟨i1,i2⟩:=ih (sp l.length) w! (l.take (sp l.length)) m el h1 (by rw [el];exact hm);refine⟨λhw=>?_,λhw _=>?_⟩
      . rw [i1 hw,List.take_take,show min m.toNat (sp l.length)=m.toNat by omega];rfl
      . have fh:m≠((sp l.length:Nat):Int):=λhq=>by rw [hq,e1,arM] at hw;cases hw
        rw [i2 hw w!]
    . rw [J! hm,J! hm];refine⟨λhw=>?_,λ_ _=>rfl⟩;have:=arN (t:=t) (m:=m) w! w!;rw [this] at hw;cases hw
theorem a3w(hd:bQ l=true)(h0:0<=m)(h1:m<=l.length):accepted m l.length (root (l.take m.toNat)) (root l) (afY l m)=true:=by
 have ec:afY l m=if m=0 then [] else il l m false:=by simp_all[afY,M!]
 rw [ec];unfold accepted;by_cases e0:m=0
 . simp_all[M!,R5]
 . rw [J! e0,J! e0];by_cases en:m=l.length
   . simp_all[M!,il,List.take_length]
   . rw [if_neg en];obtain⟨h,r,a1,a2,a3⟩:=a3u _ l m rfl w! h1;obtain⟨s1,s2⟩:=a3v _ l m rfl w! h1;grind[qB,root,il,abC,ayJ]
theorem a2u(hd:bQ l=true)(hl:l.length<=1099511627776)(h0:0<=m)(h1:m<=l.length)(hp:bQ (afY l m)=true):ia m l.length (root (l.take m.toNat)) (root l) (afY l m)=0:=by
 have d1:(root (l.take m.toNat)).length=32:=agS _ _ (S! _) (by
  grind[bQ,List.all_eq_true,hx,List.mem_of_mem_take])
 have d2:(root l).length=32:=agS _ _ (Nat.le_refl _) hd;unfold ia;rw [if_neg w!,if_pos ⟨hp,a3w hd h0 h1⟩]
variable {l:List aY}
theorem a0F(h:gv docs l=true):im ((docs.length:Nat):Int) (root (leaves docs)) (cB docs l)=((mG docs l).1,0):=by
 have e2:(mG docs l).2=0:=by rw [aZV h]
 have e:im ((docs.length:Nat):Int) (root (leaves docs)) (cB docs l)=mG docs l:=by
  simp_all[im,mG,M!,ï]
 grind
theorem a3x {a b:List B8}{m:List aY}(h:gv a l=true)(h':gv b m=true)(hb:aXA a b=true):
  dW (mG a l).1 (aLX a l b m).1=((mG b m).1,(b.length:Int),0):=by
 obtain⟨_,_,h3⟩:=a0E h h' hb;have hlen:(mG a l).1.length=32:=aNV h;simp [aXA,B!,H!] at hb
 have hr:root (leaves a)=root ((leaves b).take ((a.length:Nat):Int).toNat):=by
  grind[Int.toNat_natCast,leaves,List.map_take]
 have hlb:(leaves b).length=b.length:=Yf b;have hfb:=(RI.of (uR.1 h').1).fair;have a4w:b.length<=1000:=by grind[eZ]
 have hc:ia ((len a:Nat):Int) ((len b:Nat):Int) (root (leaves a)) (root (leaves b)) (afY (leaves b) ((a.length:Nat):Int))=0:=by
  have:=a2u (l:=leaves b) (tB b) w! (m:=((a.length:Nat):Int)) w! w! (a3s (a:=a) h').2;rw [hlb,<-hr] at this;exact this
 have hs:Hz (mG a l).1 (((len a:Nat):Int),root (leaves a),cB a l,((len b:Nat):Int),root (leaves b),cB b m,afY (leaves b) ((a.length:Nat):Int))=true:=by
  unfold Hz;simp only [hc,decide_true,Bool.true_and,Bool.and_eq_true];exact⟨aNU h,decide_eq_true (by show(im ((b.length:Nat):Int) (root (leaves b)) (cB b m)).2=0;rw [a0F h'])⟩
 unfold dW;rw [if_neg w!,h3,if_neg z!,if_pos hs];show((im ((b.length:Nat):Int) (root (leaves b)) (cB b m)).1,((b.length:Nat):Int),(0:Int))=_;rw [a0F h']
theorem a3y(h:gv docs l=true)(h0:0<=i)(h1:i<docs.length):
  fS (mG docs l).1 i (aMW docs l i).1=(a0J docs i,0):=by
 have hlen:(mG docs l).1.length=32:=aNV h;have hp:=(a0B h (i:=i) h0 h1).2.1;have hlb:(leaves docs).length=docs.length:=Yf docs;have hfb:=(RI.of (uR.1 h).1).fair;have a4w:docs.length<=1000:=by grind[eZ]
 have hlf:(leaves docs).getD i.toNat []=leaf (a0J docs i):=by
  unfold leaves a0J;rw [aXC (by rw [List.length_map];omega),List.getElem_map,aXC w!]
 have hc:=aXO (l:=leaves docs) w! (tB docs) h0 w! (by rw [hlf];rfl);rw [hlf,hlb] at hc
 have Lh:Yi (mG docs l).1 i ((docs.length:Int),root (leaves docs),cB docs l,i,docs.getD i.toNat [],path (leaves docs) i)=true:=by
  unfold Yi xm;simp only [Bool.and_eq_true,decide_eq_true_eq];exact⟨aNU h,trivial,hc.1,hc.2⟩
 unfold fS;rw [if_neg w!,hp,if_neg z!,if_pos Lh];rfl
def hz(l m:List rf):QS:=(bY (ayO l m (min m.length 40)).1 (ayO l m (min m.length 40)).2).1
def a0e(l m:List rf):Nat:=(hz l m).1.length
def a0f(l m:List rf)(k:Nat):Prop:=k<=a0e l m
def aTU(l m:List rf)(k:Nat):QS:=(bY (ayO l m k).1 (ayO l m k).2).1
variable {m:List rf}
theorem a4x{k:Nat}(h:aAP m k)(h1:¬(k:Int)<m.length\/¬(k:Int)<40):k=min m.length 40:=by
 have:=h.1;have:=h.2;omega
theorem a1M(l m:List rf){k:Nat}(hk:k<=40):
  (mG (hx l).1 (hx l).2).2=0/\(mG (aTU l m k).1 (aTU l m k).2).2=0/\
  (aLX (hx l).1 (hx l).2 (aTU l m k).1 (aTU l m k).2).2=0/\
  (aLX (hx l).1 (hx l).2 (aTU l m k).1 (aTU l m k).2).1.length<1099511627776/\
  dW (mG (hx l).1 (hx l).2).1 (aLX (hx l).1 (hx l).2 (aTU l m k).1 (aTU l m k).2).1=((mG (aTU l m k).1 (aTU l m k).2).1,((aTU l m k).1.length:Int),0):=by
 grind[aZO,a0E,azG,aZV,aTU,a3x,a0C]
theorem a1N(l m:List rf){k:Nat}(hk:k<=40){i:Nat}(hi:(i:Int)<(aTU l m k).1.length):
  (aMW (aTU l m k).1 (aTU l m k).2 (i:Int)).2=0/\
  (aMW (aTU l m k).1 (aTU l m k).2 (i:Int)).1.length<1099511627776/\
  fS (mG (aTU l m k).1 (aTU l m k).2).1 (i:Int) (aMW (aTU l m k).1 (aTU l m k).2 (i:Int)).1=((aTU l m k).1.getD (Int.toNat (i:Int)) [],0):=by
 have f:=aZO l m hk;have p:=a0B f.1 (i:=(i:Int)) w! hi;refine⟨?_,?_,?_⟩
 . grind[aTU]
 . grind[aTU]
 . exact a3y f.1 w! hi
theorem a0x(l:List rf){k:Nat}(h:aAP m k)(h1:¬(k:Int)<m.length\/¬(k:Int)<40):(aTU l m k).1.length=a0e l m/\a0e l m<=1099511627776:=by
 have e:=a4x h h1;have f:=(aY1 (aZO l m h.2).1).1.1;rw [e] at f |-;exact⟨rfl,f⟩
abbrev Lf:=B8×Int
def gD(b:B8)(e:Int):Lf×Int:=if e≠0 then((b,e),0) else((b.drop (first b).2.1.toNat,(first b).2.2),(first b).1)
def iq(b:B8)(e m:Int):Lf×B8:=if e≠0 then((b,e),[]) else((b.drop (aq b m).2.1.toNat,(aq b m).2.2),(aq b m).1)
def bO(b:B8)(e m:Int):Lf×Int:=if(gD b e).1.2=0/\m<(gD b e).2 then(([],2),0) else gD b e
def nK(b:B8)(k:Nat):List B8:=(List.range k).map λi=>(b.drop (32*i)).take 32
def Ln(b:B8)(e:Int):Nat:=(bO b e 64).2.toNat
def fM(b:B8)(e:Int):Lf×List B8:=
 if(bO b e 64).1.1.length<32*Ln b e then(([],4),[]) else(((bO b e 64).1.1.drop (32*Ln b e),(bO b e 64).1.2),nK (bO b e 64).1.1 (Ln b e))
def u1(b:B8)(e:Int):Lf×Int:=gD b e
def u2(b:B8)(e:Int):Lf×B8:=iq (u1 b e).1.1 (u1 b e).1.2 200
def u3(b:B8)(e:Int):Lf×List B8:=fM (u2 b e).1.1 (u2 b e).1.2
def u4(b:B8)(e:Int):Lf×B8:=iq (u3 b e).1.1 (u3 b e).1.2 4000
end Go.S
namespace Go.Vg
open Go
variable [HP]
def Pb {P:Program}{W:World}:∀ {laid:List (String×DataW Unit)} {ps:List MemPlace} {name:String} {d:DataW Unit},DataW.LaidVars P W laid ps->(name,d)∈laid->
  ∃(g:Nat) (t:TypeId) (cs:Array Value) (fuel:Nat) (p:List MemPlace),P.globalNamed name=some g/\(P.globals[g]?).map (·.type)=some t/\W.var? P name=some cs/\DataW.trod (λ_=>()) P W 0 (λ_=>true) false fuel t cs.toList=some (d,p)
 |[],_,_,_,_,hm=>by grind
 |x::rest,ps,name,d,h,hm=>by
  obtain⟨g',t',cs,fuel,p,q,xR,ht',aHC,hd,hr,hps⟩:=h;rcases P!.1 hm with rfl|hm
  . exact⟨g',t',cs,fuel,p,xR,ht',aHC,hd⟩
  . exact Pb hr hm
def Pc {H:Type}{enc:TypeId×Value->H}{P:Program}{w:World}{base:Nat}{sp:Nat->Bool}{held:Bool}{fuel:Nat}{t e:TypeId}{n m:Nat}{k:IntKind}{cs:List Value}{zss:List (List Int)}{p:List MemPlace}{fs:Array Field}
  (ht:P.underlying t=some (.array n e)) (he:P.underlying e=some (.struct fs)) (T4:P.cellsOf e=m) (hct:P.cellsOf t=n*m) (hfs:fs.size=m) (hf:∀(i:Nat) (f:Field),fs[i]? =some f->f.offset=i/\P.underlying f.type=some (.int k)/\P.cellsOf f.type=1)
  (hz:∀r∈zss,r.length=m) (h:DataW.trod enc P w base sp held fuel t cs=some (.agg (zss.map λr=>.agg (r.map λz=>.lit (.int k z))),p)):cs.length=n*m/\zss.length=n/\
    ∀i j,i<n->j<m->cs[i*m+j]? =some (.int k ((zss.getD i []).getD j 0)):=by
 cases fuel with
 |zero=>simp [DataW.trod] at h
 |succ fuel=>
  simp only [DataW.trod,ht,T4,hct] at h;split at h
  . rename_i hl;obtain⟨xs,hm,hx⟩:=Option.map_eq_some_iff.1 h
    have hxs:xs.map (·.1)=zss.map λr=>(DataW.agg (r.map λz=>.lit (.int k z)):DataW H):=by
     have:=congrArg Prod.fst hx;simpa using this
    have Lg:xs.length=n:=by simpa using Lib.mapM_length hm
    have hzl:zss.length=n:=by
     have:=congrArg List.length hxs;simp at this;omega
    refine⟨hl,hzl,λi j hi hj=>?_⟩;obtain⟨b,hb,hfb⟩:=Lib.mapM_at hm i i (by simp [hi])
    have fi:b.1=DataW.agg ((zss.getD i []).map λz=>.lit (.int k z)):=by
     have h2:(xs.map (·.1))[i]? =some b.1:=by simp [hb]
     rw [hxs] at h2;rw [B?,D! w!] at h2;simp at h2;rw [<-h2,G!,D! w!];rfl
    obtain⟨ys,n',_,hy,_,hyl,hyf⟩:=DataW.trod_struct he hfb
    have hyr:ys.map (·.1)=(zss.getD i []).map λz=>(DataW.lit (.int k z):DataW H):=by
     rw [hy] at fi;simpa using fi
    have hrl:(zss.getD i []).length=m:=hz _ (by rw [G!,D! w!];exact List.getElem_mem _);have hjf:j<fs.size:=by omega
    have hfj:=hyf j fs[j] (Array.getElem?_eq_getElem hjf);obtain⟨f1,f2,f3⟩:=hf j fs[j] (Array.getElem?_eq_getElem hjf);rw [f1,f3] at hfj;have hyj:j<ys.length:=by omega
    rw [D! hyj] at hfj;obtain⟨z,hc,hzv,_⟩:=DataW.trod_int f2 hfj
    have h1:cs[i*m+j]? =some (.int k z):=by
     have:=congrArg (·[0]?) hc;simpa [hj,Nat.add_comm] using this
    have h3:(ys.map (·.1))[j]? =some (DataW.lit (.int k z)):=by rw [B?,D! hyj,hzv];rfl
    rw [hyr,B?,D! w!] at h3;simp only [Option.map_some,A!,DataW.lit.injEq,Lit.int.injEq,true_and] at h3;rw [h1,G!,D! w!];simp only [Option.getD_some,h3]
  grind
variable {W:World}
def acu {P:Program}{name:String}{g:Nat}{cs:Array Value}(hg:P.globalNamed name=some g)(h:W.var? P name=some cs)(hn:0<cs.size):g<W.heap.size:=by
 have h1:=World.var?_cell hg h 0;grind[Array.getElem?_eq_getElem,World.cell?,Array.getElem?_eq_some_iff]
def ph(k:IntKind):(ts:List Ty)->List Int->Row ts->Prop
 |[],[],_=>True
 |.int k'::ts,z::zs,x=>k'=k/\DI.toInt k' (Row.hd (t:=.int k') (ts:=ts) x)=z/\lo k<=z/\z<=hi k/\ph k ts zs (Row.tl x)
 |_,_,_=>False
def Pd {w:World}{A:Nat->Prop}{k:IntKind}:∀(ts:List Ty) (zs:List Int) (x:Row ts),ph k ts zs x->bx w A ts (zs.map (Value.int k)) x
 |[],[],x,_=>by rfl
 |.int k'::ts,z::zs,x,h=>by
   obtain⟨rfl,h2,h3,h4,h5⟩:=h;refine⟨_,_,rfl,?_,Pd ts zs _ h5⟩;simp [Rd];rw [h2];exact⟨rfl,h3,h4⟩
 |.bool::_,_,_,h|.str::_,_,_,h|.slice _::_,_,_,h|[],_::_,_,h|.int _::_,[],_,h=>by grind[ph]
def xr(k:IntKind)(ts:List Ty):List (List Int)->List (Row ts)->Prop
 |[],[]=>True
 |zs::r,x::l=>ph k ts zs x/\xr k ts r l
 |_,_=>False
theorem Jn {w:World}{A:Nat->Prop}{k:IntKind}{ts:List Ty}:∀(zss:List (List Int)) (l:List (Row ts)),xr k ts zss l->dJ (bx w A ts) (zss.flatten.map (Value.int k)) l
 |[],[],_=>by rfl
 |zs::r,x::l,h=>by
  exact⟨zs.map (Value.int k),r.flatten.map (Value.int k),z!,Pd ts zs x h.1,Jn r l h.2⟩
 |[],_::_,h|_::_,[],h=>by grind[xr]
def KP {m:Nat}:∀(zss:List (List Int)),(∀r∈zss,r.length=m)->∀q (z:Int),zss.flatten[q]? =some z->∃i j,i<zss.length/\j<m/\q=i*m+j/\(zss.getD i []).getD j 0=z
 |[],_,q,z,h=>by grind
 |r::rs,hz,q,z,h=>by
  have hr:r.length=m:=hz r z!;by_cases hq:q<m
  . refine⟨0,q,z!,hq,z!,?_⟩;grind
  . rw [List.flatten_cons,List.getElem?_append_right w!,hr] at h;obtain⟨i,j,h1,h2,h3,h4⟩:=KP rs (λr p9=>hz r x!) (q-m) z h;refine⟨i+1,j,x!,h2,?_,x!⟩;grind
def Pe {P:Program}{name:String}{g:Nat}{t e:TypeId}{n m:Nat}{k:IntKind}{fs:Array Field}{zss:List (List Int)}{row:List Ty}{l:List (Row row)}{laid:List (String×DataW Unit)}
  (hm:laidMet P laid W) (ay:(name,DataW.agg (zss.map λr=>.agg (r.map λz=>.lit (.int k z))))∈laid) (hg:P.globalNamed name=some g) (gw:(P.globals[g]?).map (·.type)=some t)
  (ht:P.underlying t=some (.array n e)) (he:P.underlying e=some (.struct fs)) (T4:P.cellsOf e=m) (hct:P.cellsOf t=n*m) (hfs:fs.size=m) (hf:∀(i:Nat) (f:Field),fs[i]? =some f->f.offset=i/\P.underlying f.type=some (.int k)/\P.cellsOf f.type=1)
  (hz:∀r∈zss,r.length=m) (mQ:0<n*m) (hl:xr k row zss l):oB W (λb=>b<W.heap.size) g ⟨row,l⟩:=by
 obtain⟨ps,Qx,_⟩:=hm;obtain⟨g',t',cs,fuel,p,h1,h2,h3,h4⟩:=Pb Qx ay;obtain rfl:=W? (hg.symm.trans h1);obtain rfl:=W? (gw.symm.trans h2);obtain⟨q1,q2,q3⟩:=Pc ht he T4 hct hfs hf hz h4;have aLD:cs.size=n*m:=by omega
 refine⟨acu hg h3 w!,zss.flatten.map (Value.int k),λq v hq=>?_,Jn zss l hl⟩;rw [B?] at hq;obtain⟨z,hz1,rfl⟩:=Option.map_eq_some_iff.1 hq;obtain⟨i,j,hi,hj,rfl,hv⟩:=KP zss hz q z hz1;rw [r?,World.var?_cell hg h3,<-U?,q3 i j w! hj,hv]
theorem HE:∀zs:List Int,(zs.map λz=>[z]).flatten=zs
 |[]=>rfl
 |z::zs=>by simp only [G?,List.flatten_cons,HE zs];rfl
def Ph {P:Program}{name:String}{g:Nat}{t e:TypeId}{n:Nat}{k:IntKind}{zs:List Int}{row:List Ty}{l:List (Row row)}{laid:List (String×DataW Unit)}
  (hm:laidMet P laid W) (ay:(name,DataW.agg (zs.map λz=>.lit (.int k z)))∈laid) (hg:P.globalNamed name=some g) (gw:(P.globals[g]?).map (·.type)=some t)
  (ht:P.underlying t=some (.array n e)) (he:P.underlying e=some (.int k)) (T4:P.cellsOf e=1) (hct:P.cellsOf t=n) (mQ:0<zs.length) (hl:xr k row (zs.map λz=>[z]) l):oB W (λb=>b<W.heap.size) g ⟨row,l⟩:=by
 obtain⟨ps,Qx,_⟩:=hm;obtain⟨g',t',cs,fuel,p,h1,h2,h3,h4⟩:=Pb Qx ay;obtain rfl:=W? (hg.symm.trans h1);obtain rfl:=W? (gw.symm.trans h2);have hc:=Lib.cells_of_tab ht he T4 hct h4
 have dQ:0<cs.size:=by
  grind
 refine⟨acu hg h3 dQ,zs.map (Value.int k),λq v hq=>?_,?_⟩
 . rw [r?,World.var?_cell hg h3,<-U?,hc];omega
 grind[Jn,HE]
end Go.Vg
namespace Go.Vg
open Go Go.ChangeShapes Go.WideShapes Go.ChangeAt Go.RowKit
variable [HP]
end Go.Vg
namespace Go.Proofs
open Go Go.RowKit Go.ChangeShapes Go.Vg
set_option maxHeartbeats 1000000 in
def Tryz.aBH:aaY Tryz.prog 193 194:=by
 refine⟨λargs w=>by kernel_rfl,λw y p=>?_⟩;go_enter Tryz.func193,Tryz.ntmps193
 go_wp2
 go_ret
 exact⟨_,rfl,rfl⟩
set_option maxHeartbeats 1000000 in
def Tryz.aBI:aaY Tryz.prog 230 231:=by
 refine⟨λargs w=>by kernel_rfl,λw y p=>?_⟩;go_enter Tryz.func230,Tryz.ntmps230
 go_wp2
 go_ret
 exact⟨_,rfl,rfl⟩
def Tryz.mkf(f:Nat):Option Nat:=bif Nat.beq f 193 then some 194 else bif Nat.beq f 230 then some 231 else none
theorem Tryz.S8(P:Program)(hP:P=Tryz.prog)(f g:Nat)(h:Tryz.mkf f=some g):aaY P f g:=by
 subst hP;unfold Tryz.mkf at h;cases h1:Nat.beq f 193 with
 |true=>
  rw [h1] at h;cases C! h1;cases h;exact Tryz.aBH
 |false=>
  cases h2:Nat.beq f 230 with
  |true=>
   rw [h1,h2] at h;cases C! h2;cases h;exact Tryz.aBI
  |false=>rw [h1,h2] at h;cases h
end Go.Proofs
namespace Go.Vg
open Go.Proofs
open Go
instance :HP:=⟨λP=>P=Tryz.prog,Tryz.mkf,Tryz.S8⟩
def fc:Vg.b9:=(.node (.node (.node (.node (.node (.node (.node .leaf 3 ⟨.int .i64,1,8, .int .i64 (0)⟩ .leaf) 4 ⟨.bool,1,1, .bool false⟩ .leaf) 5 ⟨.int .u8,1,1, .int .u8 (0)⟩ (.node (.node .leaf 9 ⟨.string,1,16, .string ⟨#[]⟩⟩ .leaf) 22 ⟨.slice 90,1,24, .slice none 0 0⟩ .leaf)) 23 ⟨.slice 5,1,24, .slice none 0 0⟩ (.node (.node (.node .leaf 26 ⟨.func #[] #[4] false,1,8, .nilFunc⟩ .leaf) 27 ⟨.slice 3,1,24, .slice none 0 0⟩ .leaf) 28 ⟨.int .i64,1,8, .int .i64 (0)⟩ (.node (.node .leaf 33 ⟨.slice 122,1,24, .slice none 0 0⟩ .leaf) 37 ⟨.slice 48,1,24, .slice none 0 0⟩ .leaf))) 39 ⟨.slice 23,1,24, .slice none 0 0⟩ (.node (.node (.node (.node .leaf 40 ⟨.slice 128,1,24, .slice none 0 0⟩ .leaf) 42 ⟨.struct #[⟨ "Docs",39,0,false,"","",0⟩,⟨ "Segs",40,1,false,"","",24⟩],2,48, .agg #[.slice none 0 0, .slice none 0 0]⟩ .leaf) 48 ⟨.struct #[⟨ "Kind",3,0,false,"","",0⟩,⟨ "I",3,1,false,"","",8⟩,⟨ "Many",3,2,false,"","",16⟩,⟨ "Doc",23,3,false,"","",24⟩],4,48, .agg #[.int .i64 (0), .int .i64 (0), .int .i64 (0), .slice none 0 0]⟩ (.node (.node .leaf 56 ⟨.slice 9,1,24, .slice none 0 0⟩ .leaf) 69 ⟨.slice 100,1,24, .slice none 0 0⟩ .leaf)) 71 ⟨.struct #[⟨ "Size",3,0,false,"","",0⟩,⟨ "Log",9,1,false,"","",8⟩,⟨ "Segs",69,2,false,"","",24⟩],3,48, .agg #[.int .i64 (0), .string ⟨#[]⟩, .slice none 0 0]⟩ (.node (.node (.node .leaf 72 ⟨.slice 101,1,24, .slice none 0 0⟩ .leaf) 74 ⟨.struct #[⟨ "Head",71,0,false,"","",0⟩,⟨ "Proofs",72,3,false,"","",48⟩],4,72, .agg #[.int .i64 (0), .string ⟨#[]⟩, .slice none 0 0, .slice none 0 0]⟩ .leaf) 78 ⟨.struct #[⟨ "Head",71,0,false,"","",0⟩,⟨ "At",3,3,false,"","",48⟩,⟨ "Doc",23,4,false,"","",56⟩,⟨ "Path",56,5,false,"","",80⟩],6,104, .agg #[.int .i64 (0), .string ⟨#[]⟩, .slice none 0 0, .int .i64 (0), .slice none 0 0, .slice none 0 0]⟩ (.node .leaf 82 ⟨.struct #[⟨ "Old",71,0,false,"","",0⟩,⟨ "New",71,3,false,"","",48⟩,⟨ "Proof",56,6,false,"","",96⟩],7,120, .agg #[.int .i64 (0), .string ⟨#[]⟩, .slice none 0 0, .int .i64 (0), .string ⟨#[]⟩, .slice none 0 0, .slice none 0 0]⟩ .leaf)))) 90 ⟨.struct #[⟨ "Kind",3,0,false,"","",0⟩,⟨ "Term",9,1,false,"","",8⟩],2,24, .agg #[.int .i64 (0), .string ⟨#[]⟩]⟩ (.node (.node (.node (.node (.node .leaf 94 ⟨.slice 27,1,24, .slice none 0 0⟩ .leaf) 96 ⟨.slice 26,1,24, .slice none 0 0⟩ .leaf) 98 ⟨.struct #[⟨ "From",3,0,false,"","",0⟩,⟨ "To",3,1,false,"","",8⟩],2,16, .agg #[.int .i64 (0), .int .i64 (0)]⟩ (.node (.node .leaf 100 ⟨.struct #[⟨ "Span",98,0,false,"","",0⟩,⟨ "Links",3,2,false,"","",16⟩,⟨ "Root",9,3,false,"","",24⟩],4,40, .agg #[.int .i64 (0), .int .i64 (0), .int .i64 (0), .string ⟨#[]⟩]⟩ .leaf) 101 ⟨.slice 106,1,24, .slice none 0 0⟩ .leaf)) 104 ⟨.struct #[⟨ "Term",9,0,false,"","",0⟩,⟨ "Next",9,1,false,"","",16⟩,⟨ "Posts",9,2,false,"","",32⟩],3,48, .agg #[.string ⟨#[]⟩, .string ⟨#[]⟩, .string ⟨#[]⟩]⟩ (.node (.node (.node .leaf 106 ⟨.struct #[⟨ "At",3,0,false,"","",0⟩,⟨ "Link",104,1,false,"","",8⟩,⟨ "Path",56,4,false,"","",56⟩,⟨ "Docs",23,5,false,"","",80⟩],6,104, .agg #[.int .i64 (0), .string ⟨#[]⟩, .string ⟨#[]⟩, .string ⟨#[]⟩, .slice none 0 0, .slice none 0 0]⟩ .leaf) 110 ⟨.slice 219,1,24, .slice none 0 0⟩ .leaf) 112 ⟨.struct #[⟨ "Size",3,0,false,"","",0⟩,⟨ "Log",9,1,false,"","",8⟩,⟨ "Segs",110,2,false,"","",24⟩],3,48, .agg #[.int .i64 (0), .string ⟨#[]⟩, .slice none 0 0]⟩ (.node .leaf 113 ⟨.slice 208,1,24, .slice none 0 0⟩ .leaf))) 115 ⟨.struct #[⟨ "Head",112,0,false,"","",0⟩,⟨ "Proofs",113,3,false,"","",48⟩],4,72, .agg #[.int .i64 (0), .string ⟨#[]⟩, .slice none 0 0, .slice none 0 0]⟩ (.node (.node (.node (.node .leaf 122 ⟨.struct #[⟨ "Kind",3,0,false,"","",0⟩,⟨ "Term",9,1,false,"","",8⟩],2,24, .agg #[.int .i64 (0), .string ⟨#[]⟩]⟩ .leaf) 123 ⟨.func #[9] #[4] false,1,8, .nilFunc⟩ .leaf) 126 ⟨.slice 228,1,24, .slice none 0 0⟩ (.node (.node .leaf 128 ⟨.struct #[⟨ "Span",98,0,false,"","",0⟩,⟨ "Dict",126,2,false,"","",16⟩],3,40, .agg #[.int .i64 (0), .int .i64 (0), .slice none 0 0]⟩ .leaf) 138 ⟨.func #[9] #[] false,1,8, .nilFunc⟩ .leaf)) 146 ⟨.struct #[⟨ "Head",112,0,false,"","",0⟩,⟨ "At",3,3,false,"","",48⟩,⟨ "Doc",23,4,false,"","",56⟩,⟨ "Path",56,5,false,"","",80⟩],6,104, .agg #[.int .i64 (0), .string ⟨#[]⟩, .slice none 0 0, .int .i64 (0), .slice none 0 0, .slice none 0 0]⟩ (.node (.node (.node .leaf 153 ⟨.struct #[⟨ "Old",112,0,false,"","",0⟩,⟨ "New",112,3,false,"","",48⟩,⟨ "Proof",56,6,false,"","",96⟩],7,120, .agg #[.int .i64 (0), .string ⟨#[]⟩, .slice none 0 0, .int .i64 (0), .string ⟨#[]⟩, .slice none 0 0, .slice none 0 0]⟩ .leaf) 157 ⟨.pointer 167,1,8, .pointer none⟩ .leaf) 165 ⟨.struct #[⟨ "B",23,0,false,"","",0⟩,⟨ "At",3,1,false,"","",24⟩,⟨ "E",28,2,false,"","",32⟩],3,40, .agg #[.slice none 0 0, .int .i64 (0), .int .i64 (0)]⟩ (.node .leaf 167 ⟨.struct #[⟨ "Reader",165,0,true,"","",0⟩],3,40, .agg #[.slice none 0 0, .int .i64 (0), .int .i64 (0)]⟩ .leaf))))) 168 ⟨.func #[] #[3] false,1,8, .nilFunc⟩ (.node (.node (.node (.node (.node (.node .leaf 177 ⟨.slice 183,1,24, .slice none 0 0⟩ .leaf) 180 ⟨.struct #[⟨ "elems",177,0,false,"","rubrick/query",0⟩,⟨ "next",3,1,false,"","rubrick/query",24⟩,⟨ "words",3,2,false,"","rubrick/query",32⟩,⟨ "ops",22,3,false,"","rubrick/query",40⟩],4,64, .agg #[.slice none 0 0, .int .i64 (0), .int .i64 (0), .slice none 0 0]⟩ .leaf) 183 ⟨.struct #[⟨ "kind",3,0,false,"","rubrick/query",0⟩,⟨ "at",3,1,false,"","rubrick/query",8⟩,⟨ "term",9,2,false,"","rubrick/query",16⟩],3,32, .agg #[.int .i64 (0), .int .i64 (0), .string ⟨#[]⟩]⟩ (.node (.node .leaf 187 ⟨.slice 191,1,24, .slice none 0 0⟩ .leaf) 189 ⟨.func #[106] #[4] false,1,8, .nilFunc⟩ .leaf)) 191 ⟨.struct #[⟨ "holds",189,0,false,"","rubrick/term",0⟩,⟨ "docs",27,1,false,"","rubrick/term",8⟩],2,32, .agg #[.nilFunc, .slice none 0 0]⟩ (.node (.node (.node .leaf 196 ⟨.func #[9] #[27] false,1,8, .nilFunc⟩ .leaf) 198 ⟨.func #[27,27] #[27] false,1,8, .nilFunc⟩ .leaf) 200 ⟨.struct #[⟨ "find",196,0,false,"","rubrick/eval",0⟩,⟨ "both",198,1,false,"","rubrick/eval",8⟩,⟨ "either",198,2,false,"","rubrick/eval",16⟩,⟨ "but",198,3,false,"","rubrick/eval",24⟩],4,32, .agg #[.nilFunc, .nilFunc, .nilFunc, .nilFunc]⟩ (.node (.node .leaf 202 ⟨.struct #[⟨ "B",23,0,false,"","",0⟩,⟨ "E",3,1,false,"","",24⟩],2,32, .agg #[.slice none 0 0, .int .i64 (0)]⟩ .leaf) 208 ⟨.slice 211,1,24, .slice none 0 0⟩ .leaf))) 209 ⟨.struct #[⟨ "Term",9,0,false,"","",0⟩,⟨ "Next",9,1,false,"","",16⟩,⟨ "Posts",9,2,false,"","",32⟩],3,48, .agg #[.string ⟨#[]⟩, .string ⟨#[]⟩, .string ⟨#[]⟩]⟩ (.node (.node (.node (.node .leaf 211 ⟨.struct #[⟨ "At",3,0,false,"","",0⟩,⟨ "Link",209,1,false,"","",8⟩,⟨ "Path",56,4,false,"","",56⟩,⟨ "Docs",23,5,false,"","",80⟩],6,104, .agg #[.int .i64 (0), .string ⟨#[]⟩, .string ⟨#[]⟩, .string ⟨#[]⟩, .slice none 0 0, .slice none 0 0]⟩ .leaf) 219 ⟨.struct #[⟨ "Span",98,0,false,"","",0⟩,⟨ "Links",3,2,false,"","",16⟩,⟨ "Root",9,3,false,"","",24⟩],4,40, .agg #[.int .i64 (0), .int .i64 (0), .int .i64 (0), .string ⟨#[]⟩]⟩ .leaf) 228 ⟨.struct #[⟨ "Term",9,0,false,"","",0⟩,⟨ "Docs",27,1,false,"","",16⟩],2,40, .agg #[.string ⟨#[]⟩, .slice none 0 0]⟩ (.node (.node .leaf 232 ⟨.slice 98,1,24, .slice none 0 0⟩ .leaf) 245 ⟨.struct #[⟨ "b",23,0,false,"","rubrick/reply",0⟩,⟨ "bad",4,1,false,"","rubrick/reply",24⟩],2,32, .agg #[.slice none 0 0, .bool false]⟩ .leaf)) 253 ⟨.func #[4,4] #[4] false,1,8, .nilFunc⟩ (.node (.node (.node .leaf 255 ⟨.struct #[⟨ "find",123,0,false,"","rubrick/eval",0⟩,⟨ "both",253,1,false,"","rubrick/eval",8⟩,⟨ "either",253,2,false,"","rubrick/eval",16⟩,⟨ "but",253,3,false,"","rubrick/eval",24⟩],4,32, .agg #[.nilFunc, .nilFunc, .nilFunc, .nilFunc]⟩ .leaf) 256 ⟨.slice 4,1,24, .slice none 0 0⟩ .leaf) 279 ⟨.pointer 180,1,8, .pointer none⟩ (.node .leaf 283 ⟨.int .u64,1,8, .int .u64 (0)⟩ .leaf)))) 286 ⟨.func #[9,9] #[4] false,1,8, .nilFunc⟩ (.node (.node (.node (.node (.node .leaf 288 ⟨.map 3 138,1,8, .map none⟩ .leaf) 290 ⟨.func #[3,4,4] #[4] false,1,8, .nilFunc⟩ .leaf) 305 ⟨.map 9 27,1,8, .map none⟩ (.node (.node .leaf 308 ⟨.func #[123] #[] false,1,8, .nilFunc⟩ .leaf) 319 ⟨.pointer 245,1,8, .pointer none⟩ .leaf)) 323 ⟨.int .u32,1,4, .int .u32 (0)⟩ (.node (.node (.node .leaf 324 ⟨.array 8 323,8,32, .agg #[.int .u32 (0), .int .u32 (0), .int .u32 (0), .int .u32 (0), .int .u32 (0), .int .u32 (0), .int .u32 (0), .int .u32 (0)]⟩ .leaf) 326 ⟨.struct #[⟨ "H",324,0,false,"","",0⟩,⟨ "Rest",23,8,false,"","",32⟩,⟨ "N",3,9,false,"","",56⟩],10,64, .agg #[.int .u32 (0), .int .u32 (0), .int .u32 (0), .int .u32 (0), .int .u32 (0), .int .u32 (0), .int .u32 (0), .int .u32 (0), .slice none 0 0, .int .i64 (0)]⟩ .leaf) 333 ⟨.slice 323,1,24, .slice none 0 0⟩ (.node .leaf 335 ⟨.func #[] #[9] false,1,8, .nilFunc⟩ .leaf))) 344 ⟨.struct #[⟨ "from",3,0,false,"","rubrick/utf",0⟩,⟨ "to",3,1,false,"","rubrick/utf",8⟩],2,16, .agg #[.int .i64 (0), .int .i64 (0)]⟩ (.node (.node (.node (.node .leaf 345 ⟨.array 9 344,18,144, .agg #[.int .i64 (0), .int .i64 (0), .int .i64 (0), .int .i64 (0), .int .i64 (0), .int .i64 (0), .int .i64 (0), .int .i64 (0), .int .i64 (0), .int .i64 (0), .int .i64 (0), .int .i64 (0), .int .i64 (0), .int .i64 (0), .int .i64 (0), .int .i64 (0), .int .i64 (0), .int .i64 (0)]⟩ .leaf) 349 ⟨.int .i64,1,8, .int .i64 (0)⟩ .leaf) 357 ⟨.int .u64,1,8, .int .u64 (0)⟩ (.node (.node .leaf 366 ⟨.func #[228,228] #[4] false,1,8, .nilFunc⟩ .leaf) 368 ⟨.func #[9,9] #[3] false,1,8, .nilFunc⟩ .leaf)) 380 ⟨.int .u64,1,8, .int .u64 (0)⟩ (.node (.node (.node .leaf 384 ⟨.pointer 3,1,8, .pointer none⟩ .leaf) 394 ⟨.struct #[⟨ "from",3,0,false,"","rubrick/utf",0⟩,⟨ "to",3,1,false,"","rubrick/utf",8⟩,⟨ "add",3,2,false,"","rubrick/utf",16⟩],3,24, .agg #[.int .i64 (0), .int .i64 (0), .int .i64 (0)]⟩ .leaf) 395 ⟨.array 7 394,21,168, .agg #[.int .i64 (0), .int .i64 (0), .int .i64 (0), .int .i64 (0), .int .i64 (0), .int .i64 (0), .int .i64 (0), .int .i64 (0), .int .i64 (0), .int .i64 (0), .int .i64 (0), .int .i64 (0), .int .i64 (0), .int .i64 (0), .int .i64 (0), .int .i64 (0), .int .i64 (0), .int .i64 (0), .int .i64 (0), .int .i64 (0), .int .i64 (0)]⟩ (.node .leaf 400 ⟨.array 64 323,64,256, .agg #[.int .u32 (0), .int .u32 (0), .int .u32 (0), .int .u32 (0), .int .u32 (0), .int .u32 (0), .int .u32 (0), .int .u32 (0), .int .u32 (0), .int .u32 (0), .int .u32 (0), .int .u32 (0), .int .u32 (0), .int .u32 (0), .int .u32 (0), .int .u32 (0), .int .u32 (0), .int .u32 (0), .int .u32 (0), .int .u32 (0), .int .u32 (0), .int .u32 (0), .int .u32 (0), .int .u32 (0), .int .u32 (0), .int .u32 (0), .int .u32 (0), .int .u32 (0), .int .u32 (0), .int .u32 (0), .int .u32 (0), .int .u32 (0), .int .u32 (0), .int .u32 (0), .int .u32 (0), .int .u32 (0), .int .u32 (0), .int .u32 (0), .int .u32 (0), .int .u32 (0), .int .u32 (0), .int .u32 (0), .int .u32 (0), .int .u32 (0), .int .u32 (0), .int .u32 (0), .int .u32 (0), .int .u32 (0), .int .u32 (0), .int .u32 (0), .int .u32 (0), .int .u32 (0), .int .u32 (0), .int .u32 (0), .int .u32 (0), .int .u32 (0), .int .u32 (0), .int .u32 (0), .int .u32 (0), .int .u32 (0), .int .u32 (0), .int .u32 (0), .int .u32 (0), .int .u32 (0)]⟩ .leaf))))))
set_option maxRecDepth 100000 in
def acv:fc.Ok Tryz.prog:=⟨⟨⟨⟨⟨⟨⟨trivial,trivial,Tryz.underlying3,trivial,Tryz.t3,rfl,rfl,rfl,rfl⟩,trivial,Tryz.underlying4,trivial,Tryz.t4,rfl,rfl,rfl,rfl⟩,⟨⟨trivial,trivial,Tryz.underlying9,trivial,Tryz.t9,rfl,rfl,rfl,rfl⟩,trivial,Tryz.underlying22,trivial,Tryz.t22,rfl,rfl,rfl,rfl⟩,Tryz.underlying5,trivial,Tryz.t5,rfl,rfl,rfl,rfl⟩,⟨⟨⟨trivial,trivial,Tryz.underlying26,trivial,Tryz.t26,rfl,rfl,rfl,rfl⟩,trivial,Tryz.underlying27,trivial,Tryz.t27,rfl,rfl,rfl,rfl⟩,⟨⟨trivial,trivial,Tryz.underlying33,trivial,Tryz.t33,rfl,rfl,rfl,rfl⟩,trivial,Tryz.underlying37,trivial,Tryz.t37,rfl,rfl,rfl,rfl⟩,Tryz.underlying28,trivial,Tryz.t28,rfl,rfl,rfl,rfl⟩,Tryz.underlying23,trivial,Tryz.t23,rfl,rfl,rfl,rfl⟩,⟨⟨⟨⟨trivial,trivial,Tryz.underlying40,trivial,Tryz.t40,rfl,rfl,rfl,rfl⟩,trivial,Tryz.underlying42,⟨y!,y!,y!⟩,Tryz.t42,rfl,rfl,rfl,rfl⟩,⟨⟨trivial,trivial,Tryz.underlying56,trivial,Tryz.t56,rfl,rfl,rfl,rfl⟩,trivial,Tryz.underlying69,trivial,Tryz.t69,rfl,rfl,rfl,rfl⟩,Tryz.underlying48,⟨y!,y!,y!⟩,Tryz.t48,rfl,rfl,rfl,rfl⟩,⟨⟨⟨trivial,trivial,Tryz.underlying72,trivial,Tryz.t72,rfl,rfl,rfl,rfl⟩,trivial,Tryz.underlying74,⟨y!,y!,y!⟩,Tryz.t74,rfl,rfl,rfl,rfl⟩,⟨trivial,trivial,Tryz.underlying82,⟨y!,y!,y!⟩,Tryz.t82,rfl,rfl,rfl,rfl⟩,Tryz.underlying78,⟨y!,y!,y!⟩,Tryz.t78,rfl,rfl,rfl,rfl⟩,Tryz.underlying71,⟨y!,y!,y!⟩,Tryz.t71,rfl,rfl,rfl,rfl⟩,Tryz.underlying39,trivial,Tryz.t39,rfl,rfl,rfl,rfl⟩,⟨⟨⟨⟨⟨trivial,trivial,Tryz.underlying94,trivial,Tryz.t94,rfl,rfl,rfl,rfl⟩,trivial,Tryz.underlying96,trivial,Tryz.t96,rfl,rfl,rfl,rfl⟩,⟨⟨trivial,trivial,Tryz.underlying100,⟨y!,y!,y!⟩,Tryz.t100,rfl,rfl,rfl,rfl⟩,trivial,Tryz.underlying101,trivial,Tryz.t101,rfl,rfl,rfl,rfl⟩,Tryz.underlying98,⟨y!,y!,y!⟩,Tryz.t98,rfl,rfl,rfl,rfl⟩,⟨⟨⟨trivial,trivial,Tryz.underlying106,⟨y!,y!,y!⟩,Tryz.t106,rfl,rfl,rfl,rfl⟩,trivial,Tryz.underlying110,trivial,Tryz.t110,rfl,rfl,rfl,rfl⟩,⟨trivial,trivial,Tryz.underlying113,trivial,Tryz.t113,rfl,rfl,rfl,rfl⟩,Tryz.underlying112,⟨y!,y!,y!⟩,Tryz.t112,rfl,rfl,rfl,rfl⟩,Tryz.underlying104,⟨y!,y!,y!⟩,Tryz.t104,rfl,rfl,rfl,rfl⟩,⟨⟨⟨⟨trivial,trivial,Tryz.underlying122,⟨y!,y!,y!⟩,Tryz.t122,rfl,rfl,rfl,rfl⟩,trivial,Tryz.underlying123,trivial,Tryz.t123,rfl,rfl,rfl,rfl⟩,⟨⟨trivial,trivial,Tryz.underlying128,⟨y!,y!,y!⟩,Tryz.t128,rfl,rfl,rfl,rfl⟩,trivial,Tryz.underlying138,trivial,Tryz.t138,rfl,rfl,rfl,rfl⟩,Tryz.underlying126,trivial,Tryz.t126,rfl,rfl,rfl,rfl⟩,⟨⟨⟨trivial,trivial,Tryz.underlying153,⟨y!,y!,y!⟩,Tryz.t153,rfl,rfl,rfl,rfl⟩,trivial,Tryz.underlying157,trivial,Tryz.t157,rfl,rfl,rfl,rfl⟩,⟨trivial,trivial,Tryz.underlying167,⟨y!,y!,y!⟩,Tryz.t167,rfl,rfl,rfl,rfl⟩,Tryz.underlying165,⟨y!,y!,y!⟩,Tryz.t165,rfl,rfl,rfl,rfl⟩,Tryz.underlying146,⟨y!,y!,y!⟩,Tryz.t146,rfl,rfl,rfl,rfl⟩,Tryz.underlying115,⟨y!,y!,y!⟩,Tryz.t115,rfl,rfl,rfl,rfl⟩,Tryz.underlying90,⟨y!,y!,y!⟩,Tryz.t90,rfl,rfl,rfl,rfl⟩,⟨⟨⟨⟨⟨⟨trivial,trivial,Tryz.underlying177,trivial,Tryz.t177,rfl,rfl,rfl,rfl⟩,trivial,Tryz.underlying180,⟨y!,y!,y!⟩,Tryz.t180,rfl,rfl,rfl,rfl⟩,⟨⟨trivial,trivial,Tryz.underlying187,trivial,Tryz.t187,rfl,rfl,rfl,rfl⟩,trivial,Tryz.underlying189,trivial,Tryz.t189,rfl,rfl,rfl,rfl⟩,Tryz.underlying183,⟨y!,y!,y!⟩,Tryz.t183,rfl,rfl,rfl,rfl⟩,⟨⟨⟨trivial,trivial,Tryz.underlying196,trivial,Tryz.t196,rfl,rfl,rfl,rfl⟩,trivial,Tryz.underlying198,trivial,Tryz.t198,rfl,rfl,rfl,rfl⟩,⟨⟨trivial,trivial,Tryz.underlying202,⟨y!,y!,y!⟩,Tryz.t202,rfl,rfl,rfl,rfl⟩,trivial,Tryz.underlying208,trivial,Tryz.t208,rfl,rfl,rfl,rfl⟩,Tryz.underlying200,⟨y!,y!,y!⟩,Tryz.t200,rfl,rfl,rfl,rfl⟩,Tryz.underlying191,⟨y!,y!,y!⟩,Tryz.t191,rfl,rfl,rfl,rfl⟩,⟨⟨⟨⟨trivial,trivial,Tryz.underlying211,⟨y!,y!,y!⟩,Tryz.t211,rfl,rfl,rfl,rfl⟩,trivial,Tryz.underlying219,⟨y!,y!,y!⟩,Tryz.t219,rfl,rfl,rfl,rfl⟩,⟨⟨trivial,trivial,Tryz.underlying232,trivial,Tryz.t232,rfl,rfl,rfl,rfl⟩,trivial,Tryz.underlying245,⟨y!,y!,y!⟩,Tryz.t245,rfl,rfl,rfl,rfl⟩,Tryz.underlying228,⟨y!,y!,y!⟩,Tryz.t228,rfl,rfl,rfl,rfl⟩,⟨⟨⟨trivial,trivial,Tryz.underlying255,⟨y!,y!,y!⟩,Tryz.t255,rfl,rfl,rfl,rfl⟩,trivial,Tryz.underlying256,trivial,Tryz.t256,rfl,rfl,rfl,rfl⟩,⟨trivial,trivial,Tryz.underlying283,trivial,Tryz.t283,rfl,rfl,rfl,rfl⟩,Tryz.underlying279,trivial,Tryz.t279,rfl,rfl,rfl,rfl⟩,Tryz.underlying253,trivial,Tryz.t253,rfl,rfl,rfl,rfl⟩,Tryz.underlying209,⟨y!,y!,y!⟩,Tryz.t209,rfl,rfl,rfl,rfl⟩,⟨⟨⟨⟨⟨trivial,trivial,Tryz.underlying288,trivial,Tryz.t288,rfl,rfl,rfl,rfl⟩,trivial,Tryz.underlying290,trivial,Tryz.t290,rfl,rfl,rfl,rfl⟩,⟨⟨trivial,trivial,Tryz.underlying308,trivial,Tryz.t308,rfl,rfl,rfl,rfl⟩,trivial,Tryz.underlying319,trivial,Tryz.t319,rfl,rfl,rfl,rfl⟩,Tryz.underlying305,trivial,Tryz.t305,rfl,rfl,rfl,rfl⟩,⟨⟨⟨trivial,trivial,Tryz.underlying324,trivial,Tryz.t324,rfl,rfl,rfl,rfl⟩,trivial,Tryz.underlying326,⟨y!,y!,y!⟩,Tryz.t326,rfl,rfl,rfl,rfl⟩,⟨trivial,trivial,Tryz.underlying335,trivial,Tryz.t335,rfl,rfl,rfl,rfl⟩,Tryz.underlying333,trivial,Tryz.t333,rfl,rfl,rfl,rfl⟩,Tryz.underlying323,trivial,Tryz.t323,rfl,rfl,rfl,rfl⟩,⟨⟨⟨⟨trivial,trivial,Tryz.underlying345,trivial,Tryz.t345,rfl,rfl,rfl,rfl⟩,trivial,Tryz.underlying349,trivial,Tryz.t349,rfl,rfl,rfl,rfl⟩,⟨⟨trivial,trivial,Tryz.underlying366,trivial,Tryz.t366,rfl,rfl,rfl,rfl⟩,trivial,Tryz.underlying368,trivial,Tryz.t368,rfl,rfl,rfl,rfl⟩,Tryz.underlying357,trivial,Tryz.t357,rfl,rfl,rfl,rfl⟩,⟨⟨⟨trivial,trivial,Tryz.underlying384,trivial,Tryz.t384,rfl,rfl,rfl,rfl⟩,trivial,Tryz.underlying394,⟨y!,y!,y!⟩,Tryz.t394,rfl,rfl,rfl,rfl⟩,⟨trivial,trivial,Tryz.underlying400,trivial,Tryz.t400,rfl,rfl,rfl,rfl⟩,Tryz.underlying395,trivial,Tryz.t395,rfl,rfl,rfl,rfl⟩,Tryz.underlying380,trivial,Tryz.t380,rfl,rfl,rfl,rfl⟩,Tryz.underlying344,⟨y!,y!,y!⟩,Tryz.t344,rfl,rfl,rfl,rfl⟩,Tryz.underlying286,trivial,Tryz.t286,rfl,rfl,rfl,rfl⟩,Tryz.underlying168,trivial,Tryz.t168,rfl,rfl,rfl,rfl⟩
end Go.Vg
namespace Go.J
open Go.Proofs
def G0:Nat->Option Go.Vg.GD:=λi=>match i with
 |0=>some ⟨[.int .i64,.int .i64],[(65,90),(97,122),(192,214),(216,246),(248,255),(913,929),(931,937),(945,969),(1024,1119)]⟩
 |1=>some ⟨[.int .u32],[1779033703,3144134277,1013904242,2773480762,1359893119,2600822924,528734635,1541459225]⟩
 |2=>some ⟨[.int .i64,.int .i64,.int .i64],[(65,90,32),(192,214,32),(216,222,32),(913,929,32),(931,937,32),(1024,1039,80),(1040,1071,32)]⟩
 |3=>some ⟨[.int .u32],Go.S.xU⟩
 |_=>none
end Go.J
namespace Go.J
open Go Vg
abbrev q0p:List PS:=[.one (.int .u32),.one (.int .i64)]
abbrev amD:Type:=Int×Int
abbrev q1p:List PS:=[]
abbrev ayZ:Type:=Unit
abbrev jd:List PS:=[.agg [.int .u32,.int .u32,.int .u32,.int .u32,.int .u32,.int .u32,.int .u32,.int .u32,.slice [.int .u8],.int .i64]]
abbrev eN:Type:=Int×Int×Int×Int×Int×Int×Int×Int×B8×Int
abbrev q3p:List PS:=[.agg [.int .u32,.int .u32,.int .u32,.int .u32,.int .u32,.int .u32,.int .u32,.int .u32],.one (.slice [.int .u8])]
abbrev ay0:Type:=Int×Int×Int×Int×Int×Int×Int×Int×B8
abbrev q4p:List PS:=[.agg [.int .u32,.int .u32,.int .u32,.int .u32,.int .u32,.int .u32,.int .u32,.int .u32,.slice [.int .u8],.int .i64],.one (.slice [.int .u8])]
abbrev amE:Type:=Int×Int×Int×Int×Int×Int×Int×Int×B8×Int×B8
abbrev q5p:List PS:=[.one (.slice [.int .u8])]
abbrev acw:Type:=B8
abbrev q6p:List TA:=[.own 50000,.dR (.int .i64)]
abbrev aHI:Type:=Int
abbrev q0q:List TB:=[.row 5 [.int .u8]]
abbrev amF:Type:=B8×Unit
abbrev Pj:List TA:=[.own 50000,.dR (.str)]
abbrev vf:Type:=B8
abbrev ć:List PS:=[.one (.slice [.int .u8]),.one (.int .i64)]
abbrev YB:Type:=B8×Int
abbrev q9p:List PS:=[.one (.slice [.int .u8]),.one (.str)]
abbrev ay1:Type:=B8×B8
abbrev aHL:List PS:=[.agg [.slice [.int .u8],.int .i64,.int .i64]]
abbrev aBM:Type:=B8×Int×Int
abbrev aHM:List PS:=[.one (.slice [.int .u8]),.one (.int .i64),.one (.int .i64)]
abbrev aBN:Type:=B8×Int×Int
abbrev SJ:List PS:=[.agg [.slice [.int .u8],.int .i64,.int .i64],.one (.int .i64)]
abbrev Pl:Type:=B8×Int×Int×Int
abbrev ay2:List PS:=[.one (.int .u8),.one (.slice [.slice [.int .u8]])]
abbrev aBO:Type:=UInt8×List B8
abbrev aHN:List PS:=[.one (.str),.one (.str)]
abbrev aBP:Type:=B8×B8
abbrev amG:List PS:=[.one (.int .i64)]
abbrev Ĉ:Type:=Int
abbrev Pm:List PS:=[.one (.slice [.int .i64])]
abbrev Fg:Type:=List Int
abbrev ay3:List PS:=[.one (.str)]
abbrev amH:Type:=B8
abbrev Pn:List TA:=[.dR (.str),.dR (.str),.ref 50000 0]
abbrev B7:Type:=B8×B8
abbrev q1q:List TB:=[.cells [.fn (.func 282) [] []]]
abbrev aHP:Type:=Unit×Unit
abbrev amI:List TA:=[.own 50000,.fn (.func 309) [] [.ref 50001 0]]
abbrev ĉ:Type:=Unit
abbrev q2q:List TB:=[.row 9 [.str],.cells [.fn (.func 282) [] []]]
abbrev ay4:Type:=(List B8)×Unit×Unit
abbrev aHO:List PS:=[.one (.slice [.str])]
abbrev aBQ:Type:=List B8
abbrev aHQ:List TA:=[.own 50000,.fn (.func 282) [] []]
abbrev amJ:Type:=Unit
abbrev q3q:List TB:=[.row 9 [.str]]
abbrev SK:Type:=(List B8)×Unit
abbrev Po:List TA:=[.dR (.slice [.str]),.fn (.func 282) [] []]
abbrev B9:Type:=List B8
abbrev yr:List TB:=[]
abbrev wF:Type:=Unit
abbrev aHR:List TA:=[.own 50000]
abbrev aBR:Type:=Unit
abbrev aHS:List PS:=[.one (.slice [.slice [.int .u8]])]
abbrev aBS:Type:=List B8
abbrev acx:List PS:=[.one (.slice [.str]),.one (.int .i64)]
abbrev Pq:Type:=List B8×Int
abbrev ay5:List PS:=[.one (.slice [.str]),.one (.int .i64),.one (.bool)]
abbrev amL:Type:=List B8×Int×Bool
abbrev aHT:List TA:=[.dR (.int .i64),.dR (.bool),.dR (.bool),.ref 50000 0]
abbrev amM:Type:=Int×Bool×Bool
abbrev q5q:List TB:=[.cells [.dR (.int .i64),.dR (.int .i64)]]
abbrev amN:Type:=(Int×Int)×Unit
abbrev aHU:List TA:=[.dR (.slice [.int .i64]),.dR (.slice [.int .i64]),.fn (.func 311) [] [.ref 50000 0]]
abbrev aBT:Type:=List Int×List Int
abbrev ay6:List PS:=[.one (.slice [.int .i64]),.agg [.int .i64,.int .i64]]
abbrev amO:Type:=List Int×Int×Int
abbrev amP:List PS:=[.one (.slice [.int .i64]),.one (.slice [.int .i64])]
abbrev Ċ:Type:=List Int×List Int
abbrev Pt:List PS:=[.one (.slice [.str,.slice [.int .i64]])]
abbrev Fh:Type:=List (B8×List Int)
abbrev acy:List PS:=[.agg [.str,.str,.str]]
abbrev Jo:Type:=B8×B8×B8
abbrev aHV:List PS:=[.one (.slice [.str,.slice [.int .i64]]),.one (.str)]
abbrev aBV:Type:=List (B8×List Int)×B8
abbrev amQ:List PS:=[.one (.slice [.slice [.int .u8]]),.agg [.int .i64,.int .i64]]
abbrev U8:Type:=List B8×Int×Int
abbrev ay7:List PS:=[.agg [.int .i64,.int .i64]]
abbrev amR:Type:=Int×Int
abbrev amS:List PS:=[.agg [.int .i64,.int .i64,.slice [.str,.slice [.int .i64]]]]
abbrev amT:Type:=Int×Int×List (B8×List Int)
abbrev amU:List PS:=[.agg [.int .i64,.int .i64,.int .i64,.str]]
abbrev ċ:Type:=Int×Int×Int×B8
abbrev amV:List PS:=[.one (.slice [.int .i64,.int .i64,.int .i64,.str]),.one (.int .i64)]
abbrev amW:Type:=List (Int×Int×Int×B8)×Int
abbrev amX:List PS:=[.one (.slice [.int .i64,.int .i64,.slice [.str,.slice [.int .i64]]])]
abbrev U9:Type:=List (Int×Int×List (B8×List Int))
abbrev aHW:List PS:=[.one (.slice [.int .i64,.int .i64])]
abbrev aBW:Type:=List (Int×Int)
abbrev aHX:List PS:=[.agg [.str,.slice [.int .i64]],.agg [.str,.slice [.int .i64]]]
abbrev amY:Type:=B8×List Int×B8×List Int
abbrev aHY:List TA:=[.dR (.slice [.str,.slice [.int .i64]]),.dR (.slice [.str,.slice [.int .i64]]),.fn (.func 279) [] []]
abbrev aBX:Type:=List (B8×List Int)×List (B8×List Int)
abbrev z6:List PS:=[.one (.slice [.str,.slice [.int .i64]]),.one (.slice [.str,.slice [.int .i64]])]
abbrev sM:Type:=List (B8×List Int)×List (B8×List Int)
abbrev aHZ:List PS:=[.agg [.slice [.slice [.int .u8]],.slice [.int .i64,.int .i64,.slice [.str,.slice [.int .i64]]]]]
abbrev aBY:Type:=List B8×List (Int×Int×List (B8×List Int))
abbrev HF:List PS:=[.one (.slice [.int .i64,.int .i64,.slice [.str,.slice [.int .i64]]]),.one (.int .i64),.one (.int .i64),.agg [.int .i64,.int .i64,.slice [.str,.slice [.int .i64]]]]
abbrev Ca:Type:=List (Int×Int×List (B8×List Int))×Int×Int×Int×Int×List (B8×List Int)
abbrev acz:List PS:=[.agg [.slice [.slice [.int .u8]],.slice [.int .i64,.int .i64,.slice [.str,.slice [.int .i64]]]],.one (.slice [.int .u8])]
abbrev amZ:Type:=List B8×List (Int×Int×List (B8×List Int))×B8
abbrev aH4:List PS:=[.agg [.slice [.slice [.int .u8]],.slice [.int .i64,.int .i64,.slice [.str,.slice [.int .i64]]]],.one (.int .i64),.one (.int .i64)]
abbrev aBZ:Type:=List B8×List (Int×Int×List (B8×List Int))×Int×Int
abbrev vg:List PS:=[.agg [.slice [.slice [.int .u8]],.slice [.int .i64,.int .i64,.slice [.str,.slice [.int .i64]]]],.agg [.int .i64,.int .i64,.int .i64,.slice [.int .u8]]]
abbrev sN:Type:=List B8×List (Int×Int×List (B8×List Int))×Int×Int×Int×B8
abbrev aH6:List PS:=[.one (.slice [.int .i64,.int .i64,.int .i64,.slice [.int .u8]])]
abbrev aB0:Type:=List (Int×Int×Int×B8)
abbrev ay8:List PS:=[.agg [.int .i64,.str,.slice [.int .i64,.int .i64,.int .i64,.str]]]
abbrev Vb:Type:=Int×B8×List (Int×Int×Int×B8)
abbrev aH8:List TA:=[.dR (.int .i64),.ref 50000 0,.ref 50001 0]
abbrev aB2:Type:=Int
abbrev q6q:List TB:=[.cells [.dR (.int .i64)],.cells [.nil]]
abbrev aH1:Type:=Int×Unit×Unit
abbrev q7q:List TB:=[.cells [.dR (.int .i64)],.cells [.own 50002],.row 5 [.int .u8]]
abbrev aH3:Type:=Int×Unit×B8×Unit
abbrev SL:List TA:=[.dR (.str),.ref 50000 0]
abbrev Cb:Type:=B8
abbrev q8q:List TB:=[.cells [.own 50001],.row 5 [.int .u8]]
abbrev aH5:Type:=Unit×B8×Unit
abbrev aIa:List TA:=[.ref 50000 0]
abbrev aB5:Type:=Unit
abbrev Va:List TB:=[.cells [.dR (.slice [.int .u8]),.dR (.int .i64),.dR (.int .i64)]]
abbrev Ee:Type:=(B8×Int×Int)×Unit
abbrev aIb:List TA:=[.ref 50000 0,.ref 50001 0,.ref 50002 0]
abbrev aB6:Type:=Unit
abbrev aH7:List TB:=[.cells [.dR (.int .i64)],.cells [.fn (.func 243) [] [.ref 50003 0]],.cells [.fn (.func 244) [] [.ref 50003 0]],.cells [.dR (.slice [.int .u8]),.dR (.int .i64),.dR (.int .i64)]]
abbrev aB1:Type:=Int×Unit×Unit×(B8×Int×Int)×Unit
abbrev aIc:List PS:=[.one (.slice [.int .i64,.str])]
abbrev am0:Type:=List (Int×B8)
abbrev aId:List TA:=[.ref 50000 0,.ref 50001 0,.ref 50002 0,.ref 50003 0]
abbrev aB7:Type:=Unit
abbrev aH9:List TB:=[.cells [.dR (.int .i64)],.cells [.nil],.cells [.dR (.slice [.int .u8])],.cells [.dR (.int .i64)]]
abbrev aB3:Type:=Int×Unit×B8×Int×Unit
abbrev YC:List TB:=[.cells [.dR (.slice [.int .i64,.int .i64,.str]),.dR (.int .i64),.dR (.int .i64),.nil]]
abbrev Jp:Type:=(List (Int×Int×B8)×Int×Int)×Unit
abbrev ay9:List TB:=[.cells [.dR (.slice [.int .i64,.int .i64,.str]),.dR (.int .i64),.dR (.int .i64),.own 50001],.row 90 [.int .i64,.str]]
abbrev aB4:Type:=(List (Int×Int×B8)×Int×Int)×(List (Int×B8))×Unit
abbrev acA:List TA:=[.ref 50000 0,.dR (.int .i64)]
abbrev Vc:Type:=Int
abbrev HG:List TB:=[.cells [.own 50001,.dR (.bool)],.row 5 [.int .u8]]
abbrev Cc:Type:=Bool×B8×Unit
abbrev Ef:List TA:=[.ref 50000 0,.dR (.slice [.int .u8]),.dR (.int .i64)]
abbrev am1:Type:=B8×Int
abbrev acB:List TA:=[.ref 50000 0,.agg [.dR (.int .i64),.dR (.str),.dR (.slice [.int .i64,.int .i64,.int .i64,.str])]]
abbrev am2:Type:=Int×B8×List (Int×Int×Int×B8)
abbrev azc:List TA:=[.ref 50000 0,.dR (.slice [.str])]
abbrev am3:Type:=List B8
abbrev acC:List TA:=[.ref 50000 0,.agg [.dR (.int .i64),.dR (.str),.dR (.str),.dR (.str),.dR (.slice [.str]),.dR (.slice [.int .u8])]]
abbrev Vd:Type:=Int×B8×B8×B8×List B8×B8
abbrev am5:List PS:=[.agg [.int .i64,.str,.slice [.int .i64,.int .i64,.int .i64,.str],.slice [.slice [.int .i64,.str,.str,.str,.slice [.str],.slice [.int .u8]]]]]
abbrev Ve:Type:=Int×B8×List (Int×Int×Int×B8)×List (List (Int×B8×B8×B8×List B8×B8))
abbrev acD:List PS:=[.agg [.int .i64,.str,.slice [.int .i64,.int .i64,.int .i64,.str],.int .i64,.slice [.int .u8],.slice [.str]]]
abbrev Vf:Type:=Int×B8×List (Int×Int×Int×B8)×Int×B8×List B8
abbrev am6:List PS:=[.agg [.int .i64,.str,.slice [.int .i64,.int .i64,.int .i64,.str],.int .i64,.str,.slice [.int .i64,.int .i64,.int .i64,.str],.slice [.str]]]
abbrev Č:Type:=Int×B8×List (Int×Int×Int×B8)×Int×B8×List (Int×Int×Int×B8)×List B8
abbrev aze:List TA:=[.dR (.slice [.int .u8]),.dR (.int .u8)]
abbrev am7:Type:=B8×UInt8
abbrev azf:List PS:=[.one (.slice [.int .u8]),.one (.slice [.int .u8])]
abbrev am8:Type:=B8×B8
abbrev azg:List TA:=[.dR (.str),.ref 50000 0,.ref 50001 0,.ref 50002 0]
abbrev am9:Type:=B8
abbrev aza:List TB:=[.cells [.dR (.slice [.str,.slice [.int .i64]])],.cells [.dR (.int .i64)],.cells [.nil]]
abbrev aB8:Type:=(List (B8×List Int))×Int×Unit×Unit
abbrev azb:List TB:=[.cells [.dR (.slice [.str,.slice [.int .i64]])],.cells [.dR (.int .i64)],.cells [.own 50003],.row 106 [.int .i64,.str,.str,.str,.slice [.str],.slice [.int .u8]]]
abbrev aB9:Type:=(List (B8×List Int))×Int×Unit×(List (Int×B8×B8×B8×List B8×B8))×Unit
abbrev aIe:List TA:=[.dR (.slice [.str,.slice [.int .i64]]),.ref 50000 0,.ref 50001 0]
abbrev ana:Type:=List (B8×List Int)
abbrev azd:List TB:=[.cells [.dR (.int .i64)],.cells [.dR (.slice [.str])]]
abbrev am4:Type:=Int×(List B8)×Unit
abbrev aIf:List PS:=[.agg [.slice [.slice [.int .u8]],.slice [.int .i64,.int .i64,.slice [.str,.slice [.int .i64]]]],.one (.slice [.int .i64,.str])]
abbrev aCa:Type:=List B8×List (Int×Int×List (B8×List Int))×List (Int×B8)
abbrev Pu:List PS:=[.agg [.slice [.slice [.int .u8]],.slice [.int .i64,.int .i64,.slice [.str,.slice [.int .i64]]]],.one (.int .i64)]
abbrev Vh:Type:=List B8×List (Int×Int×List (B8×List Int))×Int
abbrev azk:List PS:=[.agg [.slice [.slice [.int .u8]],.slice [.int .i64,.int .i64,.slice [.str,.slice [.int .i64]]]],.agg [.slice [.slice [.int .u8]],.slice [.int .i64,.int .i64,.slice [.str,.slice [.int .i64]]]]]
abbrev anb:Type:=List B8×List (Int×Int×List (B8×List Int))×List B8×List (Int×Int×List (B8×List Int))
abbrev azl:List PS:=[.one (.int .i64),.one (.int .i64)]
abbrev anc:Type:=Int×Int
abbrev aIh:List PS:=[.one (.str),.one (.int .i64),.one (.int .i64),.one (.slice [.str])]
abbrev aCf:Type:=B8×Int×Int×List B8
abbrev aIi:List PS:=[.one (.int .i64),.one (.bool),.one (.bool)]
abbrev aCg:Type:=Int×Bool×Bool
abbrev aIj:List TA:=[.dR (.slice [.int .i64]),.dR (.slice [.int .i64]),.fn (.func 197) [] []]
abbrev aCh:Type:=List Int×List Int
abbrev aIk:List TA:=[.dR (.slice [.int .i64]),.dR (.slice [.int .i64]),.fn (.func 198) [] []]
abbrev ane:Type:=List Int×List Int
abbrev KQ:List TA:=[.dR (.slice [.int .i64]),.dR (.slice [.int .i64]),.fn (.func 199) [] []]
abbrev Jq:Type:=List Int×List Int
abbrev aIl:List PS:=[.one (.slice [.str]),.one (.str)]
abbrev aCi:Type:=List B8×B8
abbrev aIm:List PS:=[.one (.str),.var [.slice [.str]],.var [.slice [.slice [.int .i64]]]]
abbrev aCj:Type:=B8×List B8×List (List Int)
abbrev aIn:List TA:=[.dR (.str),.ref 50000 0,.ref 50001 0]
abbrev aCk:Type:=B8
abbrev azh:List TB:=[.cells [.own 50002],.cells [.fn (.func 107) [] []],.row 27 [.slice [.int .i64]]]
abbrev aCb:Type:=Unit×Unit×(List (List Int))×Unit
abbrev azi:List TB:=[.cells [.own 50002],.cells [.fn (.func 108) [] []],.row 27 [.slice [.int .i64]]]
abbrev aCc:Type:=Unit×Unit×(List (List Int))×Unit
abbrev azj:List TB:=[.cells [.own 50002],.cells [.fn (.func 109) [] []],.row 27 [.slice [.int .i64]]]
abbrev aCd:Type:=Unit×Unit×(List (List Int))×Unit
abbrev aIg:List TB:=[.cells [.own 50002],.cells [.fn (.func 103) [] [.var [.slice [.str]],.var [.slice [.slice [.int .i64]]]],.fn (.func 107) [] [],.fn (.func 108) [] [],.fn (.func 109) [] []],.row 27 [.slice [.int .i64]]]
abbrev aCe:Type:=Unit×(List B8×List (List Int))×(List (List Int))×Unit
abbrev azm:List TA:=[.dR (.slice [.int .i64,.str]),.agg [.fn (.func 103) [] [.var [.slice [.str]],.var [.slice [.slice [.int .i64]]]],.fn (.func 107) [] [],.fn (.func 108) [] [],.fn (.func 109) [] []]]
abbrev anf:Type:=List (Int×B8)×List B8×List (List Int)
abbrev Pv:List PS:=[.one (.slice [.int .i64,.str]),.one (.slice [.slice [.int .i64]])]
abbrev č:Type:=List (Int×B8)×List (List Int)
abbrev YD:List PS:=[.agg [.int .i64,.str,.str,.str,.slice [.str],.slice [.int .u8]],.var [.str],.var [.int .i64]]
abbrev Ď:Type:=Int×B8×B8×B8×List B8×B8×B8×Int
abbrev azn:List PS:=[.agg [.int .i64,.str,.str,.str,.slice [.str],.slice [.int .u8]],.var [.str]]
abbrev aCl:Type:=Int×B8×B8×B8×List B8×B8×B8
abbrev aIo:List TA:=[.dR (.str),.agg [.dR (.int .i64),.dR (.str),.dR (.str),.dR (.str),.dR (.slice [.str]),.dR (.slice [.int .u8])]]
abbrev ang:Type:=B8×Int×B8×B8×B8×List B8×B8
abbrev azo:List PS:=[.one (.str),.one (.int .i64),.one (.str),.agg [.int .i64,.str,.str,.str,.slice [.str],.slice [.int .u8]]]
abbrev aCm:Type:=B8×Int×B8×Int×B8×B8×B8×List B8×B8
abbrev anh:List PS:=[.one (.int .i64),.one (.int .i64),.one (.str),.one (.str),.one (.slice [.str])]
abbrev ani:Type:=Int×Int×B8×B8×List B8
abbrev acE:List PS:=[.var [.int .i64,.str,.slice [.int .i64,.int .i64,.int .i64,.str]],.var [.str]]
abbrev Đ:Type:=Int×B8×List (Int×Int×Int×B8)×B8
abbrev KR:List PS:=[.agg [.int .i64,.str,.slice [.int .i64,.int .i64,.int .i64,.str]],.one (.str)]
abbrev Pw:Type:=Int×B8×List (Int×Int×Int×B8)×B8
abbrev acF:List PS:=[.var [.int .i64,.str,.slice [.int .i64,.int .i64,.int .i64,.str],.slice [.slice [.int .i64,.str,.str,.str,.slice [.str],.slice [.int .u8]]]],.var [.int .i64],.var [.slice [.str]]]
abbrev anj:Type:=Int×B8×List (Int×Int×Int×B8)×List (List (Int×B8×B8×B8×List B8×B8))×Int×List B8
abbrev azq:List PS:=[.var [.int .i64,.str,.slice [.int .i64,.int .i64,.int .i64,.str],.int .i64,.slice [.int .u8],.slice [.str]],.var [.int .i64]]
abbrev aCo:Type:=Int×B8×List (Int×Int×Int×B8)×Int×B8×List B8×Int
abbrev azr:List PS:=[.one (.str),.one (.int .i64),.one (.slice [.int .u8])]
abbrev ank:Type:=B8×Int×B8
abbrev aZh:List TA:=[.var [.int .i64,.int .i64,.int .i64,.str],.var [.str],.var [.int .i64,.str,.slice [.int .i64,.int .i64,.int .i64,.str],.slice [.slice [.int .i64,.str,.str,.str,.slice [.str],.slice [.int .u8]]]],.var [.int .i64],.var [.int .i64],.ref 50000 0]
abbrev aXT:Type:=Int×Int×Int×B8×B8×Int×B8×List (Int×Int×Int×B8)×List (List (Int×B8×B8×B8×List B8×B8))×Int×Int
abbrev YE:List TB:=[.cells [.own 50001],.eF 27 50002,.row 3 [.int .i64]]
abbrev ď:Type:=Unit×(List Value×Nat)×(List Int)×Unit
abbrev a4S:List PS:=[.var [.int .i64,.int .i64,.int .i64,.str],.var [.str],.var [.int .i64,.str,.slice [.int .i64,.int .i64,.int .i64,.str],.slice [.slice [.int .i64,.str,.str,.str,.slice [.str],.slice [.int .u8]]]],.var [.int .i64],.var [.int .i64]]
abbrev a5W:Type:=Int×Int×Int×B8×B8×Int×B8×List (Int×Int×Int×B8)×List (List (Int×B8×B8×B8×List B8×B8))×Int×Int
abbrev a7o:List PS:=[.one (.str),.one (.slice [.int .i64,.str]),.one (.slice [.int .u8])]
abbrev a3B:Type:=B8×List (Int×B8)×B8
abbrev a4T:List TA:=[.var [.int .i64,.str,.slice [.int .i64,.int .i64,.int .i64,.str],.int .i64,.str,.slice [.int .i64,.int .i64,.int .i64,.str],.slice [.str]],.ref 50000 0]
abbrev a5X:Type:=Int×B8×List (Int×Int×Int×B8)×Int×B8×List (Int×Int×Int×B8)×List B8
abbrev azp:List TB:=[.cells [.dR (.str)]]
abbrev aCn:Type:=B8×Unit
abbrev a3D:List PS:=[.var [.int .i64,.str,.slice [.int .i64,.int .i64,.int .i64,.str],.int .i64,.str,.slice [.int .i64,.int .i64,.int .i64,.str],.slice [.str]]]
abbrev a3E:Type:=Int×B8×List (Int×Int×Int×B8)×Int×B8×List (Int×Int×Int×B8)×List B8
abbrev a7p:List PS:=[.one (.str),.one (.slice [.int .u8])]
abbrev a5Y:Type:=B8×B8
abbrev a1O:List PS:=[.one (.slice [.int .i64,.int .i64,.int .i64,.slice [.int .u8]]),.one (.slice [.int .i64,.int .i64,.int .i64,.slice [.int .u8]])]
abbrev a3F:Type:=List (Int×Int×Int×B8)×List (Int×Int×Int×B8)
end Go.J
namespace Go
open List (length getD take drop replicate)
open Int (toNat)
def q17(a:Bool)(b c:Prop):Prop:=(a->b)/\(a=false->c)
def q19(a b:Int):=Bool.not (decide (a=b))
def fX(a:Bool)(b c d:Prop):Prop:=q17 a (b/\c) d
def q21(a:Nat):Prop:=a<=140737488355328
def q26(a:Int):Prop:=-9223372036854775808<=a/\a<=9223372036854775807
def q29(a:Bool)(b c d e:Prop):Prop:=fX a b c (d/\e)
def q30(a b:Bool):=bif a then true else b
def q32(a:B8):Prop:=q21 a.length
def b6(a:B8):Int:=a.length
def cK(a b:Bool):=bif a then b else false
def q43(a:UInt8):=(S.cP (Vg.ur B8) (Vg.ur (Prod Int (Prod Int (List (Prod B8 (List Int)))))) [104,a,121]).1
def q44(a b c:Nat):Prop:=S.ag a b<c
def pb(a:List B8):Int:=a.length
def q51(a b:Int):=a^toNat b
def q53(a b c:Nat):Prop:=q44 a b (S.ag a c)
def gE(a:Prop):Prop:=True/\a
def q59(a:B8):Prop:=a.length<=35184372088832
def q60(a:List Int):Int:=a.length
def dj(a:Bool)(b c d e f:Prop):Prop:=q29 a b c d (e/\f)
def HH(a:List B8)(b:Nat):=getD a b []
def vB(a:UInt8):Int:=UInt8.toNat a
def q73(a b:Int)(c:Bool):=q30 (decide (a<b)) c
def lG(a:List B8)(b:Int):=HH a (toNat b)
def q75(a:Int)(b:List Int):=a::a::a::a::b
def q79(a:Nat):Prop:=a<=17592186044416
def q80:=Vg.ur UInt8
def q81(a:Int)(b:Prop):Prop:=q26 (a+1)/\b
def HJ(a:Int):=UInt8.ofNat (toNat a)
def q86(a b c:Int)(d e:Prop):Prop:=(a<=b/\b<c)/\d/\e
def nb(a:Nat):Prop:=a<=8796093022208
def oH(a:Bool)(b c d:Int)(e f:Prop):Prop:=fX a (b<=c/\c<d) e f
def oI(a:Bool)(b:Prop):Prop:=q17 a True b
def Ds(a b:UInt8):=(S.cP (q43 a).1 (q43 a).2 [119,a,105,110,b,104,a,121]).1
def q97(a b c:Int)(d e:Prop):Prop:=q26 a/\q86 b a c d e
def q98(a b:Prop):Prop:=gE (a/\b)
def HK(a:List (B8×List Int)):Int:=a.length
def mY(a:Bool)(b c:Prop)(d:Int)(e:Prop):Prop:=q29 a b c (q26 d) e
def ajb(a:Nat):Prop:=a<=5864062014805
def anl(a b:Bool)(c:Prop):Prop:=q17 a (false=b) c
def aAu(a:B8)(b:S.Wp):=a++S.bytesOf b
def aPZ(a b:Int)(c:Bool):=cK (decide (a<=b)) c
def aL5(a b:Bool):=q30 a (Bool.not b)
def aQg(a b:UInt8):=(S.bY (Ds a b).1 (Ds a b).2).1
def aP6(a:Bool):Prop:=(a->True)/\(a=false->True)
def Ce(a:Bool)(b c:B8):=cK a (decide (b=c))
def azH(a:Int):=140737488355328/a
def PA(a:Int):=Bool.not (decide (a=a))
def Cg(a:Int):=a%18446744073709551616
def sA(a:B8):Prop:=a.length<=1099511627776
def aWJ(a:Nat):Prop:=a<=3518437208883
def aZF:Prop:=true=true
def azI(a:Bool)(b:Int)(c:List Int):=bif a then drop (toNat b) c else c
def aWK(a b:Int):Prop:=S.tu a (-b)
def az4(a b:UInt8):=(S.fE (aQg a b).1 (aQg a b).2 S.fy).1
def HN(a:Bool)(b c:Prop)(d:Bool)(e f g:Prop):Prop:=fX a b c (q29 d b e f g)
def aHH(a:List (List Int))(b:Nat):=getD a b []
def az6(a b c d:Int)(e:Prop):Prop:=(a<=b/\b<c)/\(a<=d/\d<c)/\e
def aJz(a:B8)(b:Int)(c:UInt8):=vB (getD a (toNat b) c)
def Ci:=q60 S.sa
def z7(a:Int):=q19 a 0
def aFu(a b c:Int)(d:Prop):Prop:=q26 a/\(b<=a/\a<=c)/\d
def mw(a b c:Int):=aPZ a b (decide (b<=c))
def aVr(a b c:Int):=q73 a b (decide (c<a))
def aUD(a b c d:Int):Prop:=a<=b/\b<=c/\c<=d
def aRJ(a b:Bool)(c:Int)(d:Prop):Prop:=anl a b (q81 c d)
def aT2(a:List (B8×List Int))(b:Int):=getD a (toNat b) ([],[])
def SN(a b c:Int):=q73 a b (decide (c<=a))
def cx(a b:Int):Prop:=toNat a<toNat b
def aSc(a b:Int):=(a+b)%4294967296
def YG(a:Int):=decide (a=0)
def aSJ(a:B8):Prop:=a.length<1099511627776
def ahP(a:Bool)(b:Int)(c:Bool)(d e:Int):=bif a then b else bif c then d else e
def a0g:Prop:=[]=S.fy
def aYP(a b:Nat)(c:Prop)(d:Nat):Prop:=(a:Int)+1=b/\c/\q53 d b a
def Eg(a b:B8):=Bool.not (decide (a=b))
def aZy(a b:List Int):Prop:=q79 (a.length+b.length)
def aJB(a b:Prop):Prop:=gE (q98 a b)
def a1P(a:B8):Prop:=a.length<=17592186044416
def aZG(a:Bool)(b c d:Int):Prop:=fX a (b<=b/\b<c) (b<=d/\d<=c) True
def Ei(a b:Int)(c:Prop):Prop:=a=a/\b=b/\c
def aZH(a b:List B8):Prop:=nb (a.length+b.length)
def a1Q(a b:B8):=Op.bytesLess a b||decide (a=b)
def aZU(a b:B8)(c:Prop):Prop:=q21 (a.length+b.length)/\c
def a0b(a:Int)(b:B8):=decide (a<b6 b)
def a0c(a b:Bool)(c d:Int):=cK a (q30 b (decide (c<=d)))
def aGr(a b:Int)(c:Prop):Prop:=(0<=a/\a<=b)/\c
def aVF(a b:Nat)(c d e:Prop)(f:Nat):Prop:=((a:Int)+1=b/\c/\d)/\e/\q53 f b a
def aZa(a:Int)(b:UInt8):=replicate (toNat a) b
def a0i(a:Int):Prop:=a=a/\S.fy=S.fy
def wM(a b:Int)(c:B8):=drop (toNat a) (take (toNat b) c)
def rj(a b:Int)(c:Bool)(d e:S.Wp)(f:B8):Prop:=a=b/\S.rM c d=S.iG e/\aAu f d=S.bytesOf e
def aGt(a:Int):=Bool.not (S.cA a)
def aZI(a b:Bool)(c d e:Int):Prop:=q17 a (oI b ((c<=c/\c<d)/\c<=c/\c<e)) True
def aZz(a b:Nat)(c d:Prop)(e:Nat):Prop:=((a:Int)+1=b/\c)/\d/\q53 e b a
def aT5(a b:Int):Prop:=0<=a/\a<=b
def aZb(a:B8):=q19 (b6 a) 32
def aVI(a b:Int):Prop:=0<=a/\a<b
def aXa(a:Int):=getD S.sa (toNat a) a
def a0G(a b c:Int):Prop:=a<=b/\b<=b/\b<=azH c
def aJE(a b c d:List Int)(e:Prop):Prop:=(bif Bool.not (S.bK a) then([]:List Int) else a)=b/\(bif Bool.not (S.bK c) then([]:List Int) else c)=d/\e
def a0p(a b c d:Int):=Vg.eP (Vg.eP (S.rotl a (-b)) (S.rotl a (-c))) d
def aYQ(a:Prop)(b:Bool)(c d:Int)(e f g:Prop):Prop:=a->q29 b (0<=c/\c<d) e f g
def a0H(a:List B8)(b:UInt8)(c:Nat)(d:B8):Prop:=S.oW a/\S.gM b a=S.oE c d
def aXi(a:Bool)(b c d e f g h i:Int):=(bif a then 1779033703 else b,bif a then 3144134277 else c,bif a then 1013904242 else d,bif a then 2773480762 else e,bif a then 1359893119 else f,bif a then 2600822924 else g,bif a then 528734635 else h,bif a then 1541459225 else i)
def aP0(a b c d:Int)(e f g:Nat)(h i:List (List Int))(j:Int):Prop:=q26 a/\aFu b c d (q97 b c d (e<f) (q86 c a d (g<f) (q98 (ajb (e+h.length)) (take e i++h=S.xo j i))))
def a1R(a b:List (List S.Pf)):Prop:=ajb (a.length+b.length)
def qN(a:List (Int×Int×B8)):Prop:=length S.kE1+a.length<=4398046511104
def a1S(a b c:B8):Prop:=S.aC a/\S.small b/\S.sum b=c
def aWT:Prop:=(0:Int)=0
def aQW(a:Int):=decide (0<a)
def a0d:Int:=((64:Nat):Int)
def a0q:=b6 (az4 97 32)-1
def aZc:Int:=((8:Nat):Int)
def a0L(a b c:Int):=bif cK (YG a) (q19 (S.vw S.kE b).1 (-c)) then c else a
def a0Q:Prop:=toNat a0q<length (az4 97 32)
def aZe:Int×Int×Int×Int×Int×Int×Int×Int:=(1779033703,3144134277,1013904242,2773480762,1359893119,2600822924,528734635,1541459225)
def ya(a:List Int)(b:Nat):=getD a b 0
def aT7(a b:Nat)(c d:Int)(e:B8)(f:Nat):Prop:=((a:Int)+1=b/\Vg.cy c d=S.bV e b)/\S.rb e b/\q53 f b a
def aZQ(a b:Int)(c:Prop):Prop:=q26 a/\(0<=a/\a<b)/\c
def aYW(a:List Int)(b:Int):=getD a (toNat b) 0
def aZR:Int:=((1:Nat):Int)
def a03:=S.kA (S.mG (aQg 97 32).1 (aQg 97 32).2).1 S.fy (az4 97 32)
def aF6(a:B8)(b c:Int):=S.kQ a (S.af a b c).1.2.1 (S.af a b c).1.2.2
def aC6(a:B8):=YG (S.ia (S.ah a).1.1 (S.ah a).1.2.2.2.1 (S.ah a).1.2.1 (S.ah a).1.2.2.2.2.1 (S.ah a).1.2.2.2.2.2.2)
def aF7(a:B8):=S.im (S.ah a).1.2.2.2.1 (S.ah a).1.2.2.2.2.1 (S.ah a).1.2.2.2.2.2.1
def aUJ(a:B8):=S.bp a
def aF8(a:B8)(b:List (Int×B8))(c:B8)(d:Nat):=Vg.bk.run (S.conds 27 3 c (aUJ a).1.1 (aUJ a).1.2.1 (aUJ a).1.2.2.1 (aUJ a).1.2.2.2 (S.ax b) d) (Vg.Z.g 27 3 (Vg.bk.Kj (toNat (pb (S.ax b)))))
def aUK(a:B8)(b:Nat):=getD (aUJ a).1.2.2.1 (toNat b) (0,0,0,[])
def aQX(a:List (List (Int×B8×B8×B8×List B8×B8)))(b c:Int):=getD (getD a (toNat b) []) (toNat c) (0,[],[],[],[],[])
def Ck(a:List (List (Int×B8×B8×B8×List B8×B8)))(b c:Int):=getD (getD a (toNat b) []) (toNat c) (0,[],[],[],[],[])
def aWU(a:List (List (Int×B8×B8×B8×List B8×B8)))(b:Int)(c:B8)(d e:Int)(f:B8):=S.iI c b f ((Ck a d e).1,(Ck a d e).2.1,(Ck a d e).2.2.1,(Ck a d e).2.2.2.1,(Ck a d e).2.2.2.2.1,(Ck a d e).2.2.2.2.2)
def azN(a:B8)(b:Int)(c:Nat):=Vg.aM (aJz a (b+c) 0) 127*q51 2 (7*c)
def aAj(a:List B8):=drop (toNat 1) a
def aWV(a:List B8):=take (toNat (S.split (pb a))) a
def aWW(a:List B8):=drop (toNat (S.split (pb a))) a
def apB(a:List (B8×List Int)):=a.length
def aAk(a:List (B8×List Int))(b:Nat):=[S.fW (bif decide ((b:Int)<apB a) then bif aQW b then(aT2 a (b-1)).1 else [] else bif aQW b then(aT2 a (b-1)).1 else []) (bif decide ((b:Int)<apB a) then(aT2 a b).1 else bif aQW b then [] else []) (S.aNO (bif aQW b then(aT2 a (b-1)).2 else []))]
def azP(a:B8):=S.an (S.an a 0 0 64).1.1 (S.an a 0 0 64).1.2.1 (S.an a 0 0 64).1.2.2 64
def ajS(a:B8):=S.ar (azP a).1.1 (azP a).1.2.1 (azP a).1.2.2
def arR(a:List (Int×B8))(b:Nat):=getD a (toNat b) (0,[])
def aC7(a:List (List Int)):=a.length
def aZo(a:List (List Int)):=a.length
def aKF(a:List (List Int)):=a.length
def aXl(a:B8):=(S.iw a).1
def azR(a:B8):=S.ar a (S.af a 0 0).1.2.1 (S.af a 0 0).1.2.2
def aTY(a:B8)(b:Nat):=S.tC a (S.jJ a b).1.1 (S.jJ a b).1.2 (S.jJ a b).2.1
def azT(a:List (Int×Int×Int×B8))(b:Nat):=(getD a (toNat b) (0,0,0,[])).2
def aQY(a:Int):=Vg.aM (Cg a) 31
def ai7(a:List (Int×Int×List (B8×List Int)))(b:Nat):=getD a (toNat b) (0,0,[])
def aoH(a:List (Int×Int×List (B8×List Int)))(b:Nat):=getD a (toNat b) (0,0,[])
def aUs(a:Nat×Nat):=toNat a.1
def azU(a:List (Int×Int×List (B8×List Int)))(b:Nat×Nat):=(getD a (aUs b) (0,0,[])).2.2
def aGb(a:Nat×Nat):=toNat a.1
def aKG(a:List (Int×Int×List (B8×List Int)))(b:Nat×Nat):=S.eu a b.2 b.1
def aVl(a:List (Int×Int×List (B8×List Int)))(b:Nat×Nat):=S.af2 a (S.akE a b.2) b.1
def ep(a:List (Int×Int×List (B8×List Int)))(b:Nat×Nat):=(getD a (toNat (aVl a b)) (0,0,[])).2.2
def aF9(a:List (Int×Int×List (B8×List Int))):=a.length
def azV(a b:Int)(c:List B8)(d:List (Int×Int×List (B8×List Int))):=drop (toNat a) (take (toNat (a+b)) (S.ao c d).2)
def apM(a:List (Int×Int×List (B8×List Int)))(b:Nat):=getD a (toNat b) (0,0,[])
def apD(a:List B8)(b:List (Int×Int×List (B8×List Int)))(c:List (Int×Int)):=take (toNat ((S.zu (S.fL (S.bF (S.ao a b).1 c))).1+2)-toNat (S.zu (S.fL (S.bF (S.ao a b).1 c))).1) (drop (toNat (S.zu (S.fL (S.bF (S.ao a b).1 c))).1) (S.bF (S.ao a b).1 c))
def aKH(a:List B8)(b:List (Int×Int×List (B8×List Int)))(c:Nat):=getD (S.ao a b).2 (toNat c) (0,0,[])
def ajO(a:List B8)(b:List (Int×Int×List (B8×List Int)))(c:Nat):=(S.sJ (aKH a b c).1 (aKH a b c).2.1 (aKH a b c).2.2).1
def axQ(a:List (Int×Int×List (B8×List Int)))(b:Nat):=getD a (toNat b) (0,0,[])
def ajQ(a:List Int×List Int×List Int):=getD a.2.1 (toNat 0) 0
def apN(a:List Int×List Int×List Int):=getD a.1 (toNat 0) 0
def axR(a:List Int×List Int×List Int):=a0c (aQW (q60 a.1)) (YG (q60 a.2.1)) (apN a) (ajQ a)
def apE(a:List Int×List Int×List Int):=a0c (aQW (q60 a.2.1)) (YG (q60 a.1)) (ajQ a) (apN a)
def a0j(a:List Int×List Int×List Int):=getD a.2.1 (toNat 0) 0
def ajf(a:List Int×List Int×List Int):=getD a.1 (toNat 0) 0
def aXV(a:List Int×List Int×List Int):=a0c (aQW (q60 a.2.1)) (YG (q60 a.1)) (a0j a) (ajf a)
def aJl(a:List Int×List Int×List Int):=a0c (aQW (q60 a.1)) (YG (q60 a.2.1)) (ajf a) (a0j a)
def aKR(a:List Int×List Int×List Int):=getD a.1 (toNat 0) 0
def aUL(a:List Int×List Int×List Int):=getD a.2.1 (toNat 0) 0
def aJM(a:List Int×List Int×List Int):=a0c (aQW (q60 a.2.1)) (YG (q60 a.1)) (aUL a) (aKR a)
def aGc(a:List Int×List Int×List Int):=a0c (aQW (q60 a.1)) (YG (q60 a.2.1)) (aKR a) (aUL a)
def aUf(a:List Int×List Int):=getD a.1 (toNat 0) 0
def aGd(a:List Int×List Int):=a0c (aQW (q60 a.1)) (YG Ci) (aUf a) (aXa 0)
def aGe(a:List Int×List Int):=cK (decide (0<Ci)) (q30 (YG (q60 a.1)) (decide (aXa 0<=aUf a)))
def aUw(a:List B8):=S.root (S.leaves a)
def aUq(a:List B8):=S.root (S.leaves a)
def aUk(a:List (Int×B8))(b:Nat):=getD a (toNat b) (0,[])
def aXZ(a:List (Int×B8))(b:Nat):=q30 (Eg (aUk a b).2 []) (decide (S.gw a b<2))
def aT6(a:Nat):=toNat a
def aX0(a:B8)(b:Nat×Nat):=S.BX a b.2 b.1
def aSI(a:B8)(b:Nat×Nat):=S.iF a (aX0 a b).1.1 (aX0 a b).1.2
def aXe(a:B8):=(S.aH a).2
def aZs(a:B8):=S.af a (S.cC a 1 0).1.1 (S.cC a 1 0).1.2
def aVD(a:B8):=S.iK a (S.an a (aZs a).1.2.1 (aZs a).1.2.2 2000).1.2.1 (S.an a (aZs a).1.2.1 (aZs a).1.2.2 2000).1.2.2
def mI(a:B8):=S.cC a (S.cC a 1 0).1.1 (S.cC a 1 0).1.2
def PH(a:B8):=S.iK a (mI a).1.1 (mI a).1.2
def Fk(a:List (List (Int×B8×B8×B8×List B8×B8)))(b:Nat)(c:Nat×Nat):=getD (getD a (toNat b) []) (toNat c.1) (0,[],[],[],[],[])
def Js(a:List (List (Int×B8×B8×B8×List B8×B8)))(b:Nat)(c:Nat×Nat):=getD (getD a (toNat b) []) (toNat c.1) (0,[],[],[],[],[])
def zG(a:List (Int×Int×Int×B8))(b:Nat):=S.mW ([],[]) a b
def Jt(a:List (Int×Int×Int×B8))(b:Nat):=getD a (toNat b) (0,0,0,[])
def Fl(a b:List (Int×Int×Int×B8))(c:Nat):=(S.bY (S.ayO a b c).1 (S.ayO a b c).2).1
def a0k(a:List (Int×Int×Int×B8)):=(S.bY (S.fq a).1 (S.fq a).2).1
def aYX(a:List (Int×Int×Int×B8))(b:Nat):=getD a (toNat b) (0,0,0,[])
def Ju(a:List (Int×Int×Int×B8))(b:Nat):=getD a (toNat b) (0,0,0,[])
def Ė(a:B8)(b:Int)(c:B8):=q30 (Bool.not (S.qo c b)) (decide (1099511627776-b<a.length))
def sP(a:B8)(b:Int)(c:B8):=bif Ė a b c then [] else c
def Jv(a:Int)(b:B8):=Bool.not (S.qo b a)
def Cm(a b c d e f g h i:Int)(j:B8)(k l:Nat):=aYW [(S.aI (aXi (Jv a j) b c d e f g h i) (S.jX j a k)).1,(S.aI (aXi (Jv a j) b c d e f g h i) (S.jX j a k)).2.1,(S.aI (aXi (Jv a j) b c d e f g h i) (S.jX j a k)).2.2.1,(S.aI (aXi (Jv a j) b c d e f g h i) (S.jX j a k)).2.2.2.1,(S.aI (aXi (Jv a j) b c d e f g h i) (S.jX j a k)).2.2.2.2.1,(S.aI (aXi (Jv a j) b c d e f g h i) (S.jX j a k)).2.2.2.2.2.1,(S.aI (aXi (Jv a j) b c d e f g h i) (S.jX j a k)).2.2.2.2.2.2.1,(S.aI (aXi (Jv a j) b c d e f g h i) (S.jX j a k)).2.2.2.2.2.2.2] l
def a04(a:Int)(b:B8)(c:Nat):=[HJ (Cg (Cg (bif Jv a b then 0 else a)*8)/q51 2 (56-8*c)%256)]
def a1y(a:B8):=((S.aI aZe a).1,(S.aI aZe a).2.1,(S.aI aZe a).2.2.1,(S.aI aZe a).2.2.2.1,(S.aI aZe a).2.2.2.2.1,(S.aI aZe a).2.2.2.2.2.1,(S.aI aZe a).2.2.2.2.2.2.1,(S.aI aZe a).2.2.2.2.2.2.2)
def zH(a:Nat):=0+toNat (a-15)*1
def zI(a:B8):=S.sched a 64
def zJ(a:Nat):=0+toNat (a-2)*1
def xu(a:B8)(b:Nat):=take (toNat 64) (S.fx a b)
def qP(a:Int×Int):=Cg (a.1+a.2)/q51 2 1
def PK(a:Nat):=toNat a
def zK(a:Nat×Nat×List B8×Nat):=toNat a.1
def PL(a:Nat×Nat×List B8×Nat):=length a.2.2.1
def sQ(a:Nat×Nat×List B8×Nat):=take (zK a) a.2.2.1++replicate (PL a-zK a) q80++drop (zK a+(PL a-zK a)) a.2.2.1
def aYY(a:List B8):=a.length
def zL(a:Nat×Nat×List B8×Nat):=toNat a.1
def aUC(a:Nat):=toNat a
def Fm(a:List B8):=a.length
def Fo(a:Nat×Nat×List B8×Nat):=length a.2.2.1
def Fp(a:Nat×Nat×List B8×Nat):=take (zL a) a.2.2.1++replicate (Fo a-zL a) q80++drop (zL a+(Fo a-zL a)) a.2.2.1
def Fv(a:List Int)(b:Nat×B8):=S.iU (S.bT (aYW a b.1))
def Fx(a:List B8):=a.length
def Fw(a:List B8):=List.set a (toNat (Fx a-2)) (S.aT (HH a (toNat (Fx a-2))) (HH a (toNat (Fx a-2+1))))
def Jw(a:Int):=[HJ (vB (S.more a))]
theorem aE {p q:Prop}(h:q)(e:p=q:=by(try delta q17 q19 fX q21 q26 q29 q30 q32 b6 cK q43 q44 pb q51 q53 gE q59 q60 dj HH vB q73 lG q75 q79 q80 q81 HJ q86 nb oH oI Ds q97 q98 HK mY ajb anl aAu aPZ aL5 aQg aP6 Ce azH PA Cg sA aWJ aZF azI aWK az4 HN aHH az6 aJz Ci z7 aFu mw aVr aUD aRJ aT2 SN cx aSc YG aSJ ahP a0g aYP Eg aZy aJB a1P aZG Ei aZH a1Q aZU a0b a0c aGr aVF aZa a0i wM rj aGt aZI aZz aT5 aZb aVI aXa a0G aJE a0p aYQ a0H aXi aP0 a1R qN a1S aWT aQW a0d a0q aZc a0L a0Q aZe ya aT7 aZQ aYW aZR a03 aF6 aC6 aF7 aUJ aF8 aUK aQX Ck aWU azN aAj aWV aWW apB aAk azP ajS arR aC7 aZo aKF aXl azR aTY azT aQY ai7 aoH aUs azU aGb aKG aVl ep aF9 azV apM apD aKH ajO axQ ajQ apN axR apE a0j ajf aXV aJl aKR aUL aJM aGc aUf aGd aGe aUw aUq aUk aXZ aT6 aX0 aSI aXe aZs aVD mI PH Fk Js zG Jt Fl a0k aYX Ju Ė sP Jv Cm a04 a1y zH zI zJ xu qP PK zK PL sQ aYY zL aUC Fm Fo Fp Fv Fx Fw Jw);exact rfl):p:=e.mpr h
end Go
