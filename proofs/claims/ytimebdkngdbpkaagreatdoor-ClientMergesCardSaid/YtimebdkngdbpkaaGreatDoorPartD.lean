import Derived.Test.YtimebdkngdbpkaaGreatDoorPartC
import Derived.Lib.LaidTab
import Derived.Test.YtimebdkngdbpkaaGreatDoorProg
import Derived.WalkKit
set_option linter.unusedVariables false
set_option linter.unusedSimpArgs false
set_option linter.unusedSectionVars false
set_option linter.defProp false
section
namespace Go.S
theorem tg {docs:List B8}{l:List aT}:gC docs l=true↔bD docs l=true/\kW docs l=(docs.length:Int):=by
 simp_all[gC,B!,J!]
theorem aha {docs:List B8}{l:List aT}(h:gC docs l=false):iK docs l=((0,[],[]),7):=by grind[iK]
theorem Bg {docs:List B8}{l:List aT}(h:gC docs l=true):iK docs l=(((docs.length:Int),root (leaves docs),cL docs l),0):=Vv (tg.1 h)
theorem Ya {docs:List B8}{l:List aT}(h:gC docs l=true):dO (docs.length:Int) (root (leaves docs)) (cL docs l)=true:=by
 obtain⟨h1,h2⟩:=tg.1 h;have hb:=(RI.of h1).bd;grind[ij,Int.natCast_nonneg,Jw,rU,X2]
theorem ahb {n:Int}{g:B8}{l:List Sg}(h:(hW n g l).2=0):dO n g l=true/\hW n g l=(hB n g l,0):=by
 grind[JC,X7]
theorem ă {n:Int}{g:B8}{l:List Sg}(h:dO n g l=true):(hB n g l).length<=100000:=by
 have:=JD (k:=l.length) ⟨h,Nat.le_refl _⟩;grind[Ă]
theorem apart {a b:Hd}(ha:(hW a.1 a.2.1 a.2.2).2=0)(hb:(hW b.1 b.2.1 b.2.2).2=0):(bif decide ((hW a.1 a.2.1 a.2.2).1=(hW b.1 b.2.1 b.2.2).1)==X3 a.1 a.2.1 a.2.2 b.1 b.2.1 b.2.2 then true else false)=true:=by
 grind[ahb,X6,Vr,decide_eq_true,decide_eq_false]
theorem ahc(l:List rA):(eG l).2.length<=40:=by
 grind[PM,min,LZ,eG]
def adh {docs:List B8}{l:List aT}(h:bD docs l=true)(a b c:Int)(d:B8):(oa docs l a b c d).1.1.length<=docs.length+1:=by
 by_cases h0:a=0
 . have hg:=kY h;unfold oa;grind[cA]
 grind[keeps]
theorem L4(l:List rA):∀k,(mU ([],[]) l k).1.length<=k
 |0=>S! _
 |k+1=>by
  have ih:=L4 l k;rw [mU];split
  . omega
  . have:=adh (R9 l k) (tf l k).1 (tf l k).2.1 (tf l k).2.2.1 (tf l k).2.2.2;omega
theorem ahd(l:List rA):(eG l).1.length<=40:=by grind[L4,min,eG]
theorem Yb(docs:List B8)(l:List aT):bV docs l=oa docs l 1 0 0 []:=by rfl
theorem Vx {docs:List B8}{l:List aT}(h:bD docs l=true)(hl:l.length<64):
  (bV docs l).1.1=docs/\bD docs (bV docs l).1.2=true/\cz (bV docs l).1.2=docs.length/\(bV docs l).1.2.length<=l.length+1/\gC docs (bV docs l).1.2=true:=by
 grind[keeps,Fj,Vl,Yb,tg,IA]
def pf(l:List rA):(bV (eG l).1 (eG l).2).1.1=(eG l).1/\bD (eG l).1 (bV (eG l).1 (eG l).2).1.2=true/\cz (bV (eG l).1 (eG l).2).1.2=(eG l).1.length/\(bV (eG l).1 (eG l).2).1.2.length<=41/\gC (eG l).1 (bV (eG l).1 (eG l).2).1.2=true:=by
 grind[ahc,Vx,amg]
def avr {docs:List B8}{l:List aT}{d:B8}(h:bD docs l=true)(h1:¬(2000:Int)<d.length)(h2:docs.length<1000):cA docs l d=((docs++[d],l),0):=by
 grind[kY,asU]
theorem aIQ(l:List rA)(k:Nat):¬(2000:Int)<((eG l).1.getD k []).length:=by
 have R:=aJ2 l;by_cases hk:k<(eG l).1.length
 . have:=R.fair;simp_all[eb,B!,X!,J!,bA,eG]
 grind
theorem aGM(l m:List rA):∀k,k<=(eG l).1.length->(abH l m k).1=(eG l).1.take k/\bD (abH l m k).1 (abH l m k).2=true/\(abH l m k).2.length<=k
 |0,_=>⟨by rfl,ú,S! _⟩
 |k+1,hk=>by
  obtain⟨i1,i2,i3⟩:=aGM l m k w!;have h40:=ahd l;have hl:(abH l m k).1.length=k:=by grind
  have ha:=avr i2 (aIQ l k) w!;have hr:=append_right (abH l m k).1 (abH l m k).2 ((eG l).1.getD k []);have ht:(eG l).1.take (k+1)=(eG l).1.take k++[(eG l).1.getD k []]:=ax _ k [] w!;grind[abH,keeps,tf,Vl,X0,Nat.le_trans,Nat.add_le_add]
def aHU(l m:List rA)(k:Nat)(y:Vi)(h:(cA (abH l m k).1 (abH l m k).2 ((eG l).1.getD k [])).1=y):
  (bif bif decide ((k:Int)<m.length) then !decide ((tf m k).1=0) else false then(oa y.1 y.2 (tf m k).1 (tf m k).2.1 (tf m k).2.2.1 (tf m k).2.2.2).1.1 else y.1)=(abH l m (k+1)).1/\
  (bif bif decide ((k:Int)<m.length) then !decide ((tf m k).1=0) else false then(oa y.1 y.2 (tf m k).1 (tf m k).2.1 (tf m k).2.2.1 (tf m k).2.2.2).1.2 else y.2)=(abH l m (k+1)).2:=by
 grind[abH]
theorem grow(l:List rA){d:B8}(hd:¬(2000:Int)<d.length){x:List aT}(hx:(bV (eG l).1 (eG l).2).1.2=x):
  iK (eG l).1 x=((((eG l).1.length:Int),root (leaves (eG l).1),cL (eG l).1 x),0)/\cA (eG l).1 x d=(((eG l).1++[d],x),0)/\
  ∃s r,bV ((eG l).1++[d]) x=(((eG l).1++[d],x++[s]),0)/\iK ((eG l).1++[d]) (x++[s])=((((eG l).1.length:Int)+1,r,cL (eG l).1 x++[Fe s]),0):=by
 have h40:=ahd l;obtain⟨p1,p2,p3,p4,p5⟩:=pf l;rw [hx] at p2 p3 p4 p5;have ha:=avr p2 hd w!;have hr:=append_right (eG l).1 x d;rw [ha] at hr;have hg:=kY hr
 have hf:bV ((eG l).1++[d]) x=(((eG l).1++[d],x++[(cz x,(((eG l).1++[d]).length:Int),make ((eG l).1++[d]) (cz x) ((eG l).1++[d]).length)]),0):=by
  grind[bV,kW]
 refine⟨Bg p5,ha,_,root (leaves ((eG l).1++[d])),hf,?_⟩;have hfl:=Vx (docs:=(eG l).1++[d]) (l:=x) hr w!;grind[Bg,cL,eG,cz,make,Fe,kY]
end Go.S

end
section
namespace Go.S
def bl(i n:Int):List Bool:=if h:n<2 then [] else if i<((sp n.toNat:Nat):Int) then false ::bl i ((sp n.toNat:Nat):Int) else true ::bl (i-((sp n.toNat:Nat):Int)) (n-((sp n.toNat:Nat):Int))
termination_by n.toNat
decreasing_by
 . have:=ka (n:=n.toNat) w!;omega
 . have:=ka (n:=n.toNat) w!;omega
def Ri(d:B8)(x:Bool×B8):B8:=if x.1 then bc x.2 d else bc d x.2
def Ą(d:B8)(s:List Bool)(p:List B8):B8:=(List.zip s.reverse p).foldl Ri d
def ahe(d:B8)(i n:Int)(p:List B8):B8:=Ą d (bl i n) p
def amo(i n:Int):Int:=((bl i n).length:Int)
def path(l:List B8)(i:Int):List B8:=if h:l.length<2 then [] else if i<((sp l.length:Nat):Int) then path (l.take (sp l.length)) i++[root (l.drop (sp l.length))] else path (l.drop (sp l.length)) (i-((sp l.length:Nat):Int))++[root (l.take (sp l.length))]
termination_by l.length
decreasing_by
 . have:=ka (n:=l.length) w!;rw [T?];omega
 . have:=ka (n:=l.length) w!;rw [D?];omega
theorem kl {i n:Int}(h:n<2):bl i n=[]:=by rw [bl,dif_pos h]
theorem nF {i n:Int}(h:2<=n)(hi:i<((sp n.toNat:Nat):Int)):bl i n=false ::bl i ((sp n.toNat:Nat):Int):=by rw [bl,dif_neg w!,R! hi]
theorem pe {i n:Int}(h:2<=n)(hi:¬i<((sp n.toNat:Nat):Int)):bl i n=true ::bl (i-((sp n.toNat:Nat):Int)) (n-((sp n.toNat:Nat):Int)):=by rw [bl,dif_neg w!,Q! hi]
theorem Sc {l:List B8}{i:Int}(h:l.length<2):path l i=[]:=by rw [path,dif_pos h]
theorem Sd {l:List B8}{i:Int}(h:2<=l.length)(hi:i<((sp l.length:Nat):Int)):path l i=path (l.take (sp l.length)) i++[root (l.drop (sp l.length))]:=by rw [path,dif_neg w!,R! hi]
theorem Se {l:List B8}{i:Int}(h:2<=l.length)(hi:¬i<((sp l.length:Nat):Int)):path l i=path (l.drop (sp l.length)) (i-((sp l.length:Nat):Int))++[root (l.take (sp l.length))]:=by rw [path,dif_neg w!,Q! hi]
def Db {C:Nat->Prop}(h0:∀n,n<2->C n)(h1:∀n,2<=n->C (sp n)->C (n-sp n)->C n)(n:Nat):C n:=by
 induction n using Nat.strongRecOn with
 |_ n ih=>
  by_cases h:n<2
  . exact h0 n h
  . have hb:=ka (n:=n) w!;exact h1 n w! (ih _ w!) (ih _ w!)
theorem adi(n:Nat):∀(l:List B8) (i:Int),l.length=n->(path l i).length=(bl i l.length).length:=by
 refine Db (C:=λn=>∀(l:List B8) (i:Int),l.length=n->(path l i).length=(bl i l.length).length) (λn h l i e=>?_) (λn h i1 i2 l i e=>?_) n
 . grind[Sc,kl]
 . have hb:=ka (n:=l.length) w!;by_cases hi:i<((sp l.length:Nat):Int)
   . rw [Sd w! hi,nF w! x!,List.length_append];grind
   . rw [Se w! hi,pe w! x!,List.length_append];grind
def aFI(d:B8)(x:Bool)(s:List Bool)(p:List B8)(y:B8)(h:p.length=s.length):Ą d (x::s) (p++[y])=Ri (Ą d s p) (x,y):=by
 simp_all[Ą,List.reverse_cons,List.zip_append,List.foldl_append]
theorem aGN(n:Nat):∀(l:List B8) (i:Int),l.length=n->0<=i->i<l.length->ahe (l.getD i.toNat []) i l.length (path l i)=root l:=by
 refine Db (C:=λn=>∀(l:List B8) (i:Int),l.length=n->0<=i->i<l.length->ahe (l.getD i.toNat []) i l.length (path l i)=root l) (λn h l i e h0 h1=>?_) (λn h i1 i2 l i e h0 h1=>?_) n
 . unfold ahe;have :l.length=1:=by omega
   have hi:i=0:=by omega
   rw [Sc w!,kl w!,Pz this,hi];rfl
 . have hb:=ka (n:=l.length) w!;unfold ahe at *;by_cases hi:i<((sp l.length:Nat):Int)
   . have er:=GF (l:=l) w! rfl;rw [Sd w! hi,nF w! x!,er];have e1:(l.take (sp l.length)).length=sp n:=by grind
     have:=i1 (l.take (sp l.length)) i e1 h0 x!;rw [Int.toNat_natCast];have hl:=adi _ (l.take (sp l.length)) i rfl;rw [List.length_take,Nat.min_eq_left w!] at hl this;rw [aFI _ _ _ _ _ hl]
     have eg:(l.take (sp l.length)).getD i.toNat []=l.getD i.toNat []:=by
      grind
     rw [eg] at this;rw [this];rfl
   . have er:=GF (l:=l) w! rfl;rw [Se w! hi,pe w! x!,er];have e1:(l.drop (sp l.length)).length=n-sp n:=by grind
     have:=i2 (l.drop (sp l.length)) (i-((sp l.length:Nat):Int)) e1 w! x!;have hl:=adi _ (l.drop (sp l.length)) (i-((sp l.length:Nat):Int)) rfl;have en:(((l.length-sp l.length:Nat)):Int)=(l.length:Int)-((sp l.length:Nat):Int):=by omega
     rw [D?,en] at hl this;rw [Z!,aFI _ _ _ _ _ hl]
     have eg:(l.drop (sp l.length)).getD (i-((sp l.length:Nat):Int)).toNat []=l.getD i.toNat []:=by
      grind
     rw [eg] at this;rw [this];rfl
def qh(l:List B8)(i:Int):List B8:=if cY l=true/\0<=i/\i<l.length then path l i else []
def Ad(l:List B8)(i:Int):Int:=if cY l=true/\0<=i/\i<l.length then 0 else 1
def dz(l:List B8):Prop:=l.length<=1099511627776
def fp(l:List B8)(i:Int)(k:List B8×Int×List B8):Prop:=
 cY k.1=true/\k.1.length<=l.length/\0<=k.2.1/\k.2.1<k.1.length/\path l i=path k.1 k.2.1++k.2.2.reverse/\k.2.2.length+k.1.length<=l.length
def fc(d:B8)(i n:Int)(p:List B8):Int:=
 if(d.length:Int)=32/\1<=n/\n<=1099511627776/\0<=i/\i<n then(if(p.length:Int)=amo i n/\cY p=true then 0 else 6) else 1
def mV(d:B8)(i n:Int)(p:List B8):B8:=if fc d i n p=0 then ahe d i n p else []
def gQ(d:B8)(i n:Int)(p:List B8)(k:Nat):B8:=((List.zip (bl i n).reverse p).take k).foldl Ri d
def mW(i n:Int):Prop:=0<=i/\i<n/\n<=1099511627776
def jf(i n:Int)(k:Int×Int×List Bool):Prop:=0<=k.1/\k.1<k.2.1/\k.2.1<=n/\bl i n=k.2.2++bl k.1 k.2.1/\(k.2.2.length:Int)+k.2.1<=n
end Go.S

end
section
namespace Go.S
def lQ(m n:Int):List Bool:=if h:n<=m\/n<2 then [] else if m<=((sp n.toNat:Nat):Int) then false ::lQ m ((sp n.toNat:Nat):Int) else true ::lQ (m-((sp n.toNat:Nat):Int)) (n-((sp n.toNat:Nat):Int))
termination_by n.toNat
decreasing_by
 . have:=ka (n:=n.toNat) w!;omega
 . have:=ka (n:=n.toNat) w!;omega
def as1(r:B8×B8)(x:Bool×B8):B8×B8:=if x.1 then(bc x.2 r.1,bc x.2 r.2) else(r.1,bc r.2 x.2)
def Bh(s:List Bool)(r:B8×B8)(p:List B8):B8×B8:=(List.zip s.reverse p).foldl as1 r
def aBl(one two:B8)(s:List Bool)(r:B8×B8)(p:List B8):Bool:=decide (p.length=s.length)&&decide (Bh s r p=(one,two))
def ahf(s:List Bool)(one two:B8)(p:List B8):Bool:=decide (1<=p.length)&&aBl one two s (p.getD 0 [],p.getD 0 []) (p.drop 1)
def JE(m:Int):Bool:=decide (Vg.aK m (m-1)=0)
def accepted(m n:Int)(one two:B8)(p:List B8):Bool:=
 if m=0 then decide (p.length=0)&&decide (one=sum [])
 else if m=n then decide (p.length=0)&&decide (one=two)
 else ahf (lQ m n) one two (if JE m then one::p else p)
def jc(m n:Int)(one two:B8)(p:List B8):Int:=
 if m<0\/n<m\/1099511627776<n\/(one.length:Int)≠32\/(two.length:Int)≠32 then 1 else if cY p=true/\accepted m n one two p=true then 0 else 6
end Go.S

end
section
namespace Go.S
def L6(l:List B8):List B8:=l.reverse
end Go.S

end
section
namespace Go.S
def amp {n:Nat}(h:2<=n):n<=2*sp n:=by
 have:=Nat.lt_log2_self (n:=n-1);grind[sp,Nat.pow_succ]
def VB {n t:Nat}(h:2<=n)(h1:n<=2^(t+1)):sp n<=2^t/\n-sp n<=2^t:=by
 have h2:=ka h;have h3:=amp h
 have :sp n<=2^t:=by
  unfold sp at *;have :2^Nat.log2 (n-1)<2^(t+1):=by omega
  grind[Nat.pow_lt_pow_iff_right]
 omega
def GV:∀(t n:Nat) (i:Int),0<=i->i<n->n<=2^t->(bl i n).length<=t
 |0,n,i,h0,h1,h=>by grind[kl]
 |t+1,n,i,h0,h1,h=>by
  by_cases h2:2<=n
  . have hs:=VB h2 h;by_cases hi:i<((sp n:Nat):Int)
    . rw [nF w! (by exact hi),Z!];have:=GV t (sp n) i h0 hi hs.1;simp;omega
    . rw [pe w! (by exact hi),Z!];have:=GV t (n-sp n) (i-((sp n:Nat):Int)) w! w! hs.2;rw [Int.natCast_sub w!] at this;simp;omega
  grind[kl]
def ahg {l:List B8}{i:Int}{t:Nat}(h0:0<=i)(h1:i<l.length)(h:l.length<=2^t):(path l i).length<=t:=by
 rw [adi _ l i rfl];simp_all[GV]
theorem xI {l:List B8}(h:cY l=true)(k:Nat):cY (l.take k)=true:=(fN _).2 λd hd=>(fN l).1 h d (List.mem_of_mem_take hd)
theorem xJ {l:List B8}(h:cY l=true)(k:Nat):cY (l.drop k)=true:=(fN _).2 λd hd=>(fN l).1 h d (List.mem_of_mem_drop hd)
theorem L7 {l:List B8}{d:B8}(h:cY l=true)(h1:d.length=32):cY (l++[d])=true:=
 (fN _).2 λx hx=>by
   grind[fN,List.mem_singleton]
theorem Yc(n:Nat):∀(l:List B8) (i:Int),l.length=n->cY l=true->cY (path l i)=true:=by
 refine Db (C:=λn=>∀(l:List B8) (i:Int),l.length=n->cY l=true->cY (path l i)=true) ?_ ?_ n
 . intro n h l i e _;rw [Sc w!];rfl
 . intro n h h1 h2 l i e hd;have hb:=ka h;by_cases hi:i<((sp l.length:Nat):Int)
   . grind[Sd,L7,xI,Jw,xJ,List.length_take]
   grind[Se,L7,xJ,Jw,xI,List.length_drop]
theorem GW {l:List B8}(h:2<=l.length)(h1:l.length<=1099511627776):split l.length=((sp l.length:Nat):Int):=by
 grind[C0,Int.toNat_natCast]
def aBm {l:List B8}{i:Int}(h:cY l=true)(h0:0<=i)(h1:i<l.length):fp l i (l,i,[]):=
 ⟨h,S! _,h0,h1,z!,z!⟩
theorem aBn {l m acc:List B8}{i j:Int}(h:fp l i (m,j,acc))(h2:2<=m.length)(hj:j<((sp m.length:Nat):Int)):
  fp l i (m.take (sp m.length),j,acc++[root (m.drop (sp m.length))]):=by
 obtain⟨a1,a2,a3,a4,a5,a6⟩:=h;have hb:=ka h2;refine⟨xI a1 _,?_,a3,?_,?_,?_⟩
 . grind
 . grind
 . grind[Sd,List.reverse_append]
 grind
def aBo {l m acc:List B8}{i j:Int}(h:fp l i (m,j,acc))(h2:2<=m.length)(hj:¬j<((sp m.length:Nat):Int)):
  fp l i (m.drop (sp m.length),j-((sp m.length:Nat):Int),acc++[root (m.take (sp m.length))]):=by
 obtain⟨a1,a2,a3,a4,a5,a6⟩:=h;have hb:=ka h2;refine⟨xJ a1 _,?_,x!,?_,?_,?_⟩
 . grind
 . grind
 . grind[Se,List.reverse_append]
 grind
theorem amq {l m acc:List B8}{i j:Int}(h:fp l i (m,j,acc))(h2:¬1<(m.length:Int)):L6 acc=path l i:=by
 have:=h.2.2.2.2.1;grind[L6,Sc]
def adj(l:List B8)(i:Int):Prop:=j9 l/\0<=i/\i<l.length
theorem ahh {l:List B8}{i:Int}(h:cY l=false\/i<0\/(l.length:Int)<=i): []=qh l i/\1=Ad l i:=by
 grind[cY,qh,Ad]
theorem amr {l:List B8}{i:Int}(h:cY l=true/\¬i<0/\¬(l.length:Int)<=i):qh l i=path l i/\Ad l i=0:=by
 grind[cY,qh,Ad]
theorem Cb {l:List B8}{i:Int}{x:List B8×Int×List B8}(hp:l.length<=1099511627776)(h:fp l i x)(h2:1<(x.1.length:Int)):
  (0<=split x.1.length/\split x.1.length<=x.1.length/\ -9223372036854775808<=x.2.1-split x.1.length/\x.2.1-split x.1.length<=9223372036854775807)/\
  j9 (x.1.take (split x.1.length).toNat)/\j9 (x.1.drop (split x.1.length).toNat)/\(∀d:B8,x.2.2.length+[d].length<=8796093022208)/\
  len (x.1.take (split x.1.length).toNat)<len x.1/\len (x.1.drop (split x.1.length).toNat)<len x.1:=by
 obtain⟨a1,a2,a3,a4,a5,a6⟩:=h;have hb:=ka (n:=x.1.length) w!;rw [GW w! w!,Int.toNat_natCast];refine⟨w!,⟨xI a1 _,x!⟩,⟨xJ a1 _,x!⟩,λd=>by grind,?_,?_⟩
 . grind[len,List.length_take]
 grind[len,List.length_drop]
theorem avt {l:List B8}{i:Int}{x:List B8×Int×List B8}(hp:l.length<=1099511627776)(h:fp l i x)(h2:1<(x.1.length:Int))(hj:x.2.1<split x.1.length):
  fp l i (x.1.take (split x.1.length).toNat,x.2.1,x.2.2++[root (x.1.drop (split x.1.length).toNat)]):=by
 have:=h.2.1;grind[GW,Int.toNat_natCast,aBn]
def avu {l:List B8}{i:Int}{x:List B8×Int×List B8}(hp:l.length<=1099511627776)(h:fp l i x)(h2:1<(x.1.length:Int))(hj:¬x.2.1<split x.1.length):
  fp l i (x.1.drop (split x.1.length).toNat,x.2.1-split x.1.length,x.2.2++[root (x.1.take (split x.1.length).toNat)]):=by
 have:=h.2.1;rw [GW w! w!] at hj |-;exact aBo h w! hj
theorem avv {l:List B8}{i:Int}{x:List B8×Int×List B8}(hp:l.length<=1099511627776)(h:fp l i x):small x.2.2:=by
 have:=h.2.2.2.2.2;grind[small]
theorem ą {l:List B8}{i:Int}{x:List B8×Int×List B8}(h0:cY l=true/\¬i<0/\¬(l.length:Int)<=i)(h:fp l i x)(h2:¬1<(x.1.length:Int)):L6 x.2.2=qh l i/\0=Ad l i:=by
 grind[amr,amq]
theorem adk {l:List B8}{i:Int}(h:cY l=true/\¬i<0/\¬(l.length:Int)<=i):fp l i (l,i,[]):=aBm h.1 w! w!
end Go.S

end
section
namespace Go.S
abbrev Pf:=Int×B8×B8×B8×List B8×B8
def jO(d:List cb)(t:B8):Pf:=
 (bp d t+1,(bf (kR d (bp d t+1).toNat)).1.1,(bf (kR d (bp d t+1).toNat)).1.2.1,(bf (kR d (bp d t+1).toNat)).1.2.2,path (leaves (gh d)) (bp d t+1),if jN d t then zN (pc d t) else [])
def VC:Pf:=(0,[],[],[],[],[])
def gj(d:List cb)(t:B8):Pf×Int:=if aY d&&isTerm t then(jO d t,0) else(VC,1)
theorem Ć {d:List cb}{t:B8}(h:dE d≠0\/isTerm t=false):gj d t=(VC,1):=by
 grind[gj,dE,aY]
theorem wy {d:List cb}{t:B8}(h:aY d=true)(h1:isTerm t=true):gj d t=(jO d t,0):=by
 grind[gj]
def VD {d:List cb}{t:B8}(h:aY d=true):0<=bp d t+1/\bp d t+1<=d.length/\(gh d).length=d.length+1:=by
 have:=Fb (d:=d) (t:=t) d.length;unfold bp;grind[gh,gO]
def adl(d:List cb){i:Int}(h0:0<=i)(h:i<=d.length):(gh d).getD i.toNat []=kR d i.toNat:=by
 grind[gh,gO]
end Go.S

end
section
namespace Go.S
theorem ć {d:List cb}(hp:bh d)(hr:aY d=true)(t:B8):
  (0<=bp d t+1/\bp d t+1<=1048576/\bp d t+1<(bP d).length/\(bp d t+1).toNat<(bP d).length)/\((bP d).getD (bp d t+1).toNat []).length<=140737488355328/\kQ (bP d)/\dz (leaves (bP d))/\adj (leaves (bP d)) (bp d t+1)/\
  (bP d).getD (bp d t+1).toNat []=kR d (bp d t+1).toNat/\qh (leaves (bP d)) (bp d t+1)=path (leaves (gh d)) (bp d t+1)/\bP d=gh d:=by
 obtain⟨f1,f2,f3⟩:=VD (t:=t) hr;have e:bP d=gh d:=by grind[bP]
 have hl:=hp.1;have hlen:(leaves (gh d)).length=d.length+1:=by grind[leaves]
 have ha:=adl d f1 f2;rw [e];refine⟨w!,?_,(n4 hp hr).1,by grind[dz],⟨(n4 hp hr).2,f1,w!⟩,ha,?_,rfl⟩
 . rcases Fa hr (k:=(bp d t+1).toNat) with q|q
   . grind[C2,kR]
   omega
 . have q:cY (leaves (gh d))=true/\0<=bp d t+1/\bp d t+1<(leaves (gh d)).length:=⟨(n4 hp hr).2.1,f1,w!⟩;simp_all[qh,R!]
def Sh {d:List cb}(hp:bh d)(hr:aY d=true)(t:B8):
  jO d t=(bp d t+1,(bf ((bP d).getD (bp d t+1).toNat [])).1.1,(bf ((bP d).getD (bp d t+1).toNat [])).1.2.1,(bf ((bP d).getD (bp d t+1).toNat [])).1.2.2,qh (leaves (bP d)) (bp d t+1),if jN d t then pa (pc d t) else []):=by
 have q:=ć hp hr t;rw [q.2.2.2.2.2.1,q.2.2.2.2.2.2.1];unfold jO;congr 5
 split
 . have :bF (pc d t)=true:=by
    unfold pc;rename_i h1;rw [if_pos h1];have hb:=Jy h1;exact(wi hr (i:=(bp d t).toNat) w!).2
   unfold pa;rw [this];rfl
 . rfl
end Go.S

end
section
namespace Go.S
abbrev cv:=Int×B8
def iM(l:List cv)(i:Nat):cv:=l.getD i (0,[])
def nW(l:List cv):Nat->Int
 |0=>0
 |k+1=>nW l k+if(iM l k).1=0 then 1 else 0
def iv(l:List cv)(k:Nat):Int:=2*nW l k-k
def th(l:List cv)(i:Nat):Bool:=
 if(iM l i).1=0 then isTerm (iM l i).2 else(decide (1<=(iM l i).1)&&decide ((iM l i).1<=3))&&(decide ((iM l i).2=[])&&decide (2<=iv l i))
def bL(l:List cv):Bool:=(List.range l.length).all (th l)&&(decide (iv l l.length=1)&&decide (nW l l.length<=16))
def nh(l:List cv)(k:Nat):Prop:=k<=l.length/\l.length<=1099511627776/\∀i,i<k->th l i=true
def nO(l:List cv):Bool:=l.any (λo=>decide ((200:Int)<o.2.length)) || decide ((60:Int)<l.length)
def Dc(l:List cv)(k:Nat):Prop:=k<=l.length/\∀o∈l.take k,¬(200:Int)<o.2.length
def bO(l:List cv)(k:Nat):List B8:=((l.take k).filter λo=>decide (o.1=0)).map (·.2)
def nP(l:List cv):List B8:=bO l l.length
def aA(l:List cv):List B8:=sorted (nP l)
def vg(l:List cv):∀k,0<=nW l k/\nW l k<=k
 |0=>by simp [nW]
 |k+1=>by have:=vg l k;grind[nW]
theorem Si {l:List cv}{k:Nat}(h:(iM l k).1=0):nW l (k+1)=nW l k+1:=by simp_all[nW,R!]
theorem L8 {l:List cv}{k:Nat}(h:¬(iM l k).1=0):nW l (k+1)=nW l k:=by simp_all[nW,Q!]
theorem VE {l:List cv}{k:Nat}(h:(iM l k).1=0):iv l (k+1)=iv l k+1:=by grind[iv,Si]
theorem JF {l:List cv}{k:Nat}(h:¬(iM l k).1=0):iv l (k+1)=iv l k-1:=by grind[iv,L8]
def aBp {l:List cv}(h:small l):nh l 0:=⟨T! _,h,λi hi=>by omega⟩
def VF {l:List cv}{k:Nat}(h:nh l k)(hk:(k:Int)<l.length)(h1:th l k=true):nh l (k+1):=by
 refine⟨w!,h.2.1,λi hi=>?_⟩;by_cases he:i=k
 . grind
 . exact h.2.2 i w!
def Ĉ {l:List cv}{k:Nat}(hk:(k:Int)<l.length)(h:th l k=false):false=bL l:=by
 grind[List.range,th,bL]
theorem ams {l:List cv}{k:Nat}(h:nh l k)(hk:¬(k:Int)<l.length):(decide (iv l k=1)&&decide (nW l k<=16))=bL l:=by
 have e:k=l.length:=by have:=h.1;omega
 subst e;have :(List.range l.length).all (th l)=true:=List.all_eq_true.2 λi hi=>h.2.2 i (List.mem_range.1 hi);grind[bL]
theorem L9 {l:List cv}{k:Nat}(h:(iM l k).1=0):th l k=isTerm (iM l k).2:=by simp_all[th,R!]
def ahi {l:List cv}{k:Nat}(h:¬(iM l k).1=0)(h1:1<=(iM l k).1)(h2:(iM l k).1<=3)(h3:(iM l k).2=[])(h4:2<=iv l k):th l k=true:=by
 simp_all[th,Q!]
def amt {l:List cv}{k:Nat}(h:¬(iM l k).1=0)(h1:¬1<=(iM l k).1\/¬(iM l k).1<=3\/¬(iM l k).2=[]\/¬2<=iv l k):th l k=false:=by
 grind[th]
theorem ahj {l:List cv}{k:Nat}(h:Dc l k)(hk:(k:Int)<l.length)(h1:¬(200:Int)<(iM l k).2.length):Dc l (k+1):=by
 refine⟨w!,?_⟩;rw [ax l k (0,[]) w!];intro o ho;rcases G!.1 ho with q|q
 . exact h.2 o q
 . rw [p?.1 q];exact h1
def amu {l:List cv}{k:Nat}(hk:(k:Int)<l.length)(h1:(200:Int)<(iM l k).2.length):true=nO l:=by
 have :l.any (λo=>decide ((200:Int)<o.2.length))=true:=List.any_eq_true.2 ⟨_,bA l k _ (show k<l.length by omega),decide_eq_true h1⟩;grind[nO]
theorem amv {l:List cv}{k:Nat}(h:Dc l k)(hk:¬(k:Int)<l.length):decide ((60:Int)<l.length)=nO l:=by
 have :l.any (λo=>decide ((200:Int)<o.2.length))=false:=by
  rw [<-Bool.not_eq_true,List.any_eq_true];rintro⟨o,ho,h1⟩;exact h.2 o (by grind[List.take_of_length_le]) (of_decide_eq_true h1)
 grind[nO]
theorem ahk {l:List cv}(h:nO l=false):l.length<=60/\∀o∈l,o.2.length<=200:=by
 grind[nO,Bool.or_eq_false_iff,of_decide_eq_false,decide,List.any_eq_true,decide_eq_true]
theorem adm {l:List cv}(h:nO l=false):small l:=by grind[ahk,small]
def ĉ {l:List cv}{k:Nat}(hk:(k:Int)<l.length)(h:(iM l k).1=0):bO l k++[(iM l k).2]=bO l (k+1):=by
 unfold bO;rw [ax l k (0,[]) w!,List.filter_append,List.map_append];have :(List.filter (λo:cv=>decide (o.1=0)) [l.getD k (0,[])])=[iM l k]:=by grind[iM]
 grind
theorem ahl {l:List cv}{k:Nat}(hk:(k:Int)<l.length)(h:¬(iM l k).1=0):bO l k=bO l (k+1):=by
 unfold bO;rw [ax l k (0,[]) w!,List.filter_append,List.map_append];have :(List.filter (λo:cv=>decide (o.1=0)) [l.getD k (0,[])])=[]:=by grind[iM]
 grind
def amw {l:List cv}{k:Nat}(h:k<=l.length)(hk:¬(k:Int)<l.length):bO l k=nP l:=by
 grind[nP]
def ahm(l:List cv):∀k,k<=l.length->((bO l k).length:Int)=nW l k
 |0,_=>by rfl
 |k+1,hk=>by
  have ih:=ahm l k w!;by_cases h:(iM l k).1=0
  . rw [<-ĉ w! h,Si h,K!,<-ih];simp
  . rw [<-ahl w! h,L8 h,ih]
def Ċ {l:List cv}:bL l=true↔(∀i,i<l.length->th l i=true)/\iv l l.length=1/\nW l l.length<=16:=by
 simp_all[bL,B!,X!,s?,J!]
theorem ow {l:List cv}(h:bL l=true):(aA l).length<=16:=by
 obtain⟨_,_,h3⟩:=Ċ.1 h;have:=qd (nP l);have e:=ahm l l.length (Nat.le_refl _);grind[aA,nP]
theorem VG {l:List cv}(h:bL l=true):∀t∈aA l,isTerm t=true:=by
 obtain⟨h1,_,_⟩:=Ċ.1 h;intro t ht;have:=(ie (nP l) t).1 ht;simp only [nP,bO,List.mem_map,List.mem_filter,decide_eq_true_eq,List.take_length] at this;obtain⟨o,⟨ho,h0⟩,rfl⟩:=this;obtain⟨i,hi,rfl⟩:=List.mem_iff_getElem.1 ho;grind[iM,L9]
theorem ahn {l:List cv}{k:Nat}(h:nh l k)(hk:(k:Int)<l.length)(h0:(l.getD k (0,[])).1=0)(ht:isTerm (l.getD (Int.toNat (k:Int)) (0,[])).2=true):nh l (k+1):=
 VF h hk (by rw [L9 h0];rwa [Z!] at ht)
def aho {l:List cv}{k:Nat}(hk:(k:Int)<l.length)(h0:(l.getD k (0,[])).1=0)(ht:isTerm (l.getD (Int.toNat (k:Int)) (0,[])).2=false):false=bL l:=
 Ĉ hk (by rw [L9 h0];rwa [Z!] at ht)
theorem Ma {l:List cv}{k:Nat}(h:nh l k)(hk:(k:Int)<l.length)(h0:¬(l.getD k (0,[])).1=0)(h1:1<=(l.getD k (0,[])).1/\(l.getD k (0,[])).1<=3)(h2:(l.getD k (0,[])).2=[]/\¬iv l k<2):nh l (k+1):=
 VF h hk (ahi h0 h1.1 h1.2 h2.1 w!)
theorem Fm {l:List cv}{k:Nat}(hk:(k:Int)<l.length)(h0:¬(l.getD k (0,[])).1=0)(h:¬(1<=(l.getD k (0,[])).1/\(l.getD k (0,[])).1<=3)\/¬(l.getD k (0,[])).2=[]\/iv l k<2):false=bL l:=
 Ĉ hk (amt h0 (by
   grind[iM]))
theorem aIR {l:List cv}{k:Nat}(h:nh l k)(hk:(k:Int)<l.length)(h0:¬(l.getD k (0,[])).1=0)(h1:¬(l.getD k (0,[])).1<0/\¬3<(l.getD k (0,[])).1/\(l.getD k (0,[])).2=[]/\¬nW l k<k-nW l k+2):nh l (k+1):=
 Ma h hk h0 w! ⟨h1.2.2.1,by grind[iv]⟩
def aJ3 {l:List cv}{k:Nat}(hk:(k:Int)<l.length)(h0:¬(l.getD k (0,[])).1=0)(h:(l.getD k (0,[])).1<0\/3<(l.getD k (0,[])).1\/¬(l.getD k (0,[])).2=[]\/nW l k<k-nW l k+2):false=bL l:=
 Fm hk h0 (by
  grind[iv])
theorem amx {l:List cv}{k:Nat}(h:nh l k)(hk:¬(k:Int)<l.length):(bif decide (iv l k=1) then decide (nW l k<=16) else false)=bL l:=by
 grind[ams]
theorem aJ4 {l:List cv}{k:Nat}(h:nh l k)(hk:¬(k:Int)<l.length):(bif decide (nW l k=l.length-nW l k+1) then decide (nW l k<=16) else false)=bL l:=by
 rw [<-amx h hk];have:=h.1;grind[iv]
theorem aBq(l:List cv): []=bO l 0:=rfl
theorem ahp {l:List cv}{k:Nat}(hk:(k:Int)<l.length)(h:(l.getD k (0,[])).1=0):bO l k++[(l.getD (Int.toNat (k:Int)) (0,[])).2]=bO l (k+1):=by exact ĉ hk h
def ahq {l:List cv}{k:Nat}(hp:l.length<=1099511627776)(h:gP l k)(s:B8):(bO l k).length+[s].length<=8796093022208/\small (bO l k)/\small (eD (bO l k))/\small (bR (eD (bO l k))):=by
 grind[XD,bO,qd,LF,gP,List.length_singleton,small]
theorem amy {l:List cv}{k:Nat}(h:gP l k)(hk:¬(k:Int)<l.length):bR (eD (bO l k))=aA l/\sorted (bO l k)=aA l:=by
 have:=amw h hk;rw [LF,this];exact⟨rfl,rfl⟩
def xK:B8:=[104,97,121]
abbrev El:=Int×Int×B8
def kE1:List El:=[(-1,0,xK)]
def kE:List El:=[(-1,0,xK),(-2,3,[])]
def eO:List cv:=[(0,xK)]
def hdT(l:List B8):B8:=l.getD 0 []
def rW(k:Nat):Int:=if k=0 then -1 else 0
def tI(l:List El)(n:Int):El:=l.getD n.toNat (0,0,[])
def eR(l:List cv):Prop:=small l/\∀o∈l,small o.2
def ahs {l:List cv}(h:nO l=false):eR l:=by
 refine⟨adm h,λo ho=>?_⟩;have:=(ahk h).2 o ho;grind[small]
def avw {l:List cv}(h:eR l)(k:Nat):small (iM l k).2:=by
 by_cases hk:k<l.length
 . exact h.2 _ (bA l k _ hk)
 . unfold iM;rw [List.getD_eq_getElem?_getD,List.getElem?_eq_none w!];exact Nat.zero_le _
theorem wz {x:Nat}(h:(x:Int)<(([104,97,121]:List Int).length:Int)):x=0\/x=1\/x=2:=by
 grind
def ge3 {x:Nat}(h2:fe x 3)(h:¬(x:Int)<(([104,97,121]:List Int).length:Int)):x=3:=by
 grind[fe]
end Go.S

end
section
namespace Go.S
abbrev Wp:=B8×Bool
def lp(v:Int):Wp:=if fD v then([],true) else(num v,false)
def gk(b:B8)(dg:Int):Wp:=if dg<b.length then([],true) else(text b,false)
def pg(n:Int)(g:B8)(l:List Sg):Wp:=if dO n g l then gk (hB n g l) 10000 else([],true)
def IC(d:B8):Bool:=decide ((d.length:Int)=32)
def jB(p:List B8):Wp:=if 64<(p.length:Int) then([],true) else(num p.length++(p.takeWhile IC).flatten,!cY p)
def gl(p:List B8)(k:Nat):B8:=num p.length++(p.take k).flatten
def ly(p:List B8)(k:Nat):Prop:=p.length<=64/\k<=p.length/\∀d∈p.take k,(d.length:Int)=32
def cat(a b:Wp):Wp:=(a.1++b.1,a.2 || b.2)
def jP(p:Pf):Wp:=
 if fX p.2.1 p.2.2.1 p.2.2.2.1 then cat (cat (cat (lp p.1) (gk (ra p.2.1 p.2.2.1 p.2.2.2.1) 200)) (jB p.2.2.2.2.1)) (gk p.2.2.2.2.2 4000)
 else((lp p.1).1,true)
def pfD(l:List Pf)(i:Nat):Pf:=l.getD i VC
def Mb(l:List Pf):Nat->Wp
 |0=>(num l.length,false)
 |k+1=>cat (Mb l k) (jP (pfD l k))
def iO(l:List (List Pf))(i:Nat):List Pf:=l.getD i []
def eS(n:Int)(g:B8)(s:List Sg)(l:List (List Pf)):Nat->Wp
 |0=>cat ([1],false) (pg n g s)
 |k+1=>cat (eS n g s l k) (Mb (iO l k) (iO l k).length)
def Fo(w:Wp):B8:=if w.2 then [] else if 1048576<(w.1.length:Int) then [] else w.1
def Fp(w:Wp):Int:=if w.2 then 1 else if 1048576<(w.1.length:Int) then 3 else 0
def Sj(l:List (List Pf)):Bool:=l.all λx=>decide ((x.length:Int)<=16)
def nG(n:Int)(g:B8)(s:List Sg)(l:List (List Pf)):B8×Int:=
 if(l.length:Int)≠s.length\/Sj l=false then([],1) else(Fo (eS n g s l l.length),Fp (eS n g s l l.length))
def aAw(p:List B8):B8:=num p.length++p.flatten
def aCi(n:Int)(g:B8)(s:List Sg):B8:=text (hB n g s)
def ane(p:Pf):B8:=num p.1++text (ra p.2.1 p.2.2.1 p.2.2.2.1)++aAw p.2.2.2.2.1++text p.2.2.2.2.2
def aAz(l:List Pf)(k:Nat):B8:=num l.length++(l.take k).flatMap ane
def aEs(n:Int)(g:B8)(s:List Sg)(l:List (List Pf))(k:Nat):B8:=[1]++aCi n g s++(l.take k).flatMap λx=>aAz x x.length
def aEy(n:Int)(g:B8)(s:List Sg)(l:List (List Pf)):B8:=aEs n g s l l.length
def VH(p:Pf):Bool:= !fD p.1&&(fX p.2.1 p.2.2.1 p.2.2.2.1&&(decide ((p.2.2.2.2.1.length:Int)<=64)&&(cY p.2.2.2.2.1&&decide ((p.2.2.2.2.2.length:Int)<=4000))))
abbrev Rs:=Int×Int
def cC(b:B8)(a e:Int):Rs×Hd:=
 if(ai b a e 10000).1.2.2≠0 then((ai b a e 10000).1.2,(0,[],[]))
 else(((ai b a e 10000).1.2.1,(hR (ai b a e 10000).2).2),(hR (ai b a e 10000).2).1)
def jC(b:B8)(a e:Int):Rs×Lk:=
 if(ai b a e 200).1.2.2≠0 then((ai b a e 200).1.2,([],[],[]))
 else(((ai b a e 200).1.2.1,(bf (ai b a e 200).2).2),(bf (ai b a e 200).2).1)
def dP(b:B8)(a e dg:Int):Rs×Int:=
 if dg<(af b a e).2 then(((af b a e).1.2.1,2),0) else((af b a e).1.2,(af b a e).2)
def Ae(b:B8)(a e:Int):Nat->Rs×List B8
 |0=>((a,e),[])
 |k+1=>((an b (Ae b a e k).1.1 (Ae b a e k).1.2).1.2,(Ae b a e k).2++[(an b (Ae b a e k).1.1 (Ae b a e k).1.2).2])
def ph(b:B8)(a e:Int):Nat:=(dP b a e 64).2.toNat
def dh(b:B8)(a e:Int)(k:Nat):Rs×List B8:=Ae b (dP b a e 64).1.1 (dP b a e 64).1.2 k
def jD(b:B8)(a e:Int):Rs×List B8:=dh b a e (ph b a e)
def q1(b:B8)(a e:Int):Rs×Int:=((af b a e).1.2,(af b a e).2)
def q2(b:B8)(a e:Int):Rs×Lk:=jC b (q1 b a e).1.1 (q1 b a e).1.2
def q3(b:B8)(a e:Int):Rs×List B8:=jD b (q2 b a e).1.1 (q2 b a e).1.2
def q4(b:B8)(a e:Int):Rs×B8:=((ai b (q3 b a e).1.1 (q3 b a e).1.2 4000).1.2,(ai b (q3 b a e).1.1 (q3 b a e).1.2 4000).2)
def gw(b:B8)(a e:Int):Rs×Pf:=((q4 b a e).1,((q1 b a e).2,(q2 b a e).2.1,(q2 b a e).2.2.1,(q2 b a e).2.2.2,(q3 b a e).2,(q4 b a e).2))
def Cc(b:B8)(a e:Int):Nat->Rs×List Pf
 |0=>((a,e),[])
 |k+1=>((gw b (Cc b a e k).1.1 (Cc b a e k).1.2).1,(Cc b a e k).2++[(gw b (Cc b a e k).1.1 (Cc b a e k).1.2).2])
def Yd(b:B8)(a e:Int):Nat:=(dP b a e 16).2.toNat
def ċ(b:B8)(a e:Int)(k:Nat):Rs×List Pf:=Cc b (dP b a e 16).1.1 (dP b a e 16).1.2 k
def as2(b:B8)(a e:Int):Rs×List Pf:=ċ b a e (Yd b a e)
def ri(b:B8)(a e:Int):Nat->Rs×List (List Pf)
 |0=>((a,e),[])
 |k+1=>((as2 b (ri b a e k).1.1 (ri b a e k).1.2).1,(ri b a e k).2++[(as2 b (ri b a e k).1.1 (ri b a e k).1.2).2])
def eZ(b:B8)(kind:UInt8):Int:=if 1048576<(b.length:Int) then 3 else if b.length=0 then 4 else if b.getD 0 0=kind then 0 else 2
abbrev An:=Hd×List (List Pf)
def aH(b:B8):Rs×Hd:=cC b 1 0
def gR(b:B8)(k:Nat):Rs×List (List Pf):=ri b (aH b).1.1 (aH b).1.2 k
def aN(b:B8):Nat:=(aH b).2.2.2.length
def ba(b:B8):(Int×B8×List Sg×List (List Pf))×Int:=
 if eZ b 1≠0 then((0,[],[],[]),eZ b 1)
 else if done b (gR b (aN b)).1.1 (gR b (aN b)).1.2≠0 then((0,[],[],[]),done b (gR b (aN b)).1.1 (gR b (aN b)).1.2)
 else(((aH b).2.1,(aH b).2.2.1,(aH b).2.2.2,(gR b (aN b)).2),0)
def st1(b:B8):Rs×Hd:=cC b 1 0
def st2(b:B8):Rs×Hd:=cC b (st1 b).1.1 (st1 b).1.2
def De(b:B8):Rs×List B8:=jD b (st2 b).1.1 (st2 b).1.2
def aC(b:B8):(Int×B8×List Sg×Int×B8×List Sg×List B8)×Int:=
 if eZ b 3≠0 then((0,[],[],0,[],[],[]),eZ b 3)
 else if done b (De b).1.1 (De b).1.2≠0 then((0,[],[],0,[],[],[]),done b (De b).1.1 (De b).1.2)
 else(((st1 b).2.1,(st1 b).2.2.1,(st1 b).2.2.2,(st2 b).2.1,(st2 b).2.2.1,(st2 b).2.2.2,(De b).2),0)
end Go.S

end
section
namespace Go.S
theorem aHV {P R:B8}{v:Int}(h:fD v=false):af (P++(num v++R)) P.length 0=((P++(num v++R),(P.length:Int)+(num v).length,0),v):=by
 simp [fD,Bool.or_eq_false_iff,decide_eq_false_iff_not] at h;grind[Int.toNat_natCast,List.drop_left,Bf,GQ,List.length_append,Int.natCast_add]
theorem aGy {P R d:B8}{m:Int}(h:(d.length:Int)<=m)(hm:m<=1048576):ai (P++(text d++R)) P.length 0 m=((P++(text d++R),(P.length:Int)+(text d).length,0),d):=by
 have hd:(P++(text d++R)).drop ((P.length:Nat):Int).toNat=text d++R:=by rw [Z!,List.drop_left]
 have e:text d++R=num (d.length:Int)++(d++R):=by simp [text]
 have hf:=Bf (v:=(d.length:Int)) w! w! (d++R)
 have hT:aO (text d++R) m=(d,((text d).length:Int),0):=by
  unfold aO;rw [e,hf,if_neg z!,if_neg w!,if_neg (by simp;omega)];simp [text]
 unfold ai;rw [C3 w! (by simp;omega),zX w! (by simp;omega),hd,hT];simp
def aLo {P R d:B8}(h:(d.length:Int)=32):an (P++(d++R)) P.length 0=((P++(d++R),(P.length:Int)+d.length,0),d):=by
 rw [ag4 w! (by simp;omega),Z!,List.drop_left];have :(d++R).take 32=d:=by rw [show 32=d.length by omega,List.take_left]
 rw [this,h]
theorem aGk:∀(l:List Sg),(∀i,i<l.length->ng (sg l i).1 (sg l i).2.1 (sg l i).2.2.1 (sg l i).2.2.2=true)->(ig l).length<=50*l.length
 |[],_=>by simp [ig]
 |s::l,h=>by
  have h0:=GP (h 0 z!);have ih:=aGk l λi hi=>by have:=h (i+1) (by simp;omega);simpa [sg] using this
  have e:ig (s::l)=C8 s++ig l:=rfl;rw [e,K!,G?];have hs:s.2.2.2.length=32:=h0.2.2.2.2.2;have n1:=eN s.2.1;have n2:=eN s.2.2.1;simp [C8,K!];omega
def aHn {n:Int}{g:B8}{l:List Sg}(h:dO n g l=true):((hB n g l).length:Int)<=4000:=by
 grind[ij,qg,aGk,eN,hB,List.length_append]
theorem aFo {b:B8}{m:Int}(h:(b.length:Int)<=m):gk b m=(text b,false):=by simp_all[gk,Q!]
theorem aJ6 {v:Int}(h:fD v=false):lp v=(num v,false):=by grind[lp]
theorem aIT {n:Int}{g:B8}{l:List Sg}(h:dO n g l=true):pg n g l=(aCi n g l,false):=by
 have:=aHn h;unfold pg aCi;rw [if_pos h,aFo w!]
theorem amA {p:List B8}(h:cY p=true):p.takeWhile IC=p:=by
 induction p with
 |nil=>rfl
 |cons a l ih=>
  simp_all[cY,List.all_cons,B!,List.takeWhile_cons_of_pos,IC]
theorem aIU {p:List B8}(h:(p.length:Int)<=64)(h1:cY p=true):jB p=(aAw p,false):=by
 simp_all[jB,aAw,Q!,amA]
theorem PW {p:Pf}:VH p=true↔fD p.1=false/\fX p.2.1 p.2.2.1 p.2.2.2.1=true/\(p.2.2.2.2.1.length:Int)<=64/\cY p.2.2.2.2.1=true/\(p.2.2.2.2.2.length:Int)<=4000:=by
 simp_all[VH,B!,J?,J!]
def aHo {p:Pf}(h:VH p=true):jP p=(ane p,false):=by
 obtain⟨h1,h2,h3,h4,h5⟩:=PW.1 h;have hl:=C2 h2;unfold jP ane;rw [if_pos h2,aJ6 h1,aFo w!,aIU h3 h4,aFo w!];rfl
def aGP {l:List Pf}(h:∀p∈l,VH p=true):∀k,k<=l.length->Mb l k=(aAz l k,false)
 |0,_=>by simp [Mb,aAz]
 |k+1,hk=>by
  have hm:=h _ (bA l k VC w!);simp [Mb];rw [aGP h k w!,show pfD l k=l.getD k VC from rfl,aHo hm];simp [cat,aAz,Bool.or_self];rw [ax l k VC w!,List.flatMap_append];simp
theorem aGQ {n:Int}{g:B8}{s:List Sg}{l:List (List Pf)}(hr:dO n g s=true)(h:∀x∈l,∀p∈x,VH p=true):∀k,k<=l.length->eS n g s l k=(aEs n g s l k,false)
 |0,_=>by grind[eS,aEs,aIT,cat]
 |k+1,hk=>by
  have hm:=h _ (bA l k [] w!);simp [eS];rw [aGQ hr h k w!,show iO l k=l.getD k [] from rfl,aGP hm _ (S! _)];simp [cat,aEs,Bool.or_self];rw [ax l k [] w!,List.flatMap_append];simp
def aIV {P R:B8}{n:Int}{g:B8}{s:List Sg}(h:dO n g s=true):
  cC (P++(aCi n g s++R)) P.length 0=(((P.length:Int)+(aCi n g s).length,0),(n,g,s)):=by
 have:=aHn h;unfold cC aCi;rw [aGy w! (by decide),if_neg z!,X4 h]
def aIW {P R a b c:B8}(h:fX a b c=true):
  jC (P++(text (ra a b c)++R)) P.length 0=(((P.length:Int)+(text (ra a b c)).length,0),(a,b,c)):=by
 have:=C2 h;unfold jC;rw [aGy w! (by decide),if_neg z!,agK h]
def aFT {P R:B8}{v m:Int}(h:0<=v)(h1:v<=m)(hm:m<=64):
  dP (P++(num v++R)) P.length 0 m=(((P.length:Int)+(num v).length,0),v):=by
 unfold dP;rw [aHV (by grind[fD]),if_neg w!]
def aGl {P R:B8}{p:List B8}(h:cY p=true):∀k,k<=p.length->
  Ae (P++(p.flatten++R)) P.length 0 k=(((P.length:Int)+((p.take k).flatten).length,0),p.take k)
 |0,_=>by rfl
 |k+1,hk=>by
  have hd:((p.getD k []).length:Int)=32:=by grind[fN,bA]
  have e:P++(p.flatten++R)=(P++(p.take k).flatten)++(p.getD k []++((p.drop (k+1)).flatten++R)):=by
   have :p.flatten=(p.take k).flatten++(p.getD k []++(p.drop (k+1)).flatten):=by
    conv=>lhs;rw [<-Z? (k+1) p,ax p k [] w!]
    simp
   grind
  simp only [Ae];rw [aGl h k w!];have:=aLo (P:=P++(p.take k).flatten) (R:=(p.drop (k+1)).flatten++R) hd;rw [<-e,K!,Int.natCast_add] at this;rw [this,ax p k [] w!];simp [Int.add_assoc]
def aIX {P R:B8}{p:List B8}(h:(p.length:Int)<=64)(h1:cY p=true):
  jD (P++(aAw p++R)) P.length 0=(((P.length:Int)+(aAw p).length,0),p):=by
 have e:P++(aAw p++R)=P++(num p.length++(p.flatten++R)):=by simp [aAw]
 have hc:=aFT (P:=P) (R:=p.flatten++R) (v:=(p.length:Int)) (m:=64) w! h (by decide);rw [<-e] at hc;unfold jD dh ph;rw [hc];simp;have hd:=aGl (P:=P++num p.length) (R:=R) h1 p.length (Nat.le_refl _);rw [show P++num p.length++(p.flatten++R)=P++(aAw p++R) by simp [aAw],List.length_append,Int.natCast_add] at hd;rw [hd,List.take_length];simp [aAw,Int.add_assoc]
def aHp {P R:B8}{p:Pf}(h:VH p=true):
  gw (P++(ane p++R)) P.length 0=(((P.length:Int)+(ane p).length,0),p):=by
 obtain⟨h1,h2,h3,h4,h5⟩:=PW.1 h;obtain⟨a,t,u,v,w,d⟩:=p;generalize hb:P++(ane (a,t,u,v,w,d)++R)=b;have e1:b=P++(num a++(text (ra t u v)++(aAw w++(text d++R)))):=by rw [<-hb];simp [ane]
 have r1:q1 b P.length 0=(((P.length:Int)+(num a).length,0),a):=by unfold q1;rw [e1,aHV h1]
 have r2:q2 b P.length 0=(((P.length:Int)+(num a).length+(text (ra t u v)).length,0),(t,u,v)):=by
  unfold q2;rw [r1];have:=aIW (P:=P++num a) (R:=aAw w++(text d++R)) h2;rw [show P++num a++(text (ra t u v)++(aAw w++(text d++R)))=b by rw [e1];simp,List.length_append,Int.natCast_add] at this;exact this
 have r3:q3 b P.length 0=(((P.length:Int)+(num a).length+(text (ra t u v)).length+(aAw w).length,0),w):=by
  unfold q3;rw [r2];have:=aIX (P:=P++num a++text (ra t u v)) (R:=text d++R) h3 h4;rw [show P++num a++text (ra t u v)++(aAw w++(text d++R))=b by rw [e1];simp,List.length_append,List.length_append,Int.natCast_add,Int.natCast_add] at this;exact this
 have r4:q4 b P.length 0=(((P.length:Int)+(num a).length+(text (ra t u v)).length+(aAw w).length+(text d).length,0),d):=by
  unfold q4;rw [r3];have:=aGy (P:=P++num a++text (ra t u v)++aAw w) (R:=R) (d:=d) (m:=4000) h5 (by decide);rw [show P++num a++text (ra t u v)++aAw w++(text d++R)=b by rw [e1];simp,List.length_append,List.length_append,List.length_append,Int.natCast_add,Int.natCast_add,Int.natCast_add] at this;simp only [this]
 unfold gw;rw [r1,r2,r3,r4];simp [ane,Int.add_assoc]
end Go.S

end
section
namespace Go.S
theorem aED(l:List Pf):aAz l l.length=num l.length++l.flatMap ane:=by simp [aAz]
def aGR {P R:B8}{l:List Pf}(h:∀p∈l,VH p=true):∀k,k<=l.length->
  Cc (P++(l.flatMap ane++R)) P.length 0 k=(((P.length:Int)+((l.take k).flatMap ane).length,0),l.take k)
 |0,_=>by rfl
 |k+1,hk=>by
  have hm:=h _ (bA l k VC w!)
  have e:P++(l.flatMap ane++R)=(P++(l.take k).flatMap ane)++(ane (l.getD k VC)++((l.drop (k+1)).flatMap ane++R)):=by
   have :l.flatMap ane=(l.take k).flatMap ane++(ane (l.getD k VC)++(l.drop (k+1)).flatMap ane):=by
    conv=>lhs;rw [<-Z? (k+1) l,ax l k VC w!]
    simp
   rw [this];simp
  simp only [Cc];rw [aGR h k w!];have:=aHp (P:=P++(l.take k).flatMap ane) (R:=(l.drop (k+1)).flatMap ane++R) hm;rw [<-e,K!,Int.natCast_add] at this;rw [this,ax l k VC w!,List.flatMap_append];simp [Int.add_assoc]
def aJ7 {P R:B8}{l:List Pf}(h:∀p∈l,VH p=true)(hl:(l.length:Int)<=16):
  as2 (P++(aAz l l.length++R)) P.length 0=(((P.length:Int)+(aAz l l.length).length,0),l):=by
 have e:P++(aAz l l.length++R)=P++(num l.length++(l.flatMap ane++R)):=by grind[aED]
 have hc:=aFT (P:=P) (R:=l.flatMap ane++R) (v:=(l.length:Int)) (m:=16) w! hl (by decide);rw [<-e] at hc;unfold as2 ċ Yd;rw [hc];simp;have hd:=aGR (P:=P++num l.length) (R:=R) h l.length (Nat.le_refl _);rw [show P++num l.length++(l.flatMap ane++R)=P++(aAz l l.length++R) by rw [e];simp,List.length_append,Int.natCast_add] at hd;rw [hd,List.take_length,aED];simp [Int.add_assoc]
def aAG(l:List (List Pf)):B8:=l.flatMap λx=>aAz x x.length
def aGm {P R:B8}{l:List (List Pf)}(h:∀x∈l,(x.length:Int)<=16/\∀p∈x,VH p=true):∀k,k<=l.length->
  ri (P++(aAG l++R)) P.length 0 k=(((P.length:Int)+(aAG (l.take k)).length,0),l.take k)
 |0,_=>by rfl
 |k+1,hk=>by
  have hm:=h _ (bA l k [] w!)
  have e:P++(aAG l++R)=(P++aAG (l.take k))++(aAz (l.getD k []) (l.getD k []).length++(aAG (l.drop (k+1))++R)):=by
   have :aAG l=aAG (l.take k)++(aAz (l.getD k []) (l.getD k []).length++aAG (l.drop (k+1))):=by
    unfold aAG;conv=>lhs;rw [<-List.take_append_drop (k+1) l,ax l k [] w!]
    simp
   grind
  simp [ri];rw [aGm h k w!];have:=aJ7 (P:=P++aAG (l.take k)) (R:=aAG (l.drop (k+1))++R) hm.2 hm.1;rw [<-e,K!,Int.natCast_add] at this;rw [this,ax l k [] w!];simp [aAG,Int.add_assoc]
theorem aJ8 {b:B8}{a:Int}(h:a=b.length):done b a 0=0:=by
 simp_all[agx,Q!]
theorem aJ9 {n:Int}{g:B8}{s:List Sg}{l:List (List Pf)}(hr:dO n g s=true)(hl:l.length=s.length)(h:∀x∈l,(x.length:Int)<=16/\∀p∈x,VH p=true)(hb:((aEy n g s l).length:Int)<=1048576):
  ba (aEy n g s l)=((n,g,s,l),0):=by
 have e:aEy n g s l=[1]++(aCi n g s++(aAG l++[])):=by simp [aEy,aEs,aAG]
 generalize aEy n g s l=b at *;have hg:eZ b 1=0:=by unfold eZ;rw [if_neg w!,if_neg (by rw [e];simp),if_pos (by rw [e];rfl)]
 have h1:aH b=((1+((aCi n g s).length:Int),0),(n,g,s)):=by
  rw [e];exact aIV (P:=[1]) (R:=aAG l++[]) hr
 have hN:aN b=l.length:=by unfold aN;rw [h1];exact hl.symm
 have h2:gR b (aN b)=((1+((aCi n g s).length:Int)+(aAG l).length,0),l):=by
  unfold gR;rw [h1,hN];have:=aGm (P:=[1]++aCi n g s) (R:=[]) h l.length (Nat.le_refl _);rw [show [1]++aCi n g s++(aAG l++[])=b by rw [e];simp,List.length_append,Int.natCast_add,List.take_length] at this;exact this
 have hlen:(b.length:Int)=1+((aCi n g s).length:Int)+(aAG l).length:=by rw [e];simp;omega
 unfold ba;rw [if_neg w!,h2,aJ8 hlen.symm,if_neg (by decide),h1]
end Go.S

end
section
namespace Go.S
def qi(d:Bool)(w:Wp):Bool:=d || w.2
def bytesOf(w:Wp):B8:=w.1
def lS(w:Wp):Bool:=w.2
def ti(l:List (List Pf)):Prop:=l.length<=1000/\∀x∈l,∀p∈x,p.2.2.2.2.2.length<=1099511627776
def fq(n:Int)(g:B8)(s:List Sg)(l:List (List Pf))(k j:Nat):Wp:=cat (eS n g s l k) (Mb (iO l k) j)
def mo(s:List Sg)(l:List (List Pf))(k:Nat):Prop:=k<=l.length/\l.length=s.length/\ti l/\∀i,i<k->(iO l i).length<=16
def kn(s:List Sg)(l:List (List Pf))(k j:Nat):Prop:=mo s l k/\k<l.length/\(iO l k).length<=16/\j<=(iO l k).length
def Af(b:B8)(k j:Nat):Rs×List Pf:=ċ b (gR b k).1.1 (gR b k).1.2 j
def pj(b:B8)(k:Nat):Nat:=Yd b (gR b k).1.1 (gR b k).1.2
theorem aht(s:B8):(text s).length<=s.length+9:=by
 grind[eN,text,List.length_append]
def Bi(b:B8){m:Int}(hm:0<=m):((gk b m).1.length:Int)<=m+9:=by
 grind[gk,aht]
def VJ(v:Int):(lp v).1.length<=9:=by
 grind[lp,eN]
theorem adq(n:Int)(g:B8)(s:List Sg):(pg n g s).1.length<=10009:=by
 unfold pg;split
 . have:=Bi (hB n g s) (m:=10000) (by decide);omega
 grind
theorem Č:∀(p:List B8),(p.takeWhile IC).flatten.length<=32*p.length
 |[]=>by simp
 |a::p=>by
  have:=Č p;by_cases h:IC a=true
  . rw [List.takeWhile_cons_of_pos h,List.flatten_cons,K!,G?];have :(a.length:Int)=32:=V? h;omega
  simp_all
def Mc(p:List B8):(jB p).1.length<=2057:=by
 grind[jB,eN,Č,List.length_append]
def VK(p:Pf):(jP p).1.length<=7000:=by
 have h1:=VJ p.1;have h2:=Bi (ra p.2.1 p.2.2.1 p.2.2.2.1) (m:=200) (by decide);have h3:=Mc p.2.2.2.2.1;have h4:=Bi p.2.2.2.2.2 (m:=4000) (by decide);grind[jP,cat,List.length_append]
def GX(l:List Pf):∀k,(Mb l k).1.length<=7000*k+9
 |0=>by grind[Mb,eN]
 |k+1=>by
  have:=GX l k;have:=VK (pfD l k);simp [Mb,cat,K!];omega
def PX(n:Int)(g:B8)(s:List Sg)(l:List (List Pf)):∀k,(∀i,i<k->(iO l i).length<=16)->(eS n g s l k).1.length<=120000*k+20000
 |0,_=>by
  grind[adq,eS,cat,List.length_append,List.length_singleton]
 |k+1,h=>by
  have:=PX n g s l k λi hi=>h i w!;have:=GX (iO l k) (iO l k).length;have:=h k w!;simp [eS,cat,K!];omega
theorem aBs {p:List B8}(h:¬(64:Int)<p.length):ly p 0:=⟨w!,T! _,z!⟩
def amB {p:List B8}{k:Nat}(h:ly p k):(gl p k).length<=2057:=by
 obtain⟨h1,h2,h3⟩:=h
 have q:∀(l:List B8),(∀d∈l,(d.length:Int)=32)->l.flatten.length=32*l.length:=by
  intro l;induction l with
  |nil=>grind
  |cons a l ih=>
   grind
 grind[eN,List.length_take,gl,List.length_append]
def VL {p:List B8}{k:Nat}(h:ly p k)(hk:(k:Int)<p.length)(hd:((p.getD k []).length:Int)=32):ly p (k+1)/\gl p k++p.getD k []=gl p (k+1):=by
 have e:=ax p k [] w!;refine⟨⟨h.1,w!,?_⟩,?_⟩
 . rw [e];intro d hm;rcases G!.1 hm with q|q
   . exact h.2.2 d q
   grind
 grind[gl]
theorem amC {p:List B8}:∀ {k:Nat},(∀d∈p.take k,(d.length:Int)=32)->k<p.length->¬((p.getD k []).length:Int)=32->p.takeWhile IC=p.take k:=by
 induction p with
 |nil=>grind
 |cons a p ih=>
  intro k h hk hd;cases k with
  |zero=>simp_all[List.takeWhile_cons_of_neg,IC,J!]
  |succ k=>
   have ha:=h a z!;rw [List.takeWhile_cons_of_pos (show IC a=true from H? ha),List.take_succ_cons,ih (k:=k) (λd hd=>h d (by exact E! _ hd)) (by simpa using hk) hd]
def č {p:List B8}{k:Nat}(h:ly p k)(hk:(k:Int)<p.length)(hd:¬((p.getD k []).length:Int)=32):jB p=(gl p k,true):=by
 have hD:cY p=false:=by
  grind[fN,bA]
 unfold jB gl;rw [if_neg (by have:=h.1;omega),hD,amC h.2.2 w! hd];rfl
def Ď {p:List B8}{k:Nat}(h:ly p k)(hk:¬(k:Int)<p.length):jB p=(gl p k,false):=by
 have e:k=p.length:=by have:=h.2.1;omega
 have hD:cY p=true:=(fN p).2 λd hd=>by have:=h.2.2 d x!;omega
 unfold jB gl;rw [if_neg (by have:=h.1;omega),hD,amA hD,e,List.take_length];rfl
def ahu {p:List B8}(h:(64:Int)<p.length):jB p=([],true):=by simp_all[jB,R!]
theorem aBt {s:List Sg}{l:List (List Pf)}(hp:ti l)(h:(l.length:Int)=s.length):mo s l 0:=⟨T! _,w!,hp,λi hi=>by omega⟩
def avx {s:List Sg}{l:List (List Pf)}{k:Nat}(h:mo s l k)(hk:(k:Int)<l.length)(h1:¬(16:Int)<(iO l k).length):kn s l k 0:=⟨h,w!,w!,T! _⟩
def ahv {s:List Sg}{l:List (List Pf)}{k j:Nat}(h:kn s l k j)(hj:(j:Int)<(iO l k).length):kn s l k (j+1):=⟨h.1,h.2.1,h.2.2.1,w!⟩
def ď {n:Int}{g:B8}{s:List Sg}{l:List (List Pf)}{k j:Nat}(h:kn s l k j)(hj:¬(j:Int)<(iO l k).length):mo s l (k+1)/\fq n g s l k j=eS n g s l (k+1):=by
 have e:j=(iO l k).length:=by have:=h.2.2.2;omega
 refine⟨⟨by have:=h.2.1;omega,h.1.2.1,h.1.2.2.1,λi hi=>?_⟩,by subst e;rfl⟩;by_cases q:i=k
 . subst q;exact h.2.2.1
 . exact h.1.2.2.2 i w!
theorem avy {n:Int}{g:B8}{s:List Sg}{l:List (List Pf)}(h:¬(l.length:Int)=s.length):nG n g s l=([],1):=by simp_all[nG,R!]
def Đ {n:Int}{g:B8}{s:List Sg}{l:List (List Pf)}{k:Nat}(hk:(k:Int)<l.length)(h:(16:Int)<(iO l k).length):nG n g s l=([],1):=by
 have :Sj l=false:=by
  rw [<-Bool.not_eq_true];intro q;have:=of_decide_eq_true (List.all_eq_true.1 q _ (bA l k [] w!));grind[iO]
 simp_all[nG,R!]
def đ {n:Int}{g:B8}{s:List Sg}{l:List (List Pf)}{k:Nat}(h:mo s l k)(hk:¬(k:Int)<l.length):nG n g s l=(Fo (eS n g s l k),Fp (eS n g s l k)):=by
 have e:k=l.length:=by have:=h.1;omega
 subst e
 have :Sj l=true:=X!.2 λx hx=>by
  obtain⟨i,hi,rfl⟩:=List.mem_iff_getElem.1 hx;have:=h.2.2.2 i hi;have e:iO l i=l[i]:=by simp [iO,F!,hi]
  rw [e] at this;exact H? w!
 unfold nG;rw [if_neg (by rw [this,h.2.1];simp)]
def ahw {s:List Sg}{l:List (List Pf)}{k j:Nat}(h:kn s l k j)(hj:(j:Int)<(iO l k).length):(pfD (iO l k) j).2.2.2.2.2.length<=1099511627776:=
 h.1.2.2.1.2 _ (bA l k [] h.2.1) _ (bA (iO l k) j VC w!)
def Ē {n:Int}{g:B8}{s:List Sg}{l:List (List Pf)}{k:Nat}(h:mo s l k):(eS n g s l k).1.length<=130000000:=by
 have:=PX n g s l k h.2.2.2;have:=h.1;have:=h.2.2.1.1;omega
def ahx {n:Int}{g:B8}{s:List Sg}{l:List (List Pf)}{k j:Nat}(h:kn s l k j):(fq n g s l k j).1.length<=140000000:=by
 have:=Ē (n:=n) (g:=g) h.1;have:=GX (iO l k) j;have:=h.2.2.1;have:=h.2.2.2
 grind[fq,cat,List.length_append]
end Go.S

end
section
namespace Go.S
theorem amD(v:Int):(lh [] v).length<=9:=by
 grind[lh,eN]
theorem aBu(v:Int):lh [] v=(lp v).1:=by grind[lh,lp]
theorem aBv(v:Int)(d:Bool):(bif !decide (v7 v=0) then true else d)=qi d (lp v):=by
 grind[v7,lp,qi,fD]
theorem Sk {n:Nat}(h:n<=1000):lp (n:Int)=(num (n:Int),false):=by
 grind[lp,L3]
def ē {b:B8}{m:Int}(h:m<b.length):gk b m=([],true):=by simp_all[gk,R!]
def ahy {b:B8}{m:Int}(h:¬m<b.length):gk b m=(text b,false):=by simp_all[gk,Q!]
def ahz {n:Int}{g:B8}{s:List Sg}(h:¬(hW n g s).2=0):pg n g s=([],true):=by
 grind[dO,JC,pg]
theorem amE {n:Int}{g:B8}{s:List Sg}(h:(hW n g s).2=0):pg n g s=gk (hW n g s).1 10000/\(hW n g s).1.length<=100000:=by
 simp_all[ahb,pg,R!,ă]
def amF(a b c:B8):(ke a b c).length<=200:=by
 grind[ke,C2]
theorem avz {a b c:B8}(h:¬rb a b c=0):fX a b c=false:=by
 grind[fX,rb]
theorem amG {a b c:B8}(h:rb a b c=0):fX a b c=true/\ke a b c=ra a b c:=by
 cases q:fX a b c with
 |true=>exact⟨rfl,by grind[ke]⟩
 |false=>grind[rb]
def Ĕ {p1:Int}{p2 p3 p4:B8}{p5:List B8}{p6:B8}(h:¬rb p2 p3 p4=0):jP (p1,p2,p3,p4,p5,p6)=((lp p1).1,true):=by
 grind[jP,avz]
theorem ahA {p1:Int}{p2 p3 p4:B8}{p5:List B8}{p6:B8}(h:rb p2 p3 p4=0):jP (p1,p2,p3,p4,p5,p6)=cat (cat (cat (lp p1) (gk (ke p2 p3 p4) 200)) (jB p5)) (gk p6 4000):=by
 grind[jP,amG]
def as3 {n:Int}{g:B8}{s:List Sg}{l:List (List Pf)}{k j:Nat}(p:Pf)(hp:p=pfD (iO l k) j)(d:Bool)(b:B8)(hd:d=lS (fq n g s l k j))(hb:b=bytesOf (fq n g s l k j)):
  qi d (jP p)=lS (fq n g s l k (j+1))/\b++bytesOf (jP p)=bytesOf (fq n g s l k (j+1)):=by
 subst hp;subst hd;subst hb;simp [qi,lS,bytesOf,fq,Mb,cat,Bool.or_assoc,Y!,and_self]
def ĕ {b:B8}{c:UInt8}(h:(1048576:Int)<b.length):eZ b c=3:=by simp_all[eZ,R!]
def Ė {b:B8}{c:UInt8}(h:¬(1048576:Int)<b.length)(h1:(b.length:Int)=0):eZ b c=4:=by simp_all[eZ,Q!,R!]
theorem ahB {b:B8}{c:UInt8}(h:¬(1048576:Int)<b.length)(h1:¬(b.length:Int)=0)(h2:¬((b.getD (Int.toNat 0) 0).toNat:Int)=c.toNat):eZ b c=2:=by
 grind[eZ]
theorem avA {b:B8}{c:UInt8}(h:¬(1048576:Int)<b.length)(h1:¬(b.length:Int)=0)(h2:((b.getD (Int.toNat 0) 0).toNat:Int)=c.toNat):eZ b c=0:=by
 unfold eZ;grind[UInt8.toNat_inj]
theorem JG(b:B8)(a e m:Int):(ai b a e m).2.length<=b.length:=by
 grind[ai,cM]
def ahC(b:B8)(a e:Int){m:Int}(hm:0<=m):(dP b a e m).2<=m:=by
 grind[dP]
def amH {b:B8}{a e m:Int}(h:m<(af b a e).2):dP b a e m=(((af b a e).1.2.1,2),0):=by simp_all[dP,R!]
def avB {b:B8}{a e m:Int}(h:¬m<(af b a e).2):dP b a e m=((af b a e).1.2,(af b a e).2):=by simp_all[dP,Q!]
theorem avC {b:B8}{a e:Int}(h:¬(ai b a e 10000).1.2.2=0):cC b a e=((ai b a e 10000).1.2,(0,[],[])):=by simp_all[cC,R!]
theorem amI {b:B8}{a e:Int}(h:(ai b a e 10000).1.2.2=0):cC b a e=(((ai b a e 10000).1.2.1,(hR (ai b a e 10000).2).2),(hR (ai b a e 10000).2).1):=by simp_all[cC,Q!]
theorem avD {b:B8}{a e:Int}(h:¬(ai b a e 200).1.2.2=0):jC b a e=((ai b a e 200).1.2,([],[],[])):=by simp_all[jC,R!]
theorem amJ {b:B8}{a e:Int}(h:(ai b a e 200).1.2.2=0):jC b a e=(((ai b a e 200).1.2.1,(bf (ai b a e 200).2).2),(bf (ai b a e 200).2).1):=by simp_all[jC,Q!]
def ė(b:B8)(a e:Int):∀k,(Ae b a e k).2.length=k
 |0=>rfl
 |k+1=>by simp only [Ae];rw [K!,ė b a e k];rfl
theorem JH(b:B8)(a e:Int)(k:Nat):(dh b a e k).2.length=k:=ė ..
def Ę(b:B8)(a e:Int):∀k,(Cc b a e k).2.length=k
 |0=>rfl
 |k+1=>by simp only [Cc];rw [K!,Ę b a e k];rfl
def amK(b:B8)(k j:Nat):(Af b k j).2.length=j:=Ę ..
def ę(b:B8)(a e:Int):∀k,(ri b a e k).2.length=k
 |0=>rfl
 |k+1=>by simp only [ri];rw [K!,ę b a e k];rfl
def amL(b:B8)(k:Nat):(gR b k).2.length=k:=ę ..
theorem Md(b:B8)(a e:Int):ph b a e<=64:=by simp_all[ahC,ph]
def ahD(b:B8)(k:Nat):pj b k<=16:=by simp_all[ahC,gR,pj,Yd]
def Ye {x:Nat}{v:Int}(h:(x:Int)<v):x+1<=v.toNat:=by omega
theorem Me {x:Nat}{v:Int}(h:fe x v.toNat)(h1:¬(x:Int)<v):x=v.toNat:=by grind[fe]
theorem amM(b:B8):(hR b).1.2.2.length<=64:=by
 by_cases h:(hR b).2=0
 . grind[qg,ij,X5]
 simp_all[ag3,T!]
theorem Yf(b:B8):aN b<=64:=by
 grind[aN,aH,cC,amM]
def Sl {b:B8}{x:Nat}(h:(x:Int)<((cC b 1 0).2.2.2.length:Int)):x+1<=aN b:=by
 have :aN b=(cC b 1 0).2.2.2.length:=rfl;omega
theorem Yg {b:B8}{x:Nat}(h:fe x (aN b))(h1:¬(x:Int)<((cC b 1 0).2.2.2.length:Int)):x=aN b:=by
 have :aN b=(cC b 1 0).2.2.2.length:=rfl;grind[fe]
theorem as4 {b:B8}(h:¬eZ b 1=0):ba b=((0,[],[],[]),eZ b 1):=by simp_all[ba,R!]
theorem ahE {b:B8}{k:Nat}(h:eZ b 1=0)(hk:k=aN b)(h1:¬done b (gR b k).1.1 (gR b k).1.2=0):ba b=((0,[],[],[]),done b (gR b k).1.1 (gR b k).1.2):=by simp_all[ba,Q!,R!]
theorem as5 {b:B8}{k:Nat}(h:eZ b 1=0)(hk:k=aN b)(h1:done b (gR b k).1.1 (gR b k).1.2=0):ba b=(((aH b).2.1,(aH b).2.2.1,(aH b).2.2.2,(gR b k).2),0):=by simp_all[ba,Q!]
end Go.S

end
section
namespace Go.S
def ko {n:Int}{g:B8}{l:List Sg}(h:dO n g l=true):0<=n/\n<=1000/\g.length=32/\l.length<=64:=by
 grind[ij,qg]
def amN {n:Int}{g:B8}{l:List Sg}(h:dO n g l=true):bQ (hB n g l)/\small (hB n g l):=by
 grind[ă,bQ,small]
end Go.S

end
section
namespace Go.S
def ik(n:Int)(g:B8)(l:List Sg):B8×Int:=if dO n g l then(lB 3 (hB n g l),0) else([],1)
def lC(docs:List B8)(l:List aT):B8×Int:=
 if gC docs l then(lB 3 (hB docs.length (root (leaves docs)) (cL docs l)),0) else([],7)
def Od(d:List cb)(ts:List B8):List Pf:=ts.map (jO d)
def qj(d:List cb)(ts:List B8)(k:Nat):List Pf:=(ts.take k).map (jO d)
def Mf(d:List cb)(ts:List B8):Prop:=bh d/\aY d=true/\ts.length<=1000/\∀t∈ts,isTerm t=true
def VM(l:List aT)(ts:List B8):List (List Pf):=l.map λs=>Od s.2.2 ts
def lD(l:List aT)(ts:List B8)(k:Nat):List (List Pf):=VM (l.take k) ts
def abP(docs:List B8)(l:List aT)(q:List cv):B8×Int:=
 if gC docs l=false then([],7) else if bL q=false then([],1)
 else nG docs.length (root (leaves docs)) (cL docs l) (VM l (aA q))
end Go.S

end
section
namespace Go.S
def aIY {n:Int}{g:B8}{l:List Sg}(h:dO n g l=true):((aCi n g l).length:Int)<=4009:=by
 have:=aHn h;grind[aht,hB,aCi]
theorem aHW:∀(p:List B8),cY p=true->p.flatten.length=32*p.length
 |[],_=>rfl
 |a::p,h=>by
  have ha:=(fN _).1 h a (H! ..);have:=aHW p ((fN _).2 λd hd=>(fN _).1 h d (E! _ hd));rw [List.flatten_cons,K!,G?,ha,this];omega
def aIZ {p:List B8}(h:cY p=true):(aAw p).length<=32*p.length+9:=by
 grind[eN,aAw,List.length_append,aHW]
def aGS {b:B8}(h:(b.length:Int)<=1048576):Fo (b,false)=b/\Fp (b,false)=0:=by
 simp_all[Fo,Fp,Q!]
def VN(l:List B8):(leaves l).length=l.length:=by simp [leaves]
def ahI {v:Int}(h:v<16384):(num v).length<=2:=by
 grind[num,pH]
theorem ahJ {l:List Int}(h:bF l=true):(zN l).length<=2*l.length+2:=by
 have hl:=mT h
 have q:∀k,k<=l.length->((List.range k).flatMap (λi=>num (l.getD i 0-fo l i-1))).length<=2*k:=by
  intro k;induction k with
  |zero=>simp
  |succ k ih=>
   intro hk;have h1:=PC (õ h (k:=k) w!);have h2:=(iI l k).1 ((jA l).1 h k w!);have h3:=ahI (v:=l.getD k 0-fo l k-1) w!;rw [List.range_succ,List.flatMap_append,K!];simp only [List.flatMap_cons,List.flatMap_nil,F?];omega
 have:=q l.length (S! _);have h3:=ahI (v:=(l.length:Int)) w!;simp only [zN,gY,K!];omega
theorem adr {d:List cb}(h:aY d=true)(t:B8):bF (pc d t)=true:=by
 unfold pc;split
 . rename_i h1;have hb:=Jy h1;simp_all[wi,bp]
 . rfl
theorem avG {d:List cb}(h:aY d=true){i:Nat}(hi:i<=d.length):fX (bf (kR d i)).1.1 (bf (kR d i)).1.2.1 (bf (kR d i)).1.2.2=true:=by
 rcases Fa h (k:=i) with q|q
 . have e:kR d i=ra (if i=0 then [] else fh d (i-1)) (if i<d.length then fh d i else []) (A8 (if i=0 then [] else iZ d (i-1))):=rfl;grind[agK]
 omega
theorem Yh {d:List cb}(h:aY d=true)(hp:d.length<=1048576)(t:B8):VH (jO d t)=true:=by
 obtain⟨f1,f2,f3⟩:=VD (t:=t) h;have hlen:(leaves (gh d)).length=d.length+1:=by rw [VN,f3]
 refine PW.2 ⟨L3 f1 (by grind[jO]),avG h w!,?_,Yc _ _ _ rfl (rU _),?_⟩
 . have:=ahg (l:=leaves (gh d)) (i:=bp d t+1) (t:=21) f1 w! w!;grind[jO]
 grind[jO,adr,ahJ,mT]
theorem ahK {d:List cb}(h:aY d=true)(hp:d.length<=1048576)(ts:List B8):∀p∈Od d ts,VH p=true:=by
 intro p zA;obtain⟨t,_,rfl⟩:=List.mem_map.1 zA;grind[Yh]
theorem PY {docs:List B8}{l:List aT}(h:gC docs l=true):∀s∈l,aY s.2.2=true/\s.2.2.length<=1048576/\bh s.2.2:=by
 intro s hs;have R:=RI.of (tg.1 h).1;obtain⟨h1,h2,_⟩:=R.seg s hs;refine⟨?_,h2.1,h2⟩;have :ec s.1 s.2.1 s.2.2=true:=h1;simp [ec,Bool.and_eq_true] at this;grind
theorem ahL {docs:List B8}{l:List aT}(h:gC docs l=true){ts:List B8}(ht:ts.length<=16):∀x∈VM l ts,(x.length:Int)<=16/\∀p∈x,VH p=true:=by
 intro x hx;obtain⟨s,hs,rfl⟩:=List.mem_map.1 hx;grind[PY,Od,ahK]
theorem aDW {docs:List B8}{l:List aT}(h:gC docs l=true):(cL docs l).length=l.length:=by
 grind[cL,kY,tg,List.length_map]
def aKa {docs:List B8}{l:List aT}{q:List cv}(h:gC docs l=true)(hq:bL q=true):
  abP docs l q=(Fo (aEy docs.length (root (leaves docs)) (cL docs l) (VM l (aA q)),false),Fp (aEy docs.length (root (leaves docs)) (cL docs l) (VM l (aA q)),false)):=by
 have hm:=ahL h (ow hq);have hl:(VM l (aA q)).length=(cL docs l).length:=by rw [aDW h];simp [VM]
 have ha:Sj (VM l (aA q))=true:=List.all_eq_true.2 λx hx=>decide_eq_true (hm x hx).1;unfold abP nG;rw [if_neg (by rw [h];decide),if_neg (by rw [hq];decide),if_neg (by rw [hl,ha];simp),aGQ (Ya h) (λx hx=>(hm x hx).2) _ (Nat.le_refl _)];rfl
theorem aFp {docs:List B8}{l:List aT}{q:List cv}(h:gC docs l=true)(hq:bL q=true)(he:(abP docs l q).2=0):
  abP docs l q=(aEy docs.length (root (leaves docs)) (cL docs l) (VM l (aA q)),0)/\((abP docs l q).1.length:Int)<=1048576/\
  ba (abP docs l q).1=(((docs.length:Int),root (leaves docs),cL docs l,VM l (aA q)),0):=by
 have e:=aKa h hq;rw [e] at he |-
 have hl:((aEy docs.length (root (leaves docs)) (cL docs l) (VM l (aA q))).length:Int)<=1048576:=by
  simp_all[Fp,Q!]
 have hb:=aGS hl;rw [hb.1,hb.2];exact⟨rfl,hl,aJ9 (Ya h) (by grind[aDW,VM]) (ahL h (ow hq)) hl⟩
def aDX {α:Type}(f:α->B8)(c:Nat):∀(l:List α),(∀x∈l,(f x).length<=c)->(l.flatMap f).length<=c*l.length
 |[],_=>by simp
 |a::l,h=>by
  have ih:=aDX f c l λx hx=>h x (List.mem_cons_of_mem _ hx);grind[List.length_append,List.length_cons,Nat.mul_succ]
end Go.S

end
section
namespace Go.S
def hx(l:List rA):Vi:=(bV (eG l).1 (eG l).2).1
def avH {n:Int}{g:B8}{l:List Sg}(h:¬(hW n g l).2=0):ik n g l=([],1)/\(hW n g l).2=1:=by
 grind[dO,JC,X7,ik]
def amO {n:Int}{g:B8}{l:List Sg}(h:(hW n g l).2=0):ik n g l=(lB 3 (hW n g l).1,0)/\bQ (hW n g l).1:=by
 simp_all[ahb,ik,R!,amN]
theorem ahM {docs:List B8}{l:List aT}(h:¬(iK docs l).2=0):gC docs l=false:=by
 grind[Bg]
theorem Fq {docs:List B8}{l:List aT}(h:(iK docs l).2=0):gC docs l=true/\(iK docs l).1.1=(docs.length:Int)/\(iK docs l).1.2.1=root (leaves docs)/\(iK docs l).1.2.2=cL docs l:=by
 grind[gC,Bg,aha]
theorem avI {docs:List B8}{l:List aT}(h:¬(iK docs l).2=0):lC docs l=([],7):=by grind[lC,ahM]
def amP {docs:List B8}{l:List aT}(h:(iK docs l).2=0):ik (iK docs l).1.1 (iK docs l).1.2.1 (iK docs l).1.2.2=lC docs l:=by
 simp_all[Fq,lC,ik,R!,Ya]
theorem ID {t:B8}(h:isTerm t=true):small t:=by grind[zT,small]
theorem amQ(d:List cb)(ts:List B8)(k:Nat):(qj d ts k).length<=ts.length:=by grind[qj,List.length_take]
def ahN {d:List cb}{ts:List B8}{k:Nat}(h:(k:Int)<ts.length):qj d ts k++[jO d (ts.getD (Int.toNat (k:Int)) [])]=qj d ts (k+1):=by
 grind[Int.toNat_natCast,qj,ax]
theorem amR {d:List cb}{ts:List B8}{k:Nat}(h:gP ts k)(hk:¬(k:Int)<ts.length):qj d ts k=Od d ts:=by
 grind[gP,qj,Od,List.take_length]
def avJ {d:List cb}{ts:List B8}(h:Mf d ts){k:Nat}(hk:(k:Int)<ts.length):isTerm (ts.getD (Int.toNat (k:Int)) [])=true:=by
 exact h.2.2.2 _ (bA ts k [] w!)
theorem amS(l:List aT)(ts:List B8)(k:Nat):(lD l ts k).length<=l.length:=by grind[lD,VM,List.length_take]
def ahO {l:List aT}{ts:List B8}{k:Nat}(h:(k:Int)<l.length):lD l ts k++[Od (l.getD (Int.toNat (k:Int)) (0,0,[])).2.2 ts]=lD l ts (k+1):=by
 grind[Int.toNat_natCast,lD,VM,ax]
theorem amT {l:List aT}{ts:List B8}{k:Nat}(h:gP l k)(hk:¬(k:Int)<l.length):lD l ts k=VM l ts:=by
 grind[gP,lD,List.take_length]
theorem PZ {docs:List B8}{l:List aT}(h:gC docs l=true):l.length<=64:=by simpa [eY] using(RI.of (tg.1 h).1).le
def amU {docs:List B8}{l:List aT}{q:List cv}(h:gC docs l=true)(hq:bL q=true){k:Nat}(hk:(k:Int)<l.length):Mf (l.getD (Int.toNat (k:Int)) (0,0,[])).2.2 (aA q):=by
 obtain⟨f1,f2,f3⟩:=PY h _ (bA l k (0,0,[]) w!);exact⟨f3,f1,by grind[ow],VG hq⟩
theorem avK {docs:List B8}{l:List aT}{q:List cv}(h:¬(iK docs l).2=0):abP docs l q=([],7):=by simp_all[abP,R!,ahM]
theorem amV {docs:List B8}{l:List aT}{q:List cv}(h:(iK docs l).2=0)(hq:bL q=false):abP docs l q=([],1):=by
 simp_all[abP,Q!,Fq,R!]
theorem amW {docs:List B8}{l:List aT}{q:List cv}(h:gC docs l=true)(hq:bL q=true){k:Nat}(h1:gP l k)(hk:¬(k:Int)<l.length):
  nG ((len docs:Nat):Int) (root (leaves docs)) (cL docs l) (lD l (aA q) k)=abP docs l q/\ti (lD l (aA q) k):=by
 rw [amT h1 hk];refine⟨by unfold abP;rw [if_neg x!,if_neg x!];rfl,?_,?_⟩
 . grind[PZ,VM]
 . intro x hx p hp;have:=(PW.1 ((ahL h (ow hq) x hx).2 p hp)).2.2.2.2;omega
end Go.S

end
section
namespace Go.S
def kx:Vi:=([xK],[(0,1,[(xK,[0])])])
def kP:List (List Pf):=VM kx.2 (aA eO)
theorem ahP:eR eO:=⟨by unfold small;decide,by unfold small;decide⟩
end Go.S

end
section
namespace Go.S
theorem aKb(l:List rA):(hx l).1=(eG l).1:=(pf l).1
theorem aFU(l:List rA):gC (hx l).1 (hx l).2=true:=by rw [aKb];exact(pf l).2.2.2.2
end Go.S

end
section
namespace Go.S
def tj(n:Int)(g:B8)(l:List Sg)(root:B8):Bool:=decide ((ik n g l).2=0)&&decide ((ik n g l).1=root)
def pn(a:List (List Pf))(i:Int)(t:List B8):Bool:=decide ((a.getD i.toNat []).length=t.length)
def afc(l:List Int)(a b:Int)(k:Nat):Prop:=∀j,j<k->a<=l.getD j 0/\l.getD j 0<b
def IE(l:List Int)(a b:Int):Bool:=l.all λx=>decide (a<=x)&&decide (x<b)
theorem amX {n:Int}{g:B8}{l:List Sg}{root:B8}:(bif decide ((ik n g l).2=0) then decide ((ik n g l).1=root) else false)=tj n g l root:=by
 grind[decide,ik,tj]
theorem ajc {l:List Int}{a b:Int}{k:Nat}(h:afc l a b k)(h1:a<=l.getD k 0)(h2:l.getD k 0<b):afc l a b (k+1):=λj hj=>by
 by_cases CA:j=k
 . grind
 . exact h j w!
theorem akY {l:List Int}{a b:Int}{k:Nat}(h:afc l a b k)(hk:l.length<=k):IE l a b=true:=by
 simp [IE,List.all_eq_true,Bool.and_eq_true,decide_eq_true_eq];intro x hx;obtain⟨j,hj,rfl⟩:=List.getElem_of_mem hx;have:=h j w!;grind
theorem ak2 {l:List Int}{a b:Int}{k:Nat}(hk:k<l.length)(h:l.getD k 0<a\/b<=l.getD k 0):IE l a b=false:=by
 rw [Bool.eq_false_iff];intro hx;simp [IE,X!,B!,J!] at hx;have:=hx l[k] (List.getElem_mem hk);rw [F!,D! hk] at h;simp at h;omega
theorem aBw {i n:Int}(h:mW i n):jf i n (i,n,[]):=⟨h.1,h.2.1,P? _,z!,z!⟩
theorem Mg {i n:Int}{x:Int×Int×List Bool}(hp:mW i n)(h:jf i n x)(h1:1<x.2.1):
  split x.2.1=((sp x.2.1.toNat:Nat):Int)/\1<=split x.2.1/\split x.2.1<x.2.1/\x.2.1<=1099511627776/\x.2.2.length<=1099511627776/\0<=x.1/\x.1<x.2.1:=by
 obtain⟨_,_,p3⟩:=hp;obtain⟨q1,q2,q3,_,q5⟩:=h;grind[C0,ka]
theorem aBx {i n:Int}{x:Int×Int×List Bool}(hp:mW i n)(h:jf i n x)(h1:1<x.2.1)(h2:x.1<split x.2.1):jf i n (x.1,split x.2.1,x.2.2++[false]):=by
 obtain⟨b1,b2,b3,b4,b5,_⟩:=Mg hp h h1;obtain⟨q1,q2,q3,q4,q5⟩:=h;refine⟨q1,h2,x!,?_,x!⟩;grind[nF]
theorem aBy {i n:Int}{x:Int×Int×List Bool}(hp:mW i n)(h:jf i n x)(h1:1<x.2.1)(h2:¬x.1<split x.2.1):jf i n (x.1-split x.2.1,x.2.1-split x.2.1,x.2.2++[true]):=by
 obtain⟨b1,b2,b3,b4,b5,_⟩:=Mg hp h h1;obtain⟨q1,q2,q3,q4,q5⟩:=h;refine⟨w!,x!,x!,?_,x!⟩;grind[pe]
theorem sd_end {i n:Int}{x:Int×Int×List Bool}(h:jf i n x)(h1:¬1<x.2.1):x.2.2=bl i n:=by
 rw [h.2.2.2.1,kl w!];simp
theorem Mh {i n:Int}(hp:mW i n):((bl i n).length:Int)<=1099511627776:=by
 have :∀m:Nat,∀i n:Int,n.toNat=m->0<=i->i<n->((bl i n).length:Int)+1<=n:=by
  intro m;induction m using Db with
  |h0 m hm=>grind[kl]
  |h1 m hm ihl ihr=>
   intro i n e h0 h1;have hb:=ka hm;by_cases hi:i<((sp n.toNat:Nat):Int)
   . rw [nF w! hi];have:=ihl i ((sp n.toNat:Nat):Int) (by rw [e];simp) h0 hi;simp;rw [e] at this |-;omega
   . rw [pe w! hi];have:=ihr (i-((sp n.toNat:Nat):Int)) (n-((sp n.toNat:Nat):Int)) (by rw [e];omega) w! w!;simp;rw [e] at this |-;omega
 have:=this n.toNat i n rfl hp.1 hp.2.1;have:=hp.2.2;omega
theorem ahQ {d:B8}{i n:Int}{p:List B8}(h:¬((d.length:Int)=32/\1<=n/\n<=1099511627776/\0<=i/\i<n)): []=mV d i n p/\1=fc d i n p:=by
 simp_all[fc,Q!,mV]
theorem Sm {d:B8}{i n:Int}(h:(d.length:Int)=32/\1<=n/\n<=1099511627776/\0<=i/\i<n):mW i n:=⟨h.2.2.2.1,h.2.2.2.2,h.2.2.1⟩
theorem Ě {d:B8}{i n:Int}{p:List B8}(h:(d.length:Int)=32/\1<=n/\n<=1099511627776/\0<=i/\i<n)(h2:¬((p.length:Int)=((bl i n).length:Int)/\cY p=true)): []=mV d i n p/\6=fc d i n p:=by
 have :fc d i n p=6:=by rw [fc,R! h];exact Q! h2
 grind[mV]
theorem avL {d:B8}{i n:Int}{p:List B8}(h:(d.length:Int)=32/\1<=n/\n<=1099511627776/\0<=i/\i<n)(h2:(p.length:Int)=((bl i n).length:Int)/\cY p=true):fc d i n p=0:=by
 rw [fc,R! h];exact R! h2
theorem Bj {d:B8}{i n:Int}{p:List B8}(h:fc d i n p=0):((d.length:Int)=32/\1<=n/\n<=1099511627776/\0<=i/\i<n)/\(p.length:Int)=((bl i n).length:Int)/\cY p=true:=by
 unfold fc at h;split at h
 . rename_i h1;split at h
   . rename_i h2;exact⟨h1,h2⟩
   omega
 omega
theorem aBz(d:B8)(i n:Int)(p:List B8):d=gQ d i n p 0:=by rfl
def ahR {d:B8}{i n:Int}{p:List B8}{k:Nat}(h:fc d i n p=0)(hk:k<p.length):
  (bif (bl i n).getD (((bl i n).length:Int)-1-(k:Int)).toNat false then bc (p.getD k []) (gQ d i n p k) else bc (gQ d i n p k) (p.getD k []))=gQ d i n p (k+1):=by
 obtain⟨_,h2,_⟩:=Bj h;have hz:k<(List.zip (bl i n).reverse p).length:=by grind
 have e:gQ d i n p (k+1)=Ri (gQ d i n p k) ((List.zip (bl i n).reverse p)[k]):=by
  unfold gQ;rw [List.take_add_one,List.getElem?_eq_getElem hz,List.foldl_append];rfl
 rw [e,List.getElem_zip,List.getElem_reverse];have e1:(((bl i n).length:Int)-1-(k:Int)).toNat=(bl i n).length-1-k:=by omega
 rw [e1,F!,D! w!,F!,D! hk];cases (bl i n)[(bl i n).length-1-k]<;>rfl
theorem amY {d:B8}{i n:Int}{p:List B8}{k:Nat}(h:fc d i n p=0)(hk:p.length<=k):gQ d i n p k=mV d i n p:=by
 rw [mV,if_pos h,ahe,Ą,gQ,List.take_of_length_le];grind
end Go.S

end
section
namespace Go.S
def GY:List Int:=(List.range 1000).map Int.ofNat
abbrev Kp:=Bool->Bool->Bool
def Cd:Kp:=λx y=>x&&y
def Oe:Kp:=λx y=>x || y
def Ce:Kp:=λx y=>x&& !y
def xL(k:Kp)(a b:List Int):List Int:=GY.filter λn=>k (pJ a n) (pJ b n)
def GZ(k:Kp)(a b:List Int):List Int:=xL k (tH a) (tH b)
def Dg(a b:List Int):List Int:=GZ Cd a b
def tm(a b:List Int):List Int:=GZ Oe a b
def Mi(a b:List Int):List Int:=GZ Ce a b
abbrev Pk:=List Int×List Int×List Int
def kp(k:Kp)(a b:List Int)(x:Pk):Prop:=x.2.2++xL k x.1 x.2.1=GZ k a b/\bF x.1=true/\bF x.2.1=true
def gZ(x:Pk):Nat:=x.1.length+x.2.1.length
def opL(o:Int)(a b:List Int):List Int:=if o=1 then Dg a b else if o=2 then tm a b else Mi a b
def Bk(f:B8->List Int)(s:List (List Int))(o:cv):List (List Int):=
 if o.1=0 then s++[f o.2] else s.take (s.length-2)++[opL o.1 (s.getD (s.length-2) []) (s.getD (s.length-1) [])]
def fy(f:B8->List Int)(l:List cv)(k:Nat):List (List Int):=(l.take k).foldl (Bk f) []
def ni(x:List B8)(t:B8):Nat:=(x.filter λa=>Op.bytesLess a t).length
def Ag(x:List B8)(t:B8):Bool:=decide (t∈x)
def lE(t:List B8)(f:List (List Int))(s:B8):List Int:=if Ag t s then f.getD (ni t s) [] else []
def Mj(l:List cv)(t:List B8)(f:List (List Int)):List Int:=(fy (lE t f) l l.length).getD 0 []
def lN(l:List cv)(f:List (List Int)):Bool:=bL l&&(decide (f.length=(aA l).length)&&f.all bF)
def kZ(l:List cv)(f:List (List Int)):List Int×Int:=if lN l f then(Mj l (aA l) f,0) else([],1)
def vj(x:List B8):Prop:=sT x/\small x
def qk(x:List B8)(t:B8)(i j:Int):Prop:=0<=i/\i<=j/\j<=x.length/\(∀k:Nat,(k:Int)<i->Op.bytesLess (x.getD k []) t=true)/\∀k:Nat,j<=(k:Int)->k<x.length->Op.bytesLess (x.getD k []) t=false
def Fu(b:B8):Nat->Int->Int->Int->List Int->List Int×Int
 |0,a,e,_,l=>if done b a e=0 then(l,0) else([],done b a e)
 |n+1,a,e,p,l=>
  if(af b a e).1.2.2≠0 then([],(af b a e).1.2.2)
  else if 998-p<(af b a e).2 then([],2)
  else Fu b n (af b a e).1.2.1 (af b a e).1.2.2 (p+((af b a e).2+1)) (l++[p+((af b a e).2+1)])
def Sq(b:B8):Rd×Int:=af b 0 0
def JI(b:B8):List Int×Int:=
 if(Sq b).1.2.2≠0 then([],(Sq b).1.2.2) else if 1000<(Sq b).2 then([],2) else Fu b (Sq b).2.toNat (Sq b).1.2.1 (Sq b).1.2.2 (-1) []
abbrev Pr:=Int×Int×Int×List Int
def afq(b:B8)(k:Nat)(x:Pr):Prop:=(k:Int)<=(Sq b).2/\(Sq b).1.2.2=0/\(Sq b).2<=1000/\Fu b ((Sq b).2.toNat-k) x.1 x.2.1 x.2.2.1 x.2.2.2=JI b/\ -1<=x.2.2.1/\x.2.2.1<=999/\x.2.2.2.length=k
def aBB(t:B8)(e:Int)(p2 p4 p6:B8):Bool:=decide (p2=t)&&(decide (e=0)&&decide (lB 2 p6=p4))
def aBC(t p2 p3 p6:B8):Bool:=Op.bytesLess p2 t&&((Op.bytesLess t p3 || decide (p3=[]))&&decide (p6.length=0))
def ahV(p2 p3 p4:B8):B8:=leaf (ra p2 p3 p4)
def aBD(root:B8)(n:Int)(t:B8):Bool:=decide ((root.length:Int)=32)&&(decide (1<=n)&&(decide (n<=1099511627776)&&isTerm t))
def tUp(root:B8)(n:Int)(p:Pf):Bool:=fX p.2.1 p.2.2.1 p.2.2.2.1&&(decide (fc (ahV p.2.1 p.2.2.1 p.2.2.2.1) p.1 n p.2.2.2.2.1=0)&&decide (mV (ahV p.2.1 p.2.2.1 p.2.2.2.1) p.1 n p.2.2.2.2.1=root))
def as6(t:B8)(p:Pf):List Int×Int:=
 if aBB t (JI p.2.2.2.2.2).2 p.2.1 p.2.2.2.1 p.2.2.2.2.2 then((JI p.2.2.2.2.2).1,0) else if aBC t p.2.1 p.2.2.1 p.2.2.2.2.2 then([],0) else([],6)
def IG(root:B8)(n:Int)(t:B8)(p:Pf):List Int×Int:=if aBD root n t then(if tUp root n p then as6 t p else([],6)) else([],1)
def Fv(l:List (List Int))(x:List Int):List (List Int):=l++[x]
def Ah(t:List B8)(f:List (List Int)):Prop:=vj t/\f.length=t.length/\∀x∈f,bF x=true
def qD(l:List (List Int)):Prop:=2<=l.length/\small l
def vk(o:Int)(l:List (List Int)):List (List Int):=l.take (l.length-2)++[opL o (l.getD (l.length-2) []) (l.getD (l.length-1) [])]
def Dh(l:List cv)(t:List B8)(f:List (List Int)):Prop:=bL l=true/\small l/\Ah t f
def ob(l:List cv)(s:List (List Int))(k:Nat):Prop:=k<=l.length/\(s.length:Int)=iv l k
def Di(f:List (List Int))(k:Nat):Prop:=k<=f.length/\∀x∈f.take k,bF x=true
def Mk(t:B8)(p5:List B8)(p6:B8):Prop:=small t/\dz p5/\bQ p6/\small p6
def acr(root:B8)(n:Int)(t:B8)(p:Pf)(k:Nat):Prop:=k<=2/\aBD root n t=true/\tUp root n p=true/\(1<=k->aBB t (JI p.2.2.2.2.2).2 p.2.1 p.2.2.2.1 p.2.2.2.2.2=false)/\(2<=k->aBC t p.2.1 p.2.2.1 p.2.2.2.2.2=false)
def VP:∀ {l m:List Int},l.Pairwise (· < ·)->m.Pairwise (· < ·)->(∀x,x∈l↔x∈m)->l=m
 |[],[],_,_,_=>rfl
 |[],y::m,_,_,h=>by grind[List.mem_cons_self]
 |x::l,[],_,_,h=>by grind[List.mem_cons_self]
 |x::l,y::m,hl,hm,h=>by
  rw [g?] at hl hm
  have hxy:x=y:=by
   rcases N!.1 ((h x).1 (H! ..)) with e|e
   . exact e
   . rcases N!.1 ((h y).2 (H! ..)) with e'|e'
     . exact e'.symm
     . have:=hl.1 y e';have:=hm.1 x e;omega
  subst hxy;refine congrArg (x:: ·) (VP hl.2 hm.2 λz=>⟨λhz=>?_,λhz=>?_⟩)
  . grind
  grind
def Yi {n:Int}:n∈GY↔0<=n/\n<1000:=by
 simp [GY,b?,s?];constructor
 . grind
 . rintro⟨h1,h2⟩;exact⟨n.toNat,w!,x!⟩
def Yj:GY.Pairwise (· < ·):=by
 rw [GY,List.pairwise_map];exact List.pairwise_lt_range.imp λh=>by grind
theorem xM {k:Kp}{a b:List Int}{x:Int}:x∈xL k a b↔(0<=x/\x<1000)/\k (pJ a x) (pJ b x)=true:=by
 rw [xL,List.mem_filter,Yi]
def Dj(k:Kp)(a b:List Int):(xL k a b).Pairwise (· < ·):=Yj.filter _
def Yk(k:Kp)(a b:List Int):(xL k a b).length<=1000:=by
 refine h? (List.length_filter_le _ _) ?_;simp [GY]
def Ai {x:Int}{l:List Int}(h:bF (x::l)=true):(0<=x/\x<1000)/\bF l=true/\∀y∈l,x<y:=by
 rw [jA] at h;have h0:=(iI _ _).1 (h 0 z!)
 have hs:∀i,i<l.length->(x::l).getD i 0<l.getD i 0/\l.getD i 0<1000:=λi hi=>by
  have:=(iI _ _).1 (h (i+1) x!);grind[kA]
 have hx:∀i,i<l.length->x<l.getD i 0:=by
  intro i;induction i with
  |zero=>grind
  |succ i ih=>
   grind
 rw [wh] at h0;simp at h0;refine⟨⟨w!,h0.2⟩,(jA l).2 λi hi=>(iI _ _).2 ⟨?_,(hs i hi).2⟩,λy hy=>?_⟩
 . cases i with
   |zero=>grind[wh]
   |succ i=>grind[kA]
 . obtain⟨i,hi,rfl⟩:=k? hy;have:=hx i hi;rwa [F!,D! hi] at this
def iw(r s:List Int):Bool:=bif decide ((0:Int)<(r.length:Int)) then bif decide ((s.length:Int)=(0:Int)) then true else decide (r.getD (Int.toNat (0:Int)) 0<=s.getD (Int.toNat (0:Int)) 0) else false
def Fw(r s:List Int):Int:=bif iw s r then s.getD (Int.toNat (0:Int)) 0 else bif iw r s then r.getD (Int.toNat (0:Int)) 0 else 0
def oc(c:Bool)(r:List Int):List Int:=bif c then r.drop (Int.toNat (1:Int)) else r
def Ml(r r':List Int)(c:Bool)(n:Int):Prop:=(∀x,x∈r↔x∈r'\/(c=true/\x=n))/\(∀x∈r',n<x)/\bF r'=true
def P0 {r s:List Int}(hr:bF r=true)(hs:bF s=true)(dU:0<r.length\/0<s.length):
  (0<=Fw r s/\Fw r s<1000)/\Ml r (oc (iw r s) r) (iw r s) (Fw r s)/\Ml s (oc (iw s r) s) (iw s r) (Fw r s)/\(oc (iw r s) r).length+(oc (iw s r) s).length<r.length+s.length:=by
 cases r with
 |nil=>
  cases s with
  |nil=>grind
  |cons y s=>
   obtain⟨h1,h2,h3⟩:=Ai hs;grind[iw,Fw,oc,Ml,List.length_nil,List.length_cons]
 |cons x r=>
  obtain⟨g1,g2,g3⟩:=Ai hr;cases s with
  |nil=>
   grind[iw,Fw,oc,Ml,List.length_nil,List.length_cons]
  |cons y s=>
   obtain⟨h1,h2,h3⟩:=Ai hs
   have e1:iw (x::r) (y::s)=decide (x<=y):=by
    grind[iw,List.length_cons,decide_eq_true,decide_eq_false]
   have e2:iw (y::s) (x::r)=decide (y<=x):=by
    grind[iw,List.length_cons,decide_eq_true,decide_eq_false]
   grind[Fw,oc,Ml]
def am0 {k:Kp}(hk:k false false=false){r s:List Int}(hr:bF r=true)(hs:bF s=true)(dU:0<r.length\/0<s.length):
  xL k r s=(if k (iw r s) (iw s r)=true then [Fw r s] else [])++xL k (oc (iw r s) r) (oc (iw s r) s):=by
 obtain⟨h0,⟨a1,a2,_⟩,⟨b1,b2,_⟩,_⟩:=P0 hr hs dU;generalize Fw r s=n at *;generalize oc (iw r s) r=r' at *;generalize oc (iw s r) s=s' at *;generalize iw r s=A at *;generalize iw s r=B at *
 have hn:pJ r' n=false/\pJ s' n=false:=by
  grind[pJ,decide_eq_false_iff_not]
 have hrn:∀x,pJ r x=(pJ r' x || (A&&decide (x=n))):=λx=>by
  simp_all[pJ,J!,e?,B!]
 have hsn:∀x,pJ s x=(pJ s' x || (B&&decide (x=n))):=λx=>by
  simp_all[pJ,J!,e?,B!]
 refine VP (Dj k r s) ?_ λx=>?_
 . split
   . rw [List.singleton_append];refine g?.2 ⟨λy hy=>?_,Dj k r' s'⟩;rw [xM] at hy;cases h1:pJ r' y with
     |true=>exact a2 y (by simpa [pJ] using h1)
     |false=>
      cases h2:pJ s' y with
      |true=>exact b2 y (by simpa [pJ] using h2)
      |false=>rw [h1,h2,hk] at hy;cases hy.2
   . rw [d?];exact Dj k r' s'
 . rw [xM,hrn,hsn,List.mem_append,xM];grind
def P1(l:List Int):bF (tH l)=true:=by
 unfold tH;split
 . omega
 . rfl
def Bl(l:List Int):(bif !bF l then [] else l)=tH l:=by
 grind[tH,bF]
def ahW(k:Kp)(a b:List Int):kp k a b (tH a,tH b,[]):=⟨d? _,P1 a,P1 b⟩
def Sr {k:Kp}(hk:k false false=false){a b:List Int}{x:Pk}(h:kp k a b x)(hc:(bif decide ((0:Int)<(x.1.length:Int)) then true else decide ((0:Int)<(x.2.1.length:Int)))=false):x.2.2=GZ k a b:=by
 obtain⟨h1,_,_⟩:=h
 have e1:x.1=[]:=by
  simp_all
 have e2:x.2.1=[]:=by
  simp_all
 have :xL k [] []=[]:=List.eq_nil_iff_forall_not_mem.2 λy hy=>by
  rw [xM] at hy;have :pJ [] y=false:=rfl;grind
 grind
def lq {r s:List Int}(h:iw r s=true):(0:Int)<(r.length:Int)/\(1:Int)<=(r.length:Int):=by
 grind[iw]
def Yl {k:Kp}(hk:k false false=false){a b:List Int}{x:Pk}(h:kp k a b x)(hc:(bif decide ((0:Int)<(x.1.length:Int)) then true else decide ((0:Int)<(x.2.1.length:Int)))=true):
  x.2.2.length<=1000/\(k (iw x.1 x.2.1) (iw x.2.1 x.1)=true->kp k a b (oc (iw x.1 x.2.1) x.1,oc (iw x.2.1 x.1) x.2.1,x.2.2++[Fw x.1 x.2.1]))/\(k (iw x.1 x.2.1) (iw x.2.1 x.1)=false->kp k a b (oc (iw x.1 x.2.1) x.1,oc (iw x.2.1 x.1) x.2.1,x.2.2))/\
  gZ (oc (iw x.1 x.2.1) x.1,oc (iw x.2.1 x.1) x.2.1,x.2.2++[Fw x.1 x.2.1])<gZ x/\gZ (oc (iw x.1 x.2.1) x.1,oc (iw x.2.1 x.1) x.2.1,x.2.2)<gZ x:=by
 obtain⟨h1,h2,h3⟩:=h
 have dU:0<x.1.length\/0<x.2.1.length:=by
  grind
 obtain⟨_,⟨_,_,f1⟩,⟨_,_,f2⟩,f3⟩:=P0 h2 h3 dU;have hl:=am0 hk h2 h3 dU;have hlen:=congrArg List.length h1;rw [K!] at hlen;have:=Yk k (tH a) (tH b);refine⟨?_,λhq=>⟨?_,f1,f2⟩,λhq=>⟨?_,f1,f2⟩,f3,f3⟩
 . unfold GZ at hlen;omega
 . grind
 grind
end Go.S

end
section
namespace Go.S
theorem Bm {x:List B8}{t:B8}{i j:Int}(hp:vj x)(h:qk x t i j)(rL:i<j):
  (i+j)%18446744073709551616/2^Int.toNat 1=(i+j)/2/\0<=i/\i<=(i+j)/2/\(i+j)/2<j/\j<=x.length/\(x.length:Int)<=1099511627776:=by
 have h2:=hp.2;unfold small at h2;obtain⟨h3,h4,h5,_⟩:=h;grind
theorem Ym {x:List B8}(h:sT x){a b:Nat}(ku:a<b)(hb:b<x.length):Op.bytesLess (x.getD a []) (x.getD b [])=true:=by
 rw [F!,D! w!,F!,D! hb];exact List.pairwise_iff_getElem.1 h a b w! hb ku
theorem avM {x:List B8}{t:B8}{i j m:Int}(hp:vj x)(h:qk x t i j)(h1:i<=m)(h2:m<j)(hl:Op.bytesLess (x.getD m.toNat []) t=true):qk x t (m+1) j:=by
 obtain⟨h3,h4,h5,h6,h7⟩:=h;refine⟨w!,w!,h5,λk hk=>?_,h7⟩;by_cases Up:k=m.toNat
 . grind
 . exact lx _ _ _ (Ym hp.1 (show k<m.toNat by omega) w!) hl
theorem avN {x:List B8}{t:B8}{i j m:Int}(hp:vj x)(h:qk x t i j)(h1:i<=m)(h2:m<j)(hl:Op.bytesLess (x.getD m.toNat []) t=false):qk x t i m:=by
 obtain⟨h3,h4,h5,h6,h7⟩:=h;refine⟨h3,h1,w!,h6,λk hk hk2=>?_⟩;by_cases Up:k=m.toNat
 . grind
 . rw [Bool.eq_false_iff];intro hb;have:=lx _ _ _ (Ym hp.1 (show m.toNat<k by omega) hk2) hb;grind
def ahX {x:List B8}{t:B8}{i j m:Int}(hp:vj x)(h:qk x t i j)(h1:i<=m)(h2:m<j):
  qk x t (bif Op.bytesLess (x.getD m.toNat []) t then m+1 else i) (bif Op.bytesLess (x.getD m.toNat []) t then j else m)/\
  ((bif Op.bytesLess (x.getD m.toNat []) t then j else m)-(bif Op.bytesLess (x.getD m.toNat []) t then m+1 else i)).toNat<(j-i).toNat:=by
 grind[avM,avN]
theorem am1 {x:List B8}{t:B8}{i j:Int}(h:qk x t i j)(rL:¬i<j):i=(ni x t:Int):=by
 obtain⟨h3,h4,h5,h6,h7⟩:=h
 have e:x.filter (λa=>Op.bytesLess a t)=x.take j.toNat:=by
  conv=>lhs;rw [<-Z? j.toNat x]
  have e1:(x.take j.toNat).filter (λa=>Op.bytesLess a t)=x.take j.toNat:=List.filter_eq_self.2 λa ha=>by
   obtain⟨k,hk,rfl⟩:=k? ha;rw [T?] at hk;have:=h6 k w!;rw [F!,D! w!] at this;rw [List.getElem_take];exact this
  have e2:(x.drop j.toNat).filter (λa=>Op.bytesLess a t)=[]:=List.filter_eq_nil_iff.2 λa ha=>by
   obtain⟨k,hk,rfl⟩:=List.getElem_of_mem ha;grind
  grind
 grind[ni,List.length_take]
theorem am2 {x:List B8}{t:B8}{i j:Int}(hp:vj x)(h:qk x t i j)(rL:¬i<j):
  (bif decide (i<(x.length:Int)) then bif decide (x.getD i.toNat []=t) then true else bif false then false else false else false)=Ag x t:=by
 obtain⟨h3,h4,h5,h6,h7⟩:=h;have hj:j=i:=by omega
 subst hj;rw [Ag,Bool.eq_iff_iff];have e:∀a b:Bool,(bif a then bif b then true else bif false then false else false else false)=true↔a=true/\b=true:=by decide
 rw [e,J!,J!,J!];constructor
 . grind
 . intro hm;obtain⟨k,hk,rfl⟩:=k? hm;have hg:x.getD k []=x[k]:=by rw [F!,D! hk];rfl
   have hkj:j<=k:=by
    apply Q?;intro hn;have:=h6 k w!;rw [hg,cJ] at this;cases this
   refine⟨w!,?_⟩;by_cases aBE:k=j.toNat
   . rw [<-aBE];exact hg
   . have h1:=Ym hp.1 (show j.toNat<k by omega) hk;have h2:=h7 j.toNat w! w!;rw [hg] at h1;rw [h1] at h2;cases h2
def am4 {x:List B8}{t:B8}(h:Ag x t=true):ni x t<x.length:=by
 have hm:t∈x:=of_decide_eq_true h;grind[ni,Nat.not_le,List.filter_eq_self,List.Sublist.eq_of_length_le,List.filter_sublist,cJ]
def Yn {t:List B8}{f:List (List Int)}{s:B8}(hp:Ah t f)(h:(!Ag t s)=false):(0<=(ni t s:Int)/\(ni t s:Int)<(f.length:Int))/\small (f.getD (Int.toNat (ni t s:Int)) [])/\f.getD (Int.toNat (ni t s:Int)) []=lE t f s:=by
 have hs:Ag t s=true:=by grind
 have hc:=am4 hs;obtain⟨_,h2,h3⟩:=hp;rw [Int.toNat_natCast];refine⟨⟨w!,w!⟩,?_,by rw [lE,if_pos hs]⟩;grind[mT,bA,ni,small]
theorem am5 {t:List B8}{f:List (List Int)}{s:B8}(h:(!Ag t s)=true): []=lE t f s:=by
 simp_all[Ag,lE,Q!]
theorem ě(f:B8->List Int)(l:List cv): []=fy f l 0:=by rfl
def Mm {f:B8->List Int}{l:List cv}{k:Nat}(hk:k<l.length):fy f l (k+1)=Bk f (fy f l k) (l.getD k (0,[])):=by
 rw [fy,ax l k (0,[]) hk,List.foldl_append];rfl
def ahY {o:Int}{s:List (List Int)}(h:2<=s.length):(vk o s).length=s.length-1:=by
 grind[vk,List.length_append,List.length_take]
def VQ {f:B8->List Int}{l:List cv}{k:Nat}(hk:(k:Int)<l.length)(h:(iM l k).1=0):Fv (fy f l k) (f (iM l k).2)=fy f l (k+1):=by
 rw [Mm w!];show _=Bk f _ (iM l k);rw [Bk,R! h];rfl
def JJ {f:B8->List Int}{l:List cv}{k:Nat}{o:Int}(hk:(k:Int)<l.length)(h:(iM l k).1=o)(ho:o≠0):vk o (fy f l k)=fy f l (k+1):=by
 rw [Mm w!];show _=Bk f _ (iM l k);rw [Bk,Q! w!,<-h];rfl
def aBF {l:List cv}(h:bL l=true){k:Nat}(hk:(k:Int)<l.length):th l k=true:=by
 simp_all[bL,B!,X!,s?]
theorem Ss {l:List cv}(h:bL l=true){k:Nat}(hk:(k:Int)<l.length):0<=(iM l k).1/\(iM l k).1<=3/\((iM l k).1≠0->2<=iv l k):=by
 have:=aBF h hk;grind[th]
def Ĝ(l:List cv)(k:Nat):iv l k<=k:=by
 have:=vg l k;grind[iv]
theorem aBG(l:List cv):ob l [] 0:=⟨T! _,by rfl⟩
def JK {l:List cv}{t:List B8}{f s:List (List Int)}{k:Nat}(hp:Dh l t f)(h:ob l s k)(hk:(k:Int)<l.length)(ho:(iM l k).1≠0):qD s:=by
 have:=(Ss hp.1 hk).2.2 ho;have h1:=h.2;have h2:=Ĝ l k;have h3:=hp.2.1;refine⟨w!,by grind[small]⟩
def ads {l:List cv}{t:List B8}{f s:List (List Int)}{k:Nat}(hp:Dh l t f)(h:ob l s k):small s:=by
 have h1:=h.2;have h2:=Ĝ l k;have h3:=hp.2.1;have h4:=h.1;grind[small]
def ahZ {l:List cv}{g:B8->List Int}{k:Nat}(h:ob l (fy g l k) k)(hk:(k:Int)<l.length)(ho:(iM l k).1=0):ob l (fy g l (k+1)) (k+1):=by
 refine⟨w!,?_⟩;rw [<-VQ hk ho,Fv,K!,VE ho,<-h.2];simp
def Mn {l:List cv}{t:List B8}{f:List (List Int)}{g:B8->List Int}{k:Nat}(hp:Dh l t f)(h:ob l (fy g l k) k)(hk:(k:Int)<l.length){o:Int}(ho:(iM l k).1=o)(h0:o≠0):ob l (fy g l (k+1)) (k+1):=by
 have h2:=(JK hp h hk w!).1;refine⟨w!,?_⟩;rw [<-JJ hk ho h0,ahY h2,JF w!,<-h.2];omega
def ĝ {l:List cv}{t:List B8}{f s:List (List Int)}{k:Nat}(hp:Dh l t f)(h:ob l s k)(hk:¬(k:Int)<l.length):0<s.length/\k=l.length:=by
 have e:k=l.length:=by have:=h.1;omega
 have h1:=hp.1;simp [bL,Bool.and_eq_true,decide_eq_true_eq] at h1;have h2:=h.2;grind
def P2 {l:List cv}(h:small l):vj (aA l):=by
 refine⟨kO _,?_⟩;have h1:=qd (nP l);grind[nP,bO,List.length_map,Nat.le_trans,List.length_filter_le,small,aA]
theorem G1 {l:List cv}{f:List (List Int)}(h:lN l f=false): []=(kZ l f).1/\1=(kZ l f).2:=by
 grind[kZ]
def Ğ {l:List cv}{f:List (List Int)}(h:lN l f=true):Mj l (aA l) f=(kZ l f).1/\0=(kZ l f).2:=by
 grind[kZ]
def ah0 {f:List (List Int)}{k:Nat}(h:Di f k)(hk:(k:Int)<f.length)(h1:bF (f.getD k [])=true):Di f (k+1):=by
 refine⟨w!,λx hx=>?_⟩;rw [ax f k [] w!,G!,p?] at hx;rcases hx with hx|rfl
 . exact h.2 x hx
 omega
def Su {f:List (List Int)}{k:Nat}(h:Di f k)(hk:¬(k:Int)<f.length):f.all bF=true:=by
 have e:k=f.length:=by have:=h.1;omega
 have:=h.2;grind
def ğ {f:List (List Int)}{k:Nat}(hk:(k:Int)<f.length)(h1:bF (f.getD k [])=false):f.all bF=false:=by
 grind
def adB(b:B8)(a e:Int):0<=(af b a e).2/\(af b a e).2<=4611686018427387904:=by
 unfold af;split
 . omega
 . split
   . omega
   . rename_i h1 _
     have hp:dy b a:=by
      unfold bU at h1;unfold dy;by_cases he:e=0/\inside b a=false
      . grind
      simp_all[Q!,inside,B!,J!]
     simp_all[Xk]
def aFZ {b:B8}(h1:(Sq b).1.2.2=0)(h2:¬1000<(Sq b).2):afq b 0 ((Sq b).1.2.1,(Sq b).1.2.2,-1,[]):=by
 have:=(adB b 0 0).1;refine⟨this,h1,w!,?_,z!,z!,rfl⟩;simp_all[JI,Q!]
def auN {b:B8}(h1:¬(Sq b).1.2.2=0): []=(JI b).1/\(Sq b).1.2.2=(JI b).2:=by
 simp_all[JI,R!]
def aul {b:B8}(h1:(Sq b).1.2.2=0)(h2:1000<(Sq b).2): []=(JI b).1/\2=(JI b).2:=by
 simp_all[JI,Q!,R!]
theorem auc {b:B8}{k:Nat}{x:Pr}(h:afq b k x)(hk:(k:Int)<(Sq b).2):JI b=
  if(af b x.1 x.2.1).1.2.2≠0 then([],(af b x.1 x.2.1).1.2.2) else if 998-x.2.2.1<(af b x.1 x.2.1).2 then([],2)
  else Fu b ((Sq b).2.toNat-(k+1)) (af b x.1 x.2.1).1.2.1 (af b x.1 x.2.1).1.2.2 (x.2.2.1+((af b x.1 x.2.1).2+1)) (x.2.2.2++[x.2.2.1+((af b x.1 x.2.1).2+1)]):=by
 have h4:=h.2.2.2.1;have e:(Sq b).2.toNat-k=((Sq b).2.toNat-(k+1))+1:=by omega
 grind[Fu]
def auO {b:B8}{k:Nat}{x:Pr}(h:afq b k x)(hk:(k:Int)<(Sq b).2)(h1:¬(af b x.1 x.2.1).1.2.2=0): []=(JI b).1/\(af b x.1 x.2.1).1.2.2=(JI b).2:=by
 rw [auc h hk,if_pos h1];grind
def auP {b:B8}{k:Nat}{x:Pr}(h:afq b k x)(hk:(k:Int)<(Sq b).2)(h1:(af b x.1 x.2.1).1.2.2=0)(h2:998-x.2.2.1<(af b x.1 x.2.1).2): []=(JI b).1/\2=(JI b).2:=by
 rw [auc h hk,if_neg w!,if_pos h2];grind
def aBR {b:B8}{k:Nat}{x:Pr}(h:afq b k x)(hk:(k:Int)<(Sq b).2)(h1:(af b x.1 x.2.1).1.2.2=0)(h2:¬998-x.2.2.1<(af b x.1 x.2.1).2):
  afq b (k+1) ((af b x.1 x.2.1).1.2.1,(af b x.1 x.2.1).1.2.2,x.2.2.1+((af b x.1 x.2.1).2+1),x.2.2.2++[x.2.2.1+((af b x.1 x.2.1).2+1)]):=by
 have hg:=auc h hk;rw [if_neg w!,if_neg h2] at hg;have hn:=(adB b x.1 x.2.1).1;obtain⟨_,g2,g3,_,g5,g6,g7⟩:=h;refine⟨w!,g2,g3,hg.symm,x!,x!,x!⟩
def ak3 {b:B8}{k:Nat}{x:Pr}(h:afq b k x)(hk:¬(k:Int)<(Sq b).2):JI b=if done b x.1 x.2.1=0 then(x.2.2.2,0) else([],done b x.1 x.2.1):=by
 have h4:=h.2.2.2.1;simp_all[Sq,Fu]
theorem auR {root:B8}{n:Int}{t:B8}(p:Pf)(h:aBD root n t=false): []=(IG root n t p).1/\1=(IG root n t p).2:=by
 grind[IG]
theorem aue {root:B8}{n:Int}{t:B8}{p:Pf}(h:aBD root n t=true)(h2:tUp root n p=false): []=(IG root n t p).1/\6=(IG root n t p).2:=by
 grind[IG]
theorem auf {root:B8}{n:Int}{t:B8}{p:Pf}(h:aBD root n t=true)(h2:tUp root n p=true):IG root n t p=as6 t p:=by
 grind[IG]
theorem aEF(a b:B8):(!(Op.bytesLess a b || decide (a=b)))=Op.bytesLess b a:=by
 grind[jM,ou,cJ,decide_eq_false]
theorem ak4 {root:B8}{n:Int}{t:B8}(h:(root.length:Int)=32/\¬n<1/\¬1099511627776<n/\isTerm t=true):aBD root n t=true:=by
 simp_all[aBD,B!,J!]
theorem auS {root:B8}{n:Int}{t:B8}(h:¬(root.length:Int)=32\/n<1\/1099511627776<n\/isTerm t=false):aBD root n t=false:=by
 simp [aBD,Ne,Bool.and_eq_true,decide_eq_true_eq];grind
theorem anh {a b c:B8}(h:rb a b c=0):fX a b c=true/\ke a b c=ra a b c:=by
 simp_all[rb,ke,R!]
def aBS {a b c:B8}(h:¬rb a b c=0):fX a b c=false:=by
 grind[rb]
theorem aup {a b c:B8}(h:rb a b c=0):bQ (ke a b c):=by
 obtain⟨h1,h2⟩:=anh h;simp [fX,Bool.and_eq_true,decide_eq_true_eq] at h1;grind[q1,eN,q2,bQ,ra,text,List.length_append]
theorem aEG {root:B8}{n:Int}{p:Pf}(h:rb p.2.1 p.2.2.1 p.2.2.2.1=0)(h1:fc (leaf (ke p.2.1 p.2.2.1 p.2.2.2.1)) p.1 n p.2.2.2.2.1=0/\mV (leaf (ke p.2.1 p.2.2.1 p.2.2.2.1)) p.1 n p.2.2.2.2.1=root):tUp root n p=true:=by
 grind[anh,tUp,ahV,decide_true,Bool.and_self]
theorem auU {root:B8}{n:Int}{p:Pf}(h:¬rb p.2.1 p.2.2.1 p.2.2.2.1=0):tUp root n p=false:=by
 simp_all[tUp,aBS,Bool.false_and]
theorem auW {root:B8}{n:Int}{p:Pf}(h:rb p.2.1 p.2.2.1 p.2.2.2.1=0)(h1:¬fc (leaf (ke p.2.1 p.2.2.1 p.2.2.2.1)) p.1 n p.2.2.2.2.1=0\/¬mV (leaf (ke p.2.1 p.2.2.1 p.2.2.2.1)) p.1 n p.2.2.2.2.1=root):tUp root n p=false:=by
 obtain⟨g1,g2⟩:=anh h;simp [tUp,ahV,g1,Bool.true_and];grind
theorem aEH {root:B8}{n:Int}{t:B8}{p:Pf}(h1:aBD root n t=true)(h2:tUp root n p=true):acr root n t p 0:=⟨w!,h1,h2,w!,w!⟩
def aEI {root:B8}{n:Int}{t:B8}{p:Pf}{k:Nat}(h:acr root n t p k)(hk:(k:Int)=0)(h1:aBB t (JI p.2.2.2.2.2).2 p.2.1 p.2.2.2.1 p.2.2.2.2.2=false):acr root n t p (k+1):=
 ⟨w!,h.2.1,h.2.2.1,λ_=>h1,w!⟩
def aEJ {root:B8}{n:Int}{t:B8}{p:Pf}{k:Nat}(h:acr root n t p k)(hk:(k:Int)=1)(h1:aBC t p.2.1 p.2.2.1 p.2.2.2.2.2=false):acr root n t p (k+1):=
 ⟨w!,h.2.1,h.2.2.1,λ_=>h.2.2.2.1 w!,λ_=>h1⟩
def auX {root:B8}{n:Int}{t:B8}{p:Pf}{k:Nat}(h:acr root n t p k)(h1:aBB t (JI p.2.2.2.2.2).2 p.2.1 p.2.2.2.1 p.2.2.2.2.2=true):(JI p.2.2.2.2.2).1=(IG root n t p).1/\0=(IG root n t p).2:=by
 rw [auf h.2.1 h.2.2.1,as6,h1];grind
def auZ {root:B8}{n:Int}{t:B8}{p:Pf}{k:Nat}(h:acr root n t p k)(hk:(k:Int)=1)(h1:aBC t p.2.1 p.2.2.1 p.2.2.2.2.2=true): []=(IG root n t p).1/\0=(IG root n t p).2:=by
 rw [auf h.2.1 h.2.2.1,as6,h.2.2.2.1 w!,h1];grind
theorem au0 {root:B8}{n:Int}{t:B8}{p:Pf}{k:Nat}(h:acr root n t p k)(hk:¬(k:Int)<((2:Nat):Int)): []=(IG root n t p).1/\6=(IG root n t p).2:=by
 rw [auf h.2.1 h.2.2.1,as6,h.2.2.2.1 w!,h.2.2.2.2 w!];grind
end Go.S

end
section
namespace Go.S
open Go.Vg (CF Z bN)
def P3(a:List (List Pf))(i j:Int):Pf:=pfD (iO a i.toNat) j.toNat
def wA(g:Sg)(w:B8)(a:List (List Pf))(i j:Int):List Int×Int:=IG g.2.2.2 g.2.2.1 w (P3 a i j)
def rC(g:Sg)(w:B8)(a:List (List Pf))(i j:Int):Bool:=decide ((wA g w a i j).2=0)&&IE (wA g w a i j).1 g.1 g.2.1
def Mo(w:B8)(a:List (List Pf))(i j:Int):Prop:=(0<=i/\i<a.length)/\(0<=j/\j<(iO a i.toNat).length)/\Mk w (P3 a i j).2.2.2.2.1 (P3 a i j).2.2.2.2.2
def P4(j:Int)(q n:Nat)(l:List Int):Prop:=q=j.toNat/\q<n/\small l
def P5(l m:List Int):List Int:=l++m
def Mp(g:Sg)(w:B8)(a:List (List Pf))(i j:Int)(l:List Int):List Int:=if rC g w a i j then P5 l (wA g w a i j).1 else l
def ah1(root:B8)(n:Int)(g:B8)(l:List Sg):CF:=λz=>(True,.bool (tj n g l root),z)
def Ġ(a:List (List Pf))(i:Int)(t:List B8):CF:=λz=>(0<=i/\i<(a.length:Int),.bool (pn a i t),z)
def Aj(e0 ei0:Nat)(g:Sg)(w:B8)(a:List (List Pf))(i j:Int):CF:=λz=>match z with
 |.g e ei l=>(e=e0/\ei=ei0/\Mo w a i j/\P4 j j.toNat l.length (l.getD j.toNat []),.bool (rC g w a i j),.g e ei (l.set j.toNat (Mp g w a i j (l.getD j.toNat []))))
 |z=>(False,.bool false,z)
def G2(l:List Sg)(i:Nat):Sg:=l.getD i (0,0,0,[])
def Mq(e0 ei0:Nat)(s:List Sg)(a:List (List Pf))(t:List B8)(i k:Nat):List CF:=
 Ġ a i t::(List.range k).map λ(j:Nat)=>Aj e0 ei0 (G2 s i) (t.getD j []) a i j
def conds(e0 ei0:Nat)(root:B8)(n:Int)(g:B8)(s:List Sg)(a:List (List Pf))(t:List B8):Nat->List CF
 |0=>[ah1 root n g s]
 |i+1=>conds e0 ei0 root n g s a t i++Mq e0 ei0 s a t i t.length
def mq(e0 ei0:Nat)(root:B8)(n:Int)(g:B8)(s:List Sg)(a:List (List Pf))(t:List B8)(i k:Nat):List CF:=
 conds e0 ei0 root n g s a t i++Mq e0 ei0 s a t i k
def xN(s:List Sg)(a:List (List Pf))(t:List B8)(i k:Nat):Bool:=(List.range k).all λ(j:Nat)=>rC (G2 s i) (t.getD j []) a i j
def Dk(s:List Sg)(a:List (List Pf))(t:List B8)(i:Nat):Bool:=(List.range i).all λ(i:Nat)=>pn a i t&&xN s a t i t.length
def vn(s:List Sg)(a:List (List Pf))(t:List B8)(j:Nat):Nat->List Int
 |0=>[]
 |i+1=>P5 (vn s a t j i) (wA (G2 s i) (t.getD j []) a i j).1
def aCz(s:List Sg)(a:List (List Pf))(t:List B8)(i k:Nat):List (List Int):=(List.range t.length).map λ(j:Nat)=>vn s a t j (if j<k then i+1 else i)
def ux(s:List Sg)(a:List (List Pf))(t:List B8)(i:Nat):List (List Int):=(List.range t.length).map λ(j:Nat)=>vn s a t j i
def IH(root:B8)(a:Int×B8×List Sg×List (List Pf))(t:List B8):Bool:=tj a.1 a.2.1 a.2.2.1 root&&Dk a.2.2.1 a.2.2.2 t a.2.2.1.length
def ep(root:B8)(l:List cv)(b:B8):List Int×Int:=
 if(bif !decide ((root.length:Int)=32) then true else !bL l) then([],1) else if(ba b).2≠0 then([],(ba b).2)
 else if IH root (ba b).1 (aA l) then kZ l (ux (ba b).1.2.2.1 (ba b).1.2.2.2 (aA l) (ba b).1.2.2.1.length) else([],6)
def ġ(b:B8)(k:Nat):Prop:=k<=(ba b).1.2.2.1.length/\(ba b).2=0
def Sv(b:B8)(t:List B8)(k j:Nat):Prop:=k<(ba b).1.2.2.1.length/\j<=t.length/\(ba b).2=0
def Cf:∀(l m:List CF) (z:Z),((bN (l++m) z).1↔(bN l z).1/\((bN l z).2.1=true->(bN m (bN l z).2.2).1))/\(bN (l++m) z).2.1=((bN l z).2.1&&(bN m (bN l z).2.2).2.1)/\((bN l z).2.1=true->(bN (l++m) z).2.2=(bN m (bN l z).2.2).2.2)
 |[],m,z=>by simp [bN]
 |F::l,m,z=>by
  obtain⟨h1,h2,h3⟩:=Cf l m (F z).2.2;simp [List.cons_append,bN];grind
structure po (l:List CF) (z z':Z) (o:Bool):Prop where
 pre:(bN l z).1
 ok:(bN l z).2.1=o
 to:o=true->(bN l z).2.2=z'
def po.snoc {l m:List CF}{z z1 z2:Z}{o1 o2:Bool}(h:po l z z1 o1)(g:o1=true->po m z1 z2 o2):po (l++m) z z2 (o1&&o2):=by
 obtain⟨h1,h2,h3⟩:=Cf l m z;cases o1 with
 |false=>exact⟨h1.2 ⟨h.pre,λq=>by rw [h.ok] at q;cases q⟩,by rw [h2,h.ok];rfl,nofun⟩
 |true=>
  have e:=h.to rfl;obtain⟨g1,g2,g3⟩:=g rfl;rw [e] at h1 h2 h3;exact⟨h1.2 ⟨h.pre,λ_=>g1⟩,by rw [h2,h.ok,g2],λq=>by rw [h3 h.ok];grind⟩
theorem po.one {F:CF}{z:Z}{b:Bool}(h:(F z).1)(h1:(F z).2.1= .bool b):po [F] z (F z).2.2 b:=by
 refine⟨⟨h,by rw [h1];rfl,λ_=>trivial⟩,?_,λq=>?_⟩
 . simp [bN,h1];cases b<;>rfl
 grind[bN]
def am6(s:List Sg)(a:List (List Pf))(t:List B8)(i:Nat):aCz s a t i 0=ux s a t i:=by
 rfl
def adt(s:List Sg)(a:List (List Pf))(t:List B8)(i:Nat):aCz s a t i t.length=ux s a t (i+1):=by
 simp_all[aCz,ux,W?,R!,s?]
theorem Bn(s:List Sg)(a:List (List Pf))(t:List B8)(i k:Nat):(aCz s a t i k).length=t.length:=by simp [aCz]
theorem VR {s:List Sg}{a:List (List Pf)}{t:List B8}{i k:Nat}(hk:k<t.length):(aCz s a t i k).getD k []=vn s a t k i:=by
 rw [F!,aCz,E?,List.getElem?_range hk];simp
theorem adu {s:List Sg}{a:List (List Pf)}{t:List B8}{i k:Nat}(hk:k<t.length):(aCz s a t i k).set k (vn s a t k (i+1))=aCz s a t i (k+1):=by
 apply List.ext_getElem?;intro j;rw [List.getElem?_set,Bn];by_cases hj:j<t.length
 . by_cases hkj:k=j
   . subst hkj;rw [R! rfl,R! hk,aCz,E?,List.getElem?_range hk];simp
   . rw [if_neg hkj,aCz,aCz,List.getElem?_map,List.getElem?_map,List.getElem?_range hj];grind
 grind[List.getElem?_eq_none,Bn]
theorem II(b:B8):∀(n:Nat) (a e p:Int) (l:List Int),(Fu b n a e p l).1.length<=l.length+n
 |0,a,e,p,l=>by
  grind[Fu]
 |n+1,a,e,p,l=>by
  unfold Fu;split
  . simp
  . split
    . simp
    . have:=II b n (af b a e).1.2.1 (af b a e).1.2.2 (p+((af b a e).2+1)) (l++[p+((af b a e).2+1)]);rw [K!,W!] at this;omega
theorem VS(b:B8):(JI b).1.length<=1000:=by
 grind[JI,II,Sq,List.length_nil]
def P6(root:B8)(n:Int)(t:B8)(p:Pf):(IG root n t p).1.length<=1000:=by
 grind[IG,as6,VS]
def Mr(s:List Sg)(a:List (List Pf))(t:List B8)(j:Nat):∀i,(vn s a t j i).length<=1000*i
 |0=>by simp [vn]
 |i+1=>by
  have h1:=Mr s a t j i;have h2:=P6 (G2 s i).2.2.2 (G2 s i).2.2.1 (t.getD j []) (P3 a i j);rw [vn,P5,K!,wA];omega
def Sw(s:List Sg)(a:List (List Pf))(t:List B8):Prop:=s.length=a.length/\s.length<=64/\t.length<=1099511627776/\(∀w∈t,small w)/\∀x∈a,∀p∈x,dz p.2.2.2.2.1/\bQ p.2.2.2.2.2/\small p.2.2.2.2.2
theorem ah2 {s:List Sg}{a:List (List Pf)}{t:List B8}(hp:Sw s a t){i k:Nat}(hi:i<s.length)(hm:pn a i t=true)(hk:k<t.length):Mo (t.getD k []) a i k:=by
 obtain⟨h1,h2,h3,h4,h5⟩:=hp;have hm:(a.getD i []).length=t.length:=by grind[pn]
 have hia:i<a.length:=by omega
 have hx:=bA a i [] hia
 have hpf:P3 a i k∈a.getD i []:=by
  grind[P3,pfD,iO,bA,VC]
 obtain⟨q1,q2,q3⟩:=h5 _ hx _ hpf;refine⟨⟨w!,w!⟩,⟨w!,?_⟩,h4 _ (bA t k [] hk),q1,q2,q3⟩;grind[iO]
theorem adv {s:List Sg}{a:List (List Pf)}{t:List B8}{i k:Nat}(h:rC (G2 s i) (t.getD k []) a i k=true):Mp (G2 s i) (t.getD k []) a i k (vn s a t k i)=vn s a t k (i+1):=by
 rw [Mp,R! h];rfl
theorem yg {α:Type}(f:Nat->α)(k:Nat):(List.range (k+1)).map f=(List.range k).map f++[f k]:=by
 rw [List.range_succ,u?];rfl
def as7 {e0 ei0:Nat}{s:List Sg}{a:List (List Pf)}{t:List B8}(hp:Sw s a t){i:Nat}(hi:i<s.length)(hm:pn a i t=true):∀k,k<=t.length->
  po ((List.range k).map λ(j:Nat)=>Aj e0 ei0 (G2 s i) (t.getD j []) a i j) (.g e0 ei0 (aCz s a t i 0)) (.g e0 ei0 (aCz s a t i k)) (xN s a t i k)
 |0,_=>⟨trivial,rfl,λ_=>rfl⟩
 |k+1,hk=>by
  rw [yg]
  have e:xN s a t i (k+1)=(xN s a t i k&&rC (G2 s i) (t.getD k []) a i k):=by
   unfold xN;rw [List.range_succ,List.all_append];simp
  rw [e];refine(as7 hp hi hm k w!).snoc λ_=>?_;have tB:k<t.length:=by omega
  have e2:((k:Int)).toNat=k:=by simp
  have hlen:=Mr s a t k i
  have h:=po.one (F:=Aj e0 ei0 (G2 s i) (t.getD k []) a i k) (z:=.g e0 ei0 (aCz s a t i k)) (b:=rC (G2 s i) (t.getD k []) a i k)
   ⟨rfl,rfl,ah2 hp hi hm tB,by rw [e2,VR tB,Bn];exact⟨e2.symm,tB,by have:=hp.2.1;grind[small]⟩⟩ rfl
  refine⟨h.pre,h.ok,λq=>?_⟩;rw [h.to q];grind[Aj,VR,adv,adu]
def as8 {e0 ei0:Nat}{root:B8}{n:Int}{g:B8}{s:List Sg}{a:List (List Pf)}{t:List B8}(hp:Sw s a t):∀i,i<=s.length->
  po (conds e0 ei0 root n g s a t i) (.g e0 ei0 (ux s a t 0)) (.g e0 ei0 (ux s a t i)) (tj n g s root&&Dk s a t i)
 |0,_=>by
  have:=po.one (F:=ah1 root n g s) (z:=.g e0 ei0 (ux s a t 0)) (b:=tj n g s root) trivial rfl;have e:(tj n g s root&&Dk s a t 0)=tj n g s root:=by simp [Dk]
  rw [e];exact this
 |i+1,hi=>by
  have e:Dk s a t (i+1)=(Dk s a t i&&(pn a i t&&xN s a t i t.length)):=by
   unfold Dk;rw [List.range_succ,List.all_append];simp
  rw [e,<-Bool.and_assoc];refine(as8 hp i w!).snoc λ_=>?_;have h1:=po.one (F:=Ġ a i t) (z:=.g e0 ei0 (ux s a t i)) (b:=pn a i t) (by have:=hp.1;exact⟨w!,w!⟩) rfl
  have h2:=h1.snoc (m:=(List.range t.length).map λ(j:Nat)=>Aj e0 ei0 (G2 s i) (t.getD j []) a i j) (z2:=.g e0 ei0 (ux s a t (i+1))) (o2:=xN s a t i t.length) λhm=>by
   have:=as7 (e0:=e0) (ei0:=ei0) hp (show i<s.length by omega) hm t.length (S! _);rw [am6,adt] at this;exact this
  exact h2
def am7(s:List Sg)(a:List (List Pf))(t:List B8):ux s a t 0=List.replicate t.length []:=by
 rw [List.eq_replicate_iff];refine⟨by simp [ux],λx hx=>?_⟩;obtain⟨j,_,rfl⟩:=b?.1 hx;rfl
def Ģ {b:B8}{l:List cv}(hb:b.length<1099511627776)(hl:eR l)(h:(ba b).2=0):Sw (ba b).1.2.2.1 (ba b).1.2.2.2 (aA l):=by
 have hq:∀(k:Nat) (a e:Int),(ri b a e k).2.length=k/\∀x∈(ri b a e k).2,∀p∈x,p.2.2.2.2.1.length<=64/\p.2.2.2.2.2.length<=b.length:=by
  intro k a e;induction k with
  |zero=>exact⟨rfl,nofun⟩
  |succ k ih=>
   refine⟨by grind[ri],λx hx=>?_⟩;simp only [ri,List.mem_append,List.mem_singleton] at hx;rcases hx with hx|rfl
   . grind
   . have hpf:∀(m:Nat) (a e:Int),∀p∈(Cc b a e m).2,p.2.2.2.2.1.length<=64/\p.2.2.2.2.2.length<=b.length:=by
      intro m a e;induction m with
      |zero=>exact nofun
      |succ m ih=>
       intro p hp;simp only [Cc,G!,p?] at hp;rcases hp with hp|rfl
       . grind
       . refine⟨?_,JG _ _ _ _⟩;grind[gw,q3,jD,JH,Md]
     exact hpf _ _ _
 have h1:(aA l).length<=1099511627776:=(P2 hl.1).2
 have h2:∀w∈aA l,small w:=λw hw=>by
  have:=(ie (nP l) w).1 hw;simp only [nP,bO,b?,List.mem_filter] at this;obtain⟨o,⟨ho,_⟩,rfl⟩:=this;exact hl.2 o (List.mem_of_mem_take ho)
 have TG:ba b=(((aH b).2.1,(aH b).2.2.1,(aH b).2.2.2,(gR b (aN b)).2),0):=by
  grind[as5,ahE,as4]
 rw [TG];have:=hq (aN b) (aH b).1.1 (aH b).1.2;refine⟨this.1.symm,Yf b,h1,h2,λx hx p hp=>?_⟩;have q:=this.2 x hx p hp;grind[dz,bQ,small]
def Ms(e0 ei0:Nat)(s:List Sg)(a:List (List Pf))(t:List B8)(i k:Nat):(Mq e0 ei0 s a t i k).length=k+1:=by simp [Mq]
def Dl {e0 ei0:Nat}{root:B8}{n:Int}{g:B8}{s:List Sg}{a:List (List Pf)}{t:List B8}:∀i,(conds e0 ei0 root n g s a t i).length=1+i*(t.length+1)
 |0=>by simp [conds]
 |i+1=>by rw [conds,K!,Dl i,Ms,Nat.succ_mul];omega
def Sx {e0 ei0:Nat}{root:B8}{n:Int}{g:B8}{s:List Sg}{a:List (List Pf)}{t:List B8}(i k:Nat):(mq e0 ei0 root n g s a t i k).length=1+i*(t.length+1)+(k+1):=by
 rw [mq,K!,Dl,Ms]
def Of {e0 ei0:Nat}{root:B8}{n:Int}{g:B8}{s:List Sg}{a:List (List Pf)}{t:List B8}(i k:Nat):
  mq e0 ei0 root n g s a t i k++[Aj e0 ei0 (G2 s i) (t.getD k []) a i k]=mq e0 ei0 root n g s a t i (k+1):=by
 grind[mq,Mq,yg,List.append_assoc]
def ģ {b:B8}{l:List cv}(hb:b.length<1099511627776)(hl:eR l)(h:(ba b).2=0):(ba b).1.2.2.1.length<=64:=(Ģ hb hl h).2.1
def Ĥ {b:B8}{l:List cv}(hb:b.length<1099511627776)(hl:eR l)(h:(ba b).2=0)(hq:bL l=true){i:Nat}(hi:i<=(ba b).1.2.2.1.length):i*((aA l).length+1)<=1088:=by
 have h1:=ģ hb hl h;have h2:=ow hq;exact h? (Nat.mul_le_mul (show i<=64 by omega) (show(aA l).length+1<=17 by omega)) (by decide)
theorem G3 {root:B8}{l:List cv}(h:(root.length:Int)=32/\bL l=true):¬(bif !decide ((root.length:Int)=32) then true else !bL l)=true:=by
 grind
theorem ah3 {root:B8}{l:List cv}(h:¬(root.length:Int)=32\/bL l=false):(bif !decide ((root.length:Int)=32) then true else !bL l)=true:=by
 grind
theorem ĥ {root:B8}{l:List cv}{b:B8}(h:(bif !decide ((root.length:Int)=32) then true else !bL l)=true): []=(ep root l b).1/\1=(ep root l b).2:=by
 simp_all[ep,R!]
theorem Ħ {root:B8}{l:List cv}{b:B8}(h:¬(bif !decide ((root.length:Int)=32) then true else !bL l)=true)(h1:¬(ba b).2=0): []=(ep root l b).1/\(ba b).2=(ep root l b).2:=by
 simp_all[ep,Q!,R!]
def Fx {e0 ei0:Nat}{root:B8}{l:List cv}{b:B8}(hb:b.length<1099511627776)(hl:eR l)(h:(ba b).2=0){k:Nat}(hk:k=(ba b).1.2.2.1.length):
  po (conds e0 ei0 root (ba b).1.1 (ba b).1.2.1 (ba b).1.2.2.1 (ba b).1.2.2.2 (aA l) k) (.g e0 ei0 (Vg.aW.Ie (Int.toNat ((aA l).length:Int)))) (.g e0 ei0 (ux (ba b).1.2.2.1 (ba b).1.2.2.2 (aA l) (ba b).1.2.2.1.length)) (IH root (ba b).1 (aA l)):=by
 subst hk;have:=as8 (e0:=e0) (ei0:=ei0) (root:=root) (n:=(ba b).1.1) (g:=(ba b).1.2.1) (Ģ hb hl h) _ (S! _);rw [am7] at this;exact this
def ah4 {root:B8}{l:List cv}{b:B8}{c:List CF}{z z':Z}(h0:¬(bif !decide ((root.length:Int)=32) then true else !bL l)=true)(h:(ba b).2=0)(hr:po c z z' (IH root (ba b).1 (aA l)))(h1:¬(bif (Vg.aW.run c z).2.1 then(0:Int) else 6)=0):
  []=(ep root l b).1/\(bif (Vg.aW.run c z).2.1 then(0:Int) else 6)=(ep root l b).2:=by
 have e:=hr.ok;cases hc:IH root (ba b).1 (aA l) with
 |true=>grind
 |false=>simp_all[ep,Q!]
def ħ {e0 ei0:Nat}{root:B8}{l:List cv}{b:B8}{c:List CF}{z:Z}(h0:¬(bif !decide ((root.length:Int)=32) then true else !bL l)=true)(h:(ba b).2=0)(hr:po c z (.g e0 ei0 (ux (ba b).1.2.2.1 (ba b).1.2.2.2 (aA l) (ba b).1.2.2.1.length)) (IH root (ba b).1 (aA l)))(h1:(bif (Vg.aW.run c z).2.1 then(0:Int) else 6)=0):
  kZ l (Vg.aW.rows (Vg.aW.run c z).2.2)=ep root l b:=by
 have e:=hr.ok;cases hc:IH root (ba b).1 (aA l) with
 |false=>grind
 |true=>
  rw [hr.to hc,ep,Q! h0,Q! w!,R! hc];rfl
end Go.S

end
section
namespace Go.S
def dl {p:List B8}{k:Nat}(h:(k:Int)<((p.drop (Int.toNat 1)).length:Int)):k+1<p.length:=by
 grind
end Go.S

end
section
namespace Go.S
end Go.S

end
section
namespace Go.S
def aBK:B8:=[119,97,105,110,32,104,97,121]
def ky:Vi:=([xK,aBK],[(0,2,[(xK,[0,1]),([119,97,105,110],[1])])])
abbrev ky0:(List B8×List aT)×Int:=cA (Vg.me B8) (Vg.me (Int×Int×List (B8×List Int))) [104,97,121]
theorem Mv:(bV (cA ky0.1.1 ky0.1.2 [119,97,105,110,32,104,97,121]).1.1 (cA ky0.1.1 ky0.1.2 [119,97,105,110,32,104,97,121]).1.2).1=ky:=by rfl
theorem JL:(abP ky.1 ky.2 eO).1.length<1099511627776/\0<(abP ky.1 ky.2 eO).1.length:=by decide+kernel
def aBL:ep (lC ky.1 ky.2).1 eO (abP ky.1 ky.2 eO).1=([0,1],0):=by decide+kernel
def aBM:(ep (lC ky.1 ky.2).1 eO ((abP ky.1 ky.2 eO).1.set ((abP ky.1 ky.2 eO).1.length-1) ((abP ky.1 ky.2 eO).1.getD ((abP ky.1 ky.2 eO).1.length-1) 0+1))).2≠0:=by decide+kernel
end Go.S

end
section
namespace Go.S
def anf(a:UInt8):UInt8.ofNat (Int.toNat (((a.toNat:Int)+1)%256))=a+1:=by
 apply UInt8.toNat.inj;rw [UInt8.toNat_add];simp only [UInt8.toNat_ofNat'];have:=a.toNat_lt;have e:(1:UInt8).toNat=1:=rfl;rw [e];omega
theorem ata {x:B8}(h:x=List.set (abP ky.1 ky.2 eO).1 (Int.toNat (((abP ky.1 ky.2 eO).1.length:Int)-1)) (UInt8.ofNat (Int.toNat (((((abP ky.1 ky.2 eO).1.getD (Int.toNat (((abP ky.1 ky.2 eO).1.length:Int)-1)) 0).toNat:Int)+1)%256)))):
  x.length<1099511627776/\(ep (lC ky.1 ky.2).1 eO x).2≠0:=by
 have e:Int.toNat (((abP ky.1 ky.2 eO).1.length:Int)-1)=(abP ky.1 ky.2 eO).1.length-1:=by omega
 rw [anf,e] at h;refine⟨by rw [h,n?];exact JL.1,?_⟩;rw [h];exact aBM
theorem ang {x:B8}(h:(ep (lC ky.1 ky.2).1 eO x).2≠0):
  (bif q9 (ep (lC ky.1 ky.2).1 eO (abP ky.1 ky.2 eO).1).1 [0,1] then bif decide ((ep (lC ky.1 ky.2).1 eO (abP ky.1 ky.2 eO).1).2=0) then !decide ((ep (lC ky.1 ky.2).1 eO x).2=0) else false else false)=true:=by
 rw [aBL];simp only [L? h];rfl
end Go.S

end
section
namespace Go.S
end Go.S

end
section
namespace Go.S
def aKc {docs:List B8}{l:List aT}(h:gC docs l=true):tj ((docs.length:Nat):Int) (root (leaves docs)) (cL docs l) (lC docs l).1=true:=by
 have e:ik ((docs.length:Nat):Int) (root (leaves docs)) (cL docs l)=lC docs l:=by
  unfold ik lC;rw [if_pos (Ya h),if_pos h]
 have e2:(lC docs l).2=0:=by unfold lC;rw [if_pos h]
 simp [tj,e,e2]
theorem aKd {docs:List B8}{l:List aT}(h:gC docs l=true):(lC docs l).1.length=32:=by
 unfold lC;rw [if_pos h];exact Pl _ _
end Go.S

end
section
namespace Go.S
def aGT {d:List cb}(h:aY d=true)(hp:d.length<=65000)(hd:∀t,(pc d t).length<=200)(t:B8):(ane (jO d t)).length<=1200:=by
 obtain⟨f1,f2,f3⟩:=VD (t:=t) h;have hlen:(leaves (gh d)).length=d.length+1:=by rw [VN,f3]
 have a1:=eN (bp d t+1);have a2:=C2 (avG h (i:=(bp d t+1).toNat) w!);have a3:=aht (ra (bf (kR d (bp d t+1).toNat)).1.1 (bf (kR d (bp d t+1).toNat)).1.2.1 (bf (kR d (bp d t+1).toNat)).1.2.2);have a4:=aIZ (Yc _ (leaves (gh d)) (bp d t+1) rfl (rU _));have a5:=ahg (l:=leaves (gh d)) (i:=bp d t+1) (t:=16) f1 w! w!
 have a6:(text (if jN d t then zN (pc d t) else [])).length<=411:=by
  grind[aht,ahJ,adr]
 simp [ane,jO,K!];omega
theorem aGU {docs:List B8}{l:List aT}{q:List cv}(h:gC docs l=true)(hq:bL q=true)(hd:docs.length<=40)(hl:l.length<=41):(abP docs l q).2=0:=by
 rw [aKa h hq];refine(aGS ?_).2;have ht:=ow hq;have R:=RI.of (tg.1 h).1
 have k8:∀x∈VM l (aA q),(aAz x x.length).length<=1200*16+9:=by
  intro x hx;obtain⟨s,hs,rfl⟩:=b?.1 hx;obtain⟨f1,f2,f3⟩:=PY h s hs;obtain⟨r1,r2,r3,r4⟩:=R.seg s hs;obtain⟨b1,b2,b3,b4,b5⟩:=qf r4;have e2:s.2.2=make docs s.1 s.2.1:=by rw [r3]
  have hlen:s.2.2.length<=65000:=by
   rw [e2,Bb];unfold cW;have:=qd (ve docs s.1 (s.2.1-s.1).toNat);have:=PL b5 s.1 (s.2.1-s.1).toNat;omega
  have hd:∀t,(pc s.2.2 t).length<=200:=by
   intro t;rw [aGj f1,e2,Fg (sZ r4)];have:=U5 docs s.1 t (s.2.1-s.1).toNat;omega
  have:=aDX ane 1200 (Od s.2.2 (aA q)) (λp hp=>by
   obtain⟨t,_,rfl⟩:=b?.1 hp;exact aGT f1 hlen hd t)
  grind[eN,Od,aA,aED,List.length_append,Nat.mul_le_mul_left]
 have:=aDX (λx=>aAz x x.length) _ _ k8;have hn:(VM l (aA q)).length=l.length:=by simp [VM]
 have a1:=aIY (Ya h);grind[Nat.mul_le_mul_left,aEy,aEs,List.length_append,List.length_singleton,List.take_length]
def aGV(l:List rA):(hx l).1.length<=40/\(hx l).2.length<=41:=by
 have:=pf l;have:=ahd l;grind [hx]
theorem aHX(l:List rA){q:List cv}(hq:bL q=true):(abP (hx l).1 (hx l).2 q).2=0:=aGU (aFU l) hq (aGV l).1 (aGV l).2
def aKe {docs:List B8}{l:List aT}{p q:List cv}(h:gC docs l=true)(hp:bL p=true)(hq:bL q=true)(he:(abP docs l p).2=0):
  ep (lC docs l).1 q (abP docs l p).1=if Dk (cL docs l) (VM l (aA p)) (aA q) l.length then kZ q (ux (cL docs l) (VM l (aA p)) (aA q) l.length) else([],6):=by
 obtain⟨_,_,h3⟩:=aFp h hp he;unfold ep;rw [h3];have e:((lC docs l).1.length:Int)=32:=by rw [aKd h];rfl
 simp only [e,hq,decide_true,Bool.not_true,L!,O?,w?,ne_eq,not_true,IH,aKc h,Bool.true_and,aDW h]
end Go.S

end
section
namespace Go.S
def aOP(l:List rA){q:List cv}(hq:bL q=true):(abP (hx l).1 (hx l).2 q).1.length<1099511627776:=by
 grind[aFp,aFU,aHX]
end Go.S

end
section
namespace Go.S
def aKf {b P R:B8}{v:Int}(hb:b=P++(num v++R))(h:0<=v)(h1:v<=4611686018427387904):af b (P.length:Int) 0=((b,(P.length:Int)+((num v).length:Int),0),v):=by
 have e:b.drop ((P.length:Int)).toNat=num v++R:=by simp_all
 grind[Bf,GQ]
theorem aFr(l:List Int)(k:Nat):gY l (k+1)=gY l k++num (l.getD k 0-fo l k-1):=by
 simp [gY,List.range_succ]
def aFV(l:List Int):∀n k,k+n=l.length->∃R,zN l=gY l k++R
 |0,k,h=>⟨[],by grind[zN]⟩
 |n+1,k,h=>by
  obtain⟨R,e⟩:=aFV l n (k+1) w!;grind[aFr,List.append_assoc]
def aGW {l:List Int}(h:bF l=true){k:Nat}(hk:k<l.length):fo l k<l.getD k 0/\l.getD k 0<1000:=by
 have:=List.all_eq_true.1 h k (List.mem_range.2 hk);grind[LI]
def aGX {l:List Int}(h:bF l=true):∀ {k:Nat},k<=l.length-> -1<=fo l k
 |0,_=>by simp [fo]
 |k+1,hk=>by
  have i:=aGX h (k:=k) w!;have g:=aGW h (k:=k) w!;grind[fo]
def aGY {l:List Int}(h:bF l=true):∀n k,k+n=l.length->Fu (zN l) n ((gY l k).length:Int) 0 (fo l k) (l.take k)=(l,0)
 |0,k,hk=>by
  have :k=l.length:=by omega
  subst this
  have e:done (zN l) ((gY l l.length).length:Int) 0=0:=by
   have :(gY l l.length).length=(zN l).length:=rfl;grind[done,inside]
  rw [Fu,R! e,List.take_length]
 |n+1,k,hk=>by
  obtain⟨R,e⟩:=aFV l n (k+1) w!;rw [aFr,Y!] at e;have g:=aGW h (k:=k) w!;have p:=aGX h (k:=k) w!;have r:=aKf e w! w!;rw [Fu,r,Q! z!,Q! w!];have i:=aGY h n (k+1) w!
  have e1:fo l k+(l.getD k 0-fo l k-1+1)=fo l (k+1):=by
   have :fo l (k+1)=l.getD k 0:=by simp [fo]
   omega
  have e2:l.take k++[fo l (k+1)]=l.take (k+1):=by
   have :fo l (k+1)=l.getD k 0:=by simp [fo]
   rw [this,ax _ k 0 w!]
  have e3:((gY l k).length:Int)+((num (l.getD k 0-fo l k-1)).length:Int)=((gY l (k+1)).length:Int):=by rw [aFr,K!];omega
  simp only [e1,e2,e3];exact i
def aHq {l:List Int}(h:bF l=true):JI (zN l)=(l,0):=by
 obtain⟨R,e⟩:=aFV l l.length 0 w!;have hl:=mT h;have e0:gY l 0=num (l.length:Int):=by simp [gY]
 have r:Sq (zN l)=((zN l,((num (l.length:Int)).length:Int),0),(l.length:Int)):=by
  have:=aKf (b:=zN l) (P:=[]) (v:=(l.length:Int)) (R:=R) x! w! w!;grind[Sq]
 have i:=aGY h l.length 0 w!;rw [JI,r,if_neg z!,if_neg w!];grind[Int.toNat_natCast,fo]
end Go.S

end
section
namespace Go.S
def aKg {d:List cb}(h:aY d=true){i:Nat}(hi:i<=d.length):(bf (kR d i)).1=(if i=0 then [] else fh d (i-1),if i<d.length then fh d i else [],A8 (if i=0 then [] else iZ d (i-1))):=by
 rcases Fa h (k:=i) with q|q
 . have e:kR d i=ra (if i=0 then [] else fh d (i-1)) (if i<d.length then fh d i else []) (A8 (if i=0 then [] else iZ d (i-1))):=rfl;grind[agK]
 omega
def aHr {l:List B8}(hl:l.length<=1099511627776)(hd:cY l=true){i:Int}(h0:0<=i)(h1:i<l.length)(h32:(l.getD i.toNat []).length=32):
  fc (l.getD i.toNat []) i l.length (path l i)=0/\mV (l.getD i.toNat []) i l.length (path l i)=root l:=by
 have e:fc (l.getD i.toNat []) i l.length (path l i)=0:=by
  unfold fc;rw [if_pos ⟨w!,w!,w!,h0,h1⟩,if_pos ⟨by rw [adi _ l i rfl];rfl,Yc _ l i rfl hd⟩]
 refine⟨e,?_⟩;unfold mV;rw [if_pos e];exact aGN _ l i rfl h0 h1
theorem aKh(d:List cb){i:Int}(h0:0<=i)(h:i<=d.length):(leaves (gh d)).getD i.toNat []=leaf (kR d i.toNat):=by
 have e:=adl d h0 h;have hl:(gh d).length=d.length+1:=by simp [gh,gO]
 have iU:i.toNat<(gh d).length:=by omega
 unfold leaves;rw [List.getD_eq_getElem?_getD,List.getElem?_map,List.getElem?_eq_getElem iU];rw [List.getD_eq_getElem?_getD,List.getElem?_eq_getElem iU] at e;simpa using congrArg leaf e
theorem aLr {d:List cb}(h:aY d=true)(hp:d.length<=1048576)(t:B8):tUp (rT d) ((gh d).length:Int) (jO d t)=true:=by
 obtain⟨f1,f2,f3⟩:=VD (t:=t) h;have hi:(bp d t+1).toNat<=d.length:=by omega
 have hlen:(leaves (gh d)).length=d.length+1:=by rw [VN,f3]
 have e:=aKg h hi;have hk:=avG h hi
 have hB:ahV (jO d t).2.1 (jO d t).2.2.1 (jO d t).2.2.2.1=leaf (kR d (bp d t+1).toNat):=by
  unfold ahV jO;rw [e];rfl
 have c:=aHr (l:=leaves (gh d)) w! (rU _) (i:=bp d t+1) f1 w! (by rw [aKh d f1 w!];exact Pl _ _);rw [aKh d f1 w!,hlen,<-f3] at c;unfold tUp;rw [hB];simp only [Bool.and_eq_true,decide_eq_true_eq];exact⟨hk,c.1,c.2⟩
def aKi {d:List cb}(h:aY d=true){t:B8}(hn:jN d t=false)(ht:t≠ []):
  Op.bytesLess (if(bp d t+1).toNat=0 then [] else fh d ((bp d t+1).toNat-1)) t=true/\((bp d t+1).toNat<d.length->Op.bytesLess t (fh d (bp d t+1).toNat)=true):=by
 have hf:bp d t=dF d t d.length:=(agu h).symm;rcases aDU (d:=d) (t:=t) d.length with⟨h1,h2⟩|⟨q,h1,h2,h3,h4⟩
 . have e:(bp d t+1).toNat=0:=by omega
   rw [e];refine⟨by rw [R! rfl];exact aLb ht,λhl=>?_⟩;have:=h2 0 hl;rw [U3] at this;simpa using this
 . have e:(bp d t+1).toNat=q+1:=by omega
   rw [e];refine⟨?_,λhl=>?_⟩
   . rw [Q! w!];show Op.bytesLess (fh d q) t=true
     have dU:fh d q≠t:=λhe=>by
      simp only [jN,Bool.and_eq_false_iff,j?] at hn;rcases hn with g|g
      . omega
      . exact g (by rw [show(bp d t).toNat=q by omega];exact he)
     simp only [Je,e?,J!] at h3;rcases h3 with g|g
     . exact g
     . exact absurd g dU
   . have:=h4 (q+1) w! hl;rw [U3] at this;simpa using this
def aLs:(JI []).2≠0:=by decide
theorem aKj {d:List cb}(h:aY d=true){t:B8}(ht:isTerm t=true):as6 t (jO d t)=(pc d t,0):=by
 obtain⟨f1,f2,f3⟩:=VD (t:=t) h;have hi:(bp d t+1).toNat<=d.length:=by omega
 have e:=aKg h hi;unfold as6;cases hb:jN d t with
 |true=>
  have hd:=Jy hb;have e6:(jO d t).2.2.2.2.2=zN (pc d t):=by simp [jO,hb]
  have e2:(jO d t).2.1=t:=by
   unfold jO;rw [e];show(if(bp d t+1).toNat=0 then [] else fh d ((bp d t+1).toNat-1))=t;rw [if_neg w!,show(bp d t+1).toNat-1=(bp d t).toNat by omega];simp only [jN,Bool.and_eq_true,decide_eq_true_eq] at hb;exact hb.2
  have e4:(jO d t).2.2.2.1=lB 2 (zN (pc d t)):=by
   unfold jO;rw [e];show A8 (if(bp d t+1).toNat=0 then [] else iZ d ((bp d t+1).toNat-1))=_;rw [if_neg w!,show(bp d t+1).toNat-1=(bp d t).toNat by omega];unfold A8 pc;rw [if_pos hb]
  rw [e6,e2,e4,aHq (adr h t)];rw [R! (by simp [aBB])]
 |false=>
  have e6:(jO d t).2.2.2.2.2=[]:=by simp [jO,hb]
  obtain⟨g1,g2⟩:=aKi h hb (aJH ht)
  have e2:(jO d t).2.1=if(bp d t+1).toNat=0 then [] else fh d ((bp d t+1).toNat-1):=by
   unfold jO;rw [e]
  have e3:(jO d t).2.2.1=if(bp d t+1).toNat<d.length then fh d (bp d t+1).toNat else []:=by
   unfold jO;rw [e]
  rw [e6,Q! (by simp [aBB,aLs]),R! ?_]
  . simp [pc,hb]
  . unfold aBC;rw [e2,g1,e3];by_cases hl:(bp d t+1).toNat<d.length
    . rw [R! hl,g2 hl];rfl
    . rw [Q! hl];simp
theorem aKk {d:List cb}(h:aY d=true)(hp:d.length<=1048576){t:B8}(ht:isTerm t=true):IG (rT d) ((gh d).length:Int) t (jO d t)=(pc d t,0):=by
 obtain⟨f1,f2,f3⟩:=VD (t:=t) h;have hr:(rT d).length=32:=acG _ _ (S! _) (rU _)
 have ha:aBD (rT d) ((gh d).length:Int) t=true:=by
  simp only [aBD,B!,J!];exact⟨w!,w!,w!,ht⟩
 unfold IG;rw [if_pos ha,if_pos (aLr h hp t),aKj h ht]
end Go.S

end
section
namespace Go.S
def aDY(docs T:List B8):List (List Int):=T.map λt=>dn docs 0 t docs.length
theorem aFs {α:Type}{l:List α}{i:Nat}(h:i<l.length)(x:α):l.getD i x=l[i]:=by
 grind
theorem aHY {docs:List B8}{l:List aT}(h:gC docs l=true){i:Nat}(hi:i<l.length):G2 (cL docs l) i=Fe l[i]:=by
 have e:cL docs l=l.map Fe:=by unfold cL;rw [kY (tg.1 h).1]
 unfold G2;rw [e,aFs (by simpa using hi),List.getElem_map]
theorem aLt {l:List aT}{T:List B8}{i j:Nat}(hi:i<l.length)(hj:j<T.length):P3 (VM l T) (i:Int) (j:Int)=jO l[i].2.2 (T.getD j []):=by
 have e1:(VM l T).getD i []=Od l[i].2.2 T:=by
  unfold VM;rw [aFs (by simpa using hi),List.getElem_map]
 have e2:(Od l[i].2.2 T).getD j VC=jO l[i].2.2 (T.getD j []):=by
  unfold Od;rw [aFs (by simpa using hj),List.getElem_map,aFs hj]
 grind[P3,pfD,iO,Int.toNat_natCast]
theorem aHZ {docs:List B8}{l:List aT}(h:gC docs l=true){T:List B8}(hT:∀t∈T,isTerm t=true){i j:Nat}(hi:i<l.length)(hj:j<T.length):
  wA (G2 (cL docs l) i) (T.getD j []) (VM l T) i j=(pc l[i].2.2 (T.getD j []),0):=by
 have ht:=hT _ (bA T j [] hj);obtain⟨f1,f2,f3⟩:=PY h _ (List.getElem_mem hi);unfold wA;rw [aHY h hi,aLt hi hj];exact aKk f1 f2 ht
theorem aKl {docs:List B8}{l:List aT}(h:gC docs l=true){i:Nat}(hi:i<l.length)(t:B8):IE (pc l[i].2.2 t) l[i].1 l[i].2.1=true:=by
 have R:=RI.of (tg.1 h).1;obtain⟨r1,r2,r3,r4⟩:=R.seg _ (List.getElem_mem hi);grind[make,qf,aFO,sZ,IE,dn]
def aLu {docs:List B8}{l:List aT}(h:gC docs l=true){T:List B8}(hT:∀t∈T,isTerm t=true):Dk (cL docs l) (VM l T) T l.length=true:=by
 unfold Dk;rw [List.all_eq_true];intro i hi;have hi:=List.mem_range.1 hi;rw [Bool.and_eq_true];refine⟨?_,?_⟩
 . grind[pn,decide_eq_true,Int.toNat_natCast,aFs,VM,Od]
 . unfold xN;rw [List.all_eq_true];intro j hj;have hj:=List.mem_range.1 hj;unfold rC;rw [aHZ h hT hi hj,aHY h hi];exact aKl h hi _
def aH0 {docs:List B8}{l:List aT}(h:gC docs l=true){T:List B8}(hT:∀t∈T,isTerm t=true){j:Nat}(hj:j<T.length):∀i,i<=l.length->
  vn (cL docs l) (VM l T) T j i=(l.take i).flatMap λs=>pc s.2.2 (T.getD j [])
 |0,_=>by rfl
 |i+1,hi=>by
  have ih:=aH0 h hT hj i w!;rw [vn,ih,aHZ h hT w! hj,List.take_succ_eq_append_getElem w!,List.flatMap_append];simp [P5]
def aKm {docs:List B8}{l:List aT}(h:gC docs l=true)(t:B8):(l.flatMap λs=>pc s.2.2 t)=dn docs 0 t docs.length:=by
 have R:=RI.of (tg.1 h).1;have h1:=Aa (t:=t) R.row;have hc:cz l=(docs.length:Int):=by grind[IA,tg]
 rw [<-R.eq,<-R.Vj,hc,show(((docs.length:Nat):Int)-0).toNat=docs.length by omega] at h1;rw [<-h1];unfold GK;rw [List.flatMap_def,List.flatMap_def];congr 1
 refine W? λs hs=>?_;exact aGj (agW (R.seg s hs).1) t
def aNk {docs:List B8}{l:List aT}(h:gC docs l=true){T:List B8}(hT:∀t∈T,isTerm t=true):ux (cL docs l) (VM l T) T l.length=aDY docs T:=by
 unfold ux aDY;refine List.ext_getElem z! λj h1 h2=>?_;have hj:j<T.length:=by grind
 simp;rw [aH0 h hT hj _ (S! _),List.take_length,aKm h,aFs hj]
theorem aI0 {docs:List B8}{l:List aT}(h:gC docs l=true)(t:B8):bF (dn docs 0 t docs.length)=true:=by
 have hf:=(RI.of (tg.1 h).1).fair
 have hp:nE docs 0 docs.length:=by
  simp [eb,Bool.and_eq_true,List.all_eq_true,decide_eq_true_eq] at hf;refine⟨w!,w!,w!,w!,λd hd=>?_⟩;grind
 have e:=aFO hp t;grind[adr,z6]
def aKn(docs:List B8)(q:List cv):List Int:=Mj q (aA q) (aDY docs (aA q))
theorem aGZ {docs:List B8}{l:List aT}{q:List cv}(h:gC docs l=true)(hq:bL q=true)(he:(abP docs l q).2=0):
  ep (lC docs l).1 q (abP docs l q).1=(aKn docs q,0):=by
 have hT:=VG hq;rw [aKe h hq hq he,R! (aLu h hT),aNk h hT]
 have e:lN q (aDY docs (aA q))=true:=by
  simp [lN,hq,Bool.true_and,Bool.and_eq_true,decide_eq_true_eq,List.all_eq_true];refine⟨by simp [aDY],λx hx=>?_⟩;obtain⟨t,_,rfl⟩:=List.mem_map.1 hx;grind[aI0]
 unfold kZ;rw [if_pos e];rfl
end Go.S

end
section
namespace Go.S
theorem aKo(l m:List rA){k:Nat}(h:aDN l k)(h1:¬(k:Int)<(eG l).1.length):
  (bV (abH l m k).1 (abH l m k).2).1.1=(eG l).1/\gC (eG l).1 (bV (abH l m k).1 (abH l m k).2).1.2=true/\(bV (abH l m k).1 (abH l m k).2).1.2.length<=41:=by
 have h40:=ahd l;grind[aDN,aGM,eG,abH,List.take_length,Vx,tg]
def aOR(l:List rA){q:List cv}(hq:bL q=true):(abP (hx l).1 (hx l).2 q).2=0/\ep (lC (hx l).1 (hx l).2).1 q (abP (hx l).1 (hx l).2 q).1=(aKn (eG l).1 q,0):=by
 grind[aHX,aGZ,aFU,aKb]
def aMn(l m:List rA){q:List cv}{k:Nat}(hq:bL q=true)(h:aDN l k)(h1:¬(k:Int)<(eG l).1.length):
  (abP (eG l).1 (bV (abH l m k).1 (abH l m k).2).1.2 q).2=0/\(abP (eG l).1 (bV (abH l m k).1 (abH l m k).2).1.2 q).1.length<1099511627776/\
  ep (lC (eG l).1 (bV (abH l m k).1 (abH l m k).2).1.2).1 q (abP (eG l).1 (bV (abH l m k).1 (abH l m k).2).1.2 q).1=(aKn (eG l).1 q,0):=by
 grind[aKo,aGU,ahd,aFp,aGZ]
end Go.S

end
section
namespace Go.S
end Go.S

end
section
namespace Go.S
def aIl(l:List cv):Prop:=l.length<=5864062014805
theorem aKq {l:List cv}(h:small l):aIl l:=by unfold small at h;unfold aIl;omega
end Go.S

end
section
namespace Go.Vg
open Go
variable [HP]
def Mw {P:Program}{W:World}:∀ {laid:List (String×DataW Unit)} {ps:List MemPlace} {name:String} {d:DataW Unit},DataW.LaidVars P W laid ps->(name,d)∈laid->
  ∃(g:Nat) (t:TypeId) (cs:Array Value) (fuel:Nat) (p:List MemPlace),P.globalNamed name=some g/\(P.globals[g]?).map (·.type)=some t/\W.var? P name=some cs/\DataW.trod (λ_=>()) P W 0 (λ_=>true) false fuel t cs.toList=some (d,p)
 |[],_,_,_,_,hm=>by grind
 |x::rest,ps,name,d,h,hm=>by
  obtain⟨g',t',cs,fuel,p,q,vU,ht',aBN,hd,hr,hps⟩:=h;rcases N!.1 hm with rfl|hm
  . exact⟨g',t',cs,fuel,p,vU,ht',aBN,hd⟩
  . exact Mw hr hm
def Mx {H:Type}{enc:TypeId×Value->H}{P:Program}{w:World}{base:Nat}{sp:Nat->Bool}{held:Bool}{fuel:Nat}{t e:TypeId}{n m:Nat}{k:IntKind}{cs:List Value}{zss:List (List Int)}{p:List MemPlace}{fs:Array Field}
  (ht:P.underlying t=some (.array n e)) (he:P.underlying e=some (.struct fs)) (RA:P.cellsOf e=m) (hct:P.cellsOf t=n*m) (hfs:fs.size=m) (hf:∀(i:Nat) (f:Field),fs[i]? =some f->f.offset=i/\P.underlying f.type=some (.int k)/\P.cellsOf f.type=1)
  (hz:∀r∈zss,r.length=m) (h:DataW.trod enc P w base sp held fuel t cs=some (.agg (zss.map λr=>.agg (r.map λz=>.lit (.int k z))),p)):cs.length=n*m/\zss.length=n/\
    ∀i j,i<n->j<m->cs[i*m+j]? =some (.int k ((zss.getD i []).getD j 0)):=by
 cases fuel with
 |zero=>simp [DataW.trod] at h
 |succ fuel=>
  simp only [DataW.trod,ht,RA,hct] at h;split at h
  . rename_i hl;obtain⟨xs,hm,hx⟩:=Option.map_eq_some_iff.1 h
    have hxs:xs.map (·.1)=zss.map λr=>(DataW.agg (r.map λz=>.lit (.int k z)):DataW H):=by
     have:=congrArg Prod.fst hx;simpa using this
    have Ja:xs.length=n:=by simpa using Lib.mapM_length hm
    have hzl:zss.length=n:=by
     have:=congrArg List.length hxs;simp at this;omega
    refine⟨hl,hzl,λi j hi hj=>?_⟩;obtain⟨b,hb,hfb⟩:=Lib.mapM_at hm i i (by simp [hi])
    have eu:b.1=DataW.agg ((zss.getD i []).map λz=>.lit (.int k z)):=by
     have h2:(xs.map (·.1))[i]? =some b.1:=by simp [hb]
     rw [hxs] at h2;rw [E?,D! w!] at h2;simp at h2;rw [<-h2,F!,D! w!];rfl
    obtain⟨ys,n',_,hy,_,hyl,hyf⟩:=DataW.trod_struct he hfb
    have hyr:ys.map (·.1)=(zss.getD i []).map λz=>(DataW.lit (.int k z):DataW H):=by
     rw [hy] at eu;simpa using eu
    have hrl:(zss.getD i []).length=m:=hz _ (by rw [F!,D! w!];exact List.getElem_mem _);have hjf:j<fs.size:=by omega
    have hfj:=hyf j fs[j] (Array.getElem?_eq_getElem hjf);obtain⟨f1,f2,f3⟩:=hf j fs[j] (Array.getElem?_eq_getElem hjf);rw [f1,f3] at hfj;have hyj:j<ys.length:=by omega
    rw [D! hyj] at hfj;obtain⟨z,hc,hzv,_⟩:=DataW.trod_int f2 hfj
    have h1:cs[i*m+j]? =some (.int k z):=by
     have:=congrArg (·[0]?) hc;simpa [hj,Nat.add_comm] using this
    have h3:(ys.map (·.1))[j]? =some (DataW.lit (.int k z)):=by rw [E?,D! hyj,hzv];rfl
    rw [hyr,E?,D! w!] at h3;simp only [Option.map_some,A!,DataW.lit.injEq,Lit.int.injEq,true_and] at h3;rw [h1,F!,D! w!];simp only [Option.getD_some,h3]
  grind
def Ī {P:Program}{W:World}{name:String}{g:Nat}{cs:Array Value}(hg:P.globalNamed name=some g)(h:W.var? P name=some cs)(hn:0<cs.size):g<W.heap.size:=by
 have h1:=World.var?_cell hg h 0;grind[Array.getElem?_eq_getElem,World.cell?,Array.getElem?_eq_some_iff]
def nQ(k:IntKind):(ts:List Ty)->List Int->Row ts->Prop
 |[],[],_=>True
 |.int k'::ts,z::zs,x=>k'=k/\DI.toInt k' (Row.hd (t:=.int k') (ts:=ts) x)=z/\lo k<=z/\z<=hi k/\nQ k ts zs (Row.tl x)
 |_,_,_=>False
def My {w:World}{A:Nat->Prop}{k:IntKind}:∀(ts:List Ty) (zs:List Int) (x:Row ts),nQ k ts zs x->br w A ts (zs.map (Value.int k)) x
 |[],[],x,_=>by rfl
 |.int k'::ts,z::zs,x,h=>by
   obtain⟨rfl,h2,h3,h4,h5⟩:=h;refine⟨_,_,rfl,?_,My ts zs _ h5⟩;simp [Rd];rw [h2];exact⟨rfl,h3,h4⟩
 |.bool::_,_,_,h|.str::_,_,_,h|.slice _::_,_,_,h|[],_::_,_,h|.int _::_,[],_,h=>by grind[nQ]
def vo(k:IntKind)(ts:List Ty):List (List Int)->List (Row ts)->Prop
 |[],[]=>True
 |zs::r,x::l=>nQ k ts zs x/\vo k ts r l
 |_,_=>False
theorem G6 {w:World}{A:Nat->Prop}{k:IntKind}{ts:List Ty}:∀(zss:List (List Int)) (l:List (Row ts)),vo k ts zss l->dc (br w A ts) (zss.flatten.map (Value.int k)) l
 |[],[],_=>by rfl
 |zs::r,x::l,h=>by
  exact⟨zs.map (Value.int k),r.flatten.map (Value.int k),z!,My ts zs x h.1,G6 r l h.2⟩
 |[],_::_,h|_::_,[],h=>by grind[vo]
def IJ {m:Nat}:∀(zss:List (List Int)),(∀r∈zss,r.length=m)->∀q (z:Int),zss.flatten[q]? =some z->∃i j,i<zss.length/\j<m/\q=i*m+j/\(zss.getD i []).getD j 0=z
 |[],_,q,z,h=>by grind
 |r::rs,hz,q,z,h=>by
  have hr:r.length=m:=hz r z!;by_cases hq:q<m
  . refine⟨0,q,z!,hq,z!,?_⟩;grind
  . rw [List.flatten_cons,List.getElem?_append_right w!,hr] at h;obtain⟨i,j,h1,h2,h3,h4⟩:=IJ rs (λr oH=>hz r x!) (q-m) z h;refine⟨i+1,j,x!,h2,?_,x!⟩;grind
def Mz {P:Program}{W:World}{name:String}{g:Nat}{t e:TypeId}{n m:Nat}{k:IntKind}{fs:Array Field}{zss:List (List Int)}{row:List Ty}{l:List (Row row)}{laid:List (String×DataW Unit)}
  (hm:laidMet P laid W) (au:(name,DataW.agg (zss.map λr=>.agg (r.map λz=>.lit (.int k z))))∈laid) (hg:P.globalNamed name=some g) (iv:(P.globals[g]?).map (·.type)=some t)
  (ht:P.underlying t=some (.array n e)) (he:P.underlying e=some (.struct fs)) (RA:P.cellsOf e=m) (hct:P.cellsOf t=n*m) (hfs:fs.size=m) (hf:∀(i:Nat) (f:Field),fs[i]? =some f->f.offset=i/\P.underlying f.type=some (.int k)/\P.cellsOf f.type=1)
  (hz:∀r∈zss,r.length=m) (lL:0<n*m) (hl:vo k row zss l):na W (λb=>b<W.heap.size) g ⟨row,l⟩:=by
 obtain⟨ps,NQ,_⟩:=hm;obtain⟨g',t',cs,fuel,p,h1,h2,h3,h4⟩:=Mw NQ au;obtain rfl:=X? (hg.symm.trans h1);obtain rfl:=X? (iv.symm.trans h2);obtain⟨q1,q2,q3⟩:=Mx ht he RA hct hfs hf hz h4;have aEV:cs.size=n*m:=by omega
 refine⟨Ī hg h3 w!,zss.flatten.map (Value.int k),λq v hq=>?_,G6 zss l hl⟩;rw [E?] at hq;obtain⟨z,hz1,rfl⟩:=Option.map_eq_some_iff.1 hq;obtain⟨i,j,hi,hj,rfl,hv⟩:=IJ zss hz q z hz1;rw [q?,World.var?_cell hg h3,<-U?,q3 i j w! hj,hv]
theorem FA:∀zs:List Int,(zs.map λz=>[z]).flatten=zs
 |[]=>rfl
 |z::zs=>by simp only [M?,List.flatten_cons,FA zs];rfl
def MA {P:Program}{W:World}{name:String}{g:Nat}{t e:TypeId}{n:Nat}{k:IntKind}{zs:List Int}{row:List Ty}{l:List (Row row)}{laid:List (String×DataW Unit)}
  (hm:laidMet P laid W) (au:(name,DataW.agg (zs.map λz=>.lit (.int k z)))∈laid) (hg:P.globalNamed name=some g) (iv:(P.globals[g]?).map (·.type)=some t)
  (ht:P.underlying t=some (.array n e)) (he:P.underlying e=some (.int k)) (RA:P.cellsOf e=1) (hct:P.cellsOf t=n) (lL:0<zs.length) (hl:vo k row (zs.map λz=>[z]) l):na W (λb=>b<W.heap.size) g ⟨row,l⟩:=by
 obtain⟨ps,NQ,_⟩:=hm;obtain⟨g',t',cs,fuel,p,h1,h2,h3,h4⟩:=Mw NQ au;obtain rfl:=X? (hg.symm.trans h1);obtain rfl:=X? (iv.symm.trans h2);have hc:=Lib.cells_of_tab ht he RA hct h4
 have cZ:0<cs.size:=by
  grind
 refine⟨Ī hg h3 cZ,zs.map (Value.int k),λq v hq=>?_,?_⟩
 . rw [q?,World.var?_cell hg h3,<-U?,hc];omega
 grind[G6,FA]
end Go.Vg

end
section
namespace Go.Vg
open Go Go.ChangeShapes Go.WideShapes Go.ChangeAt Go.RowKit
variable [HP]
section
variable {P:Program} {T:bY} {H:Type} {enc:TypeId×Value->H}
end
end Go.Vg

end
section
namespace Go.Proofs
open Go Go.RowKit Go.ChangeShapes Go.Vg
set_option maxHeartbeats 1000000 in
def Tryz.avX:Û Tryz.prog 193 194:=by
 refine⟨λargs w=>by kernel_rfl,λw y p=>?_⟩;go_enter Tryz.func193,Tryz.ntmps193
 go_wp2
 go_ret
 exact⟨_,rfl,rfl⟩
set_option maxHeartbeats 1000000 in
def Tryz.avY:Û Tryz.prog 230 231:=by
 refine⟨λargs w=>by kernel_rfl,λw y p=>?_⟩;go_enter Tryz.func230,Tryz.ntmps230
 go_wp2
 go_ret
 exact⟨_,rfl,rfl⟩
def Tryz.mkf(f:Nat):Option Nat:=bif Nat.beq f 193 then some 194 else bif Nat.beq f 230 then some 231 else none
theorem Tryz.QB(P:Program)(hP:P=Tryz.prog)(f g:Nat)(h:Tryz.mkf f=some g):Û P f g:=by
 subst hP;unfold Tryz.mkf at h;cases h1:Nat.beq f 193 with
 |true=>
  rw [h1] at h;cases C! h1;cases h;exact Tryz.avX
 |false=>
  cases h2:Nat.beq f 230 with
  |true=>
   rw [h1,h2] at h;cases C! h2;cases h;exact Tryz.avY
  |false=>rw [h1,h2] at h;cases h
end Go.Proofs

end
section
namespace Go.Vg
open Go.Proofs
open Go
instance :HP:=⟨λP=>P=Tryz.prog,Tryz.mkf,Tryz.QB⟩
def eA:Vg.bY:=(.node (.node (.node (.node (.node (.node (.node .leaf 3 ⟨.int .i64,1,8, .int .i64 (0)⟩ .leaf) 4 ⟨.bool,1,1, .bool false⟩ .leaf) 5 ⟨.int .u8,1,1, .int .u8 (0)⟩ (.node (.node .leaf 9 ⟨.string,1,16, .string ⟨#[]⟩⟩ .leaf) 22 ⟨.slice 90,1,24, .slice none 0 0⟩ .leaf)) 23 ⟨.slice 5,1,24, .slice none 0 0⟩ (.node (.node (.node .leaf 26 ⟨.func #[] #[4] false,1,8, .nilFunc⟩ .leaf) 27 ⟨.slice 3,1,24, .slice none 0 0⟩ .leaf) 28 ⟨.int .i64,1,8, .int .i64 (0)⟩ (.node (.node .leaf 33 ⟨.slice 122,1,24, .slice none 0 0⟩ .leaf) 37 ⟨.slice 48,1,24, .slice none 0 0⟩ .leaf))) 39 ⟨.slice 23,1,24, .slice none 0 0⟩ (.node (.node (.node (.node .leaf 40 ⟨.slice 128,1,24, .slice none 0 0⟩ .leaf) 42 ⟨.struct #[⟨ "Docs",39,0,false,"","",0⟩,⟨ "Segs",40,1,false,"","",24⟩],2,48, .agg #[.slice none 0 0, .slice none 0 0]⟩ .leaf) 48 ⟨.struct #[⟨ "Kind",3,0,false,"","",0⟩,⟨ "I",3,1,false,"","",8⟩,⟨ "Many",3,2,false,"","",16⟩,⟨ "Doc",23,3,false,"","",24⟩],4,48, .agg #[.int .i64 (0), .int .i64 (0), .int .i64 (0), .slice none 0 0]⟩ (.node (.node .leaf 56 ⟨.slice 9,1,24, .slice none 0 0⟩ .leaf) 69 ⟨.slice 100,1,24, .slice none 0 0⟩ .leaf)) 71 ⟨.struct #[⟨ "Size",3,0,false,"","",0⟩,⟨ "Log",9,1,false,"","",8⟩,⟨ "Segs",69,2,false,"","",24⟩],3,48, .agg #[.int .i64 (0), .string ⟨#[]⟩, .slice none 0 0]⟩ (.node (.node (.node .leaf 72 ⟨.slice 101,1,24, .slice none 0 0⟩ .leaf) 74 ⟨.struct #[⟨ "Head",71,0,false,"","",0⟩,⟨ "Proofs",72,3,false,"","",48⟩],4,72, .agg #[.int .i64 (0), .string ⟨#[]⟩, .slice none 0 0, .slice none 0 0]⟩ .leaf) 78 ⟨.struct #[⟨ "Head",71,0,false,"","",0⟩,⟨ "At",3,3,false,"","",48⟩,⟨ "Doc",23,4,false,"","",56⟩,⟨ "Path",56,5,false,"","",80⟩],6,104, .agg #[.int .i64 (0), .string ⟨#[]⟩, .slice none 0 0, .int .i64 (0), .slice none 0 0, .slice none 0 0]⟩ (.node .leaf 82 ⟨.struct #[⟨ "Old",71,0,false,"","",0⟩,⟨ "New",71,3,false,"","",48⟩,⟨ "Proof",56,6,false,"","",96⟩],7,120, .agg #[.int .i64 (0), .string ⟨#[]⟩, .slice none 0 0, .int .i64 (0), .string ⟨#[]⟩, .slice none 0 0, .slice none 0 0]⟩ .leaf)))) 90 ⟨.struct #[⟨ "Kind",3,0,false,"","",0⟩,⟨ "Term",9,1,false,"","",8⟩],2,24, .agg #[.int .i64 (0), .string ⟨#[]⟩]⟩ (.node (.node (.node (.node (.node .leaf 94 ⟨.slice 27,1,24, .slice none 0 0⟩ .leaf) 96 ⟨.slice 26,1,24, .slice none 0 0⟩ .leaf) 98 ⟨.struct #[⟨ "From",3,0,false,"","",0⟩,⟨ "To",3,1,false,"","",8⟩],2,16, .agg #[.int .i64 (0), .int .i64 (0)]⟩ (.node (.node .leaf 100 ⟨.struct #[⟨ "Span",98,0,false,"","",0⟩,⟨ "Links",3,2,false,"","",16⟩,⟨ "Root",9,3,false,"","",24⟩],4,40, .agg #[.int .i64 (0), .int .i64 (0), .int .i64 (0), .string ⟨#[]⟩]⟩ .leaf) 101 ⟨.slice 106,1,24, .slice none 0 0⟩ .leaf)) 104 ⟨.struct #[⟨ "Term",9,0,false,"","",0⟩,⟨ "Next",9,1,false,"","",16⟩,⟨ "Posts",9,2,false,"","",32⟩],3,48, .agg #[.string ⟨#[]⟩, .string ⟨#[]⟩, .string ⟨#[]⟩]⟩ (.node (.node (.node .leaf 106 ⟨.struct #[⟨ "At",3,0,false,"","",0⟩,⟨ "Link",104,1,false,"","",8⟩,⟨ "Path",56,4,false,"","",56⟩,⟨ "Docs",23,5,false,"","",80⟩],6,104, .agg #[.int .i64 (0), .string ⟨#[]⟩, .string ⟨#[]⟩, .string ⟨#[]⟩, .slice none 0 0, .slice none 0 0]⟩ .leaf) 110 ⟨.slice 219,1,24, .slice none 0 0⟩ .leaf) 112 ⟨.struct #[⟨ "Size",3,0,false,"","",0⟩,⟨ "Log",9,1,false,"","",8⟩,⟨ "Segs",110,2,false,"","",24⟩],3,48, .agg #[.int .i64 (0), .string ⟨#[]⟩, .slice none 0 0]⟩ (.node .leaf 113 ⟨.slice 208,1,24, .slice none 0 0⟩ .leaf))) 115 ⟨.struct #[⟨ "Head",112,0,false,"","",0⟩,⟨ "Proofs",113,3,false,"","",48⟩],4,72, .agg #[.int .i64 (0), .string ⟨#[]⟩, .slice none 0 0, .slice none 0 0]⟩ (.node (.node (.node (.node .leaf 122 ⟨.struct #[⟨ "Kind",3,0,false,"","",0⟩,⟨ "Term",9,1,false,"","",8⟩],2,24, .agg #[.int .i64 (0), .string ⟨#[]⟩]⟩ .leaf) 123 ⟨.func #[9] #[4] false,1,8, .nilFunc⟩ .leaf) 126 ⟨.slice 228,1,24, .slice none 0 0⟩ (.node (.node .leaf 128 ⟨.struct #[⟨ "Span",98,0,false,"","",0⟩,⟨ "Dict",126,2,false,"","",16⟩],3,40, .agg #[.int .i64 (0), .int .i64 (0), .slice none 0 0]⟩ .leaf) 138 ⟨.func #[9] #[] false,1,8, .nilFunc⟩ .leaf)) 146 ⟨.struct #[⟨ "Head",112,0,false,"","",0⟩,⟨ "At",3,3,false,"","",48⟩,⟨ "Doc",23,4,false,"","",56⟩,⟨ "Path",56,5,false,"","",80⟩],6,104, .agg #[.int .i64 (0), .string ⟨#[]⟩, .slice none 0 0, .int .i64 (0), .slice none 0 0, .slice none 0 0]⟩ (.node (.node (.node .leaf 153 ⟨.struct #[⟨ "Old",112,0,false,"","",0⟩,⟨ "New",112,3,false,"","",48⟩,⟨ "Proof",56,6,false,"","",96⟩],7,120, .agg #[.int .i64 (0), .string ⟨#[]⟩, .slice none 0 0, .int .i64 (0), .string ⟨#[]⟩, .slice none 0 0, .slice none 0 0]⟩ .leaf) 157 ⟨.pointer 167,1,8, .pointer none⟩ .leaf) 165 ⟨.struct #[⟨ "B",23,0,false,"","",0⟩,⟨ "At",3,1,false,"","",24⟩,⟨ "E",28,2,false,"","",32⟩],3,40, .agg #[.slice none 0 0, .int .i64 (0), .int .i64 (0)]⟩ (.node .leaf 167 ⟨.struct #[⟨ "Reader",165,0,true,"","",0⟩],3,40, .agg #[.slice none 0 0, .int .i64 (0), .int .i64 (0)]⟩ .leaf))))) 168 ⟨.func #[] #[3] false,1,8, .nilFunc⟩ (.node (.node (.node (.node (.node (.node .leaf 177 ⟨.slice 183,1,24, .slice none 0 0⟩ .leaf) 180 ⟨.struct #[⟨ "elems",177,0,false,"","rubrick/query",0⟩,⟨ "next",3,1,false,"","rubrick/query",24⟩,⟨ "words",3,2,false,"","rubrick/query",32⟩,⟨ "ops",22,3,false,"","rubrick/query",40⟩],4,64, .agg #[.slice none 0 0, .int .i64 (0), .int .i64 (0), .slice none 0 0]⟩ .leaf) 183 ⟨.struct #[⟨ "kind",3,0,false,"","rubrick/query",0⟩,⟨ "at",3,1,false,"","rubrick/query",8⟩,⟨ "term",9,2,false,"","rubrick/query",16⟩],3,32, .agg #[.int .i64 (0), .int .i64 (0), .string ⟨#[]⟩]⟩ (.node (.node .leaf 187 ⟨.slice 191,1,24, .slice none 0 0⟩ .leaf) 189 ⟨.func #[106] #[4] false,1,8, .nilFunc⟩ .leaf)) 191 ⟨.struct #[⟨ "holds",189,0,false,"","rubrick/term",0⟩,⟨ "docs",27,1,false,"","rubrick/term",8⟩],2,32, .agg #[.nilFunc, .slice none 0 0]⟩ (.node (.node (.node .leaf 196 ⟨.func #[9] #[27] false,1,8, .nilFunc⟩ .leaf) 198 ⟨.func #[27,27] #[27] false,1,8, .nilFunc⟩ .leaf) 200 ⟨.struct #[⟨ "find",196,0,false,"","rubrick/eval",0⟩,⟨ "both",198,1,false,"","rubrick/eval",8⟩,⟨ "either",198,2,false,"","rubrick/eval",16⟩,⟨ "but",198,3,false,"","rubrick/eval",24⟩],4,32, .agg #[.nilFunc, .nilFunc, .nilFunc, .nilFunc]⟩ (.node (.node .leaf 202 ⟨.struct #[⟨ "B",23,0,false,"","",0⟩,⟨ "E",3,1,false,"","",24⟩],2,32, .agg #[.slice none 0 0, .int .i64 (0)]⟩ .leaf) 208 ⟨.slice 211,1,24, .slice none 0 0⟩ .leaf))) 209 ⟨.struct #[⟨ "Term",9,0,false,"","",0⟩,⟨ "Next",9,1,false,"","",16⟩,⟨ "Posts",9,2,false,"","",32⟩],3,48, .agg #[.string ⟨#[]⟩, .string ⟨#[]⟩, .string ⟨#[]⟩]⟩ (.node (.node (.node (.node .leaf 211 ⟨.struct #[⟨ "At",3,0,false,"","",0⟩,⟨ "Link",209,1,false,"","",8⟩,⟨ "Path",56,4,false,"","",56⟩,⟨ "Docs",23,5,false,"","",80⟩],6,104, .agg #[.int .i64 (0), .string ⟨#[]⟩, .string ⟨#[]⟩, .string ⟨#[]⟩, .slice none 0 0, .slice none 0 0]⟩ .leaf) 219 ⟨.struct #[⟨ "Span",98,0,false,"","",0⟩,⟨ "Links",3,2,false,"","",16⟩,⟨ "Root",9,3,false,"","",24⟩],4,40, .agg #[.int .i64 (0), .int .i64 (0), .int .i64 (0), .string ⟨#[]⟩]⟩ .leaf) 228 ⟨.struct #[⟨ "Term",9,0,false,"","",0⟩,⟨ "Docs",27,1,false,"","",16⟩],2,40, .agg #[.string ⟨#[]⟩, .slice none 0 0]⟩ (.node (.node .leaf 232 ⟨.slice 98,1,24, .slice none 0 0⟩ .leaf) 245 ⟨.struct #[⟨ "b",23,0,false,"","rubrick/reply",0⟩,⟨ "bad",4,1,false,"","rubrick/reply",24⟩],2,32, .agg #[.slice none 0 0, .bool false]⟩ .leaf)) 253 ⟨.func #[4,4] #[4] false,1,8, .nilFunc⟩ (.node (.node (.node .leaf 255 ⟨.struct #[⟨ "find",123,0,false,"","rubrick/eval",0⟩,⟨ "both",253,1,false,"","rubrick/eval",8⟩,⟨ "either",253,2,false,"","rubrick/eval",16⟩,⟨ "but",253,3,false,"","rubrick/eval",24⟩],4,32, .agg #[.nilFunc, .nilFunc, .nilFunc, .nilFunc]⟩ .leaf) 256 ⟨.slice 4,1,24, .slice none 0 0⟩ .leaf) 279 ⟨.pointer 180,1,8, .pointer none⟩ (.node .leaf 283 ⟨.int .u64,1,8, .int .u64 (0)⟩ .leaf)))) 286 ⟨.func #[9,9] #[4] false,1,8, .nilFunc⟩ (.node (.node (.node (.node (.node .leaf 288 ⟨.map 3 138,1,8, .map none⟩ .leaf) 290 ⟨.func #[3,4,4] #[4] false,1,8, .nilFunc⟩ .leaf) 305 ⟨.map 9 27,1,8, .map none⟩ (.node (.node .leaf 308 ⟨.func #[123] #[] false,1,8, .nilFunc⟩ .leaf) 319 ⟨.pointer 245,1,8, .pointer none⟩ .leaf)) 323 ⟨.int .u32,1,4, .int .u32 (0)⟩ (.node (.node (.node .leaf 324 ⟨.array 8 323,8,32, .agg #[.int .u32 (0), .int .u32 (0), .int .u32 (0), .int .u32 (0), .int .u32 (0), .int .u32 (0), .int .u32 (0), .int .u32 (0)]⟩ .leaf) 326 ⟨.struct #[⟨ "H",324,0,false,"","",0⟩,⟨ "Rest",23,8,false,"","",32⟩,⟨ "N",3,9,false,"","",56⟩],10,64, .agg #[.int .u32 (0), .int .u32 (0), .int .u32 (0), .int .u32 (0), .int .u32 (0), .int .u32 (0), .int .u32 (0), .int .u32 (0), .slice none 0 0, .int .i64 (0)]⟩ .leaf) 333 ⟨.slice 323,1,24, .slice none 0 0⟩ (.node .leaf 335 ⟨.func #[] #[9] false,1,8, .nilFunc⟩ .leaf))) 344 ⟨.struct #[⟨ "from",3,0,false,"","rubrick/utf",0⟩,⟨ "to",3,1,false,"","rubrick/utf",8⟩],2,16, .agg #[.int .i64 (0), .int .i64 (0)]⟩ (.node (.node (.node (.node .leaf 345 ⟨.array 9 344,18,144, .agg #[.int .i64 (0), .int .i64 (0), .int .i64 (0), .int .i64 (0), .int .i64 (0), .int .i64 (0), .int .i64 (0), .int .i64 (0), .int .i64 (0), .int .i64 (0), .int .i64 (0), .int .i64 (0), .int .i64 (0), .int .i64 (0), .int .i64 (0), .int .i64 (0), .int .i64 (0), .int .i64 (0)]⟩ .leaf) 349 ⟨.int .i64,1,8, .int .i64 (0)⟩ .leaf) 357 ⟨.int .u64,1,8, .int .u64 (0)⟩ (.node (.node .leaf 366 ⟨.func #[228,228] #[4] false,1,8, .nilFunc⟩ .leaf) 368 ⟨.func #[9,9] #[3] false,1,8, .nilFunc⟩ .leaf)) 380 ⟨.int .u64,1,8, .int .u64 (0)⟩ (.node (.node (.node .leaf 384 ⟨.pointer 3,1,8, .pointer none⟩ .leaf) 394 ⟨.struct #[⟨ "from",3,0,false,"","rubrick/utf",0⟩,⟨ "to",3,1,false,"","rubrick/utf",8⟩,⟨ "add",3,2,false,"","rubrick/utf",16⟩],3,24, .agg #[.int .i64 (0), .int .i64 (0), .int .i64 (0)]⟩ .leaf) 395 ⟨.array 7 394,21,168, .agg #[.int .i64 (0), .int .i64 (0), .int .i64 (0), .int .i64 (0), .int .i64 (0), .int .i64 (0), .int .i64 (0), .int .i64 (0), .int .i64 (0), .int .i64 (0), .int .i64 (0), .int .i64 (0), .int .i64 (0), .int .i64 (0), .int .i64 (0), .int .i64 (0), .int .i64 (0), .int .i64 (0), .int .i64 (0), .int .i64 (0), .int .i64 (0)]⟩ (.node .leaf 400 ⟨.array 64 323,64,256, .agg #[.int .u32 (0), .int .u32 (0), .int .u32 (0), .int .u32 (0), .int .u32 (0), .int .u32 (0), .int .u32 (0), .int .u32 (0), .int .u32 (0), .int .u32 (0), .int .u32 (0), .int .u32 (0), .int .u32 (0), .int .u32 (0), .int .u32 (0), .int .u32 (0), .int .u32 (0), .int .u32 (0), .int .u32 (0), .int .u32 (0), .int .u32 (0), .int .u32 (0), .int .u32 (0), .int .u32 (0), .int .u32 (0), .int .u32 (0), .int .u32 (0), .int .u32 (0), .int .u32 (0), .int .u32 (0), .int .u32 (0), .int .u32 (0), .int .u32 (0), .int .u32 (0), .int .u32 (0), .int .u32 (0), .int .u32 (0), .int .u32 (0), .int .u32 (0), .int .u32 (0), .int .u32 (0), .int .u32 (0), .int .u32 (0), .int .u32 (0), .int .u32 (0), .int .u32 (0), .int .u32 (0), .int .u32 (0), .int .u32 (0), .int .u32 (0), .int .u32 (0), .int .u32 (0), .int .u32 (0), .int .u32 (0), .int .u32 (0), .int .u32 (0), .int .u32 (0), .int .u32 (0), .int .u32 (0), .int .u32 (0), .int .u32 (0), .int .u32 (0), .int .u32 (0), .int .u32 (0)]⟩ .leaf))))))
set_option maxRecDepth 100000 in
def ī:eA.Ok Tryz.prog:=⟨⟨⟨⟨⟨⟨⟨trivial,trivial,Tryz.underlying3,trivial,Tryz.t3,rfl,rfl,rfl,rfl⟩,trivial,Tryz.underlying4,trivial,Tryz.t4,rfl,rfl,rfl,rfl⟩,⟨⟨trivial,trivial,Tryz.underlying9,trivial,Tryz.t9,rfl,rfl,rfl,rfl⟩,trivial,Tryz.underlying22,trivial,Tryz.t22,rfl,rfl,rfl,rfl⟩,Tryz.underlying5,trivial,Tryz.t5,rfl,rfl,rfl,rfl⟩,⟨⟨⟨trivial,trivial,Tryz.underlying26,trivial,Tryz.t26,rfl,rfl,rfl,rfl⟩,trivial,Tryz.underlying27,trivial,Tryz.t27,rfl,rfl,rfl,rfl⟩,⟨⟨trivial,trivial,Tryz.underlying33,trivial,Tryz.t33,rfl,rfl,rfl,rfl⟩,trivial,Tryz.underlying37,trivial,Tryz.t37,rfl,rfl,rfl,rfl⟩,Tryz.underlying28,trivial,Tryz.t28,rfl,rfl,rfl,rfl⟩,Tryz.underlying23,trivial,Tryz.t23,rfl,rfl,rfl,rfl⟩,⟨⟨⟨⟨trivial,trivial,Tryz.underlying40,trivial,Tryz.t40,rfl,rfl,rfl,rfl⟩,trivial,Tryz.underlying42,⟨y!,y!,y!⟩,Tryz.t42,rfl,rfl,rfl,rfl⟩,⟨⟨trivial,trivial,Tryz.underlying56,trivial,Tryz.t56,rfl,rfl,rfl,rfl⟩,trivial,Tryz.underlying69,trivial,Tryz.t69,rfl,rfl,rfl,rfl⟩,Tryz.underlying48,⟨y!,y!,y!⟩,Tryz.t48,rfl,rfl,rfl,rfl⟩,⟨⟨⟨trivial,trivial,Tryz.underlying72,trivial,Tryz.t72,rfl,rfl,rfl,rfl⟩,trivial,Tryz.underlying74,⟨y!,y!,y!⟩,Tryz.t74,rfl,rfl,rfl,rfl⟩,⟨trivial,trivial,Tryz.underlying82,⟨y!,y!,y!⟩,Tryz.t82,rfl,rfl,rfl,rfl⟩,Tryz.underlying78,⟨y!,y!,y!⟩,Tryz.t78,rfl,rfl,rfl,rfl⟩,Tryz.underlying71,⟨y!,y!,y!⟩,Tryz.t71,rfl,rfl,rfl,rfl⟩,Tryz.underlying39,trivial,Tryz.t39,rfl,rfl,rfl,rfl⟩,⟨⟨⟨⟨⟨trivial,trivial,Tryz.underlying94,trivial,Tryz.t94,rfl,rfl,rfl,rfl⟩,trivial,Tryz.underlying96,trivial,Tryz.t96,rfl,rfl,rfl,rfl⟩,⟨⟨trivial,trivial,Tryz.underlying100,⟨y!,y!,y!⟩,Tryz.t100,rfl,rfl,rfl,rfl⟩,trivial,Tryz.underlying101,trivial,Tryz.t101,rfl,rfl,rfl,rfl⟩,Tryz.underlying98,⟨y!,y!,y!⟩,Tryz.t98,rfl,rfl,rfl,rfl⟩,⟨⟨⟨trivial,trivial,Tryz.underlying106,⟨y!,y!,y!⟩,Tryz.t106,rfl,rfl,rfl,rfl⟩,trivial,Tryz.underlying110,trivial,Tryz.t110,rfl,rfl,rfl,rfl⟩,⟨trivial,trivial,Tryz.underlying113,trivial,Tryz.t113,rfl,rfl,rfl,rfl⟩,Tryz.underlying112,⟨y!,y!,y!⟩,Tryz.t112,rfl,rfl,rfl,rfl⟩,Tryz.underlying104,⟨y!,y!,y!⟩,Tryz.t104,rfl,rfl,rfl,rfl⟩,⟨⟨⟨⟨trivial,trivial,Tryz.underlying122,⟨y!,y!,y!⟩,Tryz.t122,rfl,rfl,rfl,rfl⟩,trivial,Tryz.underlying123,trivial,Tryz.t123,rfl,rfl,rfl,rfl⟩,⟨⟨trivial,trivial,Tryz.underlying128,⟨y!,y!,y!⟩,Tryz.t128,rfl,rfl,rfl,rfl⟩,trivial,Tryz.underlying138,trivial,Tryz.t138,rfl,rfl,rfl,rfl⟩,Tryz.underlying126,trivial,Tryz.t126,rfl,rfl,rfl,rfl⟩,⟨⟨⟨trivial,trivial,Tryz.underlying153,⟨y!,y!,y!⟩,Tryz.t153,rfl,rfl,rfl,rfl⟩,trivial,Tryz.underlying157,trivial,Tryz.t157,rfl,rfl,rfl,rfl⟩,⟨trivial,trivial,Tryz.underlying167,⟨y!,y!,y!⟩,Tryz.t167,rfl,rfl,rfl,rfl⟩,Tryz.underlying165,⟨y!,y!,y!⟩,Tryz.t165,rfl,rfl,rfl,rfl⟩,Tryz.underlying146,⟨y!,y!,y!⟩,Tryz.t146,rfl,rfl,rfl,rfl⟩,Tryz.underlying115,⟨y!,y!,y!⟩,Tryz.t115,rfl,rfl,rfl,rfl⟩,Tryz.underlying90,⟨y!,y!,y!⟩,Tryz.t90,rfl,rfl,rfl,rfl⟩,⟨⟨⟨⟨⟨⟨trivial,trivial,Tryz.underlying177,trivial,Tryz.t177,rfl,rfl,rfl,rfl⟩,trivial,Tryz.underlying180,⟨y!,y!,y!⟩,Tryz.t180,rfl,rfl,rfl,rfl⟩,⟨⟨trivial,trivial,Tryz.underlying187,trivial,Tryz.t187,rfl,rfl,rfl,rfl⟩,trivial,Tryz.underlying189,trivial,Tryz.t189,rfl,rfl,rfl,rfl⟩,Tryz.underlying183,⟨y!,y!,y!⟩,Tryz.t183,rfl,rfl,rfl,rfl⟩,⟨⟨⟨trivial,trivial,Tryz.underlying196,trivial,Tryz.t196,rfl,rfl,rfl,rfl⟩,trivial,Tryz.underlying198,trivial,Tryz.t198,rfl,rfl,rfl,rfl⟩,⟨⟨trivial,trivial,Tryz.underlying202,⟨y!,y!,y!⟩,Tryz.t202,rfl,rfl,rfl,rfl⟩,trivial,Tryz.underlying208,trivial,Tryz.t208,rfl,rfl,rfl,rfl⟩,Tryz.underlying200,⟨y!,y!,y!⟩,Tryz.t200,rfl,rfl,rfl,rfl⟩,Tryz.underlying191,⟨y!,y!,y!⟩,Tryz.t191,rfl,rfl,rfl,rfl⟩,⟨⟨⟨⟨trivial,trivial,Tryz.underlying211,⟨y!,y!,y!⟩,Tryz.t211,rfl,rfl,rfl,rfl⟩,trivial,Tryz.underlying219,⟨y!,y!,y!⟩,Tryz.t219,rfl,rfl,rfl,rfl⟩,⟨⟨trivial,trivial,Tryz.underlying232,trivial,Tryz.t232,rfl,rfl,rfl,rfl⟩,trivial,Tryz.underlying245,⟨y!,y!,y!⟩,Tryz.t245,rfl,rfl,rfl,rfl⟩,Tryz.underlying228,⟨y!,y!,y!⟩,Tryz.t228,rfl,rfl,rfl,rfl⟩,⟨⟨⟨trivial,trivial,Tryz.underlying255,⟨y!,y!,y!⟩,Tryz.t255,rfl,rfl,rfl,rfl⟩,trivial,Tryz.underlying256,trivial,Tryz.t256,rfl,rfl,rfl,rfl⟩,⟨trivial,trivial,Tryz.underlying283,trivial,Tryz.t283,rfl,rfl,rfl,rfl⟩,Tryz.underlying279,trivial,Tryz.t279,rfl,rfl,rfl,rfl⟩,Tryz.underlying253,trivial,Tryz.t253,rfl,rfl,rfl,rfl⟩,Tryz.underlying209,⟨y!,y!,y!⟩,Tryz.t209,rfl,rfl,rfl,rfl⟩,⟨⟨⟨⟨⟨trivial,trivial,Tryz.underlying288,trivial,Tryz.t288,rfl,rfl,rfl,rfl⟩,trivial,Tryz.underlying290,trivial,Tryz.t290,rfl,rfl,rfl,rfl⟩,⟨⟨trivial,trivial,Tryz.underlying308,trivial,Tryz.t308,rfl,rfl,rfl,rfl⟩,trivial,Tryz.underlying319,trivial,Tryz.t319,rfl,rfl,rfl,rfl⟩,Tryz.underlying305,trivial,Tryz.t305,rfl,rfl,rfl,rfl⟩,⟨⟨⟨trivial,trivial,Tryz.underlying324,trivial,Tryz.t324,rfl,rfl,rfl,rfl⟩,trivial,Tryz.underlying326,⟨y!,y!,y!⟩,Tryz.t326,rfl,rfl,rfl,rfl⟩,⟨trivial,trivial,Tryz.underlying335,trivial,Tryz.t335,rfl,rfl,rfl,rfl⟩,Tryz.underlying333,trivial,Tryz.t333,rfl,rfl,rfl,rfl⟩,Tryz.underlying323,trivial,Tryz.t323,rfl,rfl,rfl,rfl⟩,⟨⟨⟨⟨trivial,trivial,Tryz.underlying345,trivial,Tryz.t345,rfl,rfl,rfl,rfl⟩,trivial,Tryz.underlying349,trivial,Tryz.t349,rfl,rfl,rfl,rfl⟩,⟨⟨trivial,trivial,Tryz.underlying366,trivial,Tryz.t366,rfl,rfl,rfl,rfl⟩,trivial,Tryz.underlying368,trivial,Tryz.t368,rfl,rfl,rfl,rfl⟩,Tryz.underlying357,trivial,Tryz.t357,rfl,rfl,rfl,rfl⟩,⟨⟨⟨trivial,trivial,Tryz.underlying384,trivial,Tryz.t384,rfl,rfl,rfl,rfl⟩,trivial,Tryz.underlying394,⟨y!,y!,y!⟩,Tryz.t394,rfl,rfl,rfl,rfl⟩,⟨trivial,trivial,Tryz.underlying400,trivial,Tryz.t400,rfl,rfl,rfl,rfl⟩,Tryz.underlying395,trivial,Tryz.t395,rfl,rfl,rfl,rfl⟩,Tryz.underlying380,trivial,Tryz.t380,rfl,rfl,rfl,rfl⟩,Tryz.underlying344,⟨y!,y!,y!⟩,Tryz.t344,rfl,rfl,rfl,rfl⟩,Tryz.underlying286,trivial,Tryz.t286,rfl,rfl,rfl,rfl⟩,Tryz.underlying168,trivial,Tryz.t168,rfl,rfl,rfl,rfl⟩
end Go.Vg
namespace Go.J
open Go.Proofs
def G0:Nat->Option Go.Vg.GD:=λi=>match i with
 |0=>some ⟨[.int .i64,.int .i64],[(65,90),(97,122),(192,214),(216,246),(248,255),(913,929),(931,937),(945,969),(1024,1119)]⟩
 |1=>some ⟨[.int .u32],[1779033703,3144134277,1013904242,2773480762,1359893119,2600822924,528734635,1541459225]⟩
 |2=>some ⟨[.int .i64,.int .i64,.int .i64],[(65,90,32),(192,214,32),(216,222,32),(913,929,32),(931,937,32),(1024,1039,80),(1040,1071,32)]⟩
 |3=>some ⟨[.int .u32],Go.S.Ih⟩
 |_=>none
end Go.J

end
section
namespace Go.J
open Go Vg
abbrev q0p:List PS:=[.one (.int .u32),.one (.int .i64)]
abbrev aBT:Type:=Int×Int
abbrev q1p:List PS:=[]
abbrev atb:Type:=Unit
abbrev q2p:List PS:=[.agg [.int .u32,.int .u32,.int .u32,.int .u32,.int .u32,.int .u32,.int .u32,.int .u32,.slice [.int .u8],.int .i64]]
abbrev ain:Type:=Int×Int×Int×Int×Int×Int×Int×Int×B8×Int
abbrev q3p:List PS:=[.agg [.int .u32,.int .u32,.int .u32,.int .u32,.int .u32,.int .u32,.int .u32,.int .u32],.one (.slice [.int .u8])]
abbrev Ĭ:Type:=Int×Int×Int×Int×Int×Int×Int×Int×B8
abbrev q4p:List PS:=[.agg [.int .u32,.int .u32,.int .u32,.int .u32,.int .u32,.int .u32,.int .u32,.int .u32,.slice [.int .u8],.int .i64],.one (.slice [.int .u8])]
abbrev aBV:Type:=Int×Int×Int×Int×Int×Int×Int×Int×B8×Int×B8
abbrev fv:List PS:=[.one (.slice [.int .u8])]
abbrev gS:Type:=B8
abbrev q6p:List TA:=[.own 50000,.c9 (.int .i64)]
abbrev atc:Type:=Int
abbrev q0q:List TB:=[.row 5 [.int .u8]]
abbrev aio:Type:=B8×Unit
abbrev q7p:List TA:=[.own 50000,.c9 (.str)]
abbrev aBY:Type:=B8
abbrev q8p:List PS:=[.one (.slice [.int .u8]),.one (.int .i64)]
abbrev aip:Type:=B8×Int
abbrev q9p:List PS:=[.one (.slice [.int .u8]),.one (.str)]
abbrev aB0:Type:=B8×B8
abbrev Cg:List PS:=[.agg [.slice [.int .u8],.int .i64,.int .i64]]
abbrev MB:Type:=B8×Int×Int
abbrev atd:List PS:=[.one (.slice [.int .u8]),.one (.int .i64),.one (.int .i64)]
abbrev avZ:Type:=B8×Int×Int
abbrev ate:List PS:=[.agg [.slice [.int .u8],.int .i64,.int .i64],.one (.int .i64)]
abbrev av0:Type:=B8×Int×Int×Int
abbrev atf:List PS:=[.one (.int .u8),.one (.slice [.slice [.int .u8]])]
abbrev aiq:Type:=UInt8×List B8
abbrev yh:List PS:=[.one (.str),.one (.str)]
abbrev G7:Type:=B8×B8
abbrev rD:List PS:=[.one (.int .i64)]
abbrev tp:Type:=Int
abbrev FB:List PS:=[.one (.int .i64),.one (.int .i64),.one (.int .i64)]
abbrev Am:Type:=Int×Int×Int
abbrev P9:List PS:=[.one (.int .i64),.one (.int .i64)]
abbrev Yq:Type:=Int×Int
abbrev atg:List PS:=[.one (.slice [.int .i64])]
abbrev av1:Type:=List Int
abbrev ath:List PS:=[.one (.str)]
abbrev air:Type:=B8
abbrev MC:List TA:=[.c9 (.str),.c9 (.str),.ref 50000 0]
abbrev G8:Type:=B8×B8
abbrev q1q:List TB:=[.cells [.fn (.func 282) [] []]]
abbrev aB2:Type:=Unit×Unit
abbrev aB4:List TA:=[.own 50000,.fn (.func 309) [] [.ref 50001 0]]
abbrev av3:Type:=Unit
abbrev q2q:List TB:=[.row 9 [.str],.cells [.fn (.func 282) [] []]]
abbrev ati:Type:=(List B8)×Unit×Unit
abbrev atj:List PS:=[.one (.slice [.str])]
abbrev av4:Type:=List B8
abbrev Qb:List TA:=[.own 50000,.fn (.func 282) [] []]
abbrev MD:Type:=Unit
abbrev Yr:List TB:=[.row 9 [.str]]
abbrev Qa:Type:=(List B8)×Unit
abbrev atk:List TA:=[.c9 (.slice [.str]),.fn (.func 282) [] []]
abbrev ais:Type:=List B8
abbrev ql:List TB:=[]
abbrev wB:Type:=Unit
abbrev atl:List TA:=[.own 50000]
abbrev ait:Type:=Unit
abbrev atm:List PS:=[.one (.slice [.slice [.int .u8]])]
abbrev av5:Type:=List B8
abbrev aiw:List PS:=[.one (.slice [.str]),.one (.int .i64)]
abbrev aix:Type:=List B8×Int
abbrev atn:List TA:=[.c9 (.int .i64),.c9 (.bool),.c9 (.bool),.ref 50000 0]
abbrev av6:Type:=Int×Bool×Bool
abbrev q5q:List TB:=[.cells [.c9 (.int .i64),.c9 (.int .i64)]]
abbrev aiv:Type:=(Int×Int)×Unit
abbrev Ch:List TA:=[.c9 (.slice [.int .i64]),.c9 (.slice [.int .i64]),.fn (.func 311) [] [.ref 50000 0]]
abbrev Dn:Type:=List Int×List Int
abbrev IK:List PS:=[.one (.slice [.int .i64]),.agg [.int .i64,.int .i64]]
abbrev G9:Type:=List Int×Int×Int
abbrev ato:List PS:=[.one (.slice [.int .i64]),.one (.slice [.int .i64])]
abbrev av7:Type:=List Int×List Int
abbrev Qc:List PS:=[.one (.slice [.str,.slice [.int .i64]])]
abbrev Sz:Type:=List (B8×List Int)
abbrev aiy:List PS:=[.agg [.str,.str,.str]]
abbrev aiz:Type:=B8×B8×B8
abbrev atp:List PS:=[.one (.slice [.str,.slice [.int .i64]]),.one (.str)]
abbrev av8:Type:=List (B8×List Int)×B8
abbrev ĭ:List PS:=[.one (.slice [.slice [.int .u8]]),.agg [.int .i64,.int .i64]]
abbrev Ys:Type:=List B8×Int×Int
abbrev atq:List PS:=[.one (.slice [.slice [.int .u8]]),.one (.slice [.slice [.int .u8]])]
abbrev av9:Type:=List B8×List B8
abbrev atr:List PS:=[.agg [.int .i64,.int .i64]]
abbrev aiA:Type:=Int×Int
abbrev ats:List PS:=[.agg [.int .i64,.int .i64,.slice [.str,.slice [.int .i64]]]]
abbrev awa:Type:=Int×Int×List (B8×List Int)
abbrev aB5:List PS:=[.agg [.int .i64,.int .i64,.int .i64,.str]]
abbrev aiB:Type:=Int×Int×Int×B8
abbrev att:List PS:=[.one (.slice [.int .i64,.int .i64,.int .i64,.str]),.one (.int .i64)]
abbrev awb:Type:=List (Int×Int×Int×B8)×Int
abbrev pO:List PS:=[.one (.slice [.int .i64,.int .i64,.slice [.str,.slice [.int .i64]]])]
abbrev rj:Type:=List (Int×Int×List (B8×List Int))
abbrev atu:List PS:=[.one (.slice [.int .i64,.int .i64])]
abbrev awc:Type:=List (Int×Int)
abbrev Qd:List PS:=[.agg [.str,.slice [.int .i64]],.agg [.str,.slice [.int .i64]]]
abbrev SA:Type:=B8×List Int×B8×List Int
abbrev Qe:List TA:=[.c9 (.slice [.str,.slice [.int .i64]]),.c9 (.slice [.str,.slice [.int .i64]]),.fn (.func 279) [] []]
abbrev aiC:Type:=List (B8×List Int)×List (B8×List Int)
abbrev atv:List PS:=[.one (.slice [.str,.slice [.int .i64]]),.one (.slice [.str,.slice [.int .i64]])]
abbrev awf:Type:=List (B8×List Int)×List (B8×List Int)
abbrev lr:List PS:=[.agg [.slice [.slice [.int .u8]],.slice [.int .i64,.int .i64,.slice [.str,.slice [.int .i64]]]]]
abbrev rk:Type:=List B8×List (Int×Int×List (B8×List Int))
abbrev atw:List PS:=[.one (.slice [.int .i64,.int .i64,.slice [.str,.slice [.int .i64]]]),.one (.int .i64),.one (.int .i64),.agg [.int .i64,.int .i64,.slice [.str,.slice [.int .i64]]]]
abbrev awg:Type:=List (Int×Int×List (B8×List Int))×Int×Int×Int×Int×List (B8×List Int)
abbrev Qf:List PS:=[.agg [.slice [.slice [.int .u8]],.slice [.int .i64,.int .i64,.slice [.str,.slice [.int .i64]]]],.one (.slice [.int .u8])]
abbrev Ha:Type:=List B8×List (Int×Int×List (B8×List Int))×B8
abbrev atx:List PS:=[.agg [.slice [.slice [.int .u8]],.slice [.int .i64,.int .i64,.slice [.str,.slice [.int .i64]]]],.one (.int .i64),.one (.int .i64)]
abbrev awi:Type:=List B8×List (Int×Int×List (B8×List Int))×Int×Int
abbrev yi:List PS:=[.agg [.slice [.slice [.int .u8]],.slice [.int .i64,.int .i64,.slice [.str,.slice [.int .i64]]]],.agg [.int .i64,.int .i64,.int .i64,.slice [.int .u8]]]
abbrev Ao:Type:=List B8×List (Int×Int×List (B8×List Int))×Int×Int×Int×B8
abbrev atA:List PS:=[.one (.slice [.int .i64,.int .i64,.int .i64,.slice [.int .u8]])]
abbrev awl:Type:=List (Int×Int×Int×B8)
abbrev atB:List PS:=[.agg [.int .i64,.str,.slice [.int .i64,.int .i64,.int .i64,.str]]]
abbrev awm:Type:=Int×B8×List (Int×Int×Int×B8)
abbrev atC:List TA:=[.c9 (.int .i64),.ref 50000 0,.ref 50001 0]
abbrev aiD:Type:=Int
abbrev q6q:List TB:=[.cells [.c9 (.int .i64)],.cells [.nil]]
abbrev aB6:Type:=Int×Unit×Unit
abbrev q7q:List TB:=[.cells [.c9 (.int .i64)],.cells [.own 50002],.row 5 [.int .u8]]
abbrev aB7:Type:=Int×Unit×B8×Unit
abbrev atD:List TA:=[.c9 (.str),.ref 50000 0]
abbrev awn:Type:=B8
abbrev q8q:List TB:=[.cells [.own 50001],.row 5 [.int .u8]]
abbrev aB9:Type:=Unit×B8×Unit
abbrev aiE:List TA:=[.ref 50000 0]
abbrev SB:Type:=Unit
abbrev yy:List TB:=[.cells [.c9 (.slice [.int .u8]),.c9 (.int .i64),.c9 (.int .i64)]]
abbrev Ci:Type:=(B8×Int×Int)×Unit
abbrev yj:List TA:=[.ref 50000 0,.ref 50001 0,.ref 50002 0]
abbrev aiF:Type:=Unit
abbrev aCa:List TB:=[.cells [.c9 (.int .i64)],.cells [.fn (.func 243) [] [.ref 50003 0]],.cells [.fn (.func 244) [] [.ref 50003 0]],.cells [.c9 (.slice [.int .u8]),.c9 (.int .i64),.c9 (.int .i64)]]
abbrev awh:Type:=Int×Unit×Unit×(B8×Int×Int)×Unit
abbrev Qg:List PS:=[.one (.slice [.int .i64,.str])]
abbrev aiG:Type:=List (Int×B8)
abbrev atF:List TA:=[.ref 50000 0,.ref 50001 0,.ref 50002 0,.ref 50003 0]
abbrev aiI:Type:=Unit
abbrev aty:List TB:=[.cells [.c9 (.int .i64)],.cells [.nil],.cells [.c9 (.slice [.int .u8])],.cells [.c9 (.int .i64)]]
abbrev awj:Type:=Int×Unit×B8×Int×Unit
abbrev FC:List TB:=[.cells [.c9 (.slice [.int .i64,.int .i64,.str]),.c9 (.int .i64),.c9 (.int .i64),.nil]]
abbrev Hb:Type:=(List (Int×Int×B8)×Int×Int)×Unit
abbrev atz:List TB:=[.cells [.c9 (.slice [.int .i64,.int .i64,.str]),.c9 (.int .i64),.c9 (.int .i64),.own 50001],.row 90 [.int .i64,.str]]
abbrev awk:Type:=(List (Int×Int×B8)×Int×Int)×(List (Int×B8))×Unit
abbrev aiK:List TA:=[.ref 50000 0,.c9 (.int .i64)]
abbrev SC:Type:=Int
abbrev tq:List TB:=[.cells [.own 50001,.c9 (.bool)],.row 5 [.int .u8]]
abbrev Ap:Type:=Bool×B8×Unit
abbrev atH:List TA:=[.ref 50000 0,.c9 (.slice [.int .u8]),.c9 (.int .i64)]
abbrev aiL:Type:=B8×Int
abbrev atI:List TA:=[.ref 50000 0,.agg [.c9 (.int .i64),.c9 (.str),.c9 (.slice [.int .i64,.int .i64,.int .i64,.str])]]
abbrev aiM:Type:=Int×B8×List (Int×Int×Int×B8)
abbrev Qh:List TA:=[.ref 50000 0,.c9 (.slice [.str])]
abbrev Yt:Type:=List B8
abbrev aiN:List TA:=[.ref 50000 0,.agg [.c9 (.int .i64),.c9 (.str),.c9 (.str),.c9 (.str),.c9 (.slice [.str]),.c9 (.slice [.int .u8])]]
abbrev aiO:Type:=Int×B8×B8×B8×List B8×B8
abbrev aiP:List PS:=[.agg [.int .i64,.str,.slice [.int .i64,.int .i64,.int .i64,.str],.slice [.slice [.int .i64,.str,.str,.str,.slice [.str],.slice [.int .u8]]]]]
abbrev aiQ:Type:=Int×B8×List (Int×Int×Int×B8)×List (List (Int×B8×B8×B8×List B8×B8))
abbrev aiR:List TA:=[.c9 (.slice [.int .u8]),.c9 (.int .u8)]
abbrev aiS:Type:=B8×UInt8
abbrev atJ:List TA:=[.c9 (.str),.ref 50000 0,.ref 50001 0,.ref 50002 0]
abbrev aiT:Type:=B8
abbrev aiH:List TB:=[.cells [.c9 (.slice [.str,.slice [.int .i64]])],.cells [.c9 (.int .i64)],.cells [.nil]]
abbrev awo:Type:=(List (B8×List Int))×Int×Unit×Unit
abbrev atE:List TB:=[.cells [.c9 (.slice [.str,.slice [.int .i64]])],.cells [.c9 (.int .i64)],.cells [.own 50003],.row 106 [.int .i64,.str,.str,.str,.slice [.str],.slice [.int .u8]]]
abbrev awp:Type:=(List (B8×List Int))×Int×Unit×(List (Int×B8×B8×B8×List B8×B8))×Unit
abbrev atK:List TA:=[.c9 (.slice [.str,.slice [.int .i64]]),.ref 50000 0,.ref 50001 0]
abbrev awq:Type:=List (B8×List Int)
abbrev atG:List TB:=[.cells [.c9 (.int .i64)],.cells [.c9 (.slice [.str])]]
abbrev aiJ:Type:=Int×(List B8)×Unit
abbrev Aq:List PS:=[.agg [.slice [.slice [.int .u8]],.slice [.int .i64,.int .i64,.slice [.str,.slice [.int .i64]]]],.one (.slice [.int .i64,.str])]
abbrev SD:Type:=List B8×List (Int×Int×List (B8×List Int))×List (Int×B8)
abbrev atM:List PS:=[.one (.str),.one (.int .i64),.one (.int .i64),.one (.slice [.str])]
abbrev aiX:Type:=B8×Int×Int×List B8
abbrev atN:List PS:=[.one (.int .i64),.one (.bool),.one (.bool)]
abbrev aiY:Type:=Int×Bool×Bool
abbrev Qi:List TA:=[.c9 (.slice [.int .i64]),.c9 (.slice [.int .i64]),.fn (.func 197) [] []]
abbrev ME:Type:=List Int×List Int
abbrev atO:List TA:=[.c9 (.slice [.int .i64]),.c9 (.slice [.int .i64]),.fn (.func 198) [] []]
abbrev awv:Type:=List Int×List Int
abbrev atP:List TA:=[.c9 (.slice [.int .i64]),.c9 (.slice [.int .i64]),.fn (.func 199) [] []]
abbrev aww:Type:=List Int×List Int
abbrev atQ:List PS:=[.one (.slice [.str]),.one (.str)]
abbrev awx:Type:=List B8×B8
abbrev Į:List PS:=[.one (.str),.var [.slice [.str]],.var [.slice [.slice [.int .i64]]]]
abbrev aiZ:Type:=B8×List B8×List (List Int)
abbrev atS:List TA:=[.c9 (.str),.ref 50000 0,.ref 50001 0]
abbrev awy:Type:=B8
abbrev aiU:List TB:=[.cells [.own 50002],.cells [.fn (.func 107) [] []],.row 27 [.slice [.int .i64]]]
abbrev awr:Type:=Unit×Unit×(List (List Int))×Unit
abbrev aiV:List TB:=[.cells [.own 50002],.cells [.fn (.func 108) [] []],.row 27 [.slice [.int .i64]]]
abbrev aws:Type:=Unit×Unit×(List (List Int))×Unit
abbrev aiW:List TB:=[.cells [.own 50002],.cells [.fn (.func 109) [] []],.row 27 [.slice [.int .i64]]]
abbrev awt:Type:=Unit×Unit×(List (List Int))×Unit
abbrev atL:List TB:=[.cells [.own 50002],.cells [.fn (.func 103) [] [.var [.slice [.str]],.var [.slice [.slice [.int .i64]]]],.fn (.func 107) [] [],.fn (.func 108) [] [],.fn (.func 109) [] []],.row 27 [.slice [.int .i64]]]
abbrev awu:Type:=Unit×(List B8×List (List Int))×(List (List Int))×Unit
abbrev MF:List TA:=[.c9 (.slice [.int .i64,.str]),.agg [.fn (.func 103) [] [.var [.slice [.str]],.var [.slice [.slice [.int .i64]]]],.fn (.func 107) [] [],.fn (.func 108) [] [],.fn (.func 109) [] []]]
abbrev Yu:Type:=List (Int×B8)×List B8×List (List Int)
abbrev atU:List PS:=[.one (.slice [.int .i64,.str]),.one (.slice [.slice [.int .i64]])]
abbrev awz:Type:=List (Int×B8)×List (List Int)
abbrev atV:List PS:=[.agg [.int .i64,.str,.str,.str,.slice [.str],.slice [.int .u8]],.var [.str],.var [.int .i64]]
abbrev ai0:Type:=Int×B8×B8×B8×List B8×B8×B8×Int
abbrev ai1:List PS:=[.agg [.int .i64,.str,.str,.str,.slice [.str],.slice [.int .u8]],.var [.str]]
abbrev awA:Type:=Int×B8×B8×B8×List B8×B8×B8
abbrev į:List TA:=[.c9 (.str),.agg [.c9 (.int .i64),.c9 (.str),.c9 (.str),.c9 (.str),.c9 (.slice [.str]),.c9 (.slice [.int .u8])]]
abbrev ai3:Type:=B8×Int×B8×B8×B8×List B8×B8
abbrev İ:List PS:=[.one (.str),.one (.int .i64),.one (.str),.agg [.int .i64,.str,.str,.str,.slice [.str],.slice [.int .u8]]]
abbrev ai4:Type:=B8×Int×B8×Int×B8×B8×B8×List B8×B8
abbrev ı:List PS:=[.var [.int .i64,.str,.slice [.int .i64,.int .i64,.int .i64,.str]],.var [.str]]
abbrev awC:Type:=Int×B8×List (Int×Int×Int×B8)×B8
abbrev aBX:List PS:=[.agg [.int .i64,.str,.slice [.int .i64,.int .i64,.int .i64,.str]],.one (.str)]
abbrev aE3:Type:=Int×B8×List (Int×Int×Int×B8)×B8
abbrev avh:List PS:=[.var [.int .i64,.str,.slice [.int .i64,.int .i64,.int .i64,.str],.slice [.slice [.int .i64,.str,.str,.str,.slice [.str],.slice [.int .u8]]]],.var [.int .i64],.var [.slice [.str]]]
abbrev aBZ:Type:=Int×B8×List (Int×Int×Int×B8)×List (List (Int×B8×B8×B8×List B8×B8))×Int×List B8
abbrev avp:List TA:=[.var [.int .i64,.int .i64,.int .i64,.str],.var [.str],.var [.int .i64,.str,.slice [.int .i64,.int .i64,.int .i64,.str],.slice [.slice [.int .i64,.str,.str,.str,.slice [.str],.slice [.int .u8]]]],.var [.int .i64],.var [.int .i64],.ref 50000 0]
abbrev aB1:Type:=Int×Int×Int×B8×B8×Int×B8×List (Int×Int×Int×B8)×List (List (Int×B8×B8×B8×List B8×B8))×Int×Int
abbrev MG:List TB:=[.cells [.own 50001],.dM 27 50002,.row 3 [.int .i64]]
abbrev Yv:Type:=Unit×(List Value×Nat)×(List Int)×Unit
abbrev avO:List PS:=[.var [.int .i64,.int .i64,.int .i64,.str],.var [.str],.var [.int .i64,.str,.slice [.int .i64,.int .i64,.int .i64,.str],.slice [.slice [.int .i64,.str,.str,.str,.slice [.str],.slice [.int .u8]]]],.var [.int .i64],.var [.int .i64]]
abbrev aE4:Type:=Int×Int×Int×B8×B8×Int×B8×List (Int×Int×Int×B8)×List (List (Int×B8×B8×B8×List B8×B8))×Int×Int
abbrev aMo:List PS:=[.one (.str),.one (.slice [.int .i64,.str]),.one (.slice [.int .u8])]
abbrev aKr:Type:=B8×List (Int×B8)×B8
abbrev aH1:List PS:=[.one (.slice [.int .i64,.int .i64,.int .i64,.slice [.int .u8]]),.one (.slice [.int .i64,.int .i64,.int .i64,.slice [.int .u8]]),.one (.slice [.int .i64,.str])]
abbrev aKs:Type:=List (Int×Int×Int×B8)×List (Int×Int×Int×B8)×List (Int×B8)
end Go.J

end
section
namespace Go
open List (length getD take drop replicate)
open Int (toNat)
def q17(a:Bool)(b c:Prop):Prop:=(a->b)/\(a=false->c)
def q19(a:Bool)(b c d:Prop):Prop:=q17 a (b/\c) d
def py(a:Nat):Prop:=a<=140737488355328
def hU(a b:Int):=Bool.not (decide (a=b))
def q25(a b c:Int):Prop:=a<=b/\b<c
def q26(a:Int):Prop:=-9223372036854775808<=a/\a<=9223372036854775807
def q29(a b:Bool):=bif a then true else b
def ya(a:Bool)(b c d e:Prop):Prop:=q19 a b c (d/\e)
def dQ(a:B8):Int:=a.length
def eP(a b:Bool):=bif a then b else false
def q40(a:B8):Prop:=py a.length
def q43(a:UInt8):=(S.cA (Vg.me B8) (Vg.me (Prod Int (Prod Int (List (Prod B8 (List Int)))))) [104,a,121]).1
def q44(a b c:Nat):Prop:=S.al a b<c
def q48(a:List Int):Int:=a.length
def yb(a b c:Nat):Prop:=q44 a b (S.al a c)
def q54(a:Prop):Prop:=True/\a
def wD(a:List B8):Int:=a.length
def q63(a:B8):Prop:=a.length<=35184372088832
def fu(a:Int):=UInt8.ofNat (toNat a)
def q67(a:List B8)(b:Nat):=getD a b []
def q68(a:Bool)(b:Prop):Prop:=q17 a True b
def lG(a:UInt8):Int:=UInt8.toNat a
def yz(a:Bool)(b c d e f:Prop):Prop:=ya a b c d (e/\f)
def q73(a b:Int):=a^toNat b
def nj(a:Int)(b:List Int):=a::a::a::a::b
def Dp(a b c:Int)(d:Prop):Prop:=q26 a/\q25 b a c/\d
def q78(a:Nat):Prop:=a<=17592186044416
def q79(a:Bool)(b c d:Int)(e f:Prop):Prop:=q19 a (q25 b c d) e f
def q80(a:Int)(b:Prop):Prop:=q26 (a+1)/\b
def yA(a b:Int)(c:Bool):=q29 (decide (a<b)) c
def q90(a b:Int)(c:Bool):=eP (decide (a<=b)) c
def pz(a b:UInt8):=(S.cA (q43 a).1 (q43 a).2 [119,a,105,110,b,104,a,121]).1
def q93(a:List B8)(b:Int):=q67 a (toNat b)
def qV(a:Nat):Prop:=a<=5864062014805
def q97(a:List (B8×List Int)):Int:=a.length
def q98:=Vg.me UInt8
def acd(a b:Bool)(c:Prop):Prop:=q17 a (false=b) c
def MJ(a:Bool)(b c:Prop)(d:Int)(e:Prop):Prop:=ya a b c (q26 d) e
def aA5(a:Bool):Prop:=(a->True)/\(a=false->True)
def aDL(a b:Bool):=q29 a (Bool.not b)
def akm(a b:UInt8):=(S.bV (pz a b).1 (pz a b).2).1
def afu(a b:Prop):Prop:=q54 (a/\b)
def aG1(a:Int):=140737488355328/a
def aEz(a:Int):=a%18446744073709551616
def FE(a:Nat):Prop:=a<=3518437208883
def aDZ(a:Int)(b:Nat):Prop:=toNat a<b
def aFW(a b c:Int):=q90 a b (decide (b<=c))
def aFY(a:Bool)(b c d:Int):Prop:=(bif a then b else c)=d
def aeR(a b c d:Int)(e:Prop):Prop:=q25 a b c/\q25 a d c/\e
def aAA(a:B8)(b:S.Wp):=a++S.bytesOf b
def MM(a:Bool)(b:Int)(c:List Int):=bif a then drop (toNat b) c else c
def aD0(a b:Int):Prop:=S.iS a (-b)
def aBU(a:Int)(b:B8):=take (toNat a) b
def wE(a b:UInt8):=(S.abP (akm a b).1 (akm a b).2 S.eO).1
def aiu(a b c:Bool):=q29 a (q29 b c)
def Ar(a:Int)(b:B8):=drop (toNat a) b
def aF0(a:Int):=Bool.not (decide (a=a))
def aFJ(a:Bool)(b c:B8):=eP a (decide (b=c))
def aD1(a:List (List Int))(b:Nat):=getD a b []
def VV(a b:Bool)(c:Int)(d:Prop):Prop:=acd a b (q80 c d)
def ald(a b c d:Int):Prop:=a<=b/\b<=c/\c<=d
def aGn(a:B8):Prop:=a.length<=1099511627776
def aFb:=q48 S.qC
def aGo(a b c:Int)(d:Prop):Prop:=q26 a/\(b<=a/\a<=c)/\d
def aAD(a:Int):=fu (a%256)
def aFc(a b:B8):=Bool.not (decide (a=b))
def aAF(a:List (B8×List Int))(b:Int):=getD a (toNat b) ([],[])
def aAQ(a b:Int):=(a+b)%4294967296
def aEA(a:Bool)(b:Int)(c:Bool)(d e:Int):=bif a then b else bif c then d else e
def abF(a b:List Int):Prop:=q78 (a.length+b.length)
def aG2(a:B8):Prop:=a.length<1099511627776
def aF1:Prop:=[]=S.eO
def dC(a b:Bool)(c:Prop):Prop:=q68 a (q54 (q68 b (q54 c)))
def aFd(a:Bool)(b c d:Int):Prop:=q19 a (b<=b/\b<c) (b<=d/\d<=c) True
def aA6(a b:Nat)(c d:Prop)(e:Nat):Prop:=((a:Int)+1=b/\c)/\d/\yb e b a
def akZ(a:Int):=hU a 0
def aGp(a b:Int)(c:Prop):Prop:=a=a/\b=b/\c
def aCA(a b:Nat)(c:Prop)(d:Nat):Prop:=(a:Int)+1=b/\c/\yb d b a
def FI(a:Int):=decide (a=0)
def aFe(a b:B8):Prop:=py (a.length+b.length)
def aFf(a b:Prop):Prop:=q54 (afu a b)
def aH2(a b:B8):=Op.bytesLess a b||decide (a=b)
def aFg(a:Int)(b:B8):=decide (a<dQ b)
def uD(a b:Bool)(c d:Int):=eP a (q29 b (decide (c<=d)))
def MP(a b:Nat)(c d e:Prop)(f:Nat):Prop:=((a:Int)+1=b/\c/\d)/\e/\yb f b a
def aDk(a:Int)(b:UInt8):=replicate (toNat a) b
def Ĳ(a b:List B8):Prop:=a.length+b.length<=8796093022208
def aF2(a b:Int)(c:Bool)(d e:S.Wp)(f:B8):Prop:=a=b/\S.qi c d=S.lS e/\aAA f d=S.bytesOf e
def aFK(a:Int):=Bool.not (S.cq a)
def aFh(a b:Bool)(c d e:Int):Prop:=q17 a (q68 b ((c<=c/\c<d)/\c<=c/\c<e)) True
def aGq(a:B8)(b:Nat):Prop:=py (a.length+b)
def aG3(a:Int):Prop:=a=a/\a=a/\S.eO=S.eO
def aAM(a b:Int):Prop:=0<=a/\a<=b
def aGr(a:Int):=getD S.qC (toNat a) a
def aG4(a b c:Int):Prop:=a<=b/\b<=b/\b<=aG1 c
def aG5(a b c d:List Int)(e:Prop):Prop:=(bif Bool.not (S.bF a) then([]:List Int) else a)=b/\(bif Bool.not (S.bF c) then([]:List Int) else c)=d/\e
def aGs(a b c d:Int):=Vg.fC (Vg.fC (S.rotl a (-b)) (S.rotl a (-c))) d
def aBW(a b:Int)(c:Prop):Prop:=(0<=a/\a<=b)/\c
def aG6(a:List B8)(b:UInt8)(c:Nat)(d:B8):Prop:=S.nC a/\S.fM b a=S.nd c d
def aCj(a:Bool)(b c d e f g h i:Int):=(bif a then 1779033703 else b,bif a then 3144134277 else c,bif a then 1013904242 else d,bif a then 2773480762 else e,bif a then 1359893119 else f,bif a then 2600822924 else g,bif a then 528734635 else h,bif a then 1541459225 else i)
def aH4(a b c d:Int)(e f g:Nat)(h i:List (List Int))(j:Int):Prop:=q26 a/\aGo b c d (Dp b c d (e<f/\q25 c a d/\g<f/\afu (qV (e+h.length)) (take e i++h=S.vk j i)))
def aH5(a:List (Int×Int×B8)):Prop:=length S.kE1+a.length<=4398046511104
def axs(a:B8)(b:Int):=lG (getD a (toNat b) 0)
def aH6(a b c:B8):Prop:=S.bQ a/\S.small b/\S.sum b=c
def aF3:=dQ (wE 97 32)-1
def aDM:Prop:=(0:Int)=0
def azw(a:Int):=decide (0<a)
def aFi(a:B8):=hU (dQ a) 32
def aFL:Int:=((64:Nat):Int)
def aeX(a:List Int)(b:Nat):=getD a b 0
def aHs(a b c:Int):=bif eP (FI a) (hU (S.tI S.kE b).1 (-c)) then c else a
def aHt:Prop:=aDZ aF3 (length (wE 97 32))
def aDq:Int×Int×Int×Int×Int×Int×Int×Int:=(1779033703,3144134277,1013904242,2773480762,1359893119,2600822924,528734635,1541459225)
def aCU:Int:=((8:Nat):Int)
def aDe(a:Int):=decide (0<=a)
def aAo(a:List (Int×B8))(b:Int):=getD a (toNat b) (0,[])
def aCV(a:List Int)(b:Int):=getD a (toNat b) 0
def aFt:Int:=((1:Nat):Int)
def Du:=S.ep (S.lC (akm 97 32).1 (akm 97 32).2).1 S.eO (wE 97 32)
def am3(a:B8)(b c:Int):=S.jC a (S.af a b c).1.2.1 (S.af a b c).1.2.2
def afP(a:B8):=S.ba a
def akW(a:B8)(b:List (Int×B8))(c:B8)(d:Nat):=Vg.aW.run (S.conds 27 3 c (afP a).1.1 (afP a).1.2.1 (afP a).1.2.2.1 (afP a).1.2.2.2 (S.aA b) d) (Vg.Z.g 27 3 (Vg.aW.Ie (toNat (wD (S.aA b)))))
def afQ(a:B8)(b:Nat):=getD (afP a).1.2.2.1 (toNat b) (0,0,0,[])
def akE(a:List (List (Int×B8×B8×B8×List B8×B8)))(b c:Int):=getD (getD a (toNat b) []) (toNat c) (0,[],[],[],[],[])
def agd(a:List (List (Int×B8×B8×B8×List B8×B8)))(b c:Int):=getD (getD a (toNat b) []) (toNat c) (0,[],[],[],[],[])
def ar8(a:List (List (Int×B8×B8×B8×List B8×B8)))(b:Int)(c:B8)(d e:Int)(f:B8):=S.IG c b f ((agd a d e).1,(agd a d e).2.1,(agd a d e).2.2.1,(agd a d e).2.2.2.1,(agd a d e).2.2.2.2.1,(agd a d e).2.2.2.2.2)
def abU(a:B8)(b:Int)(c:Nat):=Vg.aK (axs a (b+c)) 127*q73 2 (7*c)
def adn(a:List (B8×List Int)):=a.length
def akX(a:List (B8×List Int))(b:Nat):=[S.ke (bif decide ((b:Int)<adn a) then bif azw b then(aAF a (b-1)).1 else [] else bif azw b then(aAF a (b-1)).1 else []) (bif decide ((b:Int)<adn a) then(aAF a b).1 else bif azw b then [] else []) (S.u9 (bif azw b then(aAF a (b-1)).2 else []))]
def aje(a:B8):=S.ai (S.ai a 0 0 64).1.1 (S.ai a 0 0 64).1.2.1 (S.ai a 0 0 64).1.2.2 64
def ado(a:B8):=S.an (aje a).1.1 (aje a).1.2.1 (aje a).1.2.2
def ame(a:List (List Int)):=a.length
def abE(a:List (List Int)):=a.length
def axp(a:List (List Int)):=a.length
def agi(a:B8)(b:Nat):=S.rV a (S.iL a b).1.1 (S.iL a b).1.2 (S.iL a b).2.1
def aDr(a:B8):=(S.gn a).1
def ajf(a:B8):=S.an a (S.af a 0 0).1.2.1 (S.af a 0 0).1.2.2
def ahr(a:List (Int×Int×Int×B8))(b:Nat):=(getD a (toNat b) (0,0,0,[])).2
def aut(a:Int):=Vg.aK (aEz a) 31
def auh(a:List (Int×Int×List (B8×List Int)))(b:Nat):=getD a (toNat b) (0,0,[])
def ae5(a:List (Int×Int×List (B8×List Int)))(b:Nat):=getD a (toNat b) (0,0,[])
def afv(a:List (Int×Int×List (B8×List Int)))(b:Nat×Nat):=S.abJ a b.2 b.1
def afw(a:Nat×Nat):=toNat a.1
def auu(a:List (Int×Int×List (B8×List Int)))(b:Nat×Nat):=(getD a (afw b) (0,0,[])).2.2
def ae6(a:List (Int×Int×List (B8×List Int)))(b:Nat×Nat):=S.axt a (S.Pg a b.2) b.1
def aeW(a:List (Int×Int×List (B8×List Int)))(b:Nat×Nat):=(getD a (toNat (ae6 a b)) (0,0,[])).2.2
def auj(a:List (Int×Int×List (B8×List Int))):=a.length
def aEE(a b:Int)(c:List B8)(d:List (Int×Int×List (B8×List Int))):=drop (toNat a) (take (toNat (a+b)) (S.ak c d).2)
def aC2(a:List (Int×Int×List (B8×List Int)))(b:Nat):=getD a (toNat b) (0,0,[])
def ar9(a:List B8)(b:List (Int×Int×List (B8×List Int)))(c:List (Int×Int)):=take (toNat ((S.xD (S.eY (S.bC (S.ak a b).1 c))).1+2)-toNat (S.xD (S.eY (S.bC (S.ak a b).1 c))).1) (drop (toNat (S.xD (S.eY (S.bC (S.ak a b).1 c))).1) (S.bC (S.ak a b).1 c))
def auv(a:List B8)(b:List (Int×Int×List (B8×List Int)))(c:Nat):=getD (S.ak a b).2 (toNat c) (0,0,[])
def abY(a:List B8)(b:List (Int×Int×List (B8×List Int)))(c:Nat):=(S.rf (auv a b c).1 (auv a b c).2.1 (auv a b c).2.2).1
def auk(a:List (Int×Int×List (B8×List Int)))(b:Nat):=getD a (toNat b) (0,0,[])
def aF5(a:List Int×List Int×List Int):=getD a.1 (toNat 0) 0
def aEL(a:List Int×List Int×List Int):=getD a.2.1 (toNat 0) 0
def aEK(a:List Int×List Int×List Int):=uD (azw (q48 a.2.1)) (FI (q48 a.1)) (aEL a) (aF5 a)
def aF4(a:List Int×List Int×List Int):=uD (azw (q48 a.1)) (FI (q48 a.2.1)) (aF5 a) (aEL a)
def aF6(a:List Int×List Int×List Int):=getD a.1 (toNat 0) 0
def aF7(a:List Int×List Int×List Int):=getD a.2.1 (toNat 0) 0
def aE0(a:List Int×List Int×List Int):=uD (azw (q48 a.1)) (FI (q48 a.2.1)) (aF6 a) (aF7 a)
def aE1(a:List Int×List Int×List Int):=uD (azw (q48 a.2.1)) (FI (q48 a.1)) (aF7 a) (aF6 a)
def aE2(a:List Int×List Int×List Int):=getD a.1 (toNat 0) 0
def aF9(a:List Int×List Int×List Int):=getD a.2.1 (toNat 0) 0
def aF8(a:List Int×List Int×List Int):=uD (azw (q48 a.1)) (FI (q48 a.2.1)) (aE2 a) (aF9 a)
def aE5(a:List Int×List Int×List Int):=uD (azw (q48 a.2.1)) (FI (q48 a.1)) (aF9 a) (aE2 a)
def aFu(a:List Int×List Int):=getD a.1 (toNat 0) 0
def aE6(a:List Int×List Int):=eP (decide (0<aFb)) (q29 (FI (q48 a.1)) (decide (aGr 0<=aFu a)))
def aE7(a:List Int×List Int):=uD (azw (q48 a.1)) (FI aFb) (aFu a) (aGr 0)
def aFv(a:List B8):=S.root (S.leaves a)
def aGc(a:List B8):=S.root (S.leaves a)
def aNp(a:List (Int×B8))(b:Nat):=q29 (aFc (aAo a b).2 []) (decide (S.iv a b<2))
def aAJ(a:Nat):=toNat a
def aBP(a:B8)(b:Nat×Nat):=S.Af a b.2 b.1
def azv(a:B8)(b:Nat×Nat):=S.gw a (aBP a b).1.1 (aBP a b).1.2
def aDO(a:B8):=(S.aH a).2
def aD2(a:List (List (Int×B8×B8×B8×List B8×B8)))(b:Nat)(c:Nat×Nat):=getD (getD a (toNat b) []) (toNat c.1) (0,[],[],[],[],[])
def aD3(a:List (List (Int×B8×B8×B8×List B8×B8)))(b:Nat)(c:Nat×Nat):=getD (getD a (toNat b) []) (toNat c.1) (0,[],[],[],[],[])
def aC4(a:List (Int×Int×Int×B8))(b:Nat):=getD a (toNat b) (0,0,0,[])
def aDP(a:List (Int×Int×Int×B8))(b:Nat):=S.mU ([],[]) a b
def aC6(a:List (Int×Int×Int×B8)):=(S.bV (S.eG a).1 (S.eG a).2).1
def aE8(a:List (Int×Int×Int×B8))(b:Nat):=getD a (toNat b) (0,0,0,[])
def aGa(a b:List (Int×Int×Int×B8))(c:Nat):=(S.cA (S.abH a b c).1 (S.abH a b c).2 (q67 (aC6 a).1 (toNat c))).1
def aGe(a:List (Int×Int×Int×B8))(b:List (Int×B8)):=S.ep (S.lC (aC6 a).1 (aC6 a).2).1 b (S.abP (aC6 a).1 (aC6 a).2 b).1
def aE9(a:Nat×List Int):=toNat a.1
def aDs(a:B8):=a.length
def aDg(a:B8)(b:Nat×Nat):=S.uY (drop b.2 a) b.1
def aHu(a:Int):=eP (decide (57343<a)) (decide (a<1114112))
def aDQ(a:B8):=length (S.decode a)
def aNq(a:List (Int×B8)):Int:=a.length
def aAy(a:List (Int×Int×Int×B8))(b:Nat):=getD a (toNat b) (0,0,0,[])
def aCs(a:B8)(b:Int)(c:B8):=q29 (Bool.not (S.oV c b)) (decide (1099511627776-b<a.length))
def aBQ(a:B8)(b:Int)(c:B8):=bif aCs a b c then [] else c
def aDR(a:Int)(b:B8):=Bool.not (S.oV b a)
def aBj(a b c d e f g h i:Int)(j:B8)(k l:Nat):=aCV [(S.aE (aCj (aDR a j) b c d e f g h i) (S.jd j a k)).1,(S.aE (aCj (aDR a j) b c d e f g h i) (S.jd j a k)).2.1,(S.aE (aCj (aDR a j) b c d e f g h i) (S.jd j a k)).2.2.1,(S.aE (aCj (aDR a j) b c d e f g h i) (S.jd j a k)).2.2.2.1,(S.aE (aCj (aDR a j) b c d e f g h i) (S.jd j a k)).2.2.2.2.1,(S.aE (aCj (aDR a j) b c d e f g h i) (S.jd j a k)).2.2.2.2.2.1,(S.aE (aCj (aDR a j) b c d e f g h i) (S.jd j a k)).2.2.2.2.2.2.1,(S.aE (aCj (aDR a j) b c d e f g h i) (S.jd j a k)).2.2.2.2.2.2.2] l
def aHv(a:B8):=((S.aE aDq a).1,(S.aE aDq a).2.1,(S.aE aDq a).2.2.1,(S.aE aDq a).2.2.2.1,(S.aE aDq a).2.2.2.2.1,(S.aE aDq a).2.2.2.2.2.1,(S.aE aDq a).2.2.2.2.2.2.1,(S.aE aDq a).2.2.2.2.2.2.2)
def abL(a:Nat):=0+toNat (a-2)*1
def aFy(a:Nat):=0+toNat (a-15)*1
def abM(a:B8):=S.sched a 64
def aDS(a:Int×Int):=aEz (a.1+a.2)/q73 2 1
def aDh(a:Nat×Nat×List B8×Nat):=toNat a.1
def aC8(a:Nat×Nat×List B8×Nat):=length a.2.2.1
def aAR(a:Nat):=toNat a
def aDt(a:Nat×Nat×List B8×Nat):=take (aDh a) a.2.2.1++replicate (aC8 a-aDh a) q98++drop (aDh a+(aC8 a-aDh a)) a.2.2.1
def aHw(a:List B8):=a.length
def aAS(a:List B8):=a.length
def aDz(a:Nat×Nat×List B8×Nat):=toNat a.1
def aHx(a:Nat×Nat×List B8×Nat):=length a.2.2.1
def aDa(a:Nat×Nat×List B8×Nat):=take (aDz a) a.2.2.1++replicate (aHx a-aDz a) q98++drop (aDz a+(aHx a-aDz a)) a.2.2.1
def aDi(a:Nat):=toNat a
def aGb(a:List Int)(b:Nat×B8):=S.gN (S.bJ (aCV a b.1))
def aAL(a:List B8):=a.length
def aHy(a:List B8):=List.set a (toNat (aAL a-2)) (S.bc (q67 a (toNat (aAL a-2))) (q67 a (toNat (aAL a-2+1))))
def aGz(a:Int):=[fu (lG (S.more a))]
def aFz(a:B8):=Ar 1 (aBU 3 a)
def aFA(a:B8):=Ar 1 (aBU 2 a)
def aFB(a:B8):=Ar 1 (aBU 4 a)
theorem aP {p q:Prop}(h:q)(e:p=q:=by(try delta q17 q19 py hU q25 q26 q29 ya dQ eP q40 q43 q44 q48 yb q54 wD q63 fu q67 q68 lG yz q73 nj Dp q78 q79 q80 yA q90 pz q93 qV q97 q98 acd MJ aA5 aDL akm afu aG1 aEz FE aDZ aFW aFY aeR aAA MM aD0 aBU wE aiu Ar aF0 aFJ aD1 VV ald aGn aFb aGo aAD aFc aAF aAQ aEA abF aG2 aF1 dC aFd aA6 akZ aGp aCA FI aFe aFf aH2 aFg uD MP aDk Ĳ aF2 aFK aFh aGq aG3 aAM aGr aG4 aG5 aGs aBW aG6 aCj aH4 aH5 axs aH6 aF3 aDM azw aFi aFL aeX aHs aHt aDq aCU aDe aAo aCV aFt Du am3 afP akW afQ akE agd ar8 abU adn akX aje ado ame abE axp agi aDr ajf ahr aut auh ae5 afv afw auu ae6 aeW auj aEE aC2 ar9 auv abY auk aF5 aEL aEK aF4 aF6 aF7 aE0 aE1 aE2 aF9 aF8 aE5 aFu aE6 aE7 aFv aGc aNp aAJ aBP azv aDO aD2 aD3 aC4 aDP aC6 aE8 aGa aGe aE9 aDs aDg aHu aDQ aNq aAy aCs aBQ aDR aBj aHv abL aFy abM aDS aDh aC8 aAR aDt aHw aAS aDz aHx aDa aDi aGb aAL aHy aGz aFz aFA aFB);exact rfl):p:=e.mpr h
end Go

end
