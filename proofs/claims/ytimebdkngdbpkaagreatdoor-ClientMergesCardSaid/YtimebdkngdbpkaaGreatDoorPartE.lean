import Derived.Test.YtimebdkngdbpkaaGreatDoorPartD
set_option linter.unusedVariables false
set_option linter.unusedSimpArgs false
set_option linter.unusedSectionVars false
set_option linter.defProp false
section
namespace Go
open List (length getD take drop replicate)
open Int (toNat)
theorem df {p:Prop}[Decidable p]:decide p=false↔¬p:=j?
theorem dt {p:Prop}[Decidable p]:(decide p=true)=p:=J!
theorem lc {α:Type}{a:α}{l:List α}:(a::l).length=l.length+1:=G?
theorem ln {α:Type}:([]:List α).length=0:=List.length_nil
theorem tn(n:Nat):(n:Int).toNat=n:=Z! n
theorem nf {b:Bool}:((!b)=false)=(b=true):=Bool.not_eq_false' b
theorem nt {b:Bool}:((!b)=true)=(b=false):=J? b
def aCb(x k:Int)(hp:S.iS x k):(0<=aut k/\aut k<=32)/\(0<=aEz (32-aut k)/\aEz (32-aut k)<=32)/\Vg.cm (x*q73 2 (aut k)%4294967296) (x/q73 2 (aEz (32-aut k)))=S.rotl x k:=by
 refine aP ?_;grind[S.alB,S.iS,S.alA]
def aCd:aGp 1779033703 3144134277 (aGp 1013904242 2773480762 (aGp 1359893119 2600822924 (aGp 528734635 1541459225 aDM))):=by
 refine aP ?_;omega
def aCe(s1 s2 s3 s4 s5 s6 s7 s8:Int)(s9:B8)(cD:Int):q17 (aDe cD) (q19 (decide (cD<=1099511627776)) (0<=cD) ((0:Int)<64) True) True/\eP (aDe cD) (eP (decide (cD<=1099511627776)) (decide (dQ s9=cD%64)))=S.oV s9 cD:=by
 refine aP ?_;grind[S.oV]
def aCf(u1 u2 u3 u4 u5 u6 u7 u8:Int)(p:B8)(hp:S.RL (u1,u2,u3,u4,u5,u6,u7,u8) p)(hf:Vg.bo J.q3p (u1,u2,u3,u4,u5,u6,u7,u8,p)):(∃(x1:Nat),((0:Int)=x1/\nj 0 (nj 0 (nj 0 (nj 0 (nj 0 (nj 0 (nj 0 (nj 0 (nj 0 (nj 0 (nj 0 (nj 0 (nj 0 (nj 0 (nj 0 (nj 0 [])))))))))))))))=S.aI p x1)/\S.fe x1 16)/\(∀(x2:Nat),S.fe x2 16->ya (decide ((x2:Int)<16)) (q26 (4*x2)) (q25 0 (4*x2) (dQ p)/\aAM 24 32/\q26 (4*x2)/\Dp (4*x2+1) 0 (dQ p) (aBW 16 32 (q26 (4*x2)/\Dp (4*x2+2) 0 (dQ p) (aBW 8 32 (q26 (4*x2)/\Dp (4*x2+3) 0 (dQ p) (q25 0 x2 aFL/\0+toNat x2*1<length (S.aI p x2)/\q80 x2 (∃(x3:Nat),aA6 x2 x3 (List.set (S.aI p x2) (0+toNat x2*1) (Vg.cm (Vg.cm (Vg.cm (axs p (4*x2)*q73 2 24%4294967296) (axs p (4*x2+1)*q73 2 16%4294967296)) (axs p (4*x2+2)*q73 2 8%4294967296)) (axs p (4*x2+3)))=S.aI p x3) (S.fe x3 16) 16))))))) (∃(x4:Nat),((16:Int)=x4/\S.aI p x2=S.aI p x4)/\16<=x4/\x4<=64) (∀(x5:Nat),16<=x5/\x5<=64->ya (decide ((x5:Int)<64)) (q26 (x5-15)) (q25 0 (x5-15) aFL/\aFy x5<length (S.aI p x5)/\Dp (x5-2) 0 aFL (abL x5<length (S.aI p x5)/\aD0 (aeX (S.aI p x5) (aFy x5)) 7/\aD0 (aeX (S.aI p x5) (aFy x5)) 18/\aBW 3 32 (aD0 (aeX (S.aI p x5) (abL x5)) 17/\aD0 (aeX (S.aI p x5) (abL x5)) 19/\aBW 10 32 (Dp (x5-16) 0 aFL (0+toNat (x5-16)*1<length (S.aI p x5)/\Dp (x5-7) 0 aFL (0+toNat (x5-7)*1<length (S.aI p x5)/\q25 0 x5 aFL/\0+toNat x5*1<length (S.aI p x5)/\q80 x5 (∃(x6:Nat),aA6 x5 x6 (List.set (S.aI p x5) (0+toNat x5*1) (aAQ (aAQ (aAQ (aeX (S.aI p x5) (0+toNat (x5-16)*1)) (aGs (aeX (S.aI p x5) (aFy x5)) 7 18 (aeX (S.aI p x5) (aFy x5)/q73 2 3))) (getD (S.aI p x5) (0+toNat (x5-7)*1) 0)) (aGs (aeX (S.aI p x5) (abL x5)) 17 19 (aeX (S.aI p x5) (abL x5)/q73 2 10)))=S.aI p x6) (16<=x6/\x6<=64) 64))))))) ((0:Int)<=0/\0<aCU) (aeR 0 1 aCU 2 (aeR 0 3 aCU 4 (aeR 0 5 aCU 6 (q25 0 7 aCU/\(∃(x7:Nat),((0:Int)=x7/\u1=(S.bW (abM p) (u1,u2,u3,u4,u5,u6,u7,u8) x7).1/\u2=(S.bW (abM p) (u1,u2,u3,u4,u5,u6,u7,u8) x7).2.1/\u3=(S.bW (abM p) (u1,u2,u3,u4,u5,u6,u7,u8) x7).2.2.1/\u4=(S.bW (abM p) (u1,u2,u3,u4,u5,u6,u7,u8) x7).2.2.2.1/\u5=(S.bW (abM p) (u1,u2,u3,u4,u5,u6,u7,u8) x7).2.2.2.2.1/\u6=(S.bW (abM p) (u1,u2,u3,u4,u5,u6,u7,u8) x7).2.2.2.2.2.1/\u7=(S.bW (abM p) (u1,u2,u3,u4,u5,u6,u7,u8) x7).2.2.2.2.2.2.1/\u8=(S.bW (abM p) (u1,u2,u3,u4,u5,u6,u7,u8) x7).2.2.2.2.2.2.2)/\S.fe x7 64)/\(∀(x8:Nat),S.fe x8 64->ya (decide ((x8:Int)<64)) (aD0 (S.bW (abM p) (u1,u2,u3,u4,u5,u6,u7,u8) x8).2.2.2.2.1 6) (aD0 (S.bW (abM p) (u1,u2,u3,u4,u5,u6,u7,u8) x8).2.2.2.2.1 11/\aD0 (S.bW (abM p) (u1,u2,u3,u4,u5,u6,u7,u8) x8).2.2.2.2.1 25/\64=length S.Ih/\q25 0 x8 (q48 S.Ih)/\q25 0 x8 aFL/\0+toNat x8*1<length (S.aI p x5)/\aD0 (S.bW (abM p) (u1,u2,u3,u4,u5,u6,u7,u8) x8).1 2/\aD0 (S.bW (abM p) (u1,u2,u3,u4,u5,u6,u7,u8) x8).1 13/\aD0 (S.bW (abM p) (u1,u2,u3,u4,u5,u6,u7,u8) x8).1 22/\q80 x8 (∃(x9:Nat),((x8:Int)+1=x9/\aAQ (aAQ (aAQ (aAQ (aAQ (S.bW (abM p) (u1,u2,u3,u4,u5,u6,u7,u8) x8).2.2.2.2.2.2.2 (aGs (S.bW (abM p) (u1,u2,u3,u4,u5,u6,u7,u8) x8).2.2.2.2.1 6 11 (S.rotl (S.bW (abM p) (u1,u2,u3,u4,u5,u6,u7,u8) x8).2.2.2.2.1 (-25)))) (Vg.fC (Vg.aK (S.bW (abM p) (u1,u2,u3,u4,u5,u6,u7,u8) x8).2.2.2.2.1 (S.bW (abM p) (u1,u2,u3,u4,u5,u6,u7,u8) x8).2.2.2.2.2.1) (Vg.aK (4294967296-1-(S.bW (abM p) (u1,u2,u3,u4,u5,u6,u7,u8) x8).2.2.2.2.1) (S.bW (abM p) (u1,u2,u3,u4,u5,u6,u7,u8) x8).2.2.2.2.2.2.1))) (getD S.Ih (toNat x8) 0)) (getD (S.aI p x5) (0+toNat x8*1) 0)) (aAQ (aGs (S.bW (abM p) (u1,u2,u3,u4,u5,u6,u7,u8) x8).1 2 13 (S.rotl (S.bW (abM p) (u1,u2,u3,u4,u5,u6,u7,u8) x8).1 (-22))) (Vg.fC (Vg.fC (Vg.aK (S.bW (abM p) (u1,u2,u3,u4,u5,u6,u7,u8) x8).1 (S.bW (abM p) (u1,u2,u3,u4,u5,u6,u7,u8) x8).2.1) (Vg.aK (S.bW (abM p) (u1,u2,u3,u4,u5,u6,u7,u8) x8).1 (S.bW (abM p) (u1,u2,u3,u4,u5,u6,u7,u8) x8).2.2.1)) (Vg.aK (S.bW (abM p) (u1,u2,u3,u4,u5,u6,u7,u8) x8).2.1 (S.bW (abM p) (u1,u2,u3,u4,u5,u6,u7,u8) x8).2.2.1)))=(S.bW (abM p) (u1,u2,u3,u4,u5,u6,u7,u8) x9).1/\(S.bW (abM p) (u1,u2,u3,u4,u5,u6,u7,u8) x8).1=(S.bW (abM p) (u1,u2,u3,u4,u5,u6,u7,u8) x9).2.1/\(S.bW (abM p) (u1,u2,u3,u4,u5,u6,u7,u8) x8).2.1=(S.bW (abM p) (u1,u2,u3,u4,u5,u6,u7,u8) x9).2.2.1/\(S.bW (abM p) (u1,u2,u3,u4,u5,u6,u7,u8) x8).2.2.1=(S.bW (abM p) (u1,u2,u3,u4,u5,u6,u7,u8) x9).2.2.2.1/\aAQ (S.bW (abM p) (u1,u2,u3,u4,u5,u6,u7,u8) x8).2.2.2.1 (aAQ (aAQ (aAQ (aAQ (S.bW (abM p) (u1,u2,u3,u4,u5,u6,u7,u8) x8).2.2.2.2.2.2.2 (aGs (S.bW (abM p) (u1,u2,u3,u4,u5,u6,u7,u8) x8).2.2.2.2.1 6 11 (S.rotl (S.bW (abM p) (u1,u2,u3,u4,u5,u6,u7,u8) x8).2.2.2.2.1 (-25)))) (Vg.fC (Vg.aK (S.bW (abM p) (u1,u2,u3,u4,u5,u6,u7,u8) x8).2.2.2.2.1 (S.bW (abM p) (u1,u2,u3,u4,u5,u6,u7,u8) x8).2.2.2.2.2.1) (Vg.aK (4294967296-1-(S.bW (abM p) (u1,u2,u3,u4,u5,u6,u7,u8) x8).2.2.2.2.1) (S.bW (abM p) (u1,u2,u3,u4,u5,u6,u7,u8) x8).2.2.2.2.2.2.1))) (getD S.Ih (toNat x8) 0)) (getD (S.aI p x5) (0+toNat x8*1) 0))=(S.bW (abM p) (u1,u2,u3,u4,u5,u6,u7,u8) x9).2.2.2.2.1/\(S.bW (abM p) (u1,u2,u3,u4,u5,u6,u7,u8) x8).2.2.2.2.1=(S.bW (abM p) (u1,u2,u3,u4,u5,u6,u7,u8) x9).2.2.2.2.2.1/\(S.bW (abM p) (u1,u2,u3,u4,u5,u6,u7,u8) x8).2.2.2.2.2.1=(S.bW (abM p) (u1,u2,u3,u4,u5,u6,u7,u8) x9).2.2.2.2.2.2.1/\(S.bW (abM p) (u1,u2,u3,u4,u5,u6,u7,u8) x8).2.2.2.2.2.2.1=(S.bW (abM p) (u1,u2,u3,u4,u5,u6,u7,u8) x9).2.2.2.2.2.2.2)/\S.fe x9 64/\yb 64 x9 x8)) ((0:Int)<=0/\0<aCU) (aeR 0 1 aCU 2 (aeR 0 3 aCU 4 (aeR 0 5 aCU 6 (q25 0 7 aCU/\aAQ u1 (S.bW (abM p) (u1,u2,u3,u4,u5,u6,u7,u8) x8).1=(S.block (u1,u2,u3,u4,u5,u6,u7,u8) p).1/\aAQ u2 (S.bW (abM p) (u1,u2,u3,u4,u5,u6,u7,u8) x8).2.1=(S.block (u1,u2,u3,u4,u5,u6,u7,u8) p).2.1/\aAQ u3 (S.bW (abM p) (u1,u2,u3,u4,u5,u6,u7,u8) x8).2.2.1=(S.block (u1,u2,u3,u4,u5,u6,u7,u8) p).2.2.1/\aAQ u4 (S.bW (abM p) (u1,u2,u3,u4,u5,u6,u7,u8) x8).2.2.2.1=(S.block (u1,u2,u3,u4,u5,u6,u7,u8) p).2.2.2.1/\aAQ u5 (S.bW (abM p) (u1,u2,u3,u4,u5,u6,u7,u8) x8).2.2.2.2.1=(S.block (u1,u2,u3,u4,u5,u6,u7,u8) p).2.2.2.2.1/\aAQ u6 (S.bW (abM p) (u1,u2,u3,u4,u5,u6,u7,u8) x8).2.2.2.2.2.1=(S.block (u1,u2,u3,u4,u5,u6,u7,u8) p).2.2.2.2.2.1/\aAQ u7 (S.bW (abM p) (u1,u2,u3,u4,u5,u6,u7,u8) x8).2.2.2.2.2.2.1=(S.block (u1,u2,u3,u4,u5,u6,u7,u8) p).2.2.2.2.2.2.1/\aAQ u8 (S.bW (abM p) (u1,u2,u3,u4,u5,u6,u7,u8) x8).2.2.2.2.2.2.2=(S.block (u1,u2,u3,u4,u5,u6,u7,u8) p).2.2.2.2.2.2.2))))))))))):=by
 refine aP ?_;have awH:0<=u1/\u1<=4294967295:=hf.1;have awI:0<=u2/\u2<=4294967295:=hf.2.1;have awJ:0<=u3/\u3<=4294967295:=hf.2.2.1;have awK:0<=u4/\u4<=4294967295:=hf.2.2.2.1;have awL:0<=u5/\u5<=4294967295:=hf.2.2.2.2.1;have awM:0<=u6/\u6<=4294967295:=hf.2.2.2.2.2.1;have awN:0<=u7/\u7<=4294967295:=hf.2.2.2.2.2.2.1;have awO:0<=u8/\u8<=4294967295:=hf.2.2.2.2.2.2.2.1;clear hf;obtain⟨oA,Q5⟩:=hp;refine⟨?_,?_⟩
 . refine⟨(nat_lit 0:Nat),?_⟩;try dsimp only
   with_reducible and_intros
   omega;rfl;grind[S.fe,S.al]
 intro x1 h2;refine V.dI (λh3=>?_) λh4=>?_
 . with_reducible and_intros
   iterate 30 omega
   . rw [S.sO _ _ w!];omega
   iterate 2 omega
   refine⟨(x1+nat_lit 1),?_⟩;try dsimp only
   with_reducible and_intros
   omega;exact S.alx _ _ w!
   . simp only [S.fe,S.al] at *;omega
   simp only [S.fe,S.al] at *;omega
 refine⟨?_,?_⟩
 . refine⟨(nat_lit 16:Nat),?_⟩;try dsimp only
   with_reducible and_intros
   omega
   . simp only [S.fe] at h2;rw [show x1=16 by omega]
   iterate 2 omega
 intro x5 h6;refine V.dI (λh7=>?_) λh8=>?_
 . with_reducible and_intros
   iterate 4 omega
   . rw [S.sO _ _ w!];omega
   iterate 4 omega
   . rw [S.sO _ _ w!];omega
   iterate 2 (with_reducible exact S.UC _ _ _ _ w!)
   iterate 2 omega
   iterate 2 (with_reducible exact S.UC _ _ _ _ w!)
   iterate 6 omega
   . rw [S.sO _ _ w!];omega
   iterate 4 omega
   . rw [S.sO _ _ w!];omega
   iterate 2 omega
   . rw [S.sO _ _ w!];omega
   iterate 2 omega
   refine⟨(x5+nat_lit 1),?_⟩;try dsimp only
   with_reducible and_intros
   omega;exact S.aly _ _ w! w!;iterate 2 omega
   simp only [S.fe,S.al] at *;omega
 with_reducible and_intros
 iterate 16 omega
 . refine⟨(nat_lit 0:Nat),?_⟩;try dsimp only
   with_reducible and_intros
   omega;iterate 8 rfl
   simp only [S.fe,S.al] at *;omega
 intro x9 h10;refine⟨?_,?_⟩
 . intro iR;try simp only [dt] at iR
   with_reducible and_intros
   iterate 3 (with_reducible exact S.au2 (S.Lr _ _ oA _) _ w!)
   with_reducible exact S.Pa
   omega
   . rw [<-S.Pa];simp only [S.fe] at *;omega
   iterate 2 omega
   . rw [S.sO _ _ w!];omega
   iterate 3 (with_reducible exact S.au1 (S.Lr _ _ oA _) _ w!)
   iterate 2 omega
   refine⟨(x9+nat_lit 1),?_⟩;try dsimp only
   with_reducible and_intros
   omega
   . rw [show x5=64 by omega,S.ï];simp only [S.bW,tn,q?,Nat.mul_one];rfl
   iterate 3 rfl
   . rw [show x5=64 by omega,S.ï];simp only [S.bW,tn,q?,Nat.mul_one];rfl
   iterate 3 rfl
   . simp only [S.fe,S.al] at *;omega
   simp only [S.fe,S.al] at *;omega
 grind[df,S.fe,S.block,S.î]
def awP(u1 u2 u3 u4 u5 u6 u7 u8:Int)(b:B8)(hp:S.vZ (u1,u2,u3,u4,u5,u6,u7,u8)):(∃(x1:Nat),(b=S.gg b x1/\u1=(S.proc (u1,u2,u3,u4,u5,u6,u7,u8) b x1).1/\u2=(S.proc (u1,u2,u3,u4,u5,u6,u7,u8) b x1).2.1/\u3=(S.proc (u1,u2,u3,u4,u5,u6,u7,u8) b x1).2.2.1/\u4=(S.proc (u1,u2,u3,u4,u5,u6,u7,u8) b x1).2.2.2.1/\u5=(S.proc (u1,u2,u3,u4,u5,u6,u7,u8) b x1).2.2.2.2.1/\u6=(S.proc (u1,u2,u3,u4,u5,u6,u7,u8) b x1).2.2.2.2.2.1/\u7=(S.proc (u1,u2,u3,u4,u5,u6,u7,u8) b x1).2.2.2.2.2.2.1/\u8=(S.proc (u1,u2,u3,u4,u5,u6,u7,u8) b x1).2.2.2.2.2.2.2)/\64*x1<=length b)/\(∀(x2:Nat),64*x2<=length b->ya (decide (64<=dQ (S.gg b x2))) (aAM 64 (dQ (S.gg b x2))) (S.RL ((S.proc (u1,u2,u3,u4,u5,u6,u7,u8) b x2).1,(S.proc (u1,u2,u3,u4,u5,u6,u7,u8) b x2).2.1,(S.proc (u1,u2,u3,u4,u5,u6,u7,u8) b x2).2.2.1,(S.proc (u1,u2,u3,u4,u5,u6,u7,u8) b x2).2.2.2.1,(S.proc (u1,u2,u3,u4,u5,u6,u7,u8) b x2).2.2.2.2.1,(S.proc (u1,u2,u3,u4,u5,u6,u7,u8) b x2).2.2.2.2.2.1,(S.proc (u1,u2,u3,u4,u5,u6,u7,u8) b x2).2.2.2.2.2.2.1,(S.proc (u1,u2,u3,u4,u5,u6,u7,u8) b x2).2.2.2.2.2.2.2) (aBU 64 (S.gg b x2))/\aBW 64 (dQ (S.gg b x2)) (∃(x3:Nat),(Ar 64 (S.gg b x2)=S.gg b x3/\(S.block ((S.proc (u1,u2,u3,u4,u5,u6,u7,u8) b x2).1,(S.proc (u1,u2,u3,u4,u5,u6,u7,u8) b x2).2.1,(S.proc (u1,u2,u3,u4,u5,u6,u7,u8) b x2).2.2.1,(S.proc (u1,u2,u3,u4,u5,u6,u7,u8) b x2).2.2.2.1,(S.proc (u1,u2,u3,u4,u5,u6,u7,u8) b x2).2.2.2.2.1,(S.proc (u1,u2,u3,u4,u5,u6,u7,u8) b x2).2.2.2.2.2.1,(S.proc (u1,u2,u3,u4,u5,u6,u7,u8) b x2).2.2.2.2.2.2.1,(S.proc (u1,u2,u3,u4,u5,u6,u7,u8) b x2).2.2.2.2.2.2.2) (aBU 64 (S.gg b x2))).1=(S.proc (u1,u2,u3,u4,u5,u6,u7,u8) b x3).1/\(S.block ((S.proc (u1,u2,u3,u4,u5,u6,u7,u8) b x2).1,(S.proc (u1,u2,u3,u4,u5,u6,u7,u8) b x2).2.1,(S.proc (u1,u2,u3,u4,u5,u6,u7,u8) b x2).2.2.1,(S.proc (u1,u2,u3,u4,u5,u6,u7,u8) b x2).2.2.2.1,(S.proc (u1,u2,u3,u4,u5,u6,u7,u8) b x2).2.2.2.2.1,(S.proc (u1,u2,u3,u4,u5,u6,u7,u8) b x2).2.2.2.2.2.1,(S.proc (u1,u2,u3,u4,u5,u6,u7,u8) b x2).2.2.2.2.2.2.1,(S.proc (u1,u2,u3,u4,u5,u6,u7,u8) b x2).2.2.2.2.2.2.2) (aBU 64 (S.gg b x2))).2.1=(S.proc (u1,u2,u3,u4,u5,u6,u7,u8) b x3).2.1/\(S.block ((S.proc (u1,u2,u3,u4,u5,u6,u7,u8) b x2).1,(S.proc (u1,u2,u3,u4,u5,u6,u7,u8) b x2).2.1,(S.proc (u1,u2,u3,u4,u5,u6,u7,u8) b x2).2.2.1,(S.proc (u1,u2,u3,u4,u5,u6,u7,u8) b x2).2.2.2.1,(S.proc (u1,u2,u3,u4,u5,u6,u7,u8) b x2).2.2.2.2.1,(S.proc (u1,u2,u3,u4,u5,u6,u7,u8) b x2).2.2.2.2.2.1,(S.proc (u1,u2,u3,u4,u5,u6,u7,u8) b x2).2.2.2.2.2.2.1,(S.proc (u1,u2,u3,u4,u5,u6,u7,u8) b x2).2.2.2.2.2.2.2) (aBU 64 (S.gg b x2))).2.2.1=(S.proc (u1,u2,u3,u4,u5,u6,u7,u8) b x3).2.2.1/\(S.block ((S.proc (u1,u2,u3,u4,u5,u6,u7,u8) b x2).1,(S.proc (u1,u2,u3,u4,u5,u6,u7,u8) b x2).2.1,(S.proc (u1,u2,u3,u4,u5,u6,u7,u8) b x2).2.2.1,(S.proc (u1,u2,u3,u4,u5,u6,u7,u8) b x2).2.2.2.1,(S.proc (u1,u2,u3,u4,u5,u6,u7,u8) b x2).2.2.2.2.1,(S.proc (u1,u2,u3,u4,u5,u6,u7,u8) b x2).2.2.2.2.2.1,(S.proc (u1,u2,u3,u4,u5,u6,u7,u8) b x2).2.2.2.2.2.2.1,(S.proc (u1,u2,u3,u4,u5,u6,u7,u8) b x2).2.2.2.2.2.2.2) (aBU 64 (S.gg b x2))).2.2.2.1=(S.proc (u1,u2,u3,u4,u5,u6,u7,u8) b x3).2.2.2.1/\(S.block ((S.proc (u1,u2,u3,u4,u5,u6,u7,u8) b x2).1,(S.proc (u1,u2,u3,u4,u5,u6,u7,u8) b x2).2.1,(S.proc (u1,u2,u3,u4,u5,u6,u7,u8) b x2).2.2.1,(S.proc (u1,u2,u3,u4,u5,u6,u7,u8) b x2).2.2.2.1,(S.proc (u1,u2,u3,u4,u5,u6,u7,u8) b x2).2.2.2.2.1,(S.proc (u1,u2,u3,u4,u5,u6,u7,u8) b x2).2.2.2.2.2.1,(S.proc (u1,u2,u3,u4,u5,u6,u7,u8) b x2).2.2.2.2.2.2.1,(S.proc (u1,u2,u3,u4,u5,u6,u7,u8) b x2).2.2.2.2.2.2.2) (aBU 64 (S.gg b x2))).2.2.2.2.1=(S.proc (u1,u2,u3,u4,u5,u6,u7,u8) b x3).2.2.2.2.1/\(S.block ((S.proc (u1,u2,u3,u4,u5,u6,u7,u8) b x2).1,(S.proc (u1,u2,u3,u4,u5,u6,u7,u8) b x2).2.1,(S.proc (u1,u2,u3,u4,u5,u6,u7,u8) b x2).2.2.1,(S.proc (u1,u2,u3,u4,u5,u6,u7,u8) b x2).2.2.2.1,(S.proc (u1,u2,u3,u4,u5,u6,u7,u8) b x2).2.2.2.2.1,(S.proc (u1,u2,u3,u4,u5,u6,u7,u8) b x2).2.2.2.2.2.1,(S.proc (u1,u2,u3,u4,u5,u6,u7,u8) b x2).2.2.2.2.2.2.1,(S.proc (u1,u2,u3,u4,u5,u6,u7,u8) b x2).2.2.2.2.2.2.2) (aBU 64 (S.gg b x2))).2.2.2.2.2.1=(S.proc (u1,u2,u3,u4,u5,u6,u7,u8) b x3).2.2.2.2.2.1/\(S.block ((S.proc (u1,u2,u3,u4,u5,u6,u7,u8) b x2).1,(S.proc (u1,u2,u3,u4,u5,u6,u7,u8) b x2).2.1,(S.proc (u1,u2,u3,u4,u5,u6,u7,u8) b x2).2.2.1,(S.proc (u1,u2,u3,u4,u5,u6,u7,u8) b x2).2.2.2.1,(S.proc (u1,u2,u3,u4,u5,u6,u7,u8) b x2).2.2.2.2.1,(S.proc (u1,u2,u3,u4,u5,u6,u7,u8) b x2).2.2.2.2.2.1,(S.proc (u1,u2,u3,u4,u5,u6,u7,u8) b x2).2.2.2.2.2.2.1,(S.proc (u1,u2,u3,u4,u5,u6,u7,u8) b x2).2.2.2.2.2.2.2) (aBU 64 (S.gg b x2))).2.2.2.2.2.2.1=(S.proc (u1,u2,u3,u4,u5,u6,u7,u8) b x3).2.2.2.2.2.2.1/\(S.block ((S.proc (u1,u2,u3,u4,u5,u6,u7,u8) b x2).1,(S.proc (u1,u2,u3,u4,u5,u6,u7,u8) b x2).2.1,(S.proc (u1,u2,u3,u4,u5,u6,u7,u8) b x2).2.2.1,(S.proc (u1,u2,u3,u4,u5,u6,u7,u8) b x2).2.2.2.1,(S.proc (u1,u2,u3,u4,u5,u6,u7,u8) b x2).2.2.2.2.1,(S.proc (u1,u2,u3,u4,u5,u6,u7,u8) b x2).2.2.2.2.2.1,(S.proc (u1,u2,u3,u4,u5,u6,u7,u8) b x2).2.2.2.2.2.2.1,(S.proc (u1,u2,u3,u4,u5,u6,u7,u8) b x2).2.2.2.2.2.2.2) (aBU 64 (S.gg b x2))).2.2.2.2.2.2.2=(S.proc (u1,u2,u3,u4,u5,u6,u7,u8) b x3).2.2.2.2.2.2.2)/\64*x3<=length b/\yb (S.blocks b) x3 x2)) ((S.proc (u1,u2,u3,u4,u5,u6,u7,u8) b x2).1=(S.aE (u1,u2,u3,u4,u5,u6,u7,u8) b).1) ((S.proc (u1,u2,u3,u4,u5,u6,u7,u8) b x2).2.1=(S.aE (u1,u2,u3,u4,u5,u6,u7,u8) b).2.1/\(S.proc (u1,u2,u3,u4,u5,u6,u7,u8) b x2).2.2.1=(S.aE (u1,u2,u3,u4,u5,u6,u7,u8) b).2.2.1/\(S.proc (u1,u2,u3,u4,u5,u6,u7,u8) b x2).2.2.2.1=(S.aE (u1,u2,u3,u4,u5,u6,u7,u8) b).2.2.2.1/\(S.proc (u1,u2,u3,u4,u5,u6,u7,u8) b x2).2.2.2.2.1=(S.aE (u1,u2,u3,u4,u5,u6,u7,u8) b).2.2.2.2.1/\(S.proc (u1,u2,u3,u4,u5,u6,u7,u8) b x2).2.2.2.2.2.1=(S.aE (u1,u2,u3,u4,u5,u6,u7,u8) b).2.2.2.2.2.1/\(S.proc (u1,u2,u3,u4,u5,u6,u7,u8) b x2).2.2.2.2.2.2.1=(S.aE (u1,u2,u3,u4,u5,u6,u7,u8) b).2.2.2.2.2.2.1/\(S.proc (u1,u2,u3,u4,u5,u6,u7,u8) b x2).2.2.2.2.2.2.2=(S.aE (u1,u2,u3,u4,u5,u6,u7,u8) b).2.2.2.2.2.2.2/\S.gg b x2=S.jo b)):=by
 refine aP ?_;refine⟨?_,?_⟩
 . refine⟨0,?_⟩;try dsimp only
   with_reducible and_intros
   iterate 9 rfl
   omega
 intro x1 h2;refine V.dI (λh3=>?_) λh4=>?_
 . with_reducible and_intros
   iterate 2 omega
   exact⟨S.UE _ _ hp _,x!⟩;iterate 2 omega
   refine⟨(x1+1),?_⟩;grind[S.gg,List.drop_drop,S.alD,List.length_drop,S.al,S.blocks]
 with_reducible and_intros
 iterate 8
  . rw [show x1=S.blocks b by grind[S.gg,List.length_drop,S.blocks]];rfl
 rw [show x1=S.blocks b by grind[S.gg,List.length_drop,S.blocks]];rfl
def awQ(s1 s2 s3 s4 s5 s6 s7 s8:Int)(s9:B8)(cD:Int)(b:B8)(hp:S.RK (s1,s2,s3,s4,s5,s6,s7,s8) s9 cD b):afu (q68 (Bool.not (S.oV s9 cD)) (q26 (1099511627776-cD))) (aA5 (aCs b cD s9)/\q26 (length (aBQ b cD s9)+length b)/\((0:Int)<=0/\aAM (length (aBQ b cD s9)+length b) (aG1 aFt))/\aGq (aDk 0 0) (length (aBQ b cD s9))/\aGq (aDk 0 0++aBQ b cD s9) (length b)/\S.vZ (aCj (aCs b cD s9) s1 s2 s3 s4 s5 s6 s7 s8)/\q40 (S.jo (aDk 0 0++aBQ b cD s9++b))/\q26 ((bif aCs b cD s9 then 0 else cD)+length b)/\(S.aE (aCj (aCs b cD s9) s1 s2 s3 s4 s5 s6 s7 s8) (aDk 0 0++aBQ b cD s9++b)).1=(S.aE (s1,s2,s3,s4,s5,s6,s7,s8) b).1/\(S.aE (aCj (aCs b cD s9) s1 s2 s3 s4 s5 s6 s7 s8) (aDk 0 0++aBQ b cD s9++b)).2.1=(S.aE (s1,s2,s3,s4,s5,s6,s7,s8) b).2.1/\(S.aE (aCj (aCs b cD s9) s1 s2 s3 s4 s5 s6 s7 s8) (aDk 0 0++aBQ b cD s9++b)).2.2.1=(S.aE (s1,s2,s3,s4,s5,s6,s7,s8) b).2.2.1/\(S.aE (aCj (aCs b cD s9) s1 s2 s3 s4 s5 s6 s7 s8) (aDk 0 0++aBQ b cD s9++b)).2.2.2.1=(S.aE (s1,s2,s3,s4,s5,s6,s7,s8) b).2.2.2.1/\(S.aE (aCj (aCs b cD s9) s1 s2 s3 s4 s5 s6 s7 s8) (aDk 0 0++aBQ b cD s9++b)).2.2.2.2.1=(S.aE (s1,s2,s3,s4,s5,s6,s7,s8) b).2.2.2.2.1/\(S.aE (aCj (aCs b cD s9) s1 s2 s3 s4 s5 s6 s7 s8) (aDk 0 0++aBQ b cD s9++b)).2.2.2.2.2.1=(S.aE (s1,s2,s3,s4,s5,s6,s7,s8) b).2.2.2.2.2.1/\(S.aE (aCj (aCs b cD s9) s1 s2 s3 s4 s5 s6 s7 s8) (aDk 0 0++aBQ b cD s9++b)).2.2.2.2.2.2.1=(S.aE (s1,s2,s3,s4,s5,s6,s7,s8) b).2.2.2.2.2.2.1/\(S.aE (aCj (aCs b cD s9) s1 s2 s3 s4 s5 s6 s7 s8) (aDk 0 0++aBQ b cD s9++b)).2.2.2.2.2.2.2=(S.aE (s1,s2,s3,s4,s5,s6,s7,s8) b).2.2.2.2.2.2.2/\S.jo (aDk 0 0++aBQ b cD s9++b)=S.jo b/\(bif aCs b cD s9 then(0:Int) else cD)+length b=S.B2 b):=by
 refine aP ?_;obtain⟨Rr,rfl,rfl,hs⟩:=hp;simp [S.small] at hs;have hv:S.oV [] 0=true:=by decide
 have hd:decide ((1099511627776:Int)-0<(b.length:Int))=false:=by grind
 simp only [hv,hd,Bool.not_true,L!,I!,ln,Int.toNat_zero];with_reducible and_intros
 trivial;grind;omega;iterate 2 grind
 iterate 5 omega
 iterate 2 grind
 omega
 . simp [List.replicate_zero,d?,F?,S.qR,S.B2,ln,K!] at *;omega
 iterate 2 omega
 iterate 9 rfl
 simp only [List.replicate_zero,d?,F?,S.qR,S.B2,ln,K!] at *;omega
def awR(s1 s2 s3 s4 s5 s6 s7 s8:Int)(s9:B8)(cD:Int)(hp:S.Jt (s1,s2,s3,s4,s5,s6,s7,s8) s9 cD):afu (aA5 (aDR cD s9)) (py (length (bif aDR cD s9 then([]:B8) else s9))/\py (length (bif aDR cD s9 then([]:B8) else s9)+length [(128:UInt8)])/\(∃(x1:Nat),(bif aDR cD s9 then([]:B8) else s9)++[(128:UInt8)]=S.j6 s9 x1/\S.fb s9 x1)/\(∀(x2:Nat),S.fb s9 x2->(0:Int)<=(length (S.j6 s9 x2):Int)/\(0:Int)<(64:Int)/\ya (hU ((length (S.j6 s9 x2):Int)%(64:Int)) (56:Int)) (py (length (S.j6 s9 x2)+length [(0:UInt8)])) (∃(x3:Nat),S.j6 s9 x2++[(0:UInt8)]=S.j6 s9 x3/\S.fb s9 x3/\yb (S.lf (S.len s9)) x3 x2) (∃(x4:Nat),((0:Int)=(x4:Int)/\S.j6 s9 x2=S.jd s9 cD x4)/\S.fe x4 (8:Nat)) (∀(x5:Nat),S.fe x5 (8:Nat)->yz (decide ((x5:Int)<(8:Int))) (q26 ((8:Int)*(x5:Int))) (aGo ((56:Int)-(8:Int)*(x5:Int)) (0:Int) (64:Int) (aFe (S.jd s9 cD x5) [aAD (aEz (aEz (bif aDR cD s9 then(0:Int) else cD)*(8:Int))/q73 (2:Int) ((56:Int)-(8:Int)*(x5:Int)))]/\q80 (x5:Int) (∃(x6:Nat),aA6 x5 x6 (S.jd s9 cD x5++[aAD (aEz (aEz (bif aDR cD s9 then(0:Int) else cD)*(8:Int))/q73 (2:Int) ((56:Int)-(8:Int)*(x5:Int)))]=S.jd s9 cD x6) (S.fe x6 (8:Nat)) (8:Nat)))) (S.vZ (aCj (aDR cD s9) s1 s2 s3 s4 s5 s6 s7 s8)) ((0:Int)<=(0:Int)/\aAM (32:Int) (aG1 aFt)) ((∃(x7:Nat),((0:Int)=(x7:Int)/\aDk (0:Int) (0:UInt8)=S.vY (S.aE (s1,s2,s3,s4,s5,s6,s7,s8) (S.tail s9 cD)) x7)/\S.fe x7 (8:Nat))/\(∀(x8:Nat),S.fe x8 (8:Nat)->q79 (decide ((x8:Int)<(8:Int))) (0:Int) (x8:Int) aCU (((0:Int)<=(24:Int)/\(24:Int)<=(32:Int))/\((0:Int)<=(16:Int)/\(16:Int)<=(32:Int))/\aBW (8:Int) (32:Int) (aFe (S.vY (S.aE (s1,s2,s3,s4,s5,s6,s7,s8) (S.tail s9 cD)) x8) [aAD (aBj cD s1 s2 s3 s4 s5 s6 s7 s8 s9 x5 x8/q73 (2:Int) (24:Int)),aAD (aBj cD s1 s2 s3 s4 s5 s6 s7 s8 s9 x5 x8/q73 (2:Int) (16:Int)),aAD (aBj cD s1 s2 s3 s4 s5 s6 s7 s8 s9 x5 x8/q73 (2:Int) (8:Int)),aAD (aBj cD s1 s2 s3 s4 s5 s6 s7 s8 s9 x5 x8)]/\q80 (x8:Int) (∃(x9:Nat),aA6 x8 x9 (S.vY (S.aE (s1,s2,s3,s4,s5,s6,s7,s8) (S.tail s9 cD)) x8++[aAD (aBj cD s1 s2 s3 s4 s5 s6 s7 s8 s9 x5 x8/q73 (2:Int) (24:Int)),aAD (aBj cD s1 s2 s3 s4 s5 s6 s7 s8 s9 x5 x8/q73 (2:Int) (16:Int)),aAD (aBj cD s1 s2 s3 s4 s5 s6 s7 s8 s9 x5 x8/q73 (2:Int) (8:Int)),aAD (aBj cD s1 s2 s3 s4 s5 s6 s7 s8 s9 x5 x8)]=S.vY (S.aE (s1,s2,s3,s4,s5,s6,s7,s8) (S.tail s9 cD)) x9) (S.fe x9 (8:Nat)) (8:Nat)))) (S.vY (S.aE (s1,s2,s3,s4,s5,s6,s7,s8) (S.tail s9 cD)) x8=S.dig (S.aE (s1,s2,s3,s4,s5,s6,s7,s8) (S.tail s9 cD)))))))):=by
 refine aP ?_;have hv:=S.acf hp;obtain⟨Rr,h01,h02,h03⟩:=hp;simp only [hv,Bool.not_true,L!];with_reducible and_intros
 trivial;iterate 2 grind
 omega;grind
 . refine⟨0,?_⟩;refine⟨?_,?_⟩
   . exact S.afW _
   simp only [S.fm,S.iE,S.fb,S.lf,S.fe,S.al,S.len,lc,ln] at *;omega
 intro x3 h4;with_reducible and_intros
 iterate 2 omega
 . intro h5;try simp at h5
   refine⟨?_,?_⟩
   . simp [S.fm,S.iE,S.fb,S.lf,S.fe,S.al,S.len,lc,ln] at *;omega
   refine⟨(x3+1),?_⟩;with_reducible and_intros
   grind[S.UF];grind[S.Xf];simp only [S.fm,S.iE,S.fb,S.lf,S.fe,S.al,S.len,lc,ln] at *;omega
 intro h6;refine⟨?_,?_⟩
 . refine⟨(nat_lit 0:Nat),?_⟩;try dsimp only
   with_reducible and_intros
   omega;grind[S.afX,S.acg];simp only [S.fm,S.iE,S.fb,S.lf,S.fe,S.al,S.len,lc,ln] at *;omega
 intro x7 h8;refine V.dI (λh9=>?_) λh10=>?_
 . with_reducible and_intros
   iterate 6 omega
   . simp only [S.fm,S.iE,S.fb,S.lf,S.fe,S.al,S.len,lc,ln] at *;omega
   iterate 2 omega
   refine⟨(x7+nat_lit 1),?_⟩;try dsimp only
   with_reducible and_intros
   omega;exact S.UG s9 cD x7 h01 h02 w!
   . simp only [S.fm,S.iE,S.fb,S.lf,S.fe,S.al,S.len,lc,ln] at *;omega
   simp only [S.fm,S.iE,S.fb,S.lf,S.fe,S.al,S.len,lc,ln] at *;omega
 with_reducible and_intros
 iterate 4 omega
 . refine⟨(nat_lit 0:Nat),?_⟩;try dsimp only
   with_reducible and_intros
   omega;rfl;simp only [S.fm,S.iE,S.fb,S.lf,S.fe,S.al,S.len,lc,ln] at *;omega
 intro x11 jH;refine V.dI (λmv=>?_) λrY=>?_
 . with_reducible and_intros
   iterate 8 omega
   . rw [S.Pb _ _ (by simp only [S.fe] at *;omega)];simp;omega
   iterate 2 omega
   refine⟨(x11+nat_lit 1),?_⟩;try dsimp only
   with_reducible and_intros
   omega
   . rw [show x7=8 by(simp only [S.fe] at *;omega)];exact S.alC _ x11 w!
   . simp only [S.fm,S.iE,S.fb,S.lf,S.fe,S.al,S.len,lc,ln] at *;omega
   simp only [S.fm,S.iE,S.fb,S.lf,S.fe,S.al,S.len,lc,ln] at *;omega
 rw [show x11=8 by(simp only [S.fe] at *;omega)];rfl
def awS(b:B8)(hp:S.small b):afu (S.RK aDq q98 0 b) (S.Jt (aHv b) (S.jo b) (S.B2 b)/\S.dig (S.aE (aHv b) (S.tail (S.jo b) (S.B2 b)))=S.sum b):=by
 refine aP ?_;with_reducible and_intros
 trivial;exact⟨S.afV,rfl,rfl,hp⟩
 . simp [S.small] at hp;exact⟨S.UE _ _ S.afV _,by grind[S.B2],by grind[S.B2],by grind[S.qR,S.B2]⟩
 exact congrArg S.dig (S.Xh b _)
def awT(b:B8)(hp:b.length<=140737488355328):q40 b/\b=b:=by
 refine aP ?_;grind
def awU(v:Int)(l:B8)(hp:S.EW l v)(hf:Vg.dL J.q6p v):(∃(x1:B8×Int),(v=x1.2/\l=x1.1)/\S.rP l v x1.1 x1.2)/\(∀(x2:B8×Int),S.rP l v x2.1 x2.2->ya (decide (127<x2.2)) (0<=x2.2) ((0:Int)<=127/\py (length x2.1+length [fu (Vg.cm (Vg.aK x2.2 127%256) 128)])/\aBW 7 64 (∃(x3:B8×Int),(x2.2/q73 2 7=x3.2/\x2.1++[fu (Vg.cm (Vg.aK x2.2 127%256) 128)]=x3.1)/\S.rP l v x3.1 x3.2/\aDZ x3.2 (toNat x2.2))) (py (length x2.1+length [aAD x2.2])) (x2.1++[aAD x2.2]=l++S.num v)):=by
 refine aP ?_;have ĺ:Vg.hint v:=hf.1;obtain⟨oA,Q5⟩:=hp;refine⟨?_,?_⟩
 . refine⟨((l),(v)),?_⟩;with_reducible and_intros
   omega;rfl;exact⟨oA,P? _,rfl⟩
 intro x1 h2;refine V.dI (λh3=>?_) λh4=>?_
 . with_reducible and_intros
   iterate 2 omega
   . (have hl:=S.EY h2;grind)
   iterate 2 omega
   refine⟨((Prod.fst x1++[UInt8.ofNat (toNat (Vg.cm (Vg.aK (Prod.snd x1) (127:Int)%(256:Int)) (128:Int)))]),(Prod.snd x1/(2:Int)^toNat (7:Int))),?_⟩;grind[S.EY,S.ò,S.acm]
 refine⟨?_,?_⟩
 . (have hl:=S.EY h2;grind)
 grind[S.EY,S.ò,S.af5]
def awV(s l:B8)(hp:S.nB l s):S.EW l (length s)/\aGq (l++S.num (length s)) (length s)/\l++S.num (length s)++s=l++S.text s:=by
 refine aP ?_;obtain⟨oA,Q5⟩:=hp;grind[S.eN,S.EW,List.length_append,S.text]
def awW(b:B8)(v:Int)(hp:b.length<=35184372088832):yz (yA v 0 (decide (4611686018427387904<v))) (1=S.v7 v) ([]=S.lh b v) (q40 b) (S.EW b v) (0=S.v7 v/\b++S.num v=S.lh b v):=by
 refine aP ?_;refine⟨?_,?_⟩
 . simp_all[V.xq,dt,S.lh,S.v7,S.fD]
 intro h2;simp at h2;with_reducible and_intros
 omega;exact⟨w!,w!⟩;iterate 2 (grind[S.lh,S.v7,S.fD])
def awX(b s:B8)(hp:S.nB b s):q40 b/\S.nB b s/\b++S.text s=b++S.text s:=by
 refine aP ?_;grind[S.nB]
def awY(r1:B8)(r2 r3:Int):aFW 0 r2 (dQ r1)=S.inside r1 r2:=by
 refine aP ?_;grind[S.inside,decide]
def awZ(r1:B8)(r2 r3:Int)(hp:r1.length<=140737488355328):q40 r1/\aA5 (FI r3)/\r1=r1/\(bif eP (FI r3) (Bool.not (S.inside r1 r2)) then r2 else r2)=r2/\aFY (eP (FI r3) (Bool.not (S.inside r1 r2))) 1 r3 (S.bU r1 r2 r3):=by
 refine aP ?_;grind[S.bU,S.inside]
def aw0(b:B8)(p:Int)(hp:S.dy b p)(hf:Vg.bo J.q8p (b,p)):(∃(x1:Nat),(0=S.fA b p x1/\(0:Int)=x1)/\S.jq b p x1)/\(∀(x2:Nat),S.jq b p x2->MJ (decide ((x2:Int)=9)) (0=(S.aD b p).1) (0=(S.aD b p).2.1/\2=(S.aD b p).2.2) (dQ b-p) (MJ (decide (x2=dQ b-p)) (0=(S.aD b p).1) (0=(S.aD b p).2.1/\4=(S.aD b p).2.2) (p+x2) (q25 0 (p+x2) (dQ b)/\aGo (7*x2) 0 64 (q26 (abU b p x2)/\0<=S.fA b p x2/\0<=abU b p x2/\q80 x2 (q19 (decide (axs b (p+x2)<128)) (q19 (decide ((1:Int)<x2+1)) (q26 (p+(x2+1))) (q26 (p+(x2+1)-1)/\q25 0 (p+(x2+1)-1) (dQ b)) True) (MJ (bif decide ((1:Int)<x2+1) then q29 (FI (axs b (p+(x2+1)-1))) (decide (4611686018427387904<Vg.cm (S.fA b p x2) (abU b p x2))) else decide (4611686018427387904<Vg.cm (S.fA b p x2) (abU b p x2))) (0=(S.aD b p).1) (0=(S.aD b p).2.1/\2=(S.aD b p).2.2) (p+(x2+1)) (Vg.cm (S.fA b p x2) (abU b p x2)=(S.aD b p).1/\p+(x2+1)=(S.aD b p).2.1/\0=(S.aD b p).2.2)) (∃(x3:Nat),(Vg.cm (S.fA b p x2) (abU b p x2)=S.fA b p x3/\(x2:Int)+1=x3)/\S.jq b p x3/\yb 9 x3 x2)))))):=by
 refine aP ?_;have ko:Vg.hlen b:=hf.1.1;clear hf;have zA:=hp;simp only [S.dy] at zA;refine⟨?_,?_⟩
 . refine⟨(nat_lit 0:Nat),?_⟩;try dsimp only
   with_reducible and_intros
   exact(S.aA1 b p).symm;omega;exact S.aA0 hp
 intro x1 h2;refine V.dI (λh3=>?_) λh4=>?_
 . with_reducible and_intros
   iterate 3 (grind [S.af2,S.UJ])
 with_reducible and_intros
 iterate 2 omega
 . intro h5;with_reducible and_intros
   iterate 3 (grind [S.af2,S.UJ])
 intro h6;try simp at h6
 with_reducible and_intros
 omega
 . (have hg:=S.fU h2;omega)
 omega
 . (have hg:=S.fU h2;omega)
 omega
 . (have hg:=S.fU h2;omega)
 omega
 . (have hg:=S.fU h2;omega)
 iterate 2
  . have hg:=S.fU h2;have hn:=S.mg ((b.getD (p+(x1:Int)).toNat 0).toNat:Int) w!;have hs:=S.ñ (Vg.aK ((b.getD (p+(x1:Int)).toNat 0).toNat:Int) 127) x1 w! w! w!;try clear h8
    try clear h9
    clear hn;omega
 . (have hg:=S.fU h2;have hv:=S.alF (b:=b) (p:=p) hg.1;exact hv.1)
 . (have hg:=S.fU h2;have hn:=S.mg ((b.getD (p+(x1:Int)).toNat 0).toNat:Int) w!;have hs:=S.ñ (Vg.aK ((b.getD (p+(x1:Int)).toNat 0).toNat:Int) 127) x1 w! w! w!;exact hs.1)
 omega
 . (have hg:=S.fU h2;omega)
 . intro h7;try simp only [dt] at h7
   with_reducible and_intros
   . intro h8;with_reducible and_intros
     omega
     . have hg:=S.fU h2;have hn:=S.mg ((b.getD (p+(x1:Int)).toNat 0).toNat:Int) w!;try clear h8
       try clear h9
       clear hn;omega
     omega
     . have hg:=S.fU h2;have hn:=S.mg ((b.getD (p+(x1:Int)).toNat 0).toNat:Int) w!;try clear h8
       try clear h9
       clear hn;omega
     omega;have hg:=S.fU h2;have hn:=S.mg ((b.getD (p+(x1:Int)).toNat 0).toNat:Int) w!;try clear h8
     try clear h9
     clear hn;omega
   . intro h9;trivial
   . intro h10;with_reducible and_intros
     . exact(S.Gw hp h2 (by have hg:=S.fU h2;omega) w! w! h10).1
     . exact(S.Gw hp h2 (by have hg:=S.fU h2;omega) w! w! h10).2.1
     . exact(S.Gw hp h2 (by have hg:=S.fU h2;omega) w! w! h10).2.2
   intro iR;with_reducible and_intros
   omega
   . clear iR;have hg:=S.fU h2;omega
   . exact(S.Gx hp h2 (by have hg:=S.fU h2;omega) w! w! iR).1
   . exact(S.Gx hp h2 (by have hg:=S.fU h2;omega) w! w! iR).2.1
   . exact(S.Gx hp h2 (by have hg:=S.fU h2;omega) w! w! iR).2.2
 intro jH;try simp only [df] at jH
 refine⟨(x1+nat_lit 1),?_⟩;try dsimp only
 with_reducible and_intros
 . (have hg:=S.fU h2;exact S.ð hp h2 w!)
 omega
 . (have hg:=S.fU h2;exact S.ack hp h2 w! w! w!)
 . (have hg:=S.fU h2;simp only [S.al];omega)
def aw1(b:B8)(p dg:Int)(hp:S.dy b p)(hf:Vg.bo J.atd (b,p,dg)):S.dy b p/\q19 (akZ (S.aD b p).2.2) ([]=(S.cM b p dg).1) (0=(S.cM b p dg).2.1/\(S.aD b p).2.2=(S.cM b p dg).2.2) (MJ (decide (dg<(S.aD b p).1)) ([]=(S.cM b p dg).1) (0=(S.cM b p dg).2.1/\2=(S.cM b p dg).2.2) (dQ b-(S.aD b p).2.1) (yz (decide (dQ b-(S.aD b p).2.1<(S.aD b p).1)) ([]=(S.cM b p dg).1) (0=(S.cM b p dg).2.1/\4=(S.cM b p dg).2.2) (q26 ((S.aD b p).2.1+(S.aD b p).1)) (ald 0 (S.aD b p).2.1 ((S.aD b p).2.1+(S.aD b p).1) (dQ b)) (q26 ((S.aD b p).2.1+(S.aD b p).1)/\Ar (S.aD b p).2.1 (aBU ((S.aD b p).2.1+(S.aD b p).1) b)=(S.cM b p dg).1/\(S.aD b p).2.1+(S.aD b p).1=(S.cM b p dg).2.1/\0=(S.cM b p dg).2.2))):=by
 refine aP ?_;have ko:Vg.hlen b:=hf.1.1;have hb:=S.Xk hp;with_reducible and_intros
 omega;grind[nt,df,S.cM];intro h2;refine⟨?_,?_⟩
 . simp_all[dt,S.cM]
 intro h4;with_reducible and_intros
 iterate 2 omega
 grind[S.cM];grind[df,S.cM]
def aw2(r1:B8)(r2 r3 dg:Int)(hp:r1.length<=140737488355328):q40 r1/\ya (akZ (S.bU r1 r2 r3)) (r1=(S.ai r1 r2 r3 dg).1.1) (r2=(S.ai r1 r2 r3 dg).1.2.1/\S.bU r1 r2 r3=(S.ai r1 r2 r3 dg).1.2.2/\[]=(S.ai r1 r2 r3 dg).2) (S.dy r1 r2) (q19 (akZ (S.cM r1 r2 dg).2.2) (r1=(S.ai r1 r2 r3 dg).1.1) (r2=(S.ai r1 r2 r3 dg).1.2.1/\(S.cM r1 r2 dg).2.2=(S.ai r1 r2 r3 dg).1.2.2/\[]=(S.ai r1 r2 r3 dg).2) (r1=(S.ai r1 r2 r3 dg).1.1/\(S.cM r1 r2 dg).2.1=(S.ai r1 r2 r3 dg).1.2.1/\S.bU r1 r2 r3=(S.ai r1 r2 r3 dg).1.2.2/\(S.cM r1 r2 dg).1=(S.ai r1 r2 r3 dg).2)):=by
 refine aP ?_;with_reducible and_intros
 omega;grind[nt,df,S.ai,S.dy,S.bU,S.inside];intro h2;with_reducible and_intros
 grind[S.ai,S.dy,S.bU,S.inside];grind[nt,df,S.ai,S.dy,S.bU,S.inside];simp_all[nf,dt,S.ai,S.dy,S.bU,S.inside]
def aw3(r1:B8)(r2 r3:Int)(hp:r1.length<=140737488355328):q40 r1/\ya (akZ (S.bU r1 r2 r3)) (r1=(S.af r1 r2 r3).1.1) (r2=(S.af r1 r2 r3).1.2.1/\S.bU r1 r2 r3=(S.af r1 r2 r3).1.2.2/\0=(S.af r1 r2 r3).2) (S.dy r1 r2) (q19 (akZ (S.aD r1 r2).2.2) (r1=(S.af r1 r2 r3).1.1) (r2=(S.af r1 r2 r3).1.2.1/\(S.aD r1 r2).2.2=(S.af r1 r2 r3).1.2.2/\0=(S.af r1 r2 r3).2) (r1=(S.af r1 r2 r3).1.1/\(S.aD r1 r2).2.1=(S.af r1 r2 r3).1.2.1/\S.bU r1 r2 r3=(S.af r1 r2 r3).1.2.2/\(S.aD r1 r2).1=(S.af r1 r2 r3).2)):=by
 refine aP ?_;with_reducible and_intros
 omega;grind[nt,df,S.af,S.dy,S.bU,S.inside];intro h2;with_reducible and_intros
 grind[S.af,S.dy,S.bU,S.inside];grind[nt,df,S.af,S.dy,S.bU,S.inside];simp_all[nf,dt,S.af,S.dy,S.bU,S.inside]
def aw4(r1:B8)(r2 r3:Int)(hp:r1.length<=140737488355328)(hf:Vg.bo J.Cg (r1,r2,r3)):py (length r1)/\MJ (akZ (S.bU r1 r2 r3)) (r1=(S.an r1 r2 r3).1.1) (r2=(S.an r1 r2 r3).1.2.1/\S.bU r1 r2 r3=(S.an r1 r2 r3).1.2.2/\[]=(S.an r1 r2 r3).2) (length r1-r2) (yz (decide (length r1-r2<32)) (r1=(S.an r1 r2 r3).1.1) (r2=(S.an r1 r2 r3).1.2.1/\4=(S.an r1 r2 r3).1.2.2/\[]=(S.an r1 r2 r3).2) (q26 (r2+32)) (ald 0 r2 (r2+32) (length r1)) (q26 (r2+32)/\r1=(S.an r1 r2 r3).1.1/\r2+32=(S.an r1 r2 r3).1.2.1/\S.bU r1 r2 r3=(S.an r1 r2 r3).1.2.2/\Ar r2 (aBU (r2+32) r1)=(S.an r1 r2 r3).2)):=by
 refine aP ?_;have aEf:Vg.hint r2:=hf.2.1;with_reducible and_intros
 omega;grind[nt,df,S.an,S.dy,S.bU,S.inside];intro h2;with_reducible and_intros
 omega;grind[S.an,S.dy,S.bU,S.inside];simp_all[dt,S.an,S.dy,S.bU,S.inside]
 grind[df,S.an,S.dy,S.bU,S.inside,S.acn,List.drop_take]
def aw5(r1:B8)(r2 r3:Int):q17 (akZ r3) (r3=S.done r1 r2 r3) (q54 (q17 (Bool.not (S.inside r1 r2)) (1=S.done r1 r2 r3) (q17 (aFg r2 r1) (2=S.done r1 r2 r3) (0=S.done r1 r2 r3)))):=by
 refine aP ?_;simp_all[nt,df,S.done,nf,dt]
def aw6(kind:UInt8)(parts:List B8)(hp:S.nC parts)(hf:Vg.bo J.atf (kind,parts)):(∃(x1:Nat),((0:Int)=x1/\[fu (lG kind)]=S.mN kind parts x1)/\S.ud parts x1)/\(∀(x2:Nat),S.ud parts x2->q79 (decide (x2<wD parts)) 0 x2 (wD parts) (aFe (S.mN kind parts x2) (q93 parts x2)/\q80 x2 (∃(x3:Nat),aA6 x2 x3 (S.mN kind parts x2++q93 parts x2=S.mN kind parts x3) (S.ud parts x3) (S.len parts))) (S.mN kind parts x2=S.fM kind parts)):=by
 refine aP ?_;have azP:Vg.hlen parts:=hf.2.1.1;clear hf;refine⟨?_,?_⟩
 . grind[S.acp,S.ud,S.al,S.len]
 intro x1 h2;refine⟨?_,?_⟩
 . intro h3;try simp only [dt] at h3
   with_reducible and_intros
   iterate 2 omega
   exact S.Xl kind hp w!;iterate 2 omega
   refine⟨(x1+nat_lit 1),?_⟩;try dsimp only
   with_reducible and_intros
   omega;exact S.RO _ _ _ w!
   . simp only [S.ud,S.al,S.len] at *;omega
   simp only [S.ud,S.al,S.len] at *;omega
 grind[df,S.UL]
def aw7(b:B8)(hp:S.bQ b):aG6 [b] 0 0 b:=by
 refine aP ?_;grind[S.nC,S.bQ,S.fM,S.nd]
def aw8(l r:B8)(hp:S.bQ (l++r)):aG6 [l,r] 1 1 (l++r):=by
 refine aP ?_;grind[S.nC,S.bQ,List.length_append,S.fM,S.nd]
def aw9(b:B8)(hp:S.bQ b):aG6 [b] 2 2 b:=by
 refine aP ?_;grind[S.nC,S.bQ,S.fM,S.nd]
def axa(b:B8)(hp:S.bQ b):aG6 [b] 3 3 b:=by
 refine aP ?_;grind[S.nC,S.bQ,S.fM,S.nd]
def axb(b:B8)(hp:S.bQ b):aH6 b (S.nd 0 b) (S.leaf b):=by
 refine aP ?_;with_reducible and_intros
 omega;exact hp;rfl
def axc(l r:B8):yz (q29 (aFi l) (aFi r)) ([]=S.bc l r) (1=S.qc l r) (S.bQ (l++r)) (S.small (S.nd 1 (l++r))) (S.sum (S.nd 1 (l++r))=S.bc l r/\0=S.qc l r):=by
 refine aP ?_;refine⟨?_,?_⟩
 . grind[S.bc,S.qc,S.Pj,S.RN,S.lB]
 intro h2;with_reducible and_intros
 iterate 2 (grind[S.small,S.nd,S.bQ,lc,List.length_append])
 iterate 2 (grind[S.bc,S.qc,S.Pj,S.RN,S.lB])
def axd(b:B8)(hp:S.bQ b):aH6 b (S.nd 2 b) (S.lB 2 b):=by
 refine aP ?_;with_reducible and_intros
 omega;exact hp;rfl
def axe(b:B8)(hp:S.bQ b):aH6 b (S.nd 3 b) (S.lB 3 b):=by
 refine aP ?_;with_reducible and_intros
 omega;exact hp;rfl
def axf(c:Int):q90 0 c (q90 c 1114111 (yA c 55296 (decide (57343<c))))=S.cq c:=by
 refine aP ?_;grind[S.cq]
def axg(c:Int):q17 (decide (c<128)) (1=S.dY c) (q17 (decide (c<2048)) (2=S.dY c) (q17 (decide (c<65536)) (3=S.dY c) (4=S.dY c))):=by
 refine aP ?_;refine⟨?_,?_⟩
 . simp_all[dt,S.dY]
 intro h2;refine⟨?_,?_⟩
 . simp_all[dt,S.dY]
 intro h4;refine⟨?_,?_⟩
 . grind [S.dY]
 grind[df,S.dY]
def axh(c:Int)(hp:0<=c):0<=c/\(0:Int)<=63/\Vg.cm 128 (Vg.aK c 63%256)=lG (S.more c):=by
 refine aP ?_;have e:Vg.aK c 63%256=c%64:=by grind[S.Lp]
 grind[S.zF,S.alH]
def axi(c:Int):q54 (ya (aFK c) (1=S.yf c) ([]=S.gN c) True (q19 (decide (S.dY c=1)) (0=S.yf c) ([aAD c]=S.gN c) (q19 (decide (S.dY c=2)) (aAM 6 64) (0<=c/\0=S.yf c/\fu (Vg.cm 192 (c/q73 2 6%256))::aGz c=S.gN c) (ya (decide (S.dY c=3)) (aAM 12 64) (aAM 6 64/\0<=c/q73 2 6/\0<=c/\0=S.yf c/\fu (Vg.cm 224 (c/q73 2 12%256))::fu (lG (S.more (c/q73 2 6)))::aGz c=S.gN c) (aAM 18 64) (aBW 12 64 (0<=c/q73 2 12/\aBW 6 64 (0<=c/q73 2 6/\0<=c/\0=S.yf c/\fu (Vg.cm 240 (c/q73 2 18%256))::fu (lG (S.more (c/q73 2 12)))::fu (lG (S.more (c/q73 2 6)))::aGz c=S.gN c))))))):=by
 refine aP ?_;with_reducible and_intros
 trivial;grind[nt,S.yf,S.gN];intro h2;simp at h2;with_reducible and_intros
 trivial
 . intro h3;refine⟨?_,?_⟩
   . grind[S.eC,S.yf]
   (have hc:=S.eC h2;(simp [S.gN,h2,if_true];grind[S.alI,S.dY]))
 intro h4;refine V.dI (λh5=>?_) λh6=>?_
 . with_reducible and_intros
   iterate 2 omega
   simp_all[S.eC]
   grind[S.eC,S.yf]
   . (have hc:=S.eC h2;(simp only [S.gN,h2,if_true];grind[S.alM,S.dY]))
 refine V.dI (λh7=>?_) λh8=>?_
 . with_reducible and_intros
   iterate 4 omega
   . (have hc:=S.eC h2;grind)
   simp_all[S.eC]
   grind[S.eC,S.yf]
   . (have hc:=S.eC h2;(simp only [S.gN,h2,if_true];grind[S.alN,S.dY]))
 with_reducible and_intros
 iterate 4 omega
 . (have hc:=S.eC h2;grind)
 iterate 2 omega
 . (have hc:=S.eC h2;grind)
 simp_all[S.eC]
 grind[S.eC,S.yf]
 . (have hc:=S.eC h2;(simp only [S.gN,h2,if_true];grind[S.alO,S.dY]))
def axj(b:B8)(hp:0<b.length)(hf:Vg.bo J.fv b):((0:Int)<=0/\0<dQ b)/\ya (decide (axs b 0<128)) (axs b 0=(S.aL b).1) (1=(S.aL b).2) (aAM 5 64) (ya (decide (axs b 0/q73 2 5=6)) (0<=axs b 0) ((0:Int)<=31/\yz (decide (dQ b<2)) (65533=(S.aL b).1) (1=(S.aL b).2) (ald 0 1 2 (dQ b)) (∃(x1:Nat),((0:Int)=x1/\Vg.aK (axs b 0) 31=S.bX b x1)/\S.pI b x1) (∀(x2:Nat),S.pI b x2->yz (decide (x2<dQ (aFA b))) (q25 0 x2 (dQ (aFA b))) (aBW 6 8 (ya (hU (axs (aFA b) x2/q73 2 6) 2) (65533=(S.aL b).1) (1=(S.aL b).2) (aAM 6 64) (q26 (S.bX b x2*q73 2 6)/\0<=S.bX b x2*q73 2 6/\0<=Vg.aK (axs (aFA b) x2) 63/\q80 x2 (∃(x3:Nat),aA6 x2 x3 (Vg.cm (S.bX b x2*q73 2 6) (Vg.aK (axs (aFA b) x2) 63)=S.bX b x3) (S.pI b x3) 4)))) True (aA5 (aFK (S.bX b x2))) (ya (q29 (aFK (S.bX b x2)) (hU (S.dY (S.bX b x2)) 2)) (65533=(S.aL b).1) (1=(S.aL b).2) (S.bX b x2=(S.aL b).1) (2=(S.aL b).2)))) (aAM 4 64) (ya (decide (axs b 0/q73 2 4=14)) (0<=axs b 0) ((0:Int)<=15/\yz (decide (dQ b<3)) (65533=(S.aL b).1) (1=(S.aL b).2) (ald 0 1 3 (dQ b)) (∃(x4:Nat),((0:Int)=x4/\Vg.aK (axs b 0) 15=S.bX b x4)/\S.pI b x4) (∀(x5:Nat),S.pI b x5->yz (decide (x5<dQ (aFz b))) (q25 0 x5 (dQ (aFz b))) (aBW 6 8 (ya (hU (axs (aFz b) x5/q73 2 6) 2) (65533=(S.aL b).1) (1=(S.aL b).2) (aAM 6 64) (q26 (S.bX b x5*q73 2 6)/\0<=S.bX b x5*q73 2 6/\0<=Vg.aK (axs (aFz b) x5) 63/\q80 x5 (∃(x6:Nat),aA6 x5 x6 (Vg.cm (S.bX b x5*q73 2 6) (Vg.aK (axs (aFz b) x5) 63)=S.bX b x6) (S.pI b x6) 4)))) True (aA5 (aFK (S.bX b x5))) (ya (q29 (aFK (S.bX b x5)) (hU (S.dY (S.bX b x5)) 3)) (65533=(S.aL b).1) (1=(S.aL b).2) (S.bX b x5=(S.aL b).1) (3=(S.aL b).2)))) (aAM 3 64) (ya (decide (axs b 0/q73 2 3=30)) (0<=axs b 0) ((0:Int)<=7/\yz (decide (dQ b<4)) (65533=(S.aL b).1) (1=(S.aL b).2) (ald 0 1 4 (dQ b)) (∃(x7:Nat),((0:Int)=x7/\Vg.aK (axs b 0) 7=S.bX b x7)/\S.pI b x7) (∀(x8:Nat),S.pI b x8->yz (decide (x8<dQ (aFB b))) (q25 0 x8 (dQ (aFB b))) (aBW 6 8 (ya (hU (axs (aFB b) x8/q73 2 6) 2) (65533=(S.aL b).1) (1=(S.aL b).2) (aAM 6 64) (q26 (S.bX b x8*q73 2 6)/\0<=S.bX b x8*q73 2 6/\0<=Vg.aK (axs (aFB b) x8) 63/\q80 x8 (∃(x9:Nat),aA6 x8 x9 (Vg.cm (S.bX b x8*q73 2 6) (Vg.aK (axs (aFB b) x8) 63)=S.bX b x9) (S.pI b x9) 4)))) True (aA5 (aFK (S.bX b x8))) (ya (q29 (aFK (S.bX b x8)) (hU (S.dY (S.bX b x8)) 4)) (65533=(S.aL b).1) (1=(S.aL b).2) (S.bX b x8=(S.aL b).1) (4=(S.aL b).2)))) (65533=(S.aL b).1) (1=(S.aL b).2)))):=by
 refine aP ?_;have ko:Vg.hlen b:=hf.1.1;clear hf;have zA:(0:Int)<b.length:=by omega
 with_reducible and_intros
 iterate 2 omega
 simp_all[dt,S.uf1]
 intro h2;try simp only [df] at h2
 with_reducible and_intros
 iterate 2 omega
 . intro h3;try simp only [dt] at h3
   with_reducible and_intros
   iterate 2 omega
   . intro h4;try simp only [dt] at h4
     refine⟨?_,?_⟩
     . (have hn:=S.sP (b:=b) w! w!;simp_all[S.sc])
     (have hn:=S.sP (b:=b) w! w!;simp_all[S.sc])
   intro h5;try simp only [df] at h5
   with_reducible and_intros
   iterate 3 omega
   . refine⟨(nat_lit 0:Nat),?_⟩;try dsimp only
     with_reducible and_intros
     omega;grind[S.sP,S.aA2]
     . (have hn:=S.sP (b:=b) w! w!;simp_all[S.Xm])
   intro x6 h7;refine V.dI (λh8=>?_) λiR=>?_
   . with_reducible and_intros
     iterate 4 omega
     . intro h9;try simp only [nt,df,tn] at h9
       refine⟨?_,?_⟩
       . have hn:=S.sP (b:=b) v! v!;have hb:=S.bM h7;have hx:(x6:Int)+1<2:=by(have hc:=S.cg b 2 w! w!;simp only [hc,show toNat 2=2 by rfl] at *;omega)
         simp only [S.j7 b 2 x6 hx,S.mQ b 2 x6 hx] at *;rw [S.v8 hn h7 w! v!]
       have hn:=S.sP (b:=b) v! v!;have hb:=S.bM h7;have hx:(x6:Int)+1<2:=by(have hc:=S.cg b 2 w! w!;simp only [hc,show toNat 2=2 by rfl] at *;omega)
       simp only [S.j7 b 2 x6 hx,S.mQ b 2 x6 hx] at *;rw [S.v8 hn h7 w! v!]
     intro h10;try simp only [nf,dt,tn] at h10
     with_reducible and_intros
     iterate 2 omega
     iterate 3
      . (have hn:=S.sP (b:=b) v! v!;(have hb:=S.bM h7;(try simp only [S.cg b 2 w! w!,show toNat 2=2 by rfl] at *);simp only [show toNat 6=6 by rfl,S.al] at *;omega))
     exact Int.natCast_nonneg _;omega
     . (have hn:=S.sP (b:=b) v! v!;(have hb:=S.bM h7;(try simp only [S.cg b 2 w! w!,show toNat 2=2 by rfl] at *);omega))
     refine⟨(x6+nat_lit 1),?_⟩;try dsimp only
     with_reducible and_intros
     omega
     . have hn:=S.sP (b:=b) v! v!;have hb:=S.bM h7;have hx:(x6:Int)+1<2:=by(have hc:=S.cg b 2 w! w!;simp only [hc,show toNat 2=2 by rfl] at *;omega)
       rw [S.j7 b 2 x6 hx];exact S.Xo h7 w!
     . have hn:=S.sP (b:=b) v! v!;have hb:=S.bM h7;have hx:(x6:Int)+1<2:=by(have hc:=S.cg b 2 w! w!;simp only [hc,show toNat 2=2 by rfl] at *;omega)
       simp only [S.j7 b 2 x6 hx,S.mQ b 2 x6 hx] at *;exact S.RQ h7 v! w!
     . (have hn:=S.sP (b:=b) v! v!;(have hb:=S.bM h7;(try simp only [S.cg b 2 w! w!,show toNat 2=2 by rfl] at *);simp only [show toNat 6=6 by rfl,S.al] at *;omega))
   with_reducible and_intros
   trivial
   . intro jH;try simp only [nt] at jH
     trivial
   . intro mv;try simp only [nf] at mv
     trivial
   . intro rY;try simp only [V.xq,nt,df] at rY
     refine⟨?_,?_⟩
     . have hn:=S.sP (b:=b) v! v!;have hb:=S.bM h7;have hc:=S.cg b 2 w! w!;rw [hc] at iR;have hx:x6+1=2:=by omega
       rw [S.wa hn h7 hx rY rfl]
     have hn:=S.sP (b:=b) v! v!;have hb:=S.bM h7;have hc:=S.cg b 2 w! w!;rw [hc] at iR;have hx:x6+1=2:=by omega
     rw [S.wa hn h7 hx rY rfl]
   intro Hq;try simp only [V.jz,nf,dt] at Hq
   refine⟨?_,?_⟩
   . have hn:=S.sP (b:=b) v! v!;have hb:=S.bM h7;have hc:=S.cg b 2 w! w!;rw [hc] at iR;have hx:x6+1=2:=by omega
     rw [S.wb hn h7 hx Hq rfl]
   have hn:=S.sP (b:=b) v! v!;have hb:=S.bM h7;have hc:=S.cg b 2 w! w!;rw [hc] at iR;have hx:x6+1=2:=by omega
   rw [S.wb hn h7 hx Hq rfl]
 intro DC;try simp only [df] at DC
 with_reducible and_intros
 iterate 2 omega
 . intro VY;try simp only [dt] at VY
   with_reducible and_intros
   iterate 2 omega
   . intro h18;try simp only [dt] at h18
     refine⟨?_,?_⟩
     . (have hn:=S.uf (b:=b) v! v! v!;rw [S.sc hn w! w!])
     (have hn:=S.uf (b:=b) v! v! v!;rw [S.sc hn w! w!])
   intro h19;try simp only [df] at h19
   with_reducible and_intros
   iterate 3 omega
   . refine⟨(nat_lit 0:Nat),?_⟩;try dsimp only
     with_reducible and_intros
     omega
     (exact S.aA3 v! v!)
     . (have hn:=S.uf (b:=b) v! v! v!;exact S.Xm hn w! w!)
   intro Bz vC;refine V.dI (λh22=>?_) λh25=>?_
   . with_reducible and_intros
     iterate 4 omega
     . intro h23;try simp only [nt,df,tn] at h23
       refine⟨?_,?_⟩
       . have hn:=S.uf (b:=b) v! v! v!;have hb:=S.bM vC;have hx:(Bz:Int)+1<3:=by(have hc:=S.cg b 3 w! w!;simp only [hc,show toNat 3=3 by rfl] at *;omega)
         simp only [S.j7 b 3 Bz hx,S.mQ b 3 Bz hx] at *;rw [S.v8 hn vC w! v!]
       have hn:=S.uf (b:=b) v! v! v!;have hb:=S.bM vC;have hx:(Bz:Int)+1<3:=by(have hc:=S.cg b 3 w! w!;simp only [hc,show toNat 3=3 by rfl] at *;omega)
       simp only [S.j7 b 3 Bz hx,S.mQ b 3 Bz hx] at *;rw [S.v8 hn vC w! v!]
     intro WC;try simp only [nf,dt,tn] at WC
     with_reducible and_intros
     iterate 2 omega
     iterate 3
      . (have hn:=S.uf (b:=b) v! v! v!;(have hb:=S.bM vC;(try simp only [S.cg b 3 w! w!,show toNat 3=3 by rfl] at *);simp only [show toNat 6=6 by rfl,S.al] at *;omega))
     exact Int.natCast_nonneg _;omega
     . (have hn:=S.uf (b:=b) v! v! v!;(have hb:=S.bM vC;(try simp only [S.cg b 3 w! w!,show toNat 3=3 by rfl] at *);omega))
     refine⟨(Bz+nat_lit 1),?_⟩;try dsimp only
     with_reducible and_intros
     omega
     . have hn:=S.uf (b:=b) v! v! v!;have hb:=S.bM vC;have hx:(Bz:Int)+1<3:=by(have hc:=S.cg b 3 w! w!;simp only [hc,show toNat 3=3 by rfl] at *;omega)
       rw [S.j7 b 3 Bz hx];exact S.Xo vC w!
     . have hn:=S.uf (b:=b) v! v! v!;have hb:=S.bM vC;have hx:(Bz:Int)+1<3:=by(have hc:=S.cg b 3 w! w!;simp only [hc,show toNat 3=3 by rfl] at *;omega)
       simp only [S.j7 b 3 Bz hx,S.mQ b 3 Bz hx] at *;exact S.RQ vC v! w!
     . (have hn:=S.uf (b:=b) v! v! v!;(have hb:=S.bM vC;(try simp only [S.cg b 3 w! w!,show toNat 3=3 by rfl] at *);simp only [show toNat 6=6 by rfl,S.al] at *;omega))
   with_reducible and_intros
   trivial
   . intro h26;try simp only [nt] at h26
     trivial
   . intro h27;try simp only [nf] at h27
     trivial
   . intro h28;try simp only [V.xq,nt,df] at h28
     refine⟨?_,?_⟩
     . have hn:=S.uf (b:=b) v! v! v!;have hb:=S.bM vC;have hc:=S.cg b 3 w! w!;rw [hc] at h25;have hx:Bz+1=3:=by omega
       rw [S.wa hn vC hx h28 rfl]
     have hn:=S.uf (b:=b) v! v! v!;have hb:=S.bM vC;have hc:=S.cg b 3 w! w!;rw [hc] at h25;have hx:Bz+1=3:=by omega
     rw [S.wa hn vC hx h28 rfl]
   intro h29;try simp only [V.jz,nf,dt] at h29
   refine⟨?_,?_⟩
   . have hn:=S.uf (b:=b) v! v! v!;have hb:=S.bM vC;have hc:=S.cg b 3 w! w!;rw [hc] at h25;have hx:Bz+1=3:=by omega
     rw [S.wb hn vC hx h29 rfl]
   have hn:=S.uf (b:=b) v! v! v!;have hb:=S.bM vC;have hc:=S.cg b 3 w! w!;rw [hc] at h25;have hx:Bz+1=3:=by omega
   rw [S.wb hn vC hx h29 rfl]
 intro h30;try simp only [df] at h30
 with_reducible and_intros
 iterate 2 omega
 . intro h31;try simp only [dt] at h31
   with_reducible and_intros
   iterate 2 omega
   . intro h32;try simp only [dt] at h32
     refine⟨?_,?_⟩
     . (have hn:=S.ug (b:=b) v! v! v! v!;rw [S.sc hn w! w!])
     (have hn:=S.ug (b:=b) v! v! v! v!;rw [S.sc hn w! w!])
   intro h33;try simp only [df] at h33
   with_reducible and_intros
   iterate 3 omega
   . refine⟨(nat_lit 0:Nat),?_⟩;try dsimp only
     with_reducible and_intros
     omega
     (exact S.aA4 v! v!)
     . (have hn:=S.ug (b:=b) v! v! v! v!;exact S.Xm hn w! w!)
   intro BA vD;refine V.dI (λh36=>?_) λh39=>?_
   . with_reducible and_intros
     iterate 4 omega
     . intro h37;try simp only [nt,df,tn] at h37
       refine⟨?_,?_⟩
       . have hn:=S.ug (b:=b) v! v! v! v!;have hb:=S.bM vD;have hx:(BA:Int)+1<4:=by(have hc:=S.cg b 4 w! w!;simp only [hc,show toNat 4=4 by rfl] at *;omega)
         simp only [S.j7 b 4 BA hx,S.mQ b 4 BA hx] at *;rw [S.v8 hn vD w! v!]
       have hn:=S.ug (b:=b) v! v! v! v!;have hb:=S.bM vD;have hx:(BA:Int)+1<4:=by(have hc:=S.cg b 4 w! w!;simp only [hc,show toNat 4=4 by rfl] at *;omega)
       simp only [S.j7 b 4 BA hx,S.mQ b 4 BA hx] at *;rw [S.v8 hn vD w! v!]
     intro h38;try simp only [nf,dt,tn] at h38
     with_reducible and_intros
     iterate 2 omega
     iterate 3
      . (have hn:=S.ug (b:=b) v! v! v! v!;(have hb:=S.bM vD;(try simp only [S.cg b 4 w! w!,show toNat 4=4 by rfl] at *);simp only [show toNat 6=6 by rfl,S.al] at *;omega))
     exact Int.natCast_nonneg _;omega
     . (have hn:=S.ug (b:=b) v! v! v! v!;(have hb:=S.bM vD;(try simp only [S.cg b 4 w! w!,show toNat 4=4 by rfl] at *);omega))
     refine⟨(BA+nat_lit 1),?_⟩;try dsimp only
     with_reducible and_intros
     omega
     . have hn:=S.ug (b:=b) v! v! v! v!;have hb:=S.bM vD;have hx:(BA:Int)+1<4:=by(have hc:=S.cg b 4 w! w!;simp only [hc,show toNat 4=4 by rfl] at *;omega)
       rw [S.j7 b 4 BA hx];exact S.Xo vD w!
     . have hn:=S.ug (b:=b) v! v! v! v!;have hb:=S.bM vD;have hx:(BA:Int)+1<4:=by(have hc:=S.cg b 4 w! w!;simp only [hc,show toNat 4=4 by rfl] at *;omega)
       simp only [S.j7 b 4 BA hx,S.mQ b 4 BA hx] at *;exact S.RQ vD v! w!
     . (have hn:=S.ug (b:=b) v! v! v! v!;(have hb:=S.bM vD;(try simp only [S.cg b 4 w! w!,show toNat 4=4 by rfl] at *);simp only [show toNat 6=6 by rfl,S.al] at *;omega))
   with_reducible and_intros
   trivial
   . intro h40;try simp only [nt] at h40
     trivial
   . intro h41;try simp only [nf] at h41
     trivial
   . intro h42;try simp only [V.xq,nt,df] at h42
     refine⟨?_,?_⟩
     . have hn:=S.ug (b:=b) v! v! v! v!;have hb:=S.bM vD;have hc:=S.cg b 4 w! w!;rw [hc] at h39;have hx:BA+1=4:=by omega
       rw [S.wa hn vD hx h42 rfl]
     have hn:=S.ug (b:=b) v! v! v! v!;have hb:=S.bM vD;have hc:=S.cg b 4 w! w!;rw [hc] at h39;have hx:BA+1=4:=by omega
     rw [S.wa hn vD hx h42 rfl]
   intro h43;try simp only [V.jz,nf,dt] at h43
   refine⟨?_,?_⟩
   . have hn:=S.ug (b:=b) v! v! v! v!;have hb:=S.bM vD;have hc:=S.cg b 4 w! w!;rw [hc] at h39;have hx:BA+1=4:=by omega
     rw [S.wb hn vD hx h43 rfl]
   have hn:=S.ug (b:=b) v! v! v! v!;have hb:=S.bM vD;have hc:=S.cg b 4 w! w!;rw [hc] at h39;have hx:BA+1=4:=by omega
   rw [S.wb hn vD hx h43 rfl]
 grind[df,S.uf0]
def axu(b:B8)(hp:S.small b):(∃(x1:B8×List Int),(b=x1.1/\[]=x1.2)/\S.rQ b x1.1 x1.2)/\(∀(x2:B8×List Int),S.rQ b x2.1 x2.2->q19 (azw (length x2.1)) (0<length x2.1) (abF x2.2 [(S.aL x2.1).1]/\aBW (S.aL x2.1).2 (length x2.1) (∃(x3:B8×List Int),(Ar (S.aL x2.1).2 x2.1=x3.1/\x2.2++[(S.aL x2.1).1]=x3.2)/\S.rQ b x3.1 x3.2/\S.len x3.1<S.len x2.1)) (x2.2=S.decode b)):=by
 refine aP ?_;simp [S.small] at hp;refine⟨?_,?_⟩
 . refine⟨((b),([])),?_⟩;grind[S.au4]
 intro x1 h2;refine⟨?_,?_⟩
 . intro h3;simp at h3;with_reducible and_intros
   omega
   . (have hd:=S.RR h2 w!;grind)
   iterate 2
    . (have hd:=S.RR h2 w!;omega)
   refine⟨((drop (toNat (Prod.snd (S.aL (Prod.fst x1)))) (Prod.fst x1)),(Prod.snd x1++[Prod.fst (S.aL (Prod.fst x1))])),?_⟩;dsimp only;with_reducible and_intros
   iterate 2 rfl
   grind[S.acq]
   . (have hd:=S.RR h2 w!;grind[S.len,List.length_drop,lc,ln])
 grind[df,S.af6]
def axv(c:Int):(∃(x1:Nat),(0:Int)=x1/\S.ot c x1)/\(∀(x2:Nat),S.ot c x2->q79 (decide ((x2:Int)<9)) 0 x2 ((9:Nat):Int) (q17 (aFW (getD [65,97,192,216,248,913,931,945,1024] (toNat x2) 0) c (getD [90,122,214,246,255,929,937,969,1119] (toNat x2) 0)) (true=S.letter c) (q80 x2 (∃(x3:Nat),aCA x2 x3 (S.ot c x3) 9))) (false=S.letter c)):=by
 refine aP ?_;refine⟨?_,?_⟩
 . refine⟨(nat_lit 0:Nat),?_⟩;grind[S.ot]
 intro x1 h2;refine⟨?_,?_⟩
 . intro h3;simp at h3;with_reducible and_intros
   iterate 2 omega
   . intro h4;simp at h4;exact S.Xq (x:=x1) w! (S.Xt h4)
   intro h5;simp only [V.EP,df,tn] at h5;with_reducible and_intros
   iterate 2 omega
   refine⟨(x1+nat_lit 1),?_⟩;dsimp only;with_reducible and_intros
   omega;exact S.Xr (x:=x1) h2 w! (S.af7 h5);simp [S.al];omega
 grind[df,S.Xs]
def axw(c:Int):aFW 48 c 57=S.digit c:=by
 refine aP ?_;grind[S.digit]
def axx(c:Int):(∃(x1:Nat),(0:Int)=x1/\S.oX c x1)/\(∀(x2:Nat),S.oX c x2->q79 (decide ((x2:Int)<7)) 0 x2 ((7:Nat):Int) (MJ (aFW (getD [65,192,216,913,931,1024,1040] (toNat x2) 0) c (getD [90,214,222,929,937,1039,1071] (toNat x2) 0)) (q26 (c+aeX (nj 32 [32,80,32]) (toNat x2))) (c+aeX (nj 32 [32,80,32]) (toNat x2)=S.bJ c) (x2+1) (∃(x3:Nat),aCA x2 x3 (S.oX c x3) 7)) (c=S.bJ c)):=by
 refine aP ?_;refine⟨?_,?_⟩
 . refine⟨(nat_lit 0:Nat),?_⟩;grind[S.oX]
 intro x1 h2;refine⟨?_,?_⟩
 . intro h3;simp at h3;with_reducible and_intros
   iterate 2 omega
   . intro h4;simp at h4;with_reducible and_intros
     iterate 2
      . have hs:=(S.Pn (c:=c) (x:=x1) h2 h3 (S.Xt h4)).2;omega
     exact(S.Pn (x:=x1) h2 w! (S.Xt h4)).1
   intro h5;simp only [V.EP,df,tn] at h5;with_reducible and_intros
   iterate 2 omega
   refine⟨(x1+nat_lit 1),?_⟩;dsimp only;with_reducible and_intros
   omega;exact S.acs (x:=x1) h2 w! (S.af7 h5);simp [S.al];omega
 grind[df,S.acu]
def aNw(c a b:Int):aFW a c b=S.fW c a b:=by
 refine aP ?_;grind[S.fW]
def aNx(c:Int):(bif aDe c then yA c 55296 (aHu c) else aHu c)=S.Jv c:=by
 refine aP ?_;grind[S.Jv]
def aNy(c:Int)(hp:0<=c/\c<=1114111):q17 (decide (c<128)) ([aAD c]=S.enc c) (q19 (decide (c<2048)) (0<=c) ((0:Int)<64/\q26 (192+c/64)/\0<=c/\(0:Int)<64/\q26 (128+c%64)/\[aAD (192+c/64),aAD (128+c%64)]=S.enc c) (q19 (decide (c<65536)) (0<=c) ((0:Int)<4096/\q26 (224+c/4096)/\0<=c/\(0:Int)<64/\0<=c/64/\(0:Int)<64/\q26 (128+c/64%64)/\0<=c/\(0:Int)<64/\q26 (128+c%64)/\[aAD (224+c/4096),aAD (128+c/64%64),aAD (128+c%64)]=S.enc c) (0<=c/\(0:Int)<262144/\q26 (240+c/262144)/\0<=c/\(0:Int)<4096/\0<=c/4096/\(0:Int)<64/\q26 (128+c/4096%64)/\0<=c/\(0:Int)<64/\0<=c/64/\(0:Int)<64/\q26 (128+c/64%64)/\0<=c/\(0:Int)<64/\q26 (128+c%64)/\[aAD (240+c/262144),aAD (128+c/4096%64),aAD (128+c/64%64),aAD (128+c%64)]=S.enc c))):=by
 refine aP ?_;refine⟨?_,?_⟩
 . simp_all[dt,S.aK5]
 intro h2;refine V.dI (λh3=>?_) λh4=>?_
 . grind[S.aK6]
 refine⟨?_,?_⟩
 . grind[S.aK7]
 grind[df,S.aK8]
def aNz(a b:Int):q17 (decide (a<b)) (a=S.aBO a b) (b=S.aBO a b):=by
 refine aP ?_;refine⟨?_,?_⟩
 . simp_all[dt,S.aBO]
 grind[df,S.aBO]
def aNA(c:Int):afu (dC (S.fW c 65 90) (S.fW c 97 122) (dC (S.fW c 192 214) (S.fW c 216 246) (dC (S.fW c 248 255) (S.fW c 913 929) (q68 (S.fW c 931 937) (q54 (aA5 (S.fW c 945 969))))))) (aiu (S.fW c 65 90) (S.fW c 97 122) (aiu (S.fW c 192 214) (S.fW c 216 246) (aiu (S.fW c 248 255) (S.fW c 913 929) (aiu (S.fW c 931 937) (S.fW c 945 969) (S.fW c 1024 1119))))=S.letter c):=by
 refine aP ?_;grind[S.Xw]
def aNB(c:Int):q54 (yz (S.fW c 1024 1039) (q26 (c+80)) (c+80=S.bJ c) True (dC (S.fW c 65 90) (S.fW c 192 214) (dC (S.fW c 216 222) (S.fW c 913 929) (aA5 (S.fW c 931 937)))) (q19 (aiu (S.fW c 65 90) (S.fW c 192 214) (aiu (S.fW c 216 222) (S.fW c 913 929) (q29 (S.fW c 931 937) (S.fW c 1040 1071)))) (q26 (c+32)) (c+32=S.bJ c) (c=S.bJ c))):=by
 refine aP ?_;with_reducible and_intros
 trivial;grind[S.Gz];intro h2;with_reducible and_intros
 trivial;iterate 2 grind
 grind[S.GA];grind[S.E2]
def aNC(b:B8)(n:Int)(hp:S.aD5 b n)(hf:Vg.bo J.q8p (b,n)):q17 (decide (dQ b<n)) (-(1:Int)=S.dZ b n) (((0:Int)<=(0:Int)/\(0:Int)<dQ b)/\q25 (0:Int) n (q48 [(0:Int),(0:Int),(192:Int),(224:Int),(240:Int)])/\toNat n<length [(0:Int),(0:Int),(192:Int),(224:Int),(240:Int)]/\q26 (axs b (0:Int)-aeX [(0:Int),(0:Int),(192:Int),(224:Int),(240:Int)] (toNat n))/\(∃(x1:Nat),((1:Int)=(x1:Int)/\axs b (0:Int)-aeX [(0:Int),(0:Int),(192:Int),(224:Int),(240:Int)] (toNat n)=S.asR b n (x1-(1:Nat)))/\S.aCW b n x1)/\(∀(x2:Nat),S.aCW b n x2->q19 (decide ((x2:Int)<n)) (q26 (S.asR b n (x2-(1:Nat))*(64:Int))) (q25 (0:Int) (x2:Int) (dQ b)/\q26 (S.asR b n (x2-(1:Nat))*(64:Int)+axs b (x2:Int))/\q26 (S.asR b n (x2-(1:Nat))*(64:Int)+axs b (x2:Int)-(128:Int))/\q80 (x2:Int) (∃(x3:Nat),aA6 x2 x3 (S.asR b n (x2-(1:Nat))*(64:Int)+axs b (x2:Int)-(128:Int)=S.asR b n (x3-(1:Nat))) (S.aCW b n x3) (toNat n))) (S.asR b n (x2-(1:Nat))=S.dZ b n))):=by
 refine aP ?_;have ko:Vg.hlen b:=hf.1.1;have IU:Vg.hint n:=hf.2.1;clear hf;have fV:=hp;simp only [S.aD5] at fV;refine⟨?_,?_⟩
 . intro h1;try simp only [dt] at h1
   grind[S.aGB]
 intro h2;try simp only [df] at h2
 with_reducible and_intros
 iterate 3 omega
 iterate 3 grind
 . have h1:=S.aFN b n 0 w!;grind[S.aGf]
 grind[S.aGf,S.aCW,S.al];intro x3 h4;refine⟨?_,?_⟩
 . intro h5;try simp only [dt] at h5
   with_reducible and_intros
   iterate 2
    . have hq:=S.aHO v! hp;have:=(getD b (toNat (x3:Int)) 0).toNat_lt;omega
   iterate 2 omega
   iterate 4
    . have hq:=S.aHO v! hp;have:=(getD b (toNat (x3:Int)) 0).toNat_lt;omega
   iterate 2 omega
   refine⟨(x3+nat_lit 1),?_⟩;try dsimp only
   with_reducible and_intros
   omega;exact S.aIE v!
   . simp only [S.aCW,S.al] at *;omega
   simp only [S.aCW,S.al] at *;omega
 grind[df,S.aJD]
def aND(b:B8)(hp:S.small b):(∃(x1:Nat×List Int),((0:Int)=x1.1/\[]=x1.2)/\S.rQ b (drop x1.1 b) x1.2/\x1.1<=aDs b)/\(∀(x2:Nat×List Int),S.rQ b (drop x2.1 b) x2.2/\x2.1<=aDs b->q19 (decide ((x2.1:Int)<aDs b)) (∃(x3:Nat×Nat),((1:Int)=((x3.1+1:Nat):Int)/\65533=(S.uY (drop x3.2 b) x3.1).1/\1=(S.uY (drop x3.2 b) x3.1).2)/\x3.1<=4/\(x2.1:Int)=x3.2) (∀(x4:Nat×Nat),x4.1<=4/\(x2.1:Int)=x4.2->ya (decide (((x4.1+1:Nat):Int)<=4)) (aAM x2.1 (aDs b)) (S.aD5 (drop (aE9 x2) b) ((x4.1+1:Nat):Int)/\afu (q19 (S.Jv (S.dZ (drop (aE9 x2) b) ((x4.1+1:Nat):Int))) (aAM (S.dZ (drop (aE9 x2) b) ((x4.1+1:Nat):Int)) 1114111) (q26 (x2.1+((x4.1+1:Nat):Int))/\q54 (ald 0 x2.1 (S.aBO (x2.1+((x4.1+1:Nat):Int)) (aDs b)) (aDs b))) True) (q26 (((x4.1+1:Nat):Int)+1)/\(∃(x5:Nat×Nat),(((x4.1+1:Nat):Int)+1=((x5.1+1:Nat):Int)/\(bif aFJ (S.Jv (S.dZ (drop (aE9 x2) b) ((x4.1+1:Nat):Int))) (S.enc (S.dZ (drop (aE9 x2) b) ((x4.1+1:Nat):Int))) (drop (aE9 x2) (aBU (S.aBO (x2.1+((x4.1+1:Nat):Int)) (aDs b)) b)) then S.dZ (drop (aE9 x2) b) ((x4.1+1:Nat):Int) else(aDg b x4).1)=(S.uY (drop x5.2 b) x5.1).1/\aFY (aFJ (S.Jv (S.dZ (drop (aE9 x2) b) ((x4.1+1:Nat):Int))) (S.enc (S.dZ (drop (aE9 x2) b) ((x4.1+1:Nat):Int))) (drop (aE9 x2) (aBU (S.aBO (x2.1+((x4.1+1:Nat):Int)) (aDs b)) b))) ((x4.1+1:Nat):Int) (aDg b x4).2 (S.uY (drop x5.2 b) x5.1).2)/\(x5.1<=4/\(x2.1:Int)=x5.2)/\yb 4 x5.1 x4.1))) (abF x2.2 [(aDg b x4).1]) (q26 (x2.1+(aDg b x4).2)/\(∃(x6:Nat×List Int),(x2.1+(aDg b x4).2=x6.1/\x2.2++[(aDg b x4).1]=x6.2)/\(S.rQ b (drop x6.1 b) x6.2/\x6.1<=aDs b)/\yb (S.len b) x6.1 x2.1))) (x2.2=S.decode b)):=by
 refine aP ?_;have fV:b.length<=1099511627776:=by grind[S.small]
 refine⟨?_,?_⟩
 . refine⟨((nat_lit 0:Nat),([])),?_⟩;grind[S.aK9]
 intro x1 h2;refine⟨?_,?_⟩
 . intro h3;try simp only [dt] at h3
   refine⟨?_,?_⟩
   . refine⟨(0,x1.1),?_⟩;with_reducible and_intros
     omega;iterate 2 rfl
     iterate 2 omega
   intro x4 h5;refine V.dI (λh6=>?_) λh9=>?_
   . with_reducible and_intros
     iterate 2 omega
     grind[S.aD5,List.length_drop];trivial
     . intro h7;with_reducible and_intros
       iterate 2 (simp_all[S.aG8])
       iterate 2 omega
       trivial;omega;iterate 2 (grind[S.aBO])
     grind;iterate 2 omega
     refine⟨(x4.1+1,x1.1),?_⟩;try dsimp only
     with_reducible and_intros
     omega;simp_all[S.aGg,S.aIG]
     simp_all[S.aGg,S.aIH]
     iterate 2 omega
     grind[S.al]
   with_reducible and_intros
   . have hq:=S.aCB h2 h3 h5 h9;grind
   iterate 2
    . have hq:=S.aCB h2 h3 h5 h9;omega
   refine⟨((toNat ((↑(Prod.fst x1):Int)+Prod.snd (S.uY (drop (Prod.snd x4) b) (Prod.fst x4)))),(Prod.snd x1++[Prod.fst (S.uY (drop (Prod.snd x4) b) (Prod.fst x4))])),?_⟩;with_reducible and_intros
   . have hq:=S.aCB h2 h3 h5 h9;omega
   rfl
   . have hq:=S.aCB h2 h3 h5 h9;grind
   . have hq:=S.aCB h2 h3 h5 h9;omega
   have hq:=S.aCB h2 h3 h5 h9;grind[S.al,S.len]
 grind[df,S.af6,List.length_drop]
def axy(u:List Int)(hp:S.okC u):(∃(x1:Nat×B8),((0:Int)=x1.1/\[]=x1.2)/\S.oY u x1.1 x1.2)/\(∀(x2:Nat×B8),S.oY u x2.1 x2.2->q79 (decide (x2.1<q48 u)) 0 x2.1 (q48 u) (q54 (q54 (q26 (length x2.2+length (aGb u x2))/\q17 (decide ((64:Int)<length x2.2+length (aGb u x2))) (x2.2=S.iT u) (py (length x2.2+length (aGb u x2))/\q26 (x2.1+1)/\(∃(x3:Nat×B8),((x2.1:Int)+1=x3.1/\x2.2++aGb u x2=x3.2)/\S.oY u x3.1 x3.2/\yb (S.len u) x3.1 x2.1))))) (x2.2=S.iT u)):=by
 refine aP ?_;have hq:=hp.1;refine⟨?_,?_⟩
 . refine⟨((nat_lit 0:Nat),([])),?_⟩;grind[S.alQ]
 intro x1 h2;refine⟨?_,?_⟩
 . intro h3;simp at h3;with_reducible and_intros
   iterate 2 omega
   iterate 2 trivial
   omega
   . have:=h2.2.2;grind[S.Pq]
   grind[S.Xy];intro h5;with_reducible and_intros
   grind;iterate 2 omega
   refine⟨((Prod.fst x1+nat_lit 1),(Prod.snd x1++S.gN (S.bJ (getD u (toNat (↑(Prod.fst x1):Int)) (0:Int))))),?_⟩;grind[S.Xx,S.al,S.len]
 grind[df,S.acy]
def axz(b:B8)(hp:S.small b):S.small b/\(∃(x1:Nat×List B8×List Int),((0:Int)=x1.1/\[]=x1.2.1/\[]=x1.2.2)/\S.jL (S.decode b) x1.1 x1.2.1 x1.2.2)/\(∀(x2:Nat×List B8×List Int),S.jL (S.decode b) x2.1 x2.2.1 x2.2.2->q79 (decide ((x2.1:Int)<length (S.decode b))) 0 x2.1 (length (S.decode b)) (toNat x2.1<length (S.decode b)/\afu (aA5 (S.letter (aeX (S.decode b) (toNat x2.1)))) (q19 (q29 (S.letter (aeX (S.decode b) (toNat x2.1))) (S.digit (aeX (S.decode b) (toNat x2.1)))) (q78 (length x2.2.2+length [aeX (S.decode b) (toNat x2.1)])) (q26 (x2.1+1)/\(∃(x3:Nat×List B8×List Int),((x2.1:Int)+1=x3.1/\x2.2.1=x3.2.1/\x2.2.2++[aeX (S.decode b) (toNat x2.1)]=x3.2.2)/\S.jL (S.decode b) x3.1 x3.2.1 x3.2.2/\q44 (S.len (S.decode b)) x3.1 (S.al (S.len (S.decode b)) x2.1))) (MJ (azw (length x2.2.2)) (S.okC x2.2.2) (Ĳ x2.2.1 [S.iT x2.2.2]/\q26 (x2.1+1)/\(∃(x4:Nat×List B8×List Int),((x2.1:Int)+1=x4.1/\x2.2.1++[S.iT x2.2.2]=x4.2.1/\[]=x4.2.2)/\S.jL (S.decode b) x4.1 x4.2.1 x4.2.2/\q44 (S.len (S.decode b)) x4.1 (S.al (S.len (S.decode b)) x2.1))) (x2.1+1) (∃(x5:Nat×List B8×List Int),((x2.1:Int)+1=x5.1/\x2.2.1=x5.2.1/\x2.2.2=x5.2.2)/\S.jL (S.decode b) x5.1 x5.2.1 x5.2.2/\q44 (S.len (S.decode b)) x5.1 (S.al (S.len (S.decode b)) x2.1))))) (q19 (azw (length x2.2.2)) (S.okC x2.2.2) (Ĳ x2.2.1 [S.iT x2.2.2]/\x2.2.1++[S.iT x2.2.2]=S.bK b) (x2.2.1=S.bK b))):=by
 refine aP ?_;have fV:b.length<=1099511627776:=hp;with_reducible and_intros
 omega
 . refine⟨((nat_lit 0:Nat),(([]),([]))),?_⟩;grind[S.avc]
 intro x1 h2;refine V.dI (λh3=>?_) λh10=>?_
 . with_reducible and_intros
   iterate 3 omega
   trivial;iterate 2 grind
   . intro h6;try simp only [V.xq] at h6
     with_reducible and_intros
     . (have hq:=S.oZ h2 fV;grind)
     omega
     . (have hq:=S.oZ h2 fV;omega)
     refine⟨((Prod.fst x1+nat_lit 1),((Prod.fst (Prod.snd x1)),(Prod.snd (Prod.snd x1)++[getD (S.decode b) (toNat (↑(Prod.fst x1):Int)) (0:Int)]))),?_⟩;grind[S.acz,S.agh,S.oZ,S.al,S.len]
   intro h7;try simp only [V.jz] at h7
   refine V.dI (λh8=>?_) λh9=>?_
   . with_reducible and_intros
     iterate 2
      . (have hq:=S.oZ h2 fV;grind)
     omega
     . (have hq:=S.oZ h2 fV;omega)
     refine⟨((Prod.fst x1+nat_lit 1),((Prod.fst (Prod.snd x1)++[S.iT (Prod.snd (Prod.snd x1))]),([]))),?_⟩;grind[S.agf,S.US,S.oZ,S.al,S.len]
   with_reducible and_intros
   omega
   . (have hq:=S.oZ h2 fV;omega)
   refine⟨((Prod.fst x1+nat_lit 1),((Prod.fst (Prod.snd x1)),(Prod.snd (Prod.snd x1)))),?_⟩;grind[S.acA,S.US,S.oZ,S.al,S.len]
 refine⟨?_,?_⟩
 . intro iR;with_reducible and_intros
   . (have hq:=S.oZ h2 fV;grind)
   . (have hq:=S.oZ h2 fV;simp;omega)
   grind[S.acB]
 grind[df,S.acC]
def axA(s:B8)(hp:S.small s):S.small s/\q19 (decide ((length (S.bK s):Int)=1)) ((0:Int)<=0/\(0:Int)<length (S.bK s)) (aDZ 0 (length (S.bK s))) True/\aFJ (decide ((length (S.bK s):Int)=1)) (q93 (S.bK s) 0) s=S.isTerm s:=by
 refine aP ?_;grind[S.acD]
def aNE(c:Int):q54 (q29 (S.letter c) (aFW 48 c 57)=S.kM c):=by
 refine aP ?_;grind[S.aII]
def aNF(s:B8)(hp:S.small s)(hf:Vg.bo J.ath s):S.small s/\(∃(x1:Nat),(0:Int)=x1/\S.aCY (S.decode s) x1)/\(∀(x2:Nat),S.aCY (S.decode s) x2->q79 (decide ((x2:Int)<aDQ s)) 0 x2 (aDQ s) (toNat x2<aDQ s/\afu (q68 (Bool.not (S.kM (aeX (S.decode s) (toNat x2)))) (q25 0 x2 (aDQ s)/\toNat x2<aDQ s/\q54 (q25 0 x2 (aDQ s)/\toNat x2<aDQ s))) (VV (q29 (Bool.not (S.kM (aeX (S.decode s) (toNat x2)))) (hU (S.bJ (aeX (S.decode s) (toNat x2))) (aeX (S.decode s) (toNat x2)))) (S.XA s) x2 (∃(x3:Nat),aCA x2 x3 (S.aCY (S.decode s) x3) (S.len (S.decode s))))) (eP (decide ((0:Int)<aDQ s)) (decide (dQ s<=64))=S.XA s)):=by
 refine aP ?_;have IT:Vg.hlen s:=hf.1;clear hf;have hq:=S.zG s;have fV:s.length<=1099511627776:=hp;with_reducible and_intros
 omega
 . refine⟨(nat_lit 0:Nat),?_⟩;try dsimp only
   refine⟨?_,?_⟩
   . omega
   exact S.aLa _
 intro x1 h2;refine⟨?_,?_⟩
 . intro h3;try simp only [dt] at h3
   with_reducible and_intros
   iterate 3 omega
   trivial
   . intro h4;try simp only [nt] at h4
     trivial
   . intro h5;try simp only [nf] at h5
     with_reducible and_intros
     iterate 3 omega
     trivial;iterate 3 omega
   . intro h6;try simp only [V.xq,nt,df,tn] at h6
     exact S.aIJ h3 h6
   intro h7;try simp only [V.jz,nf,dt,tn] at h7
   with_reducible and_intros
   iterate 2 omega
   refine⟨(x1+nat_lit 1),?_⟩;try dsimp only
   with_reducible and_intros
   omega;exact S.aG9 h2 h3 h7.1 h7.2;simp only [S.al,S.len];omega
 intro h8;try simp only [df] at h8
 exact S.aIK h2 h8
def axB(s:B8):Bool.not (decide (s=s))=false:=by
 grind
def axC(a b:B8):q54 (q54 (q17 false (q17 false (0=S.iF a b) (-1=S.iF a b)) (q17 false (1=S.iF a b) (q17 (Op.bytesLess a b) (-1=S.iF a b) (q17 (Bool.not (Op.bytesLess a b||decide (a=b))) (1=S.iF a b) (0=S.iF a b)))))):=by
 refine aP ?_;grind[S.iF,S.cJ,S.jM,S.ou,nt,nf]
def axD(a b:B8):q54 (FI (S.iF a b)=decide (a=b)):=by
 refine aP ?_;grind[S.alS]
def axE(l:List B8)(hp:S.small l):q17 (decide ((aHw l:Int)<2)) (l=S.bR l) ((∃(x1:Nat),(1:Int)=x1/\S.mR l x1)/\(∀(x2:Nat),S.mR l x2->q79 (decide ((x2:Int)<aHw l)) 0 x2 (aHw l) (aAR x2<aHw l/\Dp (x2-1) 0 (aHw l) (toNat (x2-1)<aHw l/\q54 (MJ (decide (q67 l (aAR x2)=q67 l (toNat (x2-1)))) (aAM x2 (aHw l)) ((∃(x3:Nat×Nat×List B8×Nat),((x2:Int)=x3.1/\(1:Int)=x3.2.1/\l=x3.2.2.1)/\S.iG l x3.2.2.2 x3.1 x3.2.1 x3.2.2.1/\(x2:Int)=x3.2.2.2)/\(∀(x4:Nat×Nat×List B8×Nat),S.iG l x4.2.2.2 x4.1 x4.2.1 x4.2.2.1/\(x2:Int)=x4.2.2.2->yz (decide ((x4.2.1:Int)<((aHw l-aAR x2:Nat):Int))) (q25 0 x4.2.1 ((aHw l-aAR x2:Nat):Int)) (aAR x2+toNat x4.2.1<aC8 x4/\Dp (x4.2.1-1) 0 ((aHw l-aAR x2:Nat):Int) (aAR x2+toNat (x4.2.1-1)<aC8 x4/\afu (q79 (aFc (q67 x4.2.2.1 (aAR x2+toNat x4.2.1)) (q67 x4.2.2.1 (aAR x2+toNat (x4.2.1-1)))) 0 x4.2.1 ((aHw l-aAR x2:Nat):Int) (aAR x2+toNat x4.2.1<aC8 x4/\q25 0 x4.1 (aC8 x4)/\aDh x4<aC8 x4/\q26 (x4.1+1)) True) (q26 (x4.2.1+1)/\(∃(x5:Nat×Nat×List B8×Nat),((bif aFc (q67 x4.2.2.1 (aAR x2+toNat x4.2.1)) (q67 x4.2.2.1 (aAR x2+toNat (x4.2.1-1))) then(x4.1:Int)+1 else(x4.1:Int))=x5.1/\(x4.2.1:Int)+1=x5.2.1/\(bif aFc (q67 x4.2.2.1 (aAR x2+toNat x4.2.1)) (q67 x4.2.2.1 (aAR x2+toNat (x4.2.1-1))) then List.set x4.2.2.1 (aDh x4) (q67 x4.2.2.1 (aAR x2+toNat x4.2.1)) else x4.2.2.1)=x5.2.2.1)/\(S.iG l x5.2.2.2 x5.1 x5.2.1 x5.2.2.1/\(x2:Int)=x5.2.2.2)/\yb (S.len l) x5.2.1 x4.2.1)))) (aAM x4.1 (aC8 x4)) (aDh x4+(aC8 x4-aDh x4)<=aC8 x4) (aBW x4.1 (wD (aDt x4)) (take (aDh x4) (aDt x4)=S.bR l)))) (x2+1) (∃(x6:Nat),aCA x2 x6 (S.mR l x6) (S.len l))))) (l=S.bR l))):=by
 refine aP ?_;have fV:l.length<=1099511627776:=hp;refine V.dI (λh1=>?_) λh2=>?_
 . exact S.LC h1
 refine⟨?_,?_⟩
 . grind[S.agj]
 intro x3 h4;refine⟨?_,?_⟩
 . intro h5;try simp only [dt] at h5
   with_reducible and_intros
   iterate 5 omega
   . have:=h4.1;omega
   iterate 2 omega
   trivial
   . intro h6;try simp only [dt,tn] at h6
     with_reducible and_intros
     iterate 2 omega
     . refine⟨((x3),((nat_lit 1:Nat),((l),(x3)))),?_⟩;grind[S.ó]
     intro x7 h8;refine⟨?_,?_⟩
     . intro h9;try simp at h9
       with_reducible and_intros
       iterate 2 omega
       . have q1:=h8.1.1;have q2:=h8.1.2.1;have q3:=h8.1.2.2.2.1;have q4:=h8.1.2.2.2.2.1;have q5:=h8.2;omega
       iterate 2 omega
       . have q1:=h8.1.1;have q2:=h8.1.2.1;have q3:=h8.1.2.2.2.1;have q4:=h8.1.2.2.2.2.1;have q5:=h8.2;omega
       omega
       . have q1:=h8.1.1;have q2:=h8.1.2.1;have q3:=h8.1.2.2.2.1;have q4:=h8.1.2.2.2.2.1;have q5:=h8.2;omega
       trivial
       . intro h10;with_reducible and_intros
         iterate 2 omega
         . have q1:=h8.1.1;have q2:=h8.1.2.1;have q3:=h8.1.2.2.2.1;have q4:=h8.1.2.2.2.2.1;have q5:=h8.2;omega
         omega
         iterate 2
          . have q1:=h8.1.1;have q2:=h8.1.2.1;have q3:=h8.1.2.2.2.1;have q4:=h8.1.2.2.2.2.1;have q5:=h8.2;omega
         omega;have q1:=h8.1.1;have q2:=h8.1.2.1;have q3:=h8.1.2.2.2.1;have q4:=h8.1.2.2.2.2.1;have q5:=h8.2;omega
       . intro iR;trivial
       iterate 2 omega
       refine⟨((toNat (bif !Decidable.decide (getD (Prod.fst (Prod.snd (Prod.snd x7))) (toNat (↑x3:Int)+toNat (↑(Prod.fst (Prod.snd x7)):Int)) []=getD (Prod.fst (Prod.snd (Prod.snd x7))) (toNat (↑x3:Int)+toNat ((↑(Prod.fst (Prod.snd x7)):Int)-(1:Int))) []) then(↑(Prod.fst x7):Int)+(1:Int) else(↑(Prod.fst x7):Int))),((Prod.fst (Prod.snd x7)+nat_lit 1),((bif !Decidable.decide (getD (Prod.fst (Prod.snd (Prod.snd x7))) (toNat (↑x3:Int)+toNat (↑(Prod.fst (Prod.snd x7)):Int)) []=getD (Prod.fst (Prod.snd (Prod.snd x7))) (toNat (↑x3:Int)+toNat ((↑(Prod.fst (Prod.snd x7)):Int)-(1:Int))) []) then List.set (Prod.fst (Prod.snd (Prod.snd x7))) (toNat (↑(Prod.fst x7):Int)) (getD (Prod.fst (Prod.snd (Prod.snd x7))) (toNat (↑x3:Int)+toNat (↑(Prod.fst (Prod.snd x7)):Int)) []) else Prod.fst (Prod.snd (Prod.snd x7))),(x3)))),?_⟩;try dsimp only
       with_reducible and_intros
       . generalize (!decide (getD x7.2.2.1 (toNat (x3:Int)+toNat (x7.2.1:Int)) []=getD x7.2.2.1 (toNat (x3:Int)+toNat ((x7.2.1:Int)-1)) []))=c;cases c<;>simp only [I!,L!]<;>omega
       omega;trivial
       . have q1:=h8.1.1;have e3:x7.2.2.2=x3:=by have:=h8.2;omega
         have hi:=h8.1;rw [e3] at hi;have e1:toNat (x3:Int)+toNat (x7.2.1:Int)=x3+x7.2.1:=by omega
         have e2:toNat (x3:Int)+toNat ((x7.2.1:Int)-1)=x3+x7.2.1-1:=by omega
         rw [e1,e2];by_cases hd:getD x7.2.2.1 (x3+x7.2.1) []=getD x7.2.2.1 (x3+x7.2.1-1) []
         . rw [H? hd];exact S.LD hi w! hd
         rw [L? hd];exact S.Pw hi w! hd
       omega;simp only [S.al,S.len];omega
     intro jH;with_reducible and_intros
     omega
     iterate 2
      . have q1:=h8.1.2.1;have q2:=h8.1.2.2.2.1;have q3:=h8.1.2.2.2.2.1;omega
     omega
     . have q1:=h8.1.2.1;have q2:=h8.1.2.2.2.1;have q3:=h8.1.2.2.2.2.1;simp;omega
     have q1:=h8.1.2.1;have q2:=h8.1.2.2.2.1;have q3:=h8.1.2.2.2.2.1;grind[toNat,S.Iv,S.Px]
   intro mv;try simp only [df,tn] at mv
   with_reducible and_intros
   iterate 2 omega
   refine⟨(x3+nat_lit 1),?_⟩;grind[S.Pu,S.al,S.len]
 grind[df,S.UW]
def axF(l:List B8)(hp:S.small l):S.small l/\S.small l/\S.small (S.eD l)/\S.bR (S.eD l)=S.bR (S.eD l):=by
 grind[S.R0]
def axG(b:B8)(hp:S.small b):S.small b/\S.small (S.bK b)/\S.bR (S.eD (S.bK b))=S.sorted (S.bK b):=by
 grind[S.RZ,S.LF]
def axH(l:List B8)(hf:Vg.bo J.atj l):(∃(x1:Nat),(0:Int)=x1/\S.iH l x1)/\(∀(x2:Nat),S.iH l x2->q79 (decide (x2<wD l)) 0 x2 (wD l) (VV (aFi (q93 l x2)) (S.cY l) x2 (∃(x3:Nat),aCA x2 x3 (S.iH l x3) (S.len l))) (true=S.cY l)):=by
 refine aP ?_;have nI:Vg.hlen l:=hf.1.1;refine⟨?_,?_⟩
 . grind[S.ô]
 intro x1 h2;refine⟨?_,?_⟩
 . intro h3;simp only [dt] at h3;with_reducible and_intros
   iterate 2 omega
   . intro h4;simp at h4;exact S.acI h3 h4
   intro h5;simp at h5;with_reducible and_intros
   iterate 2 omega
   refine⟨(x1+nat_lit 1),?_⟩;dsimp only;with_reducible and_intros
   omega;exact S.XF h2 h3 h5;simp [S.al,S.len];omega
 grind[df,S.acJ]
def axI(a b:B8):q54 (S.bc a b=S.bc a b):=by
 refine aP ?_;grind
def axJ(s:List B8)(hp:S.we s):Dp (aAL s-2) 0 (aAL s) (toNat (aAL s-2)<aAL s/\Dp (aAL s-2+1) 0 (aAL s) (toNat (aAL s-2+1)<aAL s/\q54 (q25 0 (aAL s-2) (aAL s)/\toNat (aAL s-2)<aAL s/\aGo (aAL s-2+1) 0 (wD (aHy s)) (take (toNat (aAL s-2+1)) (aHy s)=S.comb s)))):=by
 refine aP ?_;have h1:=hp.1;have h2:=hp.2;with_reducible and_intros
 iterate 10 omega
 trivial;iterate 6 omega
 grind;exact S.alV hp
def axK(l:List B8)(hp:S.kQ l)(hf:Vg.bo J.atm l):(∃(x1:Nat),((0:Int)=x1/\[]=S.iu l x1)/\S.ud l x1)/\(∀(x2:Nat),S.ud l x2->q79 (decide (x2<wD l)) 0 x2 (wD l) (S.bQ (q93 l x2)/\Ĳ (S.iu l x2) [S.leaf (q93 l x2)]/\q80 x2 (∃(x3:Nat),aA6 x2 x3 (S.iu l x2++[S.leaf (q93 l x2)]=S.iu l x3) (S.ud l x3) (S.len l))) (S.iu l x2=S.leaves l)):=by
 refine aP ?_;have nI:Vg.hlen l:=hf.1.1;clear hf;have h1:=hp.1;refine⟨?_,?_⟩
 . refine⟨(nat_lit 0:Nat),?_⟩;try dsimp only
   with_reducible and_intros
   omega;rfl;grind[S.ud,S.al,S.len]
 intro x1 h2;refine⟨?_,?_⟩
 . intro h3;try simp only [dt] at h3
   with_reducible and_intros
   iterate 2 omega
   exact S.U0 hp v!
   . have:=S.N9 l x1;simp only [lc,ln];omega
   iterate 2 omega
   refine⟨(x1+nat_lit 1),?_⟩;try dsimp only
   with_reducible and_intros
   omega;exact S.RV v!
   . simp only [S.ud,S.al,S.len] at *;omega
   simp only [S.ud,S.al,S.len] at *;omega
 grind[df,S.UZ]
def axL(l:List B8)(hp:S.j9 l):ya (FI (wD l)) (S.small q98) (S.sum q98=S.root l) (∃(x1:Nat×List B8),((0:Int)=x1.1/\[]=x1.2)/\S.o0 l x1.1 x1.2) (∀(x2:Nat×List B8),S.o0 l x2.1 x2.2->ya (decide (x2.1<wD l)) (q25 0 x2.1 (wD l)) (Ĳ x2.2 [q93 l x2.1]/\(∃(x3:Nat×Nat×List B8×Nat),((x2.1:Int)=x3.2.1/\x2.2++[q93 l x2.1]=x3.2.2.1)/\S.nN l x3.2.2.2 x3.1 x3.2.1 x3.2.2.1/\(x2.1:Int)=x3.2.2.2)/\(∀(x4:Nat×Nat×List B8×Nat),S.nN l x4.2.2.2 x4.1 x4.2.1 x4.2.2.1/\(x2.1:Int)=x4.2.2.2->(0:Int)<=x4.2.1/\(0:Int)<=1/\MJ (decide (Vg.aK x4.2.1 1=1)) (S.we x4.2.2.1) (aBW 1 64 (∃(x5:Nat×Nat×List B8×Nat),(x4.2.1/q73 2 1=x5.2.1/\S.comb x4.2.2.1=x5.2.2.1)/\(S.nN l x5.2.2.2 x5.1 x5.2.1 x5.2.2.1/\(x2.1:Int)=x5.2.2.2)/\x5.2.1<x4.2.1)) (x2.1+1) (∃(x6:Nat×List B8),((x2.1:Int)+1=x6.1/\x4.2.2.1=x6.2)/\S.o0 l x6.1 x6.2/\yb (S.len l) x6.1 x2.1))) (∃(x7:List B8),x2.2=x7/\S.o8 l x7) (∀(x8:List B8),S.o8 l x8->yz (decide ((1:Int)<length x8)) (S.we x8) (∃(x9:List B8),S.comb x8=x9/\S.o8 l x9/\S.len x9<S.len x8) ((0:Int)<=0/\(0:Int)<length x8) (aDZ 0 (length x8)) (q93 x8 0=S.root l))):=by
 refine aP ?_;have fV:=hp.2;refine V.dI (λh1=>?_) λh2=>?_
 . refine⟨?_,?_⟩
   . exact T! _
   exact S.acK h1
 refine⟨?_,?_⟩
 . refine⟨((nat_lit 0:Nat),([])),?_⟩;grind[S.alT]
 intro x3 h4;refine V.dI (λh5=>?_) λh10=>?_
 . with_reducible and_intros
   iterate 2 omega
   . have:=S.U1 h4;simp;omega
   . refine⟨(0,x3.1,x3.2++[getD l (toNat (x3.1:Int)) []],x3.1),?_⟩;try dsimp only
     with_reducible and_intros
     omega;with_reducible rfl
     exact S.ave h4 h5;omega
   intro x6 h7;with_reducible and_intros
   iterate 2 omega
   . intro h8;try simp at h8
     with_reducible and_intros
     exact S.agq (S.Jx h7) h8 hp;iterate 2 omega
     refine⟨(x6.1+1,x6.2.1/2,S.comb x6.2.2.1,x3.1),?_⟩;try dsimp only
     with_reducible and_intros
     . simp only [show toNat 1=1 by rfl];omega
     with_reducible rfl
     exact(S.GG (S.Jx h7) h8).1;omega;exact(S.GG (S.Jx h7) h8).2.1
   intro h9;try simp at h9
   with_reducible and_intros
   iterate 2 omega
   refine⟨((Prod.fst x3+nat_lit 1),(Prod.fst (Prod.snd (Prod.snd x6)))),?_⟩;try dsimp only
   with_reducible and_intros
   omega;with_reducible rfl
   exact S.agl (S.Jx h7) h9;simp only [S.al,S.len];omega
 refine⟨?_,?_⟩
 . refine⟨(Prod.snd x3),?_⟩;refine⟨?_,?_⟩
   . rfl
   exact S.avf h4 h10 h2
 intro x11 jH;refine⟨?_,?_⟩
 . intro mv;simp at mv;refine⟨?_,?_⟩
   . have:=S.ago jH;exact⟨w!,w!⟩
   refine⟨(S.comb x11),?_⟩;with_reducible and_intros
   rfl;exact(S.PB jH mv).1;exact(S.PB jH mv).2
 grind[df,S.UX]
def axM(l:List B8)(hp:S.small l):q54 (yz (Bool.not (S.cY l)) ([]=S.sU l) (1=S.ae2 l) (S.j9 l) (S.root l=S.sU l) (0=S.ae2 l)):=by
 refine aP ?_;have fV:l.length<=1099511627776:=hp;grind[nt,S.sU,S.ae2,S.j9,nf]
def axN(n:Int):q17 (yA n 2 (decide (1099511627776<n))) (0=S.split n) ((∃(x1:Nat×Int),1=x1.2/\S.mS n x1.2 x1.1)/\(∀(x2:Nat×Int),S.mS n x2.2 x2.1->q26 (2*x2.2)/\q19 (decide (2*x2.2<n)) (q26 (x2.2*2)) (∃(x3:Nat×Int),x2.2*2=x3.2/\S.mS n x3.2 x3.1/\aDZ (n-x3.2) (toNat (n-x2.2))) (x2.2=S.split n))):=by
 refine aP ?_;refine⟨?_,?_⟩
 . grind[S.agp]
 intro h2;simp at h2;refine⟨?_,?_⟩
 . refine⟨(0,1),?_⟩;grind[S.UY]
 intro x3 h4;with_reducible and_intros
 iterate 2
  . (have:=S.o9 h4;omega)
 . intro h5;simp at h5;with_reducible and_intros
   . (have:=S.o9 h4;omega)
   omega;refine⟨(x3.1+1,2*x3.2),?_⟩;grind[S.o9,S.LH]
 grind[df,S.o9,S.N8]
def axO(l:List B8)(i:Int)(hp:S.dz l):q54 (ya (q29 (Bool.not (S.cY l)) (yA i 0 (decide (wD l<=i)))) ([]=S.qh l i) (1=S.Ad l i) (∃(x1:List B8×Int×List B8),(l=x1.1/\i=x1.2.1/\[]=x1.2.2)/\S.fp l i x1) (∀(x2:List B8×Int×List B8),S.fp l i x2->yz (decide (1<wD x2.1)) True (q19 (decide (x2.2.1<S.split (wD x2.1))) (aAM (S.split (wD x2.1)) (wD x2.1)) (S.j9 (drop (toNat (S.split (wD x2.1))) x2.1)/\length x2.2.2+length [S.root (drop (toNat (S.split (wD x2.1))) x2.1)]<=8796093022208/\aBW (S.split (wD x2.1)) (wD x2.1) (∃(x3:List B8×Int×List B8),(take (toNat (S.split (wD x2.1))) x2.1=x3.1/\x2.2.1=x3.2.1/\x2.2.2++[S.root (drop (toNat (S.split (wD x2.1))) x2.1)]=x3.2.2)/\S.fp l i x3/\S.len x3.1<S.len x2.1)) (aBW (S.split (wD x2.1)) (wD x2.1) (S.j9 (take (toNat (S.split (wD x2.1))) x2.1)/\length x2.2.2+length [S.root (take (toNat (S.split (wD x2.1))) x2.1)]<=8796093022208/\aBW (S.split (wD x2.1)) (wD x2.1) (q26 (x2.2.1-S.split (wD x2.1))/\(∃(x4:List B8×Int×List B8),(drop (toNat (S.split (wD x2.1))) x2.1=x4.1/\x2.2.1-S.split (wD x2.1)=x4.2.1/\x2.2.2++[S.root (take (toNat (S.split (wD x2.1))) x2.1)]=x4.2.2)/\S.fp l i x4/\S.len x4.1<S.len x2.1))))) (S.small x2.2.2) (S.L6 x2.2.2=S.qh l i) (0=S.Ad l i))):=by
 refine aP ?_;have fV:l.length<=1099511627776:=hp;with_reducible and_intros
 trivial
 . intro h1;grind[S.ahh]
 intro h2;refine⟨?_,?_⟩
 . refine⟨((l),((i),([]))),?_⟩;grind[S.adk]
 intro x3 h4;refine⟨?_,?_⟩
 . intro h5;try simp only [dt] at h5
   with_reducible and_intros
   trivial
   . intro h6;with_reducible and_intros
     iterate 2
      . (have q:=S.Cb fV h4 h5;omega)
     iterate 2
      . (have q:=S.Cb fV h4 h5;grind)
     iterate 2
      . (have q:=S.Cb fV h4 h5;omega)
     refine⟨((take (toNat (S.split (↑(length (Prod.fst x3)):Int))) (Prod.fst x3)),((Prod.fst (Prod.snd x3)),(Prod.snd (Prod.snd x3)++[S.root (drop (toNat (S.split (↑(length (Prod.fst x3)):Int))) (Prod.fst x3))]))),?_⟩;try dsimp only
     with_reducible and_intros
     iterate 3 rfl
     grind[S.avt]
     . (have q:=S.Cb fV h4 h5;omega)
   intro h7;try simp only [df] at h7
   with_reducible and_intros
   iterate 2
    . (have q:=S.Cb fV h4 h5;omega)
   . (have q:=S.Cb fV h4 h5;grind)
   . (have q:=S.Cb fV h4 h5;exact q.2.2.2.1 _)
   iterate 4
    . (have q:=S.Cb fV h4 h5;omega)
   refine⟨((drop (toNat (S.split (↑(length (Prod.fst x3)):Int))) (Prod.fst x3)),((Prod.fst (Prod.snd x3)-S.split (↑(length (Prod.fst x3)):Int)),(Prod.snd (Prod.snd x3)++[S.root (take (toNat (S.split (↑(length (Prod.fst x3)):Int))) (Prod.fst x3))]))),?_⟩;try dsimp only
   with_reducible and_intros
   iterate 3 with_reducible rfl
   exact S.avu fV h4 h5 h7
   . (have q:=S.Cb fV h4 h5;omega)
 grind[df,S.avv,S.ą]
def axP(l:List Int)(hf:Vg.bo J.atg l):(∃(x1:Nat),((0:Int)=x1/\-1=S.fo l x1)/\S.lj l x1)/\(∀(x2:Nat),S.lj l x2->q79 (decide (x2<q48 l)) 0 x2 (q48 l) (VV (q29 (decide (aCV l x2<=S.fo l x2)) (decide (1000<=aCV l x2))) (S.bF l) x2 (∃(x3:Nat),aA6 x2 x3 (aCV l x2=S.fo l x3) (S.lj l x3) (S.len l))) (true=S.bF l)):=by
 refine aP ?_;have nI:Vg.hlen l:=hf.1.1;refine⟨?_,?_⟩
 . grind[S.wh,S.alW]
 intro x1 h2;refine⟨?_,?_⟩
 . intro h3;simp only [dt] at h3;with_reducible and_intros
   iterate 2 omega
   . intro h4;simp at h4;exact S.acL h3 h4
   intro h5;simp only [V.jz,df,tn] at h5;with_reducible and_intros
   iterate 2 omega
   refine⟨(x1+nat_lit 1),?_⟩;dsimp only;with_reducible and_intros
   omega;rw [S.kA,tn];exact S.XG h2 h3 h5;simp [S.al,S.len];omega
 grind[df,S.acM]
def axQ(l:List Int)(hf:Vg.bo J.atg l):q54 (yz (Bool.not (S.bF l)) (1=S.aIr l) ([]=S.pa l) (q63 q98) (∃(x1:Nat),((0:Int)=x1/\-1=S.fo l x1/\S.lh q98 (length l)=S.gY l x1)/\x1<=length l) (∀(x2:Nat),x2<=length l->ya (decide ((x2:Int)<length l)) (q25 0 x2 (length l)) (q26 (aCV l x2-S.fo l x2)/\q26 (aCV l x2-S.fo l x2-1)/\q63 q98/\aFe (S.gY l x2) (S.lh q98 (aCV l x2-S.fo l x2-1))/\q80 x2 (∃(x3:Nat),((x2:Int)+1=x3/\aCV l x2=S.fo l x3/\S.gY l x2++S.lh q98 (aCV l x2-S.fo l x2-1)=S.gY l x3)/\x3<=length l/\yb (S.len l) x3 x2)) (0=S.aIr l) (S.gY l x2=S.pa l))):=by
 refine aP ?_;have nI:Vg.hlen l:=hf.1.1;clear hf;with_reducible and_intros
 trivial;grind[nt,S.aIr,S.pa];intro h2;try simp only [nf] at h2
 with_reducible and_intros
 grind;grind[S.wh,S.mT,S.PE,S.PD];intro x3 h4;refine⟨?_,?_⟩
 . intro h5;try simp only [dt] at h5
   with_reducible and_intros
   iterate 2 omega
   iterate 4
    . have:=S.PF h2 h5;omega
   exact T! _
   . have:=(S.Oa h2 h5 (getD l (toNat (x3:Int)) 0-S.fo l x3-1)).1;omega
   iterate 2 omega
   refine⟨(x3+nat_lit 1),?_⟩;try dsimp only
   with_reducible and_intros
   omega;rw [S.kA,tn];exact S.LK h2 h5;omega;simp only [S.al,S.len];omega
 grind[df,S.aIr,S.acN]
def axR(l:List Int):q54 (yz (akZ (S.aIr l)) ([]=S.u9 l) (S.aIr l=S.aIr l) (S.bQ (S.pa l)) (S.lB 2 (S.pa l)=S.u9 l) (0=S.aIr l)):=by
 refine aP ?_;with_reducible and_intros
 trivial;grind[nt,df,S.bF,absurd,S.aIr,S.u9];intro h2;simp at h2;with_reducible and_intros
 . have hq:S.bF l=true:=by
    grind[S.bF,S.aIr,absurd]
   have hl:=S.XH hq;simp [S.pa,S.u9,hq,R?,S.bQ];omega
 . have hq:S.bF l=true:=by
    grind[S.bF,S.aIr,absurd]
   simp_all[S.XH,S.pa,S.u9,R?,S.bQ]
 omega
def axS(n:Int)(p q:Bool)(s1 s2:Int):q90 s1 n (decide (n<s2))=S.vc n s1 s2/\s1=s1/\s2=s2:=by
 refine aP ?_;grind[S.vc]
def axT(a b:List Int)(s1 s2:Int)(hp:b.length=0):aFf (∃(x1:List Int×List Int),aG5 a x1.1 b S.qC ([]=x1.2/\s1=s1/\s2=s2)/\S.mi a s1 s2 x1.1 x1.2) (∀(x2:List Int×List Int),S.mi a s1 s2 x2.1 x2.2->yz (q29 (azw (q48 x2.1)) (decide (0<aFb))) (aFh (azw (q48 x2.1)) (FI aFb) 0 (q48 x2.1) aFb) (aFh (azw aFb) (FI (q48 x2.1)) 0 aFb (q48 x2.1)/\aFd (aE7 x2) 0 (q48 x2.1) 1/\aFd (aE6 x2) 0 aFb 1/\q54 (q19 (S.vc (aEA (aE6 x2) (aGr 0) (aE7 x2) (aFu x2) 0) s1 s2) (abF x2.2 [aEA (aE6 x2) (aGr 0) (aE7 x2) (aFu x2) 0]) (∃(x3:List Int×List Int),(MM (aE7 x2) 1 x2.1=x3.1/\MM (aE6 x2) 1 S.qC=S.qC/\x2.2++[aEA (aE6 x2) (aGr 0) (aE7 x2) (aFu x2) 0]=x3.2/\s1=s1/\s2=s2)/\S.mi a s1 s2 x3.1 x3.2/\S.len x3.1<S.len x2.1) (∃(x4:List Int×List Int),(MM (aE7 x2) 1 x2.1=x4.1/\MM (aE6 x2) 1 S.qC=S.qC/\x2.2=x4.2/\s1=s1/\s2=s2)/\S.mi a s1 s2 x4.1 x4.2/\S.len x4.1<S.len x2.1))) (s1=s1) (s2=s2) (x2.2=S.LJ a s1 s2)):=by
 refine aP ?_;have hb:b=[]:=V! hp;subst hb;refine⟨trivial,trivial,?_,?_⟩
 . refine⟨(S.tH a,[]),⟨?_,?_,rfl,rfl,rfl⟩,S.alX a s1 s2⟩
   . grind[S.tH,S.bF]
   rfl
 rintro⟨r,out⟩ h;have hl:=h.2;cases r with
 |nil=>grind[S.qC,S.acP]
 |cons n r=>
  simp [S.qC];refine⟨w!,λhn=>⟨?_,?_⟩,λhn=>?_⟩
  . grind
  . exact⟨r,out++[n],⟨rfl,rfl⟩,S.acO h hn,by simp [S.len]⟩
  exact⟨r,out,⟨rfl,rfl⟩,S.ags h hn,by simp [S.len]⟩
def axU(l:List Int)(s1 s2:Int):length (Vg.me Int)=0/\S.LJ l s1 s2=S.LJ l s1 s2:=by
 grind
def axV(a b:List Int)(hf:Vg.bo J.ato (a,b)):acd (hU (q48 a) (q48 b)) (S.q9 a b) ((∃(x1:Nat),(0:Int)=x1/\S.ui a b x1)/\(∀(x2:Nat),S.ui a b x2->q79 (decide (x2<q48 a)) 0 x2 (q48 a) (q25 0 x2 (q48 b)/\VV (hU (getD a (toNat x2) 0) (getD b (toNat x2) 0)) (S.q9 a b) x2 (∃(x3:Nat),aCA x2 x3 (S.ui a b x3) (S.len a))) (true=S.q9 a b))):=by
 refine aP ?_;have FL:Vg.hlen a:=hf.1.1;refine⟨?_,?_⟩
 . grind[nt,df,S.acR]
 intro h2;simp at h2;refine⟨?_,?_⟩
 . grind[S.alY]
 intro x3 h4;refine⟨?_,?_⟩
 . intro h5;simp only [dt] at h5;with_reducible and_intros
   iterate 4 omega
   . intro h6;simp at h6;exact S.acQ h6
   intro h7;simp at h7;with_reducible and_intros
   iterate 2 omega
   refine⟨(x3+nat_lit 1),?_⟩;dsimp only;with_reducible and_intros
   omega;exact S.XI h4 h5 h7;simp [S.al,S.len];omega
 grind[df,S.acS]
def axW(d:List (B8×List Int))(hp:S.bh d):(∃(x1:Nat),(0:Int)=x1/\S.Ip d x1)/\(∀(x2:Nat),S.Ip d x2->q79 (decide (x2<q97 d)) 0 x2 (q97 d) (q19 (azw x2) (q26 (x2-1)) (q25 0 (x2-1) (q97 d)) True/\acd (eP (azw x2) (aH2 (aAF d x2).1 (aAF d (x2-1)).1)) (S.aY d) (q68 (FI (q48 (aAF d x2).2)) (q54 (q68 (Bool.not (S.bF (aAF d x2).2)) (S.small (aAF d x2).1)))/\VV (q29 (FI (q48 (aAF d x2).2)) (aDL (Bool.not (S.bF (aAF d x2).2)) (S.isTerm (aAF d x2).1))) (S.aY d) x2 (∃(x3:Nat),aCA x2 x3 (S.Ip d x3) (S.len d)))) (true=S.aY d)):=by
 refine aP ?_;have fV:=hp.1;refine⟨?_,?_⟩
 . grind[S.aA7]
 intro x1 h2;refine⟨?_,?_⟩
 . intro h3;simp only [dt] at h3;with_reducible and_intros
   iterate 2 omega
   iterate 2 grind
   . intro h6;simp only [V.afK,dt] at h6;refine S.ö h3 ((S.LL _ _).2 (.inl ⟨w!,?_⟩));have e:toNat ((x1:Int)-1)=x1-1:=by omega
     have h62:=h6.2;rw [e] at h62;exact h62
   intro h7;simp only [V.EP,df] at h7;with_reducible and_intros
   grind
   . intro h9;with_reducible and_intros
     trivial;grind;intro iR;exact S.acT hp
   . intro jH;simp only [V.xq,dt,tn,nt] at jH;exact S.ö h3 ((S.LL _ _).2 (.inr (jH.imp (λq=>by grind[S.iZ]) id)))
   intro mv;simp at mv;with_reducible and_intros
   iterate 2 omega
   refine⟨(x1+nat_lit 1),?_⟩;dsimp only;with_reducible and_intros
   omega
   . refine S.agt h2 h3 ((S.sW _ _).2 ⟨?_,?_,mv.2.1,mv.2.2⟩);rotate_left
     . grind[S.iZ]
     rcases h7 with h7|h7
     . omega
     right;have e:toNat ((x1:Int)-1)=x1-1:=by omega
     rw [e] at h7;exact h7
   grind[S.al,S.len]
 grind[df,S.alZ]
def ann(l1 l2 l3:B8):yz (yA 64 (dQ l1) (yA 64 (dQ l2) (hU (length l3) 32))) ([]=S.ke l1 l2 l3) (1=S.rb l1 l2 l3) (S.nB q98 l1) (S.nB ([]++S.text l1) l2) (aGq ([]++S.text l1++S.text l2) (length l3)/\[]++S.text l1++S.text l2++l3=S.ke l1 l2 l3/\0=S.rb l1 l2 l3):=by
 refine aP ?_;refine⟨?_,?_⟩
 . simp_all[V.xq,dt,nt,df,S.XN,S.ke,S.rb]
 intro h2;simp only [V.jz,df,nf,dt] at h2;with_reducible and_intros
 exact S.Iq (T! _) w!
 . have t1:=S.GH (s:=l1);exact S.Iq (by rw [d?];omega) w!
 grind[S.zV,S.uj,S.GH,List.length_append,ln]
 . have hq:=S.zV h2;simp only [S.ke,hq,R?];rfl
 simp_all[S.zV,S.uj,S.GH,S.rb,R?]
def ano(b:B8)(hp:b.length<=140737488355328):q40 b/\q40 (S.ai b 0 0 64).1.1/\q40 (aje b).1.1/\q54 (yz (akZ (S.done (ado b).1.1 (ado b).1.2.1 (ado b).1.2.2)) ([]=(S.bf b).1.1) ([]=(S.bf b).1.2.1/\[]=(S.bf b).1.2.2/\S.done (ado b).1.1 (ado b).1.2.1 (ado b).1.2.2=(S.bf b).2) ((S.ai b 0 0 64).2=(S.bf b).1.1) ((aje b).2=(S.bf b).1.2.1) ((ado b).2=(S.bf b).1.2.2/\0=(S.bf b).2)):=by
 refine aP ?_;refine⟨hp,?_,?_,trivial,λh=>?_,λh=>?_⟩
 . grind[S.zU]
 . grind[S.zU]
 . have h':(!decide (S.done (S.sV b).1.1 (S.sV b).1.2.1 (S.sV b).1.2.2=0))=true:=h
   have e:S.bf b=(([],[],[]),S.done (S.sV b).1.1 (S.sV b).1.2.1 (S.sV b).1.2.2):=by
    simp_all[S.bf,Q!,H?]
   rw [e];exact⟨rfl,rfl,rfl,rfl⟩
 have h':(!decide (S.done (S.sV b).1.1 (S.sV b).1.2.1 (S.sV b).1.2.2=0))=false:=h
 have e:S.bf b=(((S.XJ b).2,(S.RX b).2,(S.sV b).2),0):=by
  grind[S.bf]
 rw [e];exact⟨rfl,rfl,rfl,rfl⟩
def anp(d:List (B8×List Int))(hp:S.bh d):S.bh d/\yz (Bool.not (S.aY d)) (1=S.dE d) ([]=S.bP d) (q26 (adn d+1)) (∃(x1:Nat),((0:Int)=x1/\[]=S.gO d x1)/\x1<=adn d+1) (∀(x2:Nat),x2<=adn d+1->ya (decide ((x2:Int)<adn d+1)) (q19 (azw x2) (q26 (x2-1)) (q25 0 (x2-1) (adn d)/\q26 (x2-1)/\q25 0 (x2-1) (adn d)) True) (q19 (decide ((x2:Int)<adn d)) ((0:Int)<=x2) ((x2:Int)<adn d) True/\aFf (qV (length (S.gO d x2)+length (akX d x2))) (q80 x2 (∃(x3:Nat),aA6 x2 x3 (S.gO d x2++akX d x2=S.gO d x3) (x3<=adn d+1) (S.len d+1)))) (0=S.dE d) (S.gO d x2=S.bP d)):=by
 refine aP ?_;have fV:=hp.1;with_reducible and_intros
 omega;grind[nt,S.dE,S.bP];intro h2;simp at h2;with_reducible and_intros
 iterate 2 omega
 . refine⟨(nat_lit 0:Nat),?_⟩;dsimp only;with_reducible and_intros
   omega;rfl;omega
 intro x3 h4;refine V.dI (λh5=>?_) λh10=>?_
 . with_reducible and_intros
   . intro h6;simp at h6;with_reducible and_intros
     iterate 8 omega
   . intro h7;trivial
   . intro h8;try simp at h8
     refine⟨?_,?_⟩
     . omega
     omega
   . intro h9;trivial
   iterate 2 trivial
   . rw [S.LN];simp;omega
   iterate 2 omega
   refine⟨(x3+nat_lit 1),?_⟩;try dsimp only
   with_reducible and_intros
   omega;rw [S.al2 h2 w!,S.U2];omega;simp [S.al,S.len];omega
 refine⟨?_,?_⟩
 . simp only [S.dE,h2];rfl
 simp [S.bP,h2,R?];rw [show x3=d.length+1 by omega];rfl
def anq(d:List (B8×List Int))(hp:S.bh d):S.bh d/\yz (akZ (S.dE d)) ([]=S.zQ d) (S.dE d=S.dE d) (S.kQ (S.bP d)) (S.small (S.leaves (S.bP d))) (S.sU (S.leaves (S.bP d))=S.zQ d/\S.ae2 (S.leaves (S.bP d))=S.dE d):=by
 refine aP ?_;with_reducible and_intros
 omega;grind[nt,df,S.zQ,S.aA8];intro h2;simp at h2;with_reducible and_intros
 . have hr:=S.sX h2;have hq:=S.n4 hp hr;simp_all[S.bP,S.gh,R?]
 . have hr:=S.sX h2;have hq:=S.n4 hp hr;have e:S.bP d=S.gh d:=by simp_all[S.bP,R?]
   rw [e];exact hq.2.2
 . have hr:=S.sX h2;have hq:=S.n4 hp hr;have e:S.bP d=S.gh d:=by simp_all[S.bP,R?]
   rw [e];simp [S.zQ,S.sU,hr,hq.2.1,R?];rfl
 have hr:=S.sX h2;have hq:=S.n4 hp hr;have e:S.bP d=S.gh d:=by simp_all[S.bP,R?]
 rw [e];simp [S.dE,S.ae2,hr,hq.2.1,R?]
def anr(d:List (B8×List Int))(t:B8)(hp:S.bh d):S.bh d/\ya (Bool.not (S.aY d)) (-1=S.bp d t) (false=S.jN d t) (∃(x1:Nat),((0:Int)=x1/\-1=S.dF d t x1)/\x1<=length d) (∀(x2:Nat),x2<=length d->ya (decide ((x2:Int)<length d)) (q25 0 x2 (length d)) (q80 x2 (∃(x3:Nat),aA6 x2 x3 (aFY (aH2 (aAF d x2).1 t) x2 (S.dF d t x2) (S.dF d t x3)) (x3<=length d) (S.len d))) (q19 (aDe (S.dF d t x2)) (0<=S.dF d t x2) (S.dF d t x2<length d) True) ((bif aDe (S.dF d t x2) then S.dF d t x2 else S.dF d t x2)=S.bp d t/\aFJ (aDe (S.dF d t x2)) (aAF d (S.dF d t x2)).1 t=S.jN d t)):=by
 refine aP ?_;have fV:=hp.1;with_reducible and_intros
 omega
 . intro h1;simp at h1;refine⟨?_,?_⟩
   . exact(S.PG h1).1
   exact(S.PG h1).2
 intro h2;simp at h2;refine⟨?_,?_⟩
 . refine⟨(nat_lit 0:Nat),?_⟩;dsimp only;with_reducible and_intros
   omega;rfl;omega
 intro x3 h4;refine V.dI (λh5=>?_) λh6=>?_
 . with_reducible and_intros
   iterate 4 omega
   refine⟨(x3+nat_lit 1),?_⟩;dsimp only;with_reducible and_intros
   omega;exact S.al3 d t x3;omega;simp [S.al,S.len];omega
 with_reducible and_intros
 . intro h7;simp at h7;refine⟨?_,?_⟩
   . omega
   have:=(S.Fb (d:=d) (t:=t) x3).2;omega
 . intro h8;trivial
 . rw [show x3=d.length by omega,S.agu h2];cases decide (0<=S.bp d t)<;>rfl
 rw [show x3=d.length by omega];exact S.agv h2
def ans(d:List (B8×List Int))(t:B8)(hp:S.bh d):S.bh d/\q17 (Bool.not (S.jN d t)) ([]=S.pc d t) (q25 0 (S.bp d t) (q97 d)/\S.small (aAF d (S.bp d t)).2/\(aAF d (S.bp d t)).2=S.pc d t):=by
 refine aP ?_;grind[nt,S.al7,nf,S.Jy,S.al8]
def aLB(a b:List B8)(hf:Vg.bo J.atq (a,b)):acd (hU (wD a) (wD b)) (S.aCF a b) ((∃(x1:Nat),(0:Int)=x1/\S.aCZ a b x1)/\(∀(x2:Nat),S.aCZ a b x2->q79 (decide (x2<wD a)) 0 x2 (wD a) (q25 0 x2 (wD b)/\VV (aFc (q67 a (toNat x2)) (q67 b (toNat x2))) (S.aCF a b) x2 (∃(x3:Nat),aCA x2 x3 (S.aCZ a b x3) (S.len a))) (true=S.aCF a b))):=by
 refine aP ?_;have FL:Vg.hlen a:=hf.1.1;refine⟨?_,?_⟩
 . grind[nt,df,S.aHb]
 intro h2;simp at h2;refine⟨?_,?_⟩
 . grind[S.aJG]
 intro x3 h4;refine⟨?_,?_⟩
 . intro h5;simp only [dt] at h5;with_reducible and_intros
   iterate 4 omega
   . intro h6;simp at h6;exact S.aHa h6
   intro h7;simp at h7;with_reducible and_intros
   iterate 2 omega
   refine⟨(x3+nat_lit 1),?_⟩;dsimp only;with_reducible and_intros
   omega;exact S.aGC h4 h5 h7;simp [S.al,S.len];omega
 grind[df,S.aHc]
def ant(s1 s2:Int):q90 0 s1 (eP (decide (s1<s2)) (decide (s2<=1000)))=S.kT s1 s2:=by
 refine aP ?_;grind[S.kT,S.E1]
def anu(s1 s2:Int)(s3:List (B8×List Int))(hp:S.bh s3)(hf:Vg.bo J.ats (s1,s2,s3)):afu (q68 (Bool.not (S.kT s1 s2)) (S.bh s3)) (acd (aDL (Bool.not (S.kT s1 s2)) (S.aY s3)) (S.ec s1 s2 s3) ((∃(x1:Nat),(0:Int)=x1/\S.uk s1 s2 s3 x1)/\(∀(x2:Nat),S.uk s1 s2 s3 x2->q79 (decide (x2<q97 s3)) 0 x2 (q97 s3) (q54 (VV (hU (q48 (S.LJ (aAF s3 x2).2 s1 s2)) (q48 (aAF s3 x2).2)) (S.ec s1 s2 s3) x2 (∃(x3:Nat),aCA x2 x3 (S.uk s1 s2 s3 x3) (S.len s3)))) (true=S.ec s1 s2 s3)))):=by
 refine aP ?_;have M6:Vg.hlen s3:=hf.2.2.1.1;with_reducible and_intros
 trivial;iterate 2 grind
 . intro h3;simp at h3;exact S.al5 h3
 intro h4;refine⟨?_,?_⟩
 . grind[S.avi]
 intro x5 h6;refine⟨?_,?_⟩
 . intro h7;simp only [dt] at h7;with_reducible and_intros
   iterate 2 omega
   trivial
   . intro h8;simp at h8;exact S.agA h7 (L? h8)
   intro h9;simp at h9;with_reducible and_intros
   iterate 2 omega
   refine⟨(x5+nat_lit 1),?_⟩;dsimp only;with_reducible and_intros
   omega;exact S.ac0 h6 h7 (H? h9);simp [S.al,S.len];omega
 grind[df,S.agB]
def anv(s1 s2:Int)(s3:List (B8×List Int))(hp:S.bh s3):S.bh s3/\ya (Bool.not (S.ec s1 s2 s3)) (0=(S.rf s1 s2 s3).1.1) (0=(S.rf s1 s2 s3).1.2.1/\0=(S.rf s1 s2 s3).1.2.2.1/\[]=(S.rf s1 s2 s3).1.2.2.2/\1=(S.rf s1 s2 s3).2) (S.bh s3) (MJ (akZ (S.dE s3)) (0=(S.rf s1 s2 s3).1.1) (0=(S.rf s1 s2 s3).1.2.1/\0=(S.rf s1 s2 s3).1.2.2.1/\[]=(S.rf s1 s2 s3).1.2.2.2/\1=(S.rf s1 s2 s3).2) (q97 s3+1) (s1=(S.rf s1 s2 s3).1.1/\s2=(S.rf s1 s2 s3).1.2.1/\q97 s3+1=(S.rf s1 s2 s3).1.2.2.1/\S.zQ s3=(S.rf s1 s2 s3).1.2.2.2/\0=(S.rf s1 s2 s3).2)):=by
 refine aP ?_;have fV:=hp.1;with_reducible and_intros
 omega;grind[nt,S.XP];intro h2;with_reducible and_intros
 omega;grind[nt,df,S.Iu];grind[S.Iu]
def anw(s1 s2 s3:Int)(s4:B8):q54 (eP (S.kT s1 s2) (q90 1 s3 (q90 s3 1099511627776 (decide (dQ s4=32))))=S.ng s1 s2 s3 s4):=by
 refine aP ?_;grind[S.ng,S.E1]
def anx(docs:List B8)(s1 s2:Int):q54 (q19 (akZ (S.kg docs s1 s2).2) (0=(S.b8 docs s1 s2).1.1) (0=(S.b8 docs s1 s2).1.2.1/\[]=(S.b8 docs s1 s2).1.2.2/\(S.kg docs s1 s2).2=(S.b8 docs s1 s2).2) (ya (decide (s1=s2)) (0=(S.b8 docs s1 s2).1.1) (0=(S.b8 docs s1 s2).1.2.1/\[]=(S.b8 docs s1 s2).1.2.2/\1=(S.b8 docs s1 s2).2) (s1=(S.b8 docs s1 s2).1.1) (s2=(S.b8 docs s1 s2).1.2.1/\(S.kg docs s1 s2).1=(S.b8 docs s1 s2).1.2.2/\0=(S.b8 docs s1 s2).2))):=by
 refine aP ?_;simp_all[nt,df,S.agC,nf,dt,S.agE,S.agF]
def anz(l:List (Int×Int×Int×B8))(n:Int):acd (decide ((64:Int)<length l)) (S.pK l n) ((∃(x1:Nat),((0:Int)=x1/\0=S.rowAt l x1)/\S.vW l x1)/\(∀(x2:Nat),S.vW l x2->q79 (decide ((x2:Int)<length l)) 0 x2 (length l) (aA5 (Bool.not (Bool.rec false (Bool.rec false (decide ((aAy l x2).2.2.2=(aAy l x2).2.2.2)) (decide ((aAy l x2).2.2.1=(aAy l x2).2.2.1))) (Bool.rec false (decide ((aAy l x2).2.1=(aAy l x2).2.1)) (decide ((aAy l x2).1=S.rowAt l x2)))))/\VV (aDL (Bool.not (Bool.rec false (Bool.rec false (decide ((aAy l x2).2.2.2=(aAy l x2).2.2.2)) (decide ((aAy l x2).2.2.1=(aAy l x2).2.2.1))) (Bool.rec false (decide ((aAy l x2).2.1=(aAy l x2).2.1)) (decide ((aAy l x2).1=S.rowAt l x2))))) (S.ng (aAy l x2).1 (aAy l x2).2.1 (aAy l x2).2.2.1 (aAy l x2).2.2.2)) (S.pK l n) x2 (∃(x3:Nat),aA6 x2 x3 ((aAy l x2).2.1=S.rowAt l x3) (S.vW l x3) (S.len l))) (decide (S.rowAt l x2=n)=S.pK l n))):=by
 refine aP ?_;refine V.dI (λh1=>?_) λh2=>?_
 . exact S.agG h1
 refine⟨?_,?_⟩
 . grind[S.LS,S.al6]
 intro x3 h4;refine⟨?_,?_⟩
 . intro h5;simp only [dt] at h5;with_reducible and_intros
   iterate 2 omega
   . intro h6;trivial
   . intro h7;trivial
   . intro h8;refine S.ac3 h4 h5 (S.Va ?_);simpa [S.U8,S.sg] using h8
   intro h9;with_reducible and_intros
   iterate 2 omega
   refine⟨(x3+nat_lit 1),?_⟩;dsimp only;with_reducible and_intros
   omega;exact(S.U9 l x3).symm
   . refine S.XQ h4 h5 (S.XR ?_);simpa [S.U8,S.sg] using h9
   simp [S.al,S.len];omega
 grind[df,S.ac4]
def aLC(l:List (Int×Int×List (B8×List Int)))(hp:S.aC0 l)(hf:Vg.bo J.pO l):aG4 0 (auj l) aCU/\(∃(x1:Nat),([]=S.aca l x1/\replicate (toNat (auj l)) 0=S.Pg l x1)/\x1<=S.uL l)/\(∀(x2:Nat),x2<=S.uL l->(∃(x3:Nat×Nat),((0:Int)=x3.1/\-1=S.axt l (S.Pg l x3.2) x3.1)/\(x3.1<=auj l/\x3.2<=S.uL l)/\S.Pg l x2=S.Pg l x3.2)/\(∀(x4:Nat×Nat),(x4.1<=auj l/\x4.2<=S.uL l)/\S.Pg l x2=S.Pg l x4.2->q79 (decide ((x4.1:Int)<auj l)) 0 x4.1 (auj l) (q25 0 x4.1 (length (S.Pg l x2))/\toNat x4.1<length (S.Pg l x2)/\ya (decide (aeX (S.Pg l x2) (toNat x4.1)=q97 (getD l (toNat x4.1) (0,0,[])).2.2)) (q26 (x4.1+1)) (∃(x5:Nat×Nat),((x4.1:Int)+1=x5.1/\ae6 l x4=S.axt l (S.Pg l x5.2) x5.1)/\((x5.1<=auj l/\x5.2<=S.uL l)/\S.Pg l x2=S.Pg l x5.2)/\q44 (S.len l) x5.1 (S.al (S.len l) x4.1)) (q68 (decide (ae6 l x4<0)) (q25 0 x4.1 (length (S.Pg l x2))/\toNat x4.1<length (S.Pg l x2)/\q25 0 (aeX (S.Pg l x2) (toNat x4.1)) (q97 (getD l (toNat x4.1) (0,0,[])).2.2)/\q25 0 (ae6 l x4) (auj l)/\q25 0 (ae6 l x4) (length (S.Pg l x2))/\toNat (ae6 l x4)<length (S.Pg l x2)/\q25 0 (aeX (S.Pg l x2) (toNat (ae6 l x4))) (q97 (aeW l x4)))) (q26 (x4.1+1)/\(∃(x6:Nat×Nat),((x4.1:Int)+1=x6.1/\aFY (q29 (decide (ae6 l x4<0)) (Op.bytesLess (aAF (getD l (toNat x4.1) (0,0,[])).2.2 (aeX (S.Pg l x2) (toNat x4.1))).1 (aAF (aeW l x4) (aeX (S.Pg l x2) (toNat (ae6 l x4)))).1)) x4.1 (ae6 l x4) (S.axt l (S.Pg l x6.2) x6.1))/\((x6.1<=auj l/\x6.2<=S.uL l)/\S.Pg l x2=S.Pg l x6.2)/\q44 (S.len l) x6.1 (S.al (S.len l) x4.1)))) (q17 (decide (ae6 l x4<0)) (S.aca l x2=S.R5 l) (q25 0 (ae6 l x4) (auj l)/\q25 0 (ae6 l x4) (length (S.Pg l x2))/\toNat (ae6 l x4)<length (S.Pg l x2)/\q25 0 (aeX (S.Pg l x2) (toNat (ae6 l x4))) (q97 (aeW l x4))/\(∃(x7:Nat×Nat),((0:Int)=x7.1/\S.Pg l x2=S.abJ l x7.2 x7.1/\(aAF (aeW l x4) (aeX (S.Pg l x2) (toNat (ae6 l x4)))).1=S.uAt l x7.2/\[]=S.afs l (S.uAt l x7.2) x7.1)/\(x7.1<=auj l/\x7.2<S.uL l)/\S.aca l x2=S.aca l x7.2)/\(∀(x8:Nat×Nat),(x8.1<=auj l/\x8.2<S.uL l)/\S.aca l x2=S.aca l x8.2->ya (decide ((x8.1:Int)<auj l)) (q25 0 x8.1 (auj l)) (q25 0 x8.1 (length (afv l x8))/\afw x8<length (afv l x8)/\q79 (decide (aeX (afv l x8) (afw x8)<q97 (auu l x8))) 0 x8.1 (length (afv l x8)) (afw x8<length (afv l x8)/\q25 0 (aeX (afv l x8) (afw x8)) (q97 (auu l x8))) True/\MJ (aFJ (decide (aeX (afv l x8) (afw x8)<q97 (auu l x8))) (aAF (auu l x8) (aeX (afv l x8) (afw x8))).1 (S.uAt l x8.2)) (q25 0 x8.1 (length (afv l x8))) (afw x8<length (afv l x8)/\q25 0 (aeX (afv l x8) (afw x8)) (q97 (auu l x8))/\abF (S.afs l (S.uAt l x8.2) x8.1) (aAF (auu l x8) (aeX (afv l x8) (afw x8))).2/\q25 0 x8.1 (length (afv l x8))/\afw x8<length (afv l x8)/\q26 (aeX (afv l x8) (afw x8)+1)/\q25 0 x8.1 (length (afv l x8))/\afw x8<length (afv l x8)/\q26 (x8.1+1)/\(∃(x9:Nat×Nat),((x8.1:Int)+1=x9.1/\List.set (afv l x8) (afw x8) (aeX (afv l x8) (afw x8)+1)=S.abJ l x9.2 x9.1/\S.uAt l x8.2=S.uAt l x9.2/\S.afs l (S.uAt l x8.2) x8.1++(aAF (auu l x8) (aeX (afv l x8) (afw x8))).2=S.afs l (S.uAt l x9.2) x9.1)/\((x9.1<=auj l/\x9.2<S.uL l)/\S.aca l x2=S.aca l x9.2)/\q44 (S.len l) x9.1 (S.al (S.len l) x8.1))) (x8.1+1) (∃(DD:Nat×Nat),((x8.1:Int)+1=DD.1/\afv l x8=S.abJ l DD.2 DD.1/\S.uAt l x8.2=S.uAt l DD.2/\S.afs l (S.uAt l x8.2) x8.1=S.afs l (S.uAt l DD.2) DD.1)/\((DD.1<=auj l/\DD.2<S.uL l)/\S.aca l x2=S.aca l DD.2)/\q44 (S.len l) DD.1 (S.al (S.len l) x8.1))) (FE (length (S.aca l x2)+length [(S.uAt l x8.2,S.afs l (S.uAt l x8.2) x8.1)])) (∃(x11:Nat),(S.aca l x2++[(S.uAt l x8.2,S.afs l (S.uAt l x8.2) x8.1)]=S.aca l x11/\afv l x8=S.Pg l x11)/\x11<=S.uL l/\yb (S.uL l) x11 x2)))))):=by
 refine aP ?_;have nI:Vg.hlen l:=hf.1.1;with_reducible and_intros
 iterate 2 omega
 . have:=hp.1;omega
 . refine⟨0,?_⟩;with_reducible and_intros
   rfl;exact S.aLg l;omega
 intro x1 h2;refine⟨?_,?_⟩
 . refine⟨(0,x1),?_⟩;with_reducible and_intros
   omega;rfl;iterate 2 omega
   rfl
 intro x3 h4;refine V.dI (λh5=>?_) λh10=>?_
 . with_reducible and_intros
   iterate 3 omega
   iterate 2
    . rw [S.aAr];omega
   . intro h6;try simp only [dt,tn] at h6
     with_reducible and_intros
     iterate 2 omega
     refine⟨(x3.1+1,x3.2),?_⟩;try dsimp only
     with_reducible and_intros
     omega
     . rw [<-h4.2];exact S.aJQ h6
     iterate 2 omega
     exact h4.2;simp only [S.al,S.len];omega
   intro h7;try simp only [df,tn] at h7
   with_reducible and_intros
   . intro h8;try simp only [dt] at h8
     trivial
   . intro h9;try simp only [df] at h9
     with_reducible and_intros
     omega
     iterate 2
      . rw [S.aAr];omega
     exact S.aJP l _ _;exact S.aOE h5 h7;omega
     . rw [<-h4.2] at h9 |-;first|exact(S.aAl h4.1.1 h9).1|exact(S.aAl h4.1.1 h9).2.1|exact(S.aAl h4.1.1 h9).2.2.1|exact(S.aAl h4.1.1 h9).2.2.2
     omega
     iterate 2
      . rw [<-h4.2] at h9 |-;first|exact(S.aAl h4.1.1 h9).1|exact(S.aAl h4.1.1 h9).2.1|exact(S.aAl h4.1.1 h9).2.2.1|exact(S.aAl h4.1.1 h9).2.2.2
     exact S.aJP l _ _;rw [<-h4.2] at h9 |-;first|exact(S.aAl h4.1.1 h9).1|exact(S.aAl h4.1.1 h9).2.1|exact(S.aAl h4.1.1 h9).2.2.1|exact(S.aAl h4.1.1 h9).2.2.2
   iterate 2 omega
   refine⟨(x3.1+1,x3.2),?_⟩;try dsimp only
   with_reducible and_intros
   omega
   . rw [<-h4.2];exact S.aJR h7
   iterate 2 omega
   exact h4.2;simp only [S.al,S.len];omega
 refine V.dI (λiR=>?_) λjH=>?_
 . rw [<-h4.2] at iR;exact S.aNe hp h4.1.1 h10 iR
 with_reducible and_intros
 omega;first|exact(S.aAl h4.1.1 jH).1|exact(S.aAl h4.1.1 jH).2.1|exact(S.aAl h4.1.1 jH).2.2.1|exact(S.aAl h4.1.1 jH).2.2.2
 omega
 iterate 2
  . rw [<-h4.2] at jH |-;first|exact(S.aAl h4.1.1 jH).1|exact(S.aAl h4.1.1 jH).2.1|exact(S.aAl h4.1.1 jH).2.2.1|exact(S.aAl h4.1.1 jH).2.2.2
 exact S.aJP l _ _
 . rw [<-h4.2] at jH |-;first|exact(S.aAl h4.1.1 jH).1|exact(S.aAl h4.1.1 jH).2.1|exact(S.aAl h4.1.1 jH).2.2.1|exact(S.aAl h4.1.1 jH).2.2.2
 . refine⟨(0,x1),?_⟩;with_reducible and_intros
   omega;exact S.aNd l x1
   . rw [<-h4.2] at jH |-;exact(S.aHP hp h4.1.1 h10 jH).2
   rfl;omega
   . rw [<-h4.2] at jH;exact(S.aHP hp h4.1.1 h10 jH).1
   rfl
 intro x13 rY;refine V.dI (λHq=>?_) λh20=>?_
 . with_reducible and_intros
   iterate 3 omega
   exact(S.aDn Hq).1;exact(S.aDn Hq).2
   . intro DC;try simp only [dt,tn] at DC
     with_reducible and_intros
     omega;exact(S.aDn Hq).1;exact(S.aDn Hq).2;exact(S.aJS Hq).1;exact DC
   . intro VY;try simp only [df,tn] at VY
     trivial
   . intro h18;try simp only [V.afK,dt,tn] at h18
     with_reducible and_intros
     omega;exact(S.aDn Hq).1;exact(S.aDn Hq).2;exact(S.aJS Hq).1;exact h18.1
     . have q:=S.aLf hp (k:=x13.2) Hq;exact h? (Nat.add_le_add q.1 q.2) (by decide)
     omega;exact(S.aDn Hq).1;exact(S.aDn Hq).2;exact(S.aMk hp Hq).1;exact(S.aMk hp Hq).2;omega;exact(S.aDn Hq).1;exact(S.aDn Hq).2;iterate 2 omega
     refine⟨(x13.1+1,x13.2),?_⟩;try dsimp only
     with_reducible and_intros
     omega;exact(S.aJT hp rY.1.2 Hq h18.1 h18.2).1;rfl;exact(S.aJT hp rY.1.2 Hq h18.1 h18.2).2;iterate 2 omega
     exact rY.2;simp only [S.al,S.len];omega
   intro h19;try simp only [V.EP,df,tn] at h19
   with_reducible and_intros
   iterate 2 omega
   refine⟨(x13.1+1,x13.2),?_⟩;try dsimp only
   with_reducible and_intros
   omega;exact(S.aHQ hp rY.1.2 Hq (λq=>h19.elim (λz=>z q.1) (λz=>z q.2))).1;rfl;exact(S.aHQ hp rY.1.2 Hq (λq=>h19.elim (λz=>z q.1) (λz=>z q.2))).2;iterate 2 omega
   exact rY.2;simp only [S.al,S.len];omega
 refine⟨?_,?_⟩
 . have:=S.aOF hp h2;simp;omega
 refine⟨(x1+1),?_⟩;with_reducible and_intros
 . have e:=S.aGw rY.2 h2 (Nat.le_of_lt rY.1.2);subst e;exact(S.aJU rY.1.1 h20 rY.1.2).1
 . have e:=S.aGw rY.2 h2 (Nat.le_of_lt rY.1.2);subst e;exact(S.aJU rY.1.1 h20 rY.1.2).2
 . have e:=S.aGw rY.2 h2 (Nat.le_of_lt rY.1.2);first|omega|(omega)
 have e:=S.aGw rY.2 h2 (Nat.le_of_lt rY.1.2);first|omega|(simp [S.al];omega)
def aLD(l:List (Int×Int×List (B8×List Int)))(hp:S.agM l)(hf:Vg.bo J.pO l):ya (FI (length l)) (0=(S.ø l).1.1) (0=(S.ø l).1.2.1/\[]=(S.ø l).1.2.2/\1=(S.ø l).2) (∃(x1:Nat),(0:Int)=x1/\S.aDb l x1) (∀(x2:Nat),S.aDb l x2->ya (decide ((x2:Int)<length l)) (q25 0 x2 (length l)) (S.bh (auh l x2).2.2/\MJ (Bool.not (S.ec (auh l x2).1 (auh l x2).2.1 (auh l x2).2.2)) (0=(S.ø l).1.1) (0=(S.ø l).1.2.1/\[]=(S.ø l).1.2.2/\1=(S.ø l).2) (x2+1) (∃(x3:Nat),aCA x2 x3 (S.aDb l x3) (S.len l))) (∃(x4:Nat),(1:Int)=x4+1/\S.aDm l x4) (∀(x5:Nat),S.aDm l x5->ya (decide ((x5:Int)+1<length l)) (q25 0 (x5+1) (length l)) (Dp (x5+1-1) 0 (length l) (MJ (hU (getD l (toNat (x5+1)) (0,0,[])).1 (getD l (toNat (x5+1-1)) (0,0,[])).2.1) (0=(S.ø l).1.1) (0=(S.ø l).1.2.1/\[]=(S.ø l).1.2.2/\7=(S.ø l).2) (x5+1+1) (∃(x6:Nat),(x5:Int)+1+1=x6+1/\S.aDm l x6/\yb (S.len l) x6 x5))) ((0:Int)<=0/\(0:Int)<length l) (Dp (length l-1) 0 (length l) (S.aC0 l/\(getD l (toNat 0) (0,0,[])).1=(S.ø l).1.1/\(getD l (toNat (length l-1)) (0,0,[])).2.1=(S.ø l).1.2.1/\S.R5 l=(S.ø l).1.2.2/\0=(S.ø l).2)))):=by
 refine aP ?_;have nI:Vg.hlen l:=hf.1.1;refine⟨?_,?_⟩
 . simp_all[dt,S.aNf]
 intro h2;simp only [df] at h2;refine⟨?_,?_⟩
 . grind[S.aLh]
 intro x3 h4;refine V.dI (λh5=>?_) λh8=>?_
 . with_reducible and_intros
   iterate 2 omega
   exact hp.2 _ (S.GL (show x3<l.length by omega))
   . intro h6;try simp only [nt] at h6
     with_reducible and_intros
     iterate 3 (rw [S.aJV h5 h6])
     rw [S.aJV h5 h6]
   intro h7;try simp only [nf] at h7
   with_reducible and_intros
   iterate 2 omega
   refine⟨(x3+nat_lit 1),?_⟩;try dsimp only
   with_reducible and_intros
   omega;exact S.aLi h4 h5 h7;simp only [S.al,S.len];omega
 refine⟨?_,?_⟩
 . refine⟨0,?_⟩;refine⟨?_,?_⟩
   . omega
   exact S.aLj h4 h8
 intro x9 h10;refine V.dI (λiR=>?_) λrY=>?_
 . with_reducible and_intros
   iterate 6 omega
   . intro jH;try simp only [nt,df] at jH
     with_reducible and_intros
     iterate 3 (rw [S.aJW h10 iR jH])
     rw [S.aJW h10 iR jH]
   intro mv;try simp only [nf,dt] at mv
   with_reducible and_intros
   iterate 2 omega
   refine⟨(x9+1),?_⟩;try dsimp only
   with_reducible and_intros
   omega;exact S.aLk h10 iR mv;simp only [S.al,S.len];omega
 with_reducible and_intros
 iterate 6 omega
 exact S.aNh h10
 iterate 2
  . rw [S.aHk h10 rY];rfl
 rw [S.aHk h10 rY];grind[S.aHk]
def aLE(s1 s2:Int)(hf:Vg.bo J.atr (s1,s2)):q17 (yA s1 0 (yA s2 0 (decide (s2<=s1)))) (-1=S.avj s1 s2) (q26 (s2-s1)/\(∃(x1:Nat),(s2-s1=x1/\0=S.lg (s2-s1)-S.lg x1)/\S.aB3 s1 s2 x1)/\(∀(x2:Nat),S.aB3 s1 s2 x2->q19 (decide ((1:Int)<x2)) (q26 (S.lg (s2-s1)-S.lg x2+1)) ((0:Int)<=x2/\(0:Int)<2/\(∃(x3:Nat),((x2:Int)/2=x3/\S.lg (s2-s1)-S.lg x2+1=S.lg (s2-s1)-S.lg x3)/\S.aB3 s1 s2 x3/\x3<x2)) (S.lg (s2-s1)-S.lg x2=S.avj s1 s2))):=by
 refine aP ?_;have Hp:Vg.hint s2:=hf.2.1;refine⟨?_,?_⟩
 . intro h1;simp at h1;exact S.aJM h1
 intro h2;simp at h2;with_reducible and_intros
 iterate 2 omega
 . refine⟨(toNat (s2-s1)),?_⟩;grind[S.aGJ,S.aLd]
 intro x3 h4;refine⟨?_,?_⟩
 . intro h5;simp at h5;with_reducible and_intros
   . have q3:=S.aMj (s2-s1);have q4:=S.aJN h4;have q5:=S.aJL (x3:Int) w!;omega
   . have q1:=S.aJL (s2-s1) w!;have q2:=S.aLe (n:=(x3:Int)) h5;omega
   iterate 2 omega
   refine⟨(toNat ((↑x3:Int)/(2:Int))),?_⟩;with_reducible and_intros
   omega;exact S.aJO h5;grind[S.aHj];omega
 grind[df,S.aIP]
def aLF(l:List (Int×Int))(hf:Vg.bo J.atu l):q26 (length l-2)/\(∃(x1:Nat),(length l:Int)-2=S.len l-2-x1/\S.aBJ l x1)/\(∀(x2:Nat),S.aBJ l x2->ya (aDe (S.len l-2-x2)) (q25 0 (S.len l-2-x2) (length l)) (q54 (Dp (S.len l-2-x2+1) 0 (length l) (q54 (MJ (decide (S.avj (getD l (toNat (S.len l-2-x2)) (0,0)).1 (getD l (toNat (S.len l-2-x2)) (0,0)).2<=S.avj (getD l (toNat (S.len l-2-x2+1)) (0,0)).1 (getD l (toNat (S.len l-2-x2+1)) (0,0)).2)) (S.len l-2-x2=(S.xD l).1) (true=(S.xD l).2) (S.len l-2-x2-1) (∃(x3:Nat),(S.len l:Int)-2-x2-1=S.len l-2-x3/\S.aBJ l x3/\yb (S.len l) x3 x2))))) (0=(S.xD l).1) (false=(S.xD l).2)):=by
 refine aP ?_;have nI:Vg.hlen l:=hf.1.1;with_reducible and_intros
 iterate 2 omega
 grind[S.al,S.len,S.n_0];intro x1 h2;refine⟨?_,?_⟩
 . intro h3;simp only [dt] at h3;with_reducible and_intros
   omega;grind[S.al,S.len];trivial;omega;grind[S.al,S.len];omega;grind[S.al,S.len];trivial
   . intro h4;simp only [dt] at h4;refine⟨?_,?_⟩
     . rw [S.aJX h2 h3 h4]
     rw [S.aJX h2 h3 h4]
   intro h5;simp only [df] at h5;with_reducible and_intros
   omega;grind[S.al,S.len];refine⟨(x1+1),?_⟩;with_reducible and_intros
   omega;exact S.aOG h2 h3 h5;grind[S.al,S.len]
 grind[df,S.aNi]
def aLG(l:List (Int×Int×List (B8×List Int)))(hp:S.small l)(hf:Vg.bo J.pO l):(∃(x1:Nat),((0:Int)=x1/\[]=S.aAs l x1)/\x1<=length l)/\(∀(x2:Nat),x2<=length l->q79 (decide ((x2:Int)<length l)) 0 x2 (length l) (length (S.aAs l x2)+length [((ae5 l x2).1,(ae5 l x2).2.1)]<=8796093022208/\q80 x2 (∃(x3:Nat),aA6 x2 x3 (S.aAs l x2++[((ae5 l x2).1,(ae5 l x2).2.1)]=S.aAs l x3) (x3<=length l) (S.len l))) (S.aAs l x2=S.eY l)):=by
 refine aP ?_;have nI:Vg.hlen l:=hf.1.1;clear hf;refine⟨?_,?_⟩
 . grind[S.aAs,S.eY]
 intro x1 h2;refine⟨?_,?_⟩
 . intro h3;try simp only [dt] at h3
   with_reducible and_intros
   iterate 2 omega
   . have:=S.aGx l x1;simp only [W!,S.small] at *;omega
   iterate 2 omega
   refine⟨(x1+nat_lit 1),?_⟩;try dsimp only
   with_reducible and_intros
   omega;exact S.aGK h3;omega;simp only [S.al,S.len] at *;omega
 grind[df,S.aHl]
def anA(l:B8)(hp:S.small l):(l=[]->[]=l)/\aFe q98 l/\[]++l=l:=by
 refine aP ?_;with_reducible and_intros
 grind
 . simp [S.small,Vg.me,ln] at *;omega
 rfl
def anB(l:List (B8×List Int))(hp:S.small l):(l=[]->[]=l)/\FE (length (Vg.me (Prod B8 (List Int)))+length l)/\[]++l=l:=by
 refine aP ?_;with_reducible and_intros
 grind
 . simp [S.small,Vg.me,ln] at *;omega
 rfl
def anC(a b:List Int)(hf:Vg.bo J.ato (a,b)):acd (hU (q48 a) (q48 b)) (S.GO a b) ((∃(x1:Nat),(0:Int)=x1/\S.Fk a b x1)/\(∀(x2:Nat),S.Fk a b x2->q79 (decide (x2<q48 a)) 0 x2 (q48 a) (q25 0 x2 (q48 b)/\VV (hU (getD a (toNat x2) 0) (getD b (toNat x2) 0)) (S.GO a b) x2 (∃(x3:Nat),aCA x2 x3 (S.Fk a b x3) (S.len a))) (true=S.GO a b))):=by
 refine aP ?_;have FL:Vg.hlen a:=hf.1.1;refine⟨?_,?_⟩
 . intro h1;simp at h1;exact(L? (S.Vn h1)).symm
 intro h2;simp at h2;refine⟨?_,?_⟩
 . refine⟨(nat_lit 0:Nat),?_⟩;dsimp only;refine⟨?_,?_⟩
   . omega
   exact S.agX h2
 intro x3 h4;refine V.dI (λh5=>?_) λh8=>?_
 . with_reducible and_intros
   iterate 4 omega
   . intro h6;simp at h6;exact(L? (S.Vo 0 h6)).symm
   intro h7;simp at h7;with_reducible and_intros
   iterate 2 omega
   refine⟨(x3+nat_lit 1),?_⟩;dsimp only;with_reducible and_intros
   omega;exact S.PN 0 h4 h5 h7;simp [S.al,S.len,S.gP,S.rB] at *;omega
 exact(H? (S.Vm h4 h8)).symm
def anD(a1:B8)(a2:List Int)(b1:B8)(b2:List Int):aA5 (decide (a1=b1))/\eP (decide (a1=b1)) (S.GO a2 b2)=S.Ab a1 a2 b1 b2:=by
 refine aP ?_;simp_all[dt,df,S.Ab,S.GO,decide]
def anE(a b:List (B8×List Int))(hf:Vg.Row.ok (Vg.TA.du [.c9 (.slice [.str,.slice [.int .i64]]),.c9 (.slice [.str,.slice [.int .i64]]),.fn (.func 214) [] []]) (a,b)):acd (hU (q97 a) (q97 b)) (S.re a b) ((∃(x1:Nat),(0:Int)=x1/\S.E9 a b x1)/\(∀(x2:Nat),S.E9 a b x2->q79 (decide (x2<q97 a)) 0 x2 (q97 a) (q25 0 x2 (q97 b)/\q54 (VV (Bool.not (S.Ab (getD a (toNat x2) ([],[])).1 (getD a (toNat x2) ([],[])).2 (getD b (toNat x2) ([],[])).1 (getD b (toNat x2) ([],[])).2)) (S.re a b) x2 (∃(x3:Nat),aCA x2 x3 (S.E9 a b x3) (S.len a)))) (true=S.re a b))):=by
 refine aP ?_;have FL:Vg.hlen a:=hf.1.1;refine⟨?_,?_⟩
 . intro h1;simp at h1;exact(L? (S.Vn h1)).symm
 intro h2;simp at h2;refine⟨?_,?_⟩
 . refine⟨(nat_lit 0:Nat),?_⟩;dsimp only;refine⟨?_,?_⟩
   . omega
   exact S.agX h2
 intro x3 h4;refine V.dI (λh5=>?_) λh8=>?_
 . with_reducible and_intros
   iterate 4 omega
   trivial
   . intro h6;simp at h6;exact(L? (S.Vo ([],[]) (S.amd h6))).symm
   intro h7;simp at h7;with_reducible and_intros
   iterate 2 omega
   refine⟨(x3+nat_lit 1),?_⟩;dsimp only;with_reducible and_intros
   omega;exact S.PN ([],[]) h4 h5 (S.amc h7);simp [S.al,S.len,S.gP,S.rB] at *;omega
 exact(H? (S.Vm h4 h8)).symm
def anF(a b:List (B8×List Int)):q54 (S.re a b=S.re a b):=by
 refine aP ?_;grind
def anG(y1:List B8)(y2:List (Int×Int×List (B8×List Int))):acd (yA 1000 (wD y1) (decide ((64:Int)<length y2))) (S.bD y1 y2) ((∃(x1:Nat),(0:Int)=x1/\S.L0 y1 y2 x1)/\(∀(x2:Nat),S.L0 y1 y2 x2->ya (decide (x2<wD y1)) (q25 0 x2 (wD y1)) (VV (aFg 2000 (q93 y1 x2)) (S.bD y1 y2) x2 (∃(x3:Nat),aCA x2 x3 (S.L0 y1 y2 x3) (S.len y1))) (∃(x4:Nat),((0:Int)=x4/\0=S.gi y2 x4)/\S.z8 y1 y2 x4) (∀(x5:Nat),S.z8 y1 y2 x5->q79 (decide ((x5:Int)<length y2)) 0 x5 (length y2) (acd (aiu (hU (aC2 y2 x5).1 (S.gi y2 x5)) (decide ((aC2 y2 x5).2.1<=S.gi y2 x5)) (decide (wD y1<(aC2 y2 x5).2.1))) (S.bD y1 y2) (afu (aA5 (akZ (S.b8 y1 (aC2 y2 x5).1 (aC2 y2 x5).2.1).2)) (VV (aDL (akZ (S.b8 y1 (aC2 y2 x5).1 (aC2 y2 x5).2.1).2) (S.re (S.b8 y1 (aC2 y2 x5).1 (aC2 y2 x5).2.1).1.2.2 (aC2 y2 x5).2.2)) (S.bD y1 y2) x5 (∃(x6:Nat),aA6 x5 x6 ((aC2 y2 x5).2.1=S.gi y2 x6) (S.z8 y1 y2 x6) (S.len y2))))) (true=S.bD y1 y2)))):=by
 refine aP ?_;refine⟨?_,?_⟩
 . intro h1;simp at h1;exact S.aA9 h1
 intro h2;simp at h2;refine⟨?_,?_⟩
 . refine⟨(nat_lit 0:Nat),?_⟩;dsimp only;refine⟨?_,?_⟩
   . omega
   exact⟨w!,w!,S.al1 _⟩
 intro x3 h4;refine V.dI (λh5=>?_) λh8=>?_
 . with_reducible and_intros
   iterate 2 omega
   . intro h6;try simp only [dt,tn] at h6
     exact S.aBa h5 h6
   intro h7;try simp only [df,tn] at h7
   with_reducible and_intros
   iterate 2 omega
   refine⟨(x3+nat_lit 1),?_⟩;try dsimp only
   with_reducible and_intros
   omega;exact⟨h4.1,h4.2.1,S.XM h4.2.2 h5 w!⟩;simp only [S.al,S.len,S.gP,S.rB] at *;omega
 refine⟨?_,?_⟩
 . refine⟨(nat_lit 0:Nat),?_⟩;dsimp only;with_reducible and_intros
   omega;rfl;exact S.agY h4 h8
 intro x9 h10;refine⟨?_,?_⟩
 . intro iR;simp only [dt] at iR;with_reducible and_intros
   iterate 2 omega
   . intro jH;simp at jH;exact S.û iR (S.aBb jH)
   intro mv;simp only [V.jz,nf,dt,tn,df] at mv;with_reducible and_intros
   trivial
   . intro rY;trivial
   . intro Hq;trivial
   . intro DC;simp at DC;exact S.û iR (S.aBc h10 mv DC)
   intro VY;simp at VY;with_reducible and_intros
   iterate 2 omega
   refine⟨(x9+nat_lit 1),?_⟩;try dsimp only
   with_reducible and_intros
   omega;exact S.ac9 _ _;exact S.agZ h10 iR (S.aBd h10 mv VY);simp [S.al,S.len,S.gP,S.rB] at *;omega
 grind[df,S.amb]
def anH(y1:List B8)(y2:List (Int×Int×List (B8×List Int))):q54 (ya (Bool.not (S.bD y1 y2)) ([]=(S.ak y1 y2).1) ([]=(S.ak y1 y2).2) (y1=(S.ak y1 y2).1) (y2=(S.ak y1 y2).2)):=by
 refine aP ?_;grind[nt,S.ag0,nf,S.kY]
def anI(y1:List B8)(y2:List (Int×Int×List (B8×List Int)))(hf:Vg.bo J.lr (y1,y2)):q17 (FI (length y2)) (0=S.cz y2) (Dp (length y2-1) 0 (length y2) ((getD y2 (toNat (length y2-1)) (0,0,[])).2.1=S.cz y2)):=by
 refine aP ?_;have YF:Vg.hlen y2:=hf.2.1.1;refine V.dI (λh1=>?_) λh2=>?_
 . exact S.avl h1
 with_reducible and_intros
 iterate 4 omega
 exact S.avn h2
def anJ(y1:List B8)(y2:List (Int×Int×List (B8×List Int)))(hp:S.uu y1 y2)(hf:Vg.bo J.lr (y1,y2)):aG4 0 (wD y1) ((24:Nat):Int)/\aG4 0 (length y2) ((40:Nat):Int)/\(∃(x1:Nat),((0:Int)=x1/\replicate (toNat (wD y1)) q98=S.dG q98 y1 x1)/\S.gP y1 x1)/\(∀(x2:Nat),S.gP y1 x2->ya (decide (x2<wD y1)) (q25 0 x2 (wD y1)) (S.small (q67 y1 (toNat x2))/\q25 0 x2 (length (S.dG q98 y1 x2))/\toNat x2<length (S.dG q98 y1 x2)/\q80 x2 (∃(x3:Nat),aA6 x2 x3 (List.set (S.dG q98 y1 x2) (toNat x2) (q67 y1 (toNat x2))=S.dG q98 y1 x3) (S.gP y1 x3) (S.len y1))) (∃(x4:Nat),((0:Int)=x4/\replicate (toNat (length y2)) (0,0,[])=S.dG (0,0,[]) y2 x4)/\S.gP y2 x4) (∀(x5:Nat),S.gP y2 x5->ya (decide ((x5:Int)<length y2)) (q25 0 x5 (length y2)) (S.small (auk y2 x5).2.2/\q25 0 x5 (length (S.dG (0,0,[]) y2 x5))/\toNat x5<length (S.dG (0,0,[]) y2 x5)/\(∃(x6:Nat×Nat×List S.aT),((0:Int)=x6.1/\List.set (S.dG (0,0,[]) y2 x5) (toNat x5) ((auk y2 x5).1,(auk y2 x5).2.1,[])=x6.2.2/\toNat x5=x6.2.1/\(auk y2 x5).2.2=(S.aV y2 x6.2.1).2.2)/\S.uv y2 x6.2.2 x6.2.1 x6.1/\(x5:Int)=x6.2.1)/\(∀(x7:Nat×Nat×List S.aT),S.uv y2 x7.2.2 x7.2.1 x7.1/\(x5:Int)=x7.2.1->ya (decide (x7.1<q97 (auk y2 x5).2.2)) (q25 0 x7.1 (q97 (auk y2 x5).2.2)) (q25 0 x5 (length x7.2.2)/\toNat x5<length x7.2.2/\toNat x5=x7.2.1/\S.small (getD (auk y2 x5).2.2 (toNat x7.1) ([],[])).2/\q25 0 x7.1 (length (S.aV y2 x7.2.1).2.2)/\toNat x7.1<length (S.aV y2 x7.2.1).2.2/\q26 (x7.1+1)/\(∃(x8:Nat×Nat×List S.aT),((x7.1:Int)+1=x8.1/\x7.2.2=x8.2.2/\x7.2.1=x8.2.1/\List.set (S.aV y2 x7.2.1).2.2 (toNat x7.1) ((getD (S.aV y2 x7.2.1).2.2 (toNat x7.1) ([],[])).1,(getD (auk y2 x5).2.2 (toNat x7.1) ([],[])).2)=(S.aV y2 x8.2.1).2.2)/\(S.uv y2 x8.2.2 x8.2.1 x8.1/\(x5:Int)=x8.2.1)/\q44 (S.rB y2 x8.2.1) x8.1 (S.al (S.rB y2 x7.2.1) x7.1))) (x7.2.1<length x7.2.2) (q80 x5 (∃(x9:Nat),aA6 x5 x9 (List.set x7.2.2 x7.2.1 ((getD x7.2.2 x7.2.1 (0,0,[])).1,(getD x7.2.2 x7.2.1 (0,0,[])).2.1,(S.aV y2 x7.2.1).2.2)=S.dG (0,0,[]) y2 x9) (S.gP y2 x9) (S.len y2))))) (S.dG q98 y1 x2=y1) (S.dG (0,0,[]) y2 x5=y2))):=by
 refine aP ?_;have axX:Vg.hlen y1:=hf.1.1;have YF:Vg.hlen y2:=hf.2.1.1;clear hf;with_reducible and_intros
 iterate 2 omega
 . have:=hp.1;omega
 iterate 2 omega
 . have:=hp.2.1;omega
 grind[S.ü,S.al,S.len,S.gP,S.rB];intro x1 h2;refine V.dI (λh3=>?_) λh4=>?_
 . with_reducible and_intros
   iterate 2 omega
   exact S.Vq hp _;omega;exact(S.Be _ h3).1;exact(S.Be _ h3).2;iterate 2 omega
   refine⟨(x1+nat_lit 1),?_⟩;try dsimp only
   with_reducible and_intros
   omega;exact S.Vp _ h3
   . simp only [S.al,S.len,S.gP,S.rB] at *;omega
   simp only [S.al,S.len,S.gP,S.rB] at *;omega
 refine⟨?_,?_⟩
 . refine⟨(nat_lit 0:Nat),?_⟩;try dsimp only
   with_reducible and_intros
   omega;exact S.ü _ _;simp only [S.al,S.len,S.gP,S.rB] at *;omega
 intro x5 h6;refine⟨?_,?_⟩
 . intro h7;try simp only [dt] at h7
   with_reducible and_intros
   iterate 2 omega
   exact(S.C7 hp _).1;omega;exact(S.Be _ h7).1;exact(S.Be _ h7).2
   . refine⟨((nat_lit 0:Nat),((toNat (↑x5:Int)),(List.set (S.dG ((0:Int),(0:Int),[]) y2 x5) (toNat (↑x5:Int)) (Prod.fst (getD y2 (toNat (↑x5:Int)) ((0:Int),(0:Int),[])),Prod.fst (Prod.snd (getD y2 (toNat (↑x5:Int)) ((0:Int),(0:Int),[]))),[])))),?_⟩;try dsimp only
     with_reducible and_intros
     omega;rfl;omega;rfl;exact S.avo h7;omega
   intro x8 h9;refine⟨?_,?_⟩
   . intro h10;try simp only [dt,tn] at h10
     with_reducible and_intros
     omega;trivial;omega
     . have q:=h9.1.2.2.1;have q3:=h9.2;omega
     . have q:=h9.1.2.2.1;have q2:=h9.1.1;have q3:=h9.2;omega
     omega;exact(S.C7 hp _).2 _;omega
     iterate 2
      . have e:x5=x8.2.1:=w!;subst e;first|exact h10|exact Int.ofNat_lt.1 h10
     omega
     . have q:=(S.C7 hp x5).1;exact S.adb q h10
     refine⟨((Prod.fst x8+nat_lit 1),((Prod.fst (Prod.snd x8)),(Prod.snd (Prod.snd x8)))),?_⟩;try dsimp only
     with_reducible and_intros
     omega;rfl;omega
     . have e:x5=x8.2.1:=w!;subst e;exact S.AM _ _ _
     . have e:x5=x8.2.1:=w!;subst e;exact S.ade h9.1 h10
     omega;have e:x5=x8.2.1:=w!;subst e;exact S.adf h10
   intro iR;with_reducible and_intros
   . have q:=h9.1.2.2.1;have q3:=h9.2;omega
   iterate 2 omega
   refine⟨(x5+nat_lit 1),?_⟩;try dsimp only
   with_reducible and_intros
   omega
   . have e:x5=x8.2.1:=w!;subst e;exact S.ag1 h9.1
   . simp only [S.al,S.len,S.gP,S.rB] at *;omega
   simp only [S.al,S.len,S.gP,S.rB] at *;omega
 grind[df,S.ada]
def aLH(l:List (Int×Int×List (B8×List Int)))(i m s1 s2:Int)(s3:List (B8×List Int))(hp:S.aDA l i m):(0<=i/\i=i/\i<=length l)/\0<length [(s1,s2,s3)]/\FE (length (take (toNat i) l)+length [(s1,s2,s3)])/\aGo (i+m) 0 (length l) (FE (length (take (toNat i) l++[(s1,s2,s3)])+length (drop (toNat (i+m)) l))/\take (toNat i) l++[(s1,s2,s3)]++drop (toNat (i+m)) l=S.LV l (toNat i) (toNat m) (s1,s2,s3)):=by
 refine aP ?_;with_reducible and_intros
 exact hp.2.1;rfl
 . obtain⟨q1,q2,q3,q4⟩:=hp;omega
 grind
 . obtain⟨q1,q2,q3,q4⟩:=hp;grind
 iterate 4
  . obtain⟨q1,q2,q3,q4⟩:=hp;omega
 . obtain⟨q1,q2,q3,q4⟩:=hp;grind
 . unfold S.LV;rw [show(i+m).toNat=i.toNat+m.toNat by have:=hp.2;omega]
def anK(y1:List B8)(y2:List (Int×Int×List (B8×List Int))):q54 (q54 (S.cz (S.ak y1 y2).2=S.kW y1 y2)):=by
 refine aP ?_;with_reducible and_intros
 iterate 2 trivial
 rfl
def anL(y1:List B8)(y2:List (Int×Int×List (B8×List Int)))(d:B8):q54 (q19 (aFg 2000 d) ((S.ak y1 y2).1=(S.cA y1 y2 d).1.1) ((S.ak y1 y2).2=(S.cA y1 y2 d).1.2/\1=(S.cA y1 y2 d).2) (yz (decide ((1000:Int)<=length (S.ak y1 y2).1)) ((S.ak y1 y2).1=(S.cA y1 y2 d).1.1) ((S.ak y1 y2).2=(S.cA y1 y2 d).1.2/\3=(S.cA y1 y2 d).2) (S.uu (S.ak y1 y2).1 (S.ak y1 y2).2) (S.small d) (qV (length (S.ak y1 y2).1+length [d])/\(S.ak y1 y2).1++[d]=(S.cA y1 y2 d).1.1/\(S.ak y1 y2).2=(S.cA y1 y2 d).1.2/\0=(S.cA y1 y2 d).2))):=by
 refine aP ?_;with_reducible and_intros
 trivial;simp_all[dt,S.aBe]
 intro h2;refine⟨?_,?_⟩
 . simp_all[dt,S.aBf]
 grind[df,S.Iz,S.small,S.wx,List.length_singleton,S.asU]
def anM(y1:List B8)(y2:List (Int×Int×List (B8×List Int))):q54 (q54 (q19 (decide (S.cz (S.ak y1 y2).2=wD (S.ak y1 y2).1)) ((S.ak y1 y2).1=(S.bV y1 y2).1.1) ((S.ak y1 y2).2=(S.bV y1 y2).1.2/\5=(S.bV y1 y2).2) (ya (decide ((64:Int)<=length (S.ak y1 y2).2)) ((S.ak y1 y2).1=(S.bV y1 y2).1.1) ((S.ak y1 y2).2=(S.bV y1 y2).1.2/\3=(S.bV y1 y2).2) True (yz (akZ (S.b8 (S.ak y1 y2).1 (S.cz (S.ak y1 y2).2) (wD (S.ak y1 y2).1)).2) ((S.ak y1 y2).1=(S.bV y1 y2).1.1) ((S.ak y1 y2).2=(S.bV y1 y2).1.2/\(S.b8 (S.ak y1 y2).1 (S.cz (S.ak y1 y2).2) (wD (S.ak y1 y2).1)).2=(S.bV y1 y2).2) (S.uu (S.ak y1 y2).1 (S.ak y1 y2).2) (FE (length (S.ak y1 y2).2+length [((S.b8 (S.ak y1 y2).1 (S.cz (S.ak y1 y2).2) (wD (S.ak y1 y2).1)).1.1,(S.b8 (S.ak y1 y2).1 (S.cz (S.ak y1 y2).2) (wD (S.ak y1 y2).1)).1.2.1,(S.b8 (S.ak y1 y2).1 (S.cz (S.ak y1 y2).2) (wD (S.ak y1 y2).1)).1.2.2)])) ((S.ak y1 y2).1=(S.bV y1 y2).1.1/\(S.ak y1 y2).2++[((S.b8 (S.ak y1 y2).1 (S.cz (S.ak y1 y2).2) (wD (S.ak y1 y2).1)).1.1,(S.b8 (S.ak y1 y2).1 (S.cz (S.ak y1 y2).2) (wD (S.ak y1 y2).1)).1.2.1,(S.b8 (S.ak y1 y2).1 (S.cz (S.ak y1 y2).2) (wD (S.ak y1 y2).1)).1.2.2)]=(S.bV y1 y2).1.2/\0=(S.bV y1 y2).2))))):=by
 refine aP ?_;with_reducible and_intros
 iterate 2 trivial
 simp_all[dt,S.aBg]
 intro h2;refine⟨?_,?_⟩
 . simp_all[dt,S.aBh]
 intro h4;with_reducible and_intros
 trivial;grind[nt,df,S.asV];grind[S.Iz,S.wx,List.length_singleton,S.aBi]
def aLI(y1:List B8)(y2:List (Int×Int×List (B8×List Int)))(i m:Int):afu (q68 (decide (m<2)) (q68 (decide (i<0)) (q68 (decide (length (S.ak y1 y2).2<m)) (q26 (length (S.ak y1 y2).2-m))))) (yz (aiu (decide (m<2)) (decide (i<0)) (q29 (decide (length (S.ak y1 y2).2<m)) (decide (length (S.ak y1 y2).2-m<i)))) ((S.ak y1 y2).1=(S.Bd y1 y2 i m).1.1) ((S.ak y1 y2).2=(S.Bd y1 y2 i m).1.2/\1=(S.Bd y1 y2 i m).2) (q26 (i+m)) (ald 0 i (i+m) (length (S.ak y1 y2).2)) (S.agM (aEE i m y1 y2)/\yz (akZ (S.ø (aEE i m y1 y2)).2) ((S.ak y1 y2).1=(S.Bd y1 y2 i m).1.1) ((S.ak y1 y2).2=(S.Bd y1 y2 i m).1.2/\(S.ø (aEE i m y1 y2)).2=(S.Bd y1 y2 i m).2) (S.uu (S.ak y1 y2).1 (S.ak y1 y2).2) (S.aDA (S.ak y1 y2).2 i m) ((S.ak y1 y2).1=(S.Bd y1 y2 i m).1.1/\S.LV (S.ak y1 y2).2 (toNat i) (toNat m) ((S.ø (aEE i m y1 y2)).1.1,(S.ø (aEE i m y1 y2)).1.2.1,(S.ø (aEE i m y1 y2)).1.2.2)=(S.Bd y1 y2 i m).1.2/\0=(S.Bd y1 y2 i m).2))):=by
 refine aP ?_;with_reducible and_intros
 trivial;grind;grind[df,S.wx];simp_all[V.xq,dt,S.aOH]
 intro h8;simp at h8;with_reducible and_intros
 omega;grind[S.wx];iterate 3 omega
 grind[S.aHR];grind[nt,df,S.aHR];simp_all[nf,dt,S.Iz,S.aHR,S.aOI]
def aLJ(y1:List B8)(y2:List (Int×Int×List (B8×List Int))):afu (S.uu (S.ak y1 y2).1 (S.ak y1 y2).2) ((∃(x1:List (Int×Int)),(S.ak y1 y2).2=S.bC (S.ak y1 y2).1 x1/\S.aCX y1 y2 x1)/\(∀(x2:List (Int×Int)),S.aCX y1 y2 x2->S.small (S.bC (S.ak y1 y2).1 x2)/\q54 (yz (Bool.not (S.xD (S.eY (S.bC (S.ak y1 y2).1 x2))).2) ((S.ak y1 y2).1=(S.wu y1 y2).1) (S.bC (S.ak y1 y2).1 x2=(S.wu y1 y2).2) (q26 ((S.xD (S.eY (S.bC (S.ak y1 y2).1 x2))).1+2)) (ald 0 (S.xD (S.eY (S.bC (S.ak y1 y2).1 x2))).1 ((S.xD (S.eY (S.bC (S.ak y1 y2).1 x2))).1+2) (length (S.bC (S.ak y1 y2).1 x2))) (S.agM (ar9 y1 y2 x2)/\ya (akZ (S.ø (ar9 y1 y2 x2)).2) ((S.ak y1 y2).1=(S.wu y1 y2).1) ((S.ak y1 y2).2=(S.wu y1 y2).2) (S.aDA (S.bC (S.ak y1 y2).1 x2) (S.xD (S.eY (S.bC (S.ak y1 y2).1 x2))).1 2) (∃(x3:List (Int×Int)),S.LV (S.bC (S.ak y1 y2).1 x2) (toNat (S.xD (S.eY (S.bC (S.ak y1 y2).1 x2))).1) (toNat 2) ((S.ø (ar9 y1 y2 x2)).1.1,(S.ø (ar9 y1 y2 x2)).1.2.1,(S.ø (ar9 y1 y2 x2)).1.2.2)=S.bC (S.ak y1 y2).1 x3/\S.aCX y1 y2 x3/\length x3<length x2))))):=by
 refine aP ?_;with_reducible and_intros
 trivial;grind[S.Iz]
 . refine⟨(S.eY (S.ak y1 y2).2),?_⟩;refine⟨?_,?_⟩
   . exact(S.qU y1 y2).eq
   grind[S.aOJ]
 intro x1 h2;with_reducible and_intros
 exact S.aOK h2;trivial
 . intro h3;refine⟨?_,?_⟩
   . rfl
   grind[S.aLl]
 intro h4;simp at h4;with_reducible and_intros
 iterate 2
  . have q:=S.aHS h2 h4;omega
 simp_all[S.aHS]
 omega;simp_all[S.aHS]
 grind[S.aJY];grind[nt,df,S.aJY];grind[S.aJY]
def anN(y1:List B8)(y2:List (Int×Int×List (B8×List Int)))(hf:Vg.bo J.lr (y1,y2)):afu ((0:Int)<=0/\aAM (length (S.ak y1 y2).2) (aG1 ((40:Nat):Int))) ((∃(x1:Nat),((0:Int)=x1/\replicate (toNat 0) (0,0,0,[])=S.kh y1 y2 x1)/\x1<=S.gL y1 y2)/\(∀(x2:Nat),x2<=S.gL y1 y2->q79 (decide ((x2:Int)<length (S.ak y1 y2).2)) 0 x2 (length (S.ak y1 y2).2) (S.bh (auv y1 y2 x2).2.2/\FE (length (S.kh y1 y2 x2)+length [((abY y1 y2 x2).1,(abY y1 y2 x2).2.1,(abY y1 y2 x2).2.2.1,(abY y1 y2 x2).2.2.2)])/\q80 x2 (∃(x3:Nat),aA6 x2 x3 (S.kh y1 y2 x2++[((abY y1 y2 x2).1,(abY y1 y2 x2).2.1,(abY y1 y2 x2).2.2.1,(abY y1 y2 x2).2.2.2)]=S.kh y1 y2 x3) (x3<=S.gL y1 y2) (S.gL y1 y2))) (S.kh y1 y2 x2=S.cL y1 y2))):=by
 refine aP ?_;have axX:Vg.hlen y1:=hf.1.1;have YF:Vg.hlen y2:=hf.2.1.1;clear hf;with_reducible and_intros
 trivial;iterate 2 omega
 grind[S.wx]
 . refine⟨(nat_lit 0:Nat),?_⟩;try dsimp only
   with_reducible and_intros
   omega;rfl;omega
 intro x1 h2;refine⟨?_,?_⟩
 . intro h3;try simp only [dt] at h3
   with_reducible and_intros
   iterate 2 omega
   exact(S.PO y1 y2 (k:=x1) w!).2
   . have:=S.Sa y1 y2 x1;simp only [W!];omega
   omega
   . have:=(S.wx y1 y2).2.1;omega
   refine⟨(x1+nat_lit 1),?_⟩;try dsimp only
   with_reducible and_intros
   omega;exact S.ag2 h3
   . simp only [S.gL,S.al] at *;omega
   simp only [S.gL,S.al] at *;omega
 grind[df,S.amf]
def aLK(y1:List B8)(y2:List (Int×Int×List (B8×List Int)))(a1 a2 a3:Int)(a4:B8):q19 (FI a1) True ((S.cA y1 y2 a4).1.1=(S.oa y1 y2 a1 a2 a3 a4).1.1/\(S.cA y1 y2 a4).1.2=(S.oa y1 y2 a1 a2 a3 a4).1.2/\(S.cA y1 y2 a4).2=(S.oa y1 y2 a1 a2 a3 a4).2) (q19 (decide (a1=1)) True ((S.bV y1 y2).1.1=(S.oa y1 y2 a1 a2 a3 a4).1.1/\(S.bV y1 y2).1.2=(S.oa y1 y2 a1 a2 a3 a4).1.2/\(S.bV y1 y2).2=(S.oa y1 y2 a1 a2 a3 a4).2) (q19 (decide (a1=2)) True ((S.Bd y1 y2 a2 a3).1.1=(S.oa y1 y2 a1 a2 a3 a4).1.1/\(S.Bd y1 y2 a2 a3).1.2=(S.oa y1 y2 a1 a2 a3 a4).1.2/\(S.Bd y1 y2 a2 a3).2=(S.oa y1 y2 a1 a2 a3 a4).2) (afu ((S.wu y1 y2).1=(S.oa y1 y2 a1 a2 a3 a4).1.1) ((S.wu y1 y2).2=(S.oa y1 y2 a1 a2 a3 a4).1.2/\0=(S.oa y1 y2 a1 a2 a3 a4).2)))):=by
 refine aP ?_;simp_all[dt,S.oa,df]
def aLL(l:List (Int×Int×Int×B8)):(∃(x1:Nat),((0:Int)=x1/\[]=(S.mU ([],[]) l x1).1/\[]=(S.mU ([],[]) l x1).2)/\S.aEC l x1)/\(∀(x2:Nat),S.aEC l x2->ya (eP (decide ((x2:Int)<length l)) (decide ((x2:Int)<40))) (q25 0 x2 (length l)) (q17 (decide (dQ (aC4 l x2).2.2.2<=2500)) (q25 0 x2 (length l)/\True) True/\q80 x2 (∃(x3:Nat),MP x2 x3 ((bif decide (dQ (aC4 l x2).2.2.2<=2500) then(S.oa (aDP l x2).1 (aDP l x2).2 (aC4 l x2).1 (aC4 l x2).2.1 (aC4 l x2).2.2.1 (aC4 l x2).2.2.2).1.1 else(aDP l x2).1)=(S.mU ([],[]) l x3).1) ((bif decide (dQ (aC4 l x2).2.2.2<=2500) then(S.oa (aDP l x2).1 (aDP l x2).2 (aC4 l x2).1 (aC4 l x2).2.1 (aC4 l x2).2.2.1 (aC4 l x2).2.2.2).1.2 else(aDP l x2).2)=(S.mU ([],[]) l x3).2) (S.aEC l x3) (S.len l))) ((aDP l x2).1=(S.eG l).1) ((aDP l x2).2=(S.eG l).2)):=by
 refine aP ?_;refine⟨?_,?_⟩
 . refine⟨(nat_lit 0:Nat),?_⟩;dsimp only;with_reducible and_intros
   omega;iterate 2 rfl
   exact S.aOL l
 intro x1 h2;refine⟨?_,?_⟩
 . intro h3;simp only [V.afK,dt] at h3;with_reducible and_intros
   iterate 2 omega
   . intro h4;with_reducible and_intros
     iterate 2 omega
     trivial
   . intro h5;trivial
   iterate 2 omega
   refine⟨(x1+nat_lit 1),?_⟩;dsimp only;with_reducible and_intros
   omega;exact S.aJ1.1;exact S.aJ1.2;exact S.aJZ h3;simp [S.al,S.len,S.gP,S.gL,S.pL,S.pD] at *;omega
 intro h6;simp only [V.EP,df] at h6;refine⟨?_,?_⟩
 . rw [(S.aHT h2 h6).1]
 rw [(S.aHT h2 h6).1]
def anO(y1:Int)(y2:B8)(y3:List (Int×Int×Int×B8)):q17 (aDe y1) (q17 (decide (y1<=1000)) (aA5 (decide (dQ y2=32))) True) True/\eP (aDe y1) (eP (decide (y1<=1000)) (eP (decide (dQ y2=32)) (S.pK y3 y1)))=S.dO y1 y2 y3:=by
 refine aP ?_;grind[S.amm]
def anP(y1:List B8)(y2:List (Int×Int×List (B8×List Int))):afu (aA5 (Bool.not (S.bD y1 y2))) (yz (q29 (Bool.not (S.bD y1 y2)) (hU (S.kW y1 y2) (wD y1))) (0=(S.iK y1 y2).1.1) ([]=(S.iK y1 y2).1.2.1/\[]=(S.iK y1 y2).1.2.2/\7=(S.iK y1 y2).2) (S.kQ y1) (S.small (S.leaves y1)) (ya (akZ (S.ae2 (S.leaves y1))) (0=(S.iK y1 y2).1.1) ([]=(S.iK y1 y2).1.2.1/\[]=(S.iK y1 y2).1.2.2/\S.ae2 (S.leaves y1)=(S.iK y1 y2).2) True (wD y1=(S.iK y1 y2).1.1/\S.sU (S.leaves y1)=(S.iK y1 y2).1.2.1/\S.cL y1 y2=(S.iK y1 y2).1.2.2/\0=(S.iK y1 y2).2))):=by
 refine aP ?_;with_reducible and_intros
 trivial;iterate 2 grind
 simp_all[V.xq,nt,df,S.amn]
 intro h4;simp at h4;with_reducible and_intros
 grind[S.L2];exact(S.L2 h4.1).2;grind[nt,df,S.Vw];simp_all[nf,dt,S.Vv,S.Vw]
def anQ(v q:Int)(hp:S.fD v=false/\q=0):ya (FI q) (q63 q98) (S.v7 v=0/\S.lh q98 v=S.num v) (q=0) ([]=S.num v):=by
 refine aP ?_;refine⟨?_,?_⟩
 . grind[S.asW]
 grind
def anR(v q:Int)(l:B8)(hp:S.fD v=false/\q=0/\l.length<=35184372088832):ya (FI q) (q63 l) (S.v7 v=0/\S.lh l v=l++S.num v) (q=0) (l=l++S.num v):=by
 refine aP ?_;refine⟨?_,?_⟩
 . grind[S.asW]
 grind
def anS(d l:B8)(hp:l.length<=35184372088832/\d.length<=35184372088832):aFe l d/\l++d=l++d:=by
 refine aP ?_;grind
def anT(y1:Int)(y2:B8)(y3:List (Int×Int×Int×B8))(hf:Vg.bo J.atB (y1,y2,y3)):q54 (yz (Bool.not (S.dO y1 y2 y3)) (1=(S.hW y1 y2 y3).2) ([]=(S.hW y1 y2 y3).1) (S.fD y1=false/\(0:Int)=0) (q63 (S.num y1)/\q63 y2) ((S.fD (length y3)=false/\(0:Int)=0/\q63 (S.num y1++y2))/\(∃(x1:Nat),((0:Int)=x1/\S.num y1++y2++S.num (length y3)=S.Ac y1 y2 y3 x1/\aDM)/\S.PT y1 y2 y3 x1)/\(∀(x2:Nat),S.PT y1 y2 y3 x2->q79 (decide ((x2:Int)<length y3)) 0 x2 (length y3) ((S.fD (ahr y3 x2).1=false/\(0:Int)=0/\q63 (S.Ac y1 y2 y3 x2))/\(S.fD (ahr y3 x2).2.1=false/\(0:Int)=0/\q63 (S.Ac y1 y2 y3 x2++S.num (ahr y3 x2).1))/\(q63 (S.Ac y1 y2 y3 x2++S.num (ahr y3 x2).1++S.num (ahr y3 x2).2.1)/\q63 (ahr y3 x2).2.2)/\q80 x2 (∃(x3:Nat),MP x2 x3 (S.Ac y1 y2 y3 x2++S.num (ahr y3 x2).1++S.num (ahr y3 x2).2.1++(ahr y3 x2).2.2=S.Ac y1 y2 y3 x3) aDM (S.PT y1 y2 y3 x3) (S.len y3))) (q19 (aF0 0) (0=(S.hW y1 y2 y3).2) ([]=(S.hW y1 y2 y3).1) (0=(S.hW y1 y2 y3).2/\S.Ac y1 y2 y3 x2=(S.hW y1 y2 y3).1))))):=by
 refine aP ?_;have aEj:Vg.hlen y3:=hf.2.2.1.1;clear hf;with_reducible and_intros
 trivial;grind[nt,S.X7];intro h2;try simp at h2
 with_reducible and_intros
 grind[S.ij,S.L3];rfl;grind[S.eN];grind[S.ij];grind[S.qg,S.ij,S.L3];rfl;grind[S.eN,S.ij,List.length_append]
 . refine⟨(nat_lit 0:Nat),?_⟩;try dsimp only
   with_reducible and_intros
   omega;grind[S.aBk];rfl;exact⟨h2,Nat.zero_le _⟩
 intro x3 h4;refine⟨?_,?_⟩
 . intro h5;try simp only [dt] at h5
   with_reducible and_intros
   iterate 2 omega
   exact(S.X8 h4 h5).1;rfl
   . have:=S.JD h4;omega
   exact(S.X8 h4 h5).2.1;rfl
   . have q:=S.JD h4;have q2:=S.eN (y3.getD (toNat (x3:Int)) (0,0,0,[])).2.1;simp only [K!];omega
   . have q:=S.JD h4;have q2:=S.eN (y3.getD (toNat (x3:Int)) (0,0,0,[])).2.1;have q3:=S.eN (y3.getD (toNat (x3:Int)) (0,0,0,[])).2.2.1;simp only [K!];omega
   exact h? (Nat.le_of_eq (S.X8 h4 h5).2.2) (by decide);iterate 2 omega
   refine⟨(x3+nat_lit 1),?_⟩;try dsimp only
   with_reducible and_intros
   omega;exact S.ag8 h5;rfl;exact⟨h4.1,w!⟩;simp only [S.al,S.len];omega
 simp_all[df,nt,nf,dt,S.JC,S.Ă]
def anU(r1:B8)(r2 r3:Int)(hp:r1.length<=140737488355328):q40 r1/\(S.af r1 r2 r3).2=(S.af r1 r2 r3).2/\(S.af r1 r2 r3).1.1=r1/\(S.af r1 r2 r3).1.2.1=(S.af r1 r2 r3).1.2.1/\(S.af r1 r2 r3).1.2.2=(S.af r1 r2 r3).1.2.2:=by
 refine aP ?_;grind[S.JB]
def anV(r1:B8)(r2 r3:Int)(hp:r1.length<=140737488355328):q40 r1/\(S.an r1 r2 r3).2=(S.an r1 r2 r3).2/\(S.an r1 r2 r3).1.1=r1/\(S.an r1 r2 r3).1.2.1=(S.an r1 r2 r3).1.2.1/\(S.an r1 r2 r3).1.2.2=(S.an r1 r2 r3).1.2.2:=by
 refine aP ?_;simp_all[S.JB]
def anW(a:Int)(r1:B8)(r2 r3:Int)(hp:r1.length<=140737488355328):q40 r1/\q40 r1/\q40 r1/\a=a/\(S.af r1 r2 r3).2=(S.rV r1 r2 r3 a).2.2.1/\(S.af r1 (S.af r1 r2 r3).1.2.1 (S.af r1 r2 r3).1.2.2).2=(S.rV r1 r2 r3 a).2.2.2.1/\(S.an r1 (S.af r1 (S.af r1 r2 r3).1.2.1 (S.af r1 r2 r3).1.2.2).1.2.1 (S.af r1 (S.af r1 r2 r3).1.2.1 (S.af r1 r2 r3).1.2.2).1.2.2).2=(S.rV r1 r2 r3 a).2.2.2.2/\(S.af r1 r2 r3).2=(S.rV r1 r2 r3 a).2.2.1/\0=0/\0=0/\r1=r1/\(S.an r1 (S.af r1 (S.af r1 r2 r3).1.2.1 (S.af r1 r2 r3).1.2.2).1.2.1 (S.af r1 (S.af r1 r2 r3).1.2.1 (S.af r1 r2 r3).1.2.2).1.2.2).1.2.1=(S.rV r1 r2 r3 a).1.1/\(S.an r1 (S.af r1 (S.af r1 r2 r3).1.2.1 (S.af r1 r2 r3).1.2.2).1.2.1 (S.af r1 (S.af r1 r2 r3).1.2.1 (S.af r1 r2 r3).1.2.2).1.2.2).1.2.2=(S.rV r1 r2 r3 a).1.2:=by
 refine aP ?_;with_reducible and_intros
 iterate 3 omega
 iterate 10 rfl
def anX(b:B8)(hp:b.length<=140737488355328):q40 b/\q40 b/\q40 b/\ya (decide (64<(S.af b (ajf b).1.2.1 (ajf b).1.2.2).2)) (0=(S.hR b).1.1) ([]=(S.hR b).1.2.1/\[]=(S.hR b).1.2.2/\2=(S.hR b).2) (∃(x1:Nat),((0:Int)=x1/\b=b/\(S.af b (ajf b).1.2.1 (ajf b).1.2.2).1.2.1=(S.iL b x1).1.1/\(S.af b (ajf b).1.2.1 (ajf b).1.2.2).1.2.2=(S.iL b x1).1.2/\0=(S.iL b x1).2.1/\0=0/\0=0/\(S.af b 0 0).2=(aDr b).1/\(ajf b).2=(aDr b).2.1/\[]=(S.iL b x1).2.2)/\x1<=S.pN b/\(aDr b).2.2<=64) (∀(x2:Nat),x2<=S.pN b/\(aDr b).2.2<=64->ya (decide (x2<(S.af b (ajf b).1.2.1 (ajf b).1.2.2).2)) (q40 b) (FE (length (S.iL b x2).2.2+length [((S.iL b x2).2.1,(agi b x2).2.2.1,(agi b x2).2.2.2.1,(agi b x2).2.2.2.2)])/\q80 x2 (∃(x3:Nat),MP x2 x3 (b=b) ((agi b x2).1.1=(S.iL b x3).1.1/\(agi b x2).1.2=(S.iL b x3).1.2/\(agi b x2).2.2.1=(S.iL b x3).2.1/\0=0/\0=0/\(aDr b).1=(aDr b).1/\(aDr b).2.1=(aDr b).2.1/\(S.iL b x2).2.2++[((S.iL b x2).2.1,(agi b x2).2.2.1,(agi b x2).2.2.2.1,(agi b x2).2.2.2.2)]=(S.iL b x3).2.2) (x3<=S.pN b/\(aDr b).2.2<=64) (S.pN b))) True (ya (akZ (S.done b (S.iL b x2).1.1 (S.iL b x2).1.2)) (0=(S.hR b).1.1) ([]=(S.hR b).1.2.1/\[]=(S.hR b).1.2.2/\S.done b (S.iL b x2).1.1 (S.iL b x2).1.2=(S.hR b).2) True (yz (Bool.not (S.dO (aDr b).1 (aDr b).2.1 (S.iL b x2).2.2)) (0=(S.hR b).1.1) ([]=(S.hR b).1.2.1/\[]=(S.hR b).1.2.2/\2=(S.hR b).2) ((aDr b).1=(S.hR b).1.1) ((aDr b).2.1=(S.hR b).1.2.1) ((S.iL b x2).2.2=(S.hR b).1.2.2/\0=(S.hR b).2)))):=by
 refine aP ?_;with_reducible and_intros
 iterate 3 omega
 . intro h1;simp at h1;with_reducible and_intros
   iterate 3 (rw [S.Vu h1])
   rw [S.Vu h1]
 intro h2;simp only [df] at h2;refine⟨?_,?_⟩
 . refine⟨(nat_lit 0:Nat),?_⟩;dsimp only;with_reducible and_intros
   omega;iterate 9 rfl
   omega;exact Int.not_lt.1 h2
 intro x3 h4;refine V.dI (λh5=>?_) λh6=>?_
 . with_reducible and_intros
   omega
   . have q:=S.avq b x3;have q2:=h4.2;have q3:(x3:Int)<(S.gn b).1.2.2:=h5;simp only [W!];omega
   omega
   . have q2:=h4.2;have q3:(x3:Int)<(S.gn b).1.2.2:=h5;omega
   refine⟨(x3+nat_lit 1),?_⟩;try dsimp only
   with_reducible and_intros
   omega;iterate 9 rfl
   exact S.ag9 h5;omega;have q:=S.ag9 h5;simp only [S.al];omega
 with_reducible and_intros
 trivial
 . intro h7;simp at h7;with_reducible and_intros
   iterate 3 (rw [S.asX h2 h4.1 h6 h7])
   rw [S.asX h2 h4.1 h6 h7]
 intro h8;simp at h8;with_reducible and_intros
 trivial
 . intro h9;simp at h9;with_reducible and_intros
   iterate 3 (rw [S.asY h2 h4.1 h6 h8 h9])
   rw [S.asY h2 h4.1 h6 h8 h9]
 intro h10;simp at h10;with_reducible and_intros
 iterate 3 (rw [S.asZ h2 h4.1 h6 h8 h10])
 rw [S.asZ h2 h4.1 h6 h8 h10]
def anY(d:List (B8×List Int))(t:B8)(hp:S.bh d/\S.small t):S.bh d/\q68 (akZ (S.dE d)) (S.small t)/\ya (aDL (akZ (S.dE d)) (S.isTerm t)) (0=(S.gj d t).1.1) ([]=(S.gj d t).1.2.1/\[]=(S.gj d t).1.2.2.1/\[]=(S.gj d t).1.2.2.2.1/\[]=(S.gj d t).1.2.2.2.2.1/\[]=(S.gj d t).1.2.2.2.2.2/\1=(S.gj d t).2) (S.bh d) (Dp (S.bp d t+1) 0 (length (S.bP d)) (toNat (S.bp d t+1)<length (S.bP d)/\q40 (q67 (S.bP d) (toNat (S.bp d t+1)))/\S.kQ (S.bP d)/\S.dz (S.leaves (S.bP d))/\yz (S.jN d t) (S.bh d) (q54 (S.bp d t+1=(S.gj d t).1.1/\(S.bf (q67 (S.bP d) (toNat (S.bp d t+1)))).1.1=(S.gj d t).1.2.1/\(S.bf (q67 (S.bP d) (toNat (S.bp d t+1)))).1.2.1=(S.gj d t).1.2.2.1/\(S.bf (q67 (S.bP d) (toNat (S.bp d t+1)))).1.2.2=(S.gj d t).1.2.2.2.1/\S.qh (S.leaves (S.bP d)) (S.bp d t+1)=(S.gj d t).1.2.2.2.2.1/\S.pa (S.pc d t)=(S.gj d t).1.2.2.2.2.2/\0=(S.gj d t).2)) (S.bp d t+1=(S.gj d t).1.1) ((S.bf (q67 (S.bP d) (toNat (S.bp d t+1)))).1.1=(S.gj d t).1.2.1) ((S.bf (q67 (S.bP d) (toNat (S.bp d t+1)))).1.2.1=(S.gj d t).1.2.2.1/\(S.bf (q67 (S.bP d) (toNat (S.bp d t+1)))).1.2.2=(S.gj d t).1.2.2.2.1/\S.qh (S.leaves (S.bP d)) (S.bp d t+1)=(S.gj d t).1.2.2.2.2.1/\[]=(S.gj d t).1.2.2.2.2.2/\0=(S.gj d t).2))):=by
 refine aP ?_;have fV:=hp.1;with_reducible and_intros
 omega;iterate 2 grind
 . intro h3;simp at h3;with_reducible and_intros
   iterate 6
    . rw [S.Ć w!];rfl
   grind[S.Ć]
 intro h4;simp at h4;with_reducible and_intros
 omega
 iterate 2
  . (have q:=S.ć fV (S.sX (And.left (by assumption))) t;omega)
 iterate 3 (simp_all[S.ć,S.sX,And.left])
 . (have q:=S.ć fV (S.sX (And.left (by assumption))) t;omega)
 iterate 2
  . (have q:=S.ć fV (S.sX (And.left (by assumption))) t;grind)
 iterate 2 (simp_all[S.dE,S.isTerm,S.wy,S.sX,S.Sh,R!,Q!])
def anZ(l:List B8)(hp:S.small l):q17 (decide ((aAS l:Int)<2)) (l=S.bR l) ((∃(x1:Nat),(1:Int)=x1/\S.mR l x1)/\(∀(x2:Nat),S.mR l x2->q79 (decide ((x2:Int)<aAS l)) 0 x2 (aAS l) (aDi x2<aAS l/\Dp (x2-1) 0 (aAS l) (toNat (x2-1)<aAS l/\MJ (decide (q67 l (aDi x2)=q67 l (toNat (x2-1)))) (aAM x2 (aAS l)) ((∃(x3:Nat×Nat×List B8×Nat),((x2:Int)=x3.1/\(1:Int)=x3.2.1/\l=x3.2.2.1)/\S.iG l x3.2.2.2 x3.1 x3.2.1 x3.2.2.1/\(x2:Int)=x3.2.2.2)/\(∀(x4:Nat×Nat×List B8×Nat),S.iG l x4.2.2.2 x4.1 x4.2.1 x4.2.2.1/\(x2:Int)=x4.2.2.2->yz (decide ((x4.2.1:Int)<((aAS l-aDi x2:Nat):Int))) (q25 0 x4.2.1 ((aAS l-aDi x2:Nat):Int)) (aDi x2+toNat x4.2.1<aHx x4/\Dp (x4.2.1-1) 0 ((aAS l-aDi x2:Nat):Int) (aDi x2+toNat (x4.2.1-1)<aHx x4/\q79 (aFc (q67 x4.2.2.1 (aDi x2+toNat x4.2.1)) (q67 x4.2.2.1 (aDi x2+toNat (x4.2.1-1)))) 0 x4.2.1 ((aAS l-aDi x2:Nat):Int) (aDi x2+toNat x4.2.1<aHx x4/\q25 0 x4.1 (aHx x4)/\aDz x4<aHx x4/\q26 (x4.1+1)) True/\q26 (x4.2.1+1)/\(∃(x5:Nat×Nat×List B8×Nat),((bif aFc (q67 x4.2.2.1 (aDi x2+toNat x4.2.1)) (q67 x4.2.2.1 (aDi x2+toNat (x4.2.1-1))) then(x4.1:Int)+1 else(x4.1:Int))=x5.1/\(x4.2.1:Int)+1=x5.2.1/\(bif aFc (q67 x4.2.2.1 (aDi x2+toNat x4.2.1)) (q67 x4.2.2.1 (aDi x2+toNat (x4.2.1-1))) then List.set x4.2.2.1 (aDz x4) (q67 x4.2.2.1 (aDi x2+toNat x4.2.1)) else x4.2.2.1)=x5.2.2.1)/\(S.iG l x5.2.2.2 x5.1 x5.2.1 x5.2.2.1/\(x2:Int)=x5.2.2.2)/\yb (S.len l) x5.2.1 x4.2.1))) (aAM x4.1 (aHx x4)) (aDz x4+(aHx x4-aDz x4)<=aHx x4) (aBW x4.1 (wD (aDa x4)) (take (aDz x4) (aDa x4)=S.bR l)))) (x2+1) (∃(x6:Nat),aCA x2 x6 (S.mR l x6) (S.len l)))) (l=S.bR l))):=by
 refine aP ?_;have fV:l.length<=1099511627776:=hp;refine V.dI (λh1=>?_) λh2=>?_
 . exact S.LC h1
 refine⟨?_,?_⟩
 . grind[S.agj]
 intro x3 h4;refine⟨?_,?_⟩
 . intro h5;try simp only [dt] at h5
   with_reducible and_intros
   iterate 5 omega
   . have:=h4.1;omega
   iterate 2 omega
   . intro h6;try simp only [dt,tn] at h6
     with_reducible and_intros
     iterate 2 omega
     . refine⟨((x3),((nat_lit 1:Nat),((l),(x3)))),?_⟩;grind[S.ó]
     intro x7 h8;refine⟨?_,?_⟩
     . intro h9;try simp at h9
       with_reducible and_intros
       iterate 2 omega
       . have q1:=h8.1.1;have q2:=h8.1.2.1;have q3:=h8.1.2.2.2.1;have q4:=h8.1.2.2.2.2.1;omega
       iterate 2 omega
       . have q1:=h8.1.1;omega
       omega
       . have q1:=h8.1.1;have q2:=h8.1.2.1;have q3:=h8.1.2.2.2.1;have q4:=h8.1.2.2.2.2.1;omega
       . intro h10;with_reducible and_intros
         iterate 2 omega
         . have q1:=h8.1.1;have q2:=h8.1.2.1;have q3:=h8.1.2.2.2.1;have q4:=h8.1.2.2.2.2.1;have q5:=h8.2;omega
         omega
         iterate 2
          . have q1:=h8.1.1;have q2:=h8.1.2.1;have q3:=h8.1.2.2.2.1;have q4:=h8.1.2.2.2.2.1;have q5:=h8.2;omega
         omega;have q1:=h8.1.1;have q2:=h8.1.2.1;have q3:=h8.1.2.2.2.1;have q4:=h8.1.2.2.2.2.1;have q5:=h8.2;omega
       . intro iR;trivial
       iterate 2 omega
       refine⟨((toNat (bif !Decidable.decide (getD (Prod.fst (Prod.snd (Prod.snd x7))) (toNat (↑x3:Int)+toNat (↑(Prod.fst (Prod.snd x7)):Int)) []=getD (Prod.fst (Prod.snd (Prod.snd x7))) (toNat (↑x3:Int)+toNat ((↑(Prod.fst (Prod.snd x7)):Int)-(1:Int))) []) then(↑(Prod.fst x7):Int)+(1:Int) else(↑(Prod.fst x7):Int))),((Prod.fst (Prod.snd x7)+nat_lit 1),((bif !Decidable.decide (getD (Prod.fst (Prod.snd (Prod.snd x7))) (toNat (↑x3:Int)+toNat (↑(Prod.fst (Prod.snd x7)):Int)) []=getD (Prod.fst (Prod.snd (Prod.snd x7))) (toNat (↑x3:Int)+toNat ((↑(Prod.fst (Prod.snd x7)):Int)-(1:Int))) []) then List.set (Prod.fst (Prod.snd (Prod.snd x7))) (toNat (↑(Prod.fst x7):Int)) (getD (Prod.fst (Prod.snd (Prod.snd x7))) (toNat (↑x3:Int)+toNat (↑(Prod.fst (Prod.snd x7)):Int)) []) else Prod.fst (Prod.snd (Prod.snd x7))),(x3)))),?_⟩;try dsimp only
       with_reducible and_intros
       . generalize (!decide (getD x7.2.2.1 (toNat (x3:Int)+toNat (x7.2.1:Int)) []=getD x7.2.2.1 (toNat (x3:Int)+toNat ((x7.2.1:Int)-1)) []))=c;cases c<;>simp<;>omega
       omega;trivial
       . have q1:=h8.1.1;have e3:x7.2.2.2=x3:=by have:=h8.2;omega
         have hi:=h8.1;rw [e3] at hi;have e1:toNat (x3:Int)+toNat (x7.2.1:Int)=x3+x7.2.1:=by omega
         have e2:toNat (x3:Int)+toNat ((x7.2.1:Int)-1)=x3+x7.2.1-1:=by omega
         rw [e1,e2];by_cases hd:getD x7.2.2.1 (x3+x7.2.1) []=getD x7.2.2.1 (x3+x7.2.1-1) []
         . rw [H? hd];exact S.LD hi w! hd
         rw [L? hd];exact S.Pw hi w! hd
       omega;simp only [S.al,S.len];omega
     intro jH;with_reducible and_intros
     omega
     iterate 2
      . have q1:=h8.1.2.1;have q2:=h8.1.2.2.2.1;have q3:=h8.1.2.2.2.2.1;omega
     omega
     . have q1:=h8.1.2.1;have q2:=h8.1.2.2.2.1;have q3:=h8.1.2.2.2.2.1;simp;omega
     have q1:=h8.1.2.1;have q2:=h8.1.2.2.2.1;have q3:=h8.1.2.2.2.2.1;grind[toNat,S.Iv,S.Px]
   intro mv;try simp only [df,tn] at mv
   with_reducible and_intros
   iterate 2 omega
   refine⟨(x3+nat_lit 1),?_⟩;grind[S.Pu,S.al,S.len]
 grind[df,S.UW]
def an0(l:List (Int×B8))(hp:S.eR l):(∃(x:Nat),((0:Int)=(↑x:Int)/\(0:Int)=S.iv l x/\(0:Int)=S.nW l x)/\S.nh l x)/\∀(x:Nat),S.nh l x->(decide ((↑x:Int)<(↑(length l):Int))=true->((0:Int)<=(↑x:Int)/\(↑x:Int)<(↑(length l):Int))/\(decide ((getD l (toNat (↑x:Int)) ((0:Int),[])).1=(0:Int))=true->S.small ((getD l (toNat (↑x:Int)) ((0:Int),[])).2)/\((!S.isTerm ((getD l (toNat (↑x:Int)) ((0:Int),[])).2))=true->false=S.bL l)/\((!S.isTerm ((getD l (toNat (↑x:Int)) ((0:Int),[])).2))=false->((-9223372036854775808:Int)<=S.iv l x+(1:Int)/\S.iv l x+(1:Int)<=(9223372036854775807:Int))/\((-9223372036854775808:Int)<=S.nW l x+(1:Int)/\S.nW l x+(1:Int)<=(9223372036854775807:Int))/\((-9223372036854775808:Int)<=(↑x:Int)+(1:Int)/\(↑x:Int)+(1:Int)<=(9223372036854775807:Int))/\∃(x_1:Nat),((↑x:Int)+(1:Int)=(↑x_1:Int)/\S.iv l x+(1:Int)=S.iv l x_1/\S.nW l x+(1:Int)=S.nW l x_1)/\S.nh l x_1/\S.al (S.len l) x_1<S.al (S.len l) x))/\(decide ((getD l (toNat (↑x:Int)) ((0:Int),[])).1=(0:Int))=false->(decide ((getD l (toNat (↑x:Int)) ((0:Int),[])).1=(1:Int))=true->((bif !decide ((getD l (toNat (↑x:Int)) ((0:Int),[])).2=[]) then true else decide (S.iv l x<(2:Int)))=true->false=S.bL l)/\((bif !decide ((getD l (toNat (↑x:Int)) ((0:Int),[])).2=[]) then true else decide (S.iv l x<(2:Int)))=false->((-9223372036854775808:Int)<=S.iv l x-(1:Int)/\S.iv l x-(1:Int)<=(9223372036854775807:Int))/\((-9223372036854775808:Int)<=(↑x:Int)+(1:Int)/\(↑x:Int)+(1:Int)<=(9223372036854775807:Int))/\∃(x_1:Nat),((↑x:Int)+(1:Int)=(↑x_1:Int)/\S.iv l x-(1:Int)=S.iv l x_1/\S.nW l x=S.nW l x_1)/\S.nh l x_1/\S.al (S.len l) x_1<S.al (S.len l) x))/\(decide ((getD l (toNat (↑x:Int)) ((0:Int),[])).1=(1:Int))=false->(decide ((getD l (toNat (↑x:Int)) ((0:Int),[])).1=(2:Int))=true->((bif !decide ((getD l (toNat (↑x:Int)) ((0:Int),[])).2=[]) then true else decide (S.iv l x<(2:Int)))=true->false=S.bL l)/\((bif !decide ((getD l (toNat (↑x:Int)) ((0:Int),[])).2=[]) then true else decide (S.iv l x<(2:Int)))=false->((-9223372036854775808:Int)<=S.iv l x-(1:Int)/\S.iv l x-(1:Int)<=(9223372036854775807:Int))/\((-9223372036854775808:Int)<=(↑x:Int)+(1:Int)/\(↑x:Int)+(1:Int)<=(9223372036854775807:Int))/\∃(x_1:Nat),((↑x:Int)+(1:Int)=(↑x_1:Int)/\S.iv l x-(1:Int)=S.iv l x_1/\S.nW l x=S.nW l x_1)/\S.nh l x_1/\S.al (S.len l) x_1<S.al (S.len l) x))/\(decide ((getD l (toNat (↑x:Int)) ((0:Int),[])).1=(2:Int))=false->(decide ((getD l (toNat (↑x:Int)) ((0:Int),[])).1=(3:Int))=true->((bif !decide ((getD l (toNat (↑x:Int)) ((0:Int),[])).2=[]) then true else decide (S.iv l x<(2:Int)))=true->false=S.bL l)/\((bif !decide ((getD l (toNat (↑x:Int)) ((0:Int),[])).2=[]) then true else decide (S.iv l x<(2:Int)))=false->((-9223372036854775808:Int)<=S.iv l x-(1:Int)/\S.iv l x-(1:Int)<=(9223372036854775807:Int))/\((-9223372036854775808:Int)<=(↑x:Int)+(1:Int)/\(↑x:Int)+(1:Int)<=(9223372036854775807:Int))/\∃(x_1:Nat),((↑x:Int)+(1:Int)=(↑x_1:Int)/\S.iv l x-(1:Int)=S.iv l x_1/\S.nW l x=S.nW l x_1)/\S.nh l x_1/\S.al (S.len l) x_1<S.al (S.len l) x))/\(decide ((getD l (toNat (↑x:Int)) ((0:Int),[])).1=(3:Int))=false->false=S.bL l)))))/\(decide ((↑x:Int)<(↑(length l):Int))=false->(bif decide (S.iv l x=(1:Int)) then decide (S.nW l x<=(16:Int)) else false)=S.bL l):=by
 have fV:l.length<=1099511627776:=hp.1;have hq:=hp;clear hp;refine⟨?_,?_⟩
 . refine⟨(nat_lit 0:Nat),?_⟩;try dsimp only
   with_reducible and_intros
   iterate 3 rfl
   exact S.aBp hq.1
 intro x1 h2;refine⟨?_,?_⟩
 . intro h3;try simp only [dt] at h3
   with_reducible and_intros
   iterate 2 omega
   . intro h4;try simp only [dt,tn] at h4
     with_reducible and_intros
     exact S.avw hq _
     . intro h5;try simp only [nt] at h5
       exact S.aho h3 h4 h5
     intro h6;try simp only [nf] at h6
     with_reducible and_intros
     iterate 6
      . have q:=S.vg l x1;have q2:S.iv l x1=2*S.nW l x1-x1:=rfl;omega
     refine⟨(x1+nat_lit 1),?_⟩;try dsimp only
     with_reducible and_intros
     . have q:=S.vg l x1;have q2:S.iv l x1=2*S.nW l x1-x1:=rfl;omega
     exact(S.VE (by assumption)).symm;exact(S.Si (by assumption)).symm;exact S.ahn h2 h3 h4 h6;grind [S.al,S.len]
   intro h7;try simp only [df,tn] at h7
   refine⟨?_,?_⟩
   . intro h8;try simp only [dt,tn] at h8
     refine⟨?_,?_⟩
     . intro h9;try simp at h9
       exact S.Fm h3 h7 (.inr (by assumption))
     intro h10;try simp only [V.jz,nf,dt,tn,df] at h10
     with_reducible and_intros
     iterate 4
      . have q:=S.vg l x1;have q2:S.iv l x1=2*S.nW l x1-x1:=rfl;omega
     refine⟨(x1+nat_lit 1),?_⟩;try dsimp only
     with_reducible and_intros
     . have q:=S.vg l x1;have q2:S.iv l x1=2*S.nW l x1-x1:=rfl;omega
     exact(S.JF (by assumption)).symm;exact(S.L8 (by assumption)).symm;exact S.Ma h2 h3 h7 w! (by assumption);grind [S.al,S.len]
   intro iR;refine⟨?_,?_⟩
   . intro jH;try simp only [dt,tn] at jH
     refine⟨?_,?_⟩
     . intro mv;try simp at mv
       exact S.Fm h3 h7 (.inr (by assumption))
     intro rY;try simp only [V.jz,nf,dt,tn,df] at rY
     with_reducible and_intros
     iterate 4
      . have q:=S.vg l x1;have q2:S.iv l x1=2*S.nW l x1-x1:=rfl;omega
     refine⟨(x1+nat_lit 1),?_⟩;try dsimp only
     with_reducible and_intros
     . have q:=S.vg l x1;have q2:S.iv l x1=2*S.nW l x1-x1:=rfl;omega
     exact(S.JF (by assumption)).symm;exact(S.L8 (by assumption)).symm;exact S.Ma h2 h3 h7 w! (by assumption);grind [S.al,S.len]
   intro Hq;refine⟨?_,?_⟩
   . intro DC;try simp only [dt,tn] at DC
     refine⟨?_,?_⟩
     . intro VY;try simp at VY
       exact S.Fm h3 h7 (.inr (by assumption))
     intro h18;try simp only [V.jz,nf,dt,tn,df] at h18
     with_reducible and_intros
     iterate 4
      . have q:=S.vg l x1;have q2:S.iv l x1=2*S.nW l x1-x1:=rfl;omega
     refine⟨(x1+nat_lit 1),?_⟩;try dsimp only
     with_reducible and_intros
     . have q:=S.vg l x1;have q2:S.iv l x1=2*S.nW l x1-x1:=rfl;omega
     exact(S.JF (by assumption)).symm;exact(S.L8 (by assumption)).symm;exact S.Ma h2 h3 h7 w! (by assumption);grind [S.al,S.len]
   grind[df,tn,S.Fm]
 grind[df,S.amx]
def an1(l:List (Int×B8))(hp:S.small l):(∃(x1:Nat),((0:Int)=x1/\[]=S.bO l x1)/\S.gP l x1)/\(∀(x2:Nat),S.gP l x2->yz (decide ((x2:Int)<length l)) (q25 0 x2 (length l)) (MJ (FI (aAo l x2).1) (Ĳ (S.bO l x2) [(aAo l x2).2]) (q80 x2 (∃(x3:Nat),((x2:Int)+1=x3/\S.bO l x2++[(aAo l x2).2]=S.bO l x3)/\S.gP l x3/\q44 (S.len l) x3 (S.al (S.len l) x2))) (x2+1) (∃(x4:Nat),((x2:Int)+1=x4/\S.bO l x2=S.bO l x4)/\S.gP l x4/\q44 (S.len l) x4 (S.al (S.len l) x2))) (S.small (S.bO l x2)) (S.small (S.eD (S.bO l x2))) (S.bR (S.eD (S.bO l x2))=S.aA l)):=by
 refine aP ?_;have fV:l.length<=1099511627776:=hp;refine⟨?_,?_⟩
 . grind[S.al,S.len,S.gP,S.aBq]
 intro x1 h2;refine V.dI (λh3=>?_) λh6=>?_
 . with_reducible and_intros
   iterate 2 (grind [S.al,S.len,S.gP])
   . intro h4;try simp only [dt,tn] at h4
     with_reducible and_intros
     . (have q:=S.ahq fV h2 [];exact q.1)
     iterate 2 (grind [S.al,S.len,S.gP])
     refine⟨(x1+nat_lit 1),?_⟩;try dsimp only
     with_reducible and_intros
     grind [S.al,S.len,S.gP];exact S.ahp h3 h4;iterate 2 (grind [S.al,S.len,S.gP])
   intro h5;try simp only [df,tn] at h5
   with_reducible and_intros
   iterate 2 (grind [S.al,S.len,S.gP])
   refine⟨(x1+nat_lit 1),?_⟩;try dsimp only
   with_reducible and_intros
   grind [S.al,S.len,S.gP];exact S.ahl h3 h5;iterate 2 (grind [S.al,S.len,S.gP])
 with_reducible and_intros
 . (have q:=S.ahq fV h2 [];exact q.2.1)
 . (have q:=S.ahq fV h2 [];exact q.2.2.1)
 grind[S.amy]
def an2(b:B8)(hp:S.small b):S.small b/\q17 (FI (length (S.bK b))) ([]=S.hdT (S.bK b)) (((0:Int)<=0/\(0:Int)<length (S.bK b))/\aDZ 0 (length (S.bK b))/\q93 (S.bK b) 0=S.hdT (S.bK b)):=by
 refine aP ?_;with_reducible and_intros
 omega
 . intro h1;simp only [dt] at h1;rw [show S.bK b=[] from i?.1 w!];rfl
 intro h2;simp only [df] at h2;with_reducible and_intros
 iterate 3 omega
 rfl
def an3(st:Int)(bb:B8)(at_:Int)(hp:st=0/\bb=S.xK/\at_=3):yz (aDe st) (ald 0 st at_ (dQ bb)) (S.small (Ar st (aBU at_ bb))/\length ([(-1,st,S.hdT (S.bK (Ar st (aBU at_ bb))))]:List (Int×Int×B8))<=4398046511104/\-(1:Int)=-1/\bb=bb/\at_=at_/\[(-1,st,S.hdT (S.bK (Ar st (aBU at_ bb))))]=S.kE1) (st=-1) (bb=bb) (at_=at_/\[]=S.kE1):=by
 refine aP ?_;obtain⟨q1,q2,q3⟩:=hp;subst q1;subst q2;subst q3;refine⟨?_,?_⟩
 . intro h1;with_reducible and_intros
   iterate 2 omega
   decide;exact(show(drop 0 (take 3 S.xK)).length<=1099511627776 by decide);decide;iterate 4 rfl
 grind
def an4(b:B8)(hp:b=S.xK):S.small b/\(∃(x1:Nat),((0:Int)=(x1:Int)/\b=b/\(0:Int)=(x1:Int)/\-(1:Int)=S.rW x1)/\S.fe x1 (3:Nat))/\(∀(x2:Nat),S.fe x2 (3:Nat)->yz (decide ((x2:Int)<(length (S.decode b):Int))) (q25 (0:Int) (x2:Int) (length (S.decode b):Int)) (aAJ x2<length (S.decode b)/\afu (aA5 (S.letter (aeX (S.decode b) (aAJ x2)))) (ya (q29 (S.letter (aeX (S.decode b) (aAJ x2))) (S.digit (aeX (S.decode b) (aAJ x2)))) True (q26 ((x2:Int)+dQ (S.gN (aeX (S.decode b) (aAJ x2))))/\q80 (x2:Int) (∃(x3:Nat),((x2:Int)+(1:Int)=(x3:Int)/\b=b/\(x2:Int)+dQ (S.gN (aeX (S.decode b) (aAJ x2)))=(x3:Int)/\aFY (decide (S.rW x2<(0:Int))) (x2:Int) (S.rW x2) (S.rW x3))/\S.fe x3 (3:Nat)/\q44 (3:Nat) x3 (S.al (3:Nat) x2))) (S.rW x2=(0:Int)/\b=S.xK/\(x2:Int)=(3:Int)) (q19 (decide (aeX (S.decode b) (aAJ x2)=(32:Int))) (q26 ((x2:Int)+(1:Int))) (q80 (x2:Int) (∃(x4:Nat),((x2:Int)+(1:Int)=(x4:Int)/\b=b/\False/\(x2:Int)+(1:Int)=(x4:Int)/\-(1:Int)=S.rW x4)/\S.fe x4 (3:Nat)/\q44 (3:Nat) x4 (S.al (3:Nat) x2))) (ya (bif decide (aeX (S.decode b) (aAJ x2)=(40:Int)) then decide (aeX (S.decode b) (aAJ x2)=(40:Int)) else bif decide (aeX (S.decode b) (aAJ x2)=(41:Int)) then decide (aeX (S.decode b) (aAJ x2)=(41:Int)) else bif decide (aeX (S.decode b) (aAJ x2)=(124:Int)) then decide (aeX (S.decode b) (aAJ x2)=(124:Int)) else bif decide (aeX (S.decode b) (aAJ x2)=(38:Int)) then decide (aeX (S.decode b) (aAJ x2)=(38:Int)) else decide (aeX (S.decode b) (aAJ x2)=(33:Int))) (aH5 [(aeX (S.decode b) (aAJ x2),(x2:Int),([]:B8))]) (q80 (x2:Int) (q80 (x2:Int) (∃(x5:Nat),((x2:Int)+(1:Int)=(x5:Int)/\b=b/\False/\(x2:Int)+(1:Int)=(x5:Int)/\-(1:Int)=S.rW x5)/\S.fe x5 (3:Nat)/\q44 (3:Nat) x5 (S.al (3:Nat) x2)))) (aH5 [(-(3:Int),(x2:Int),([]:B8))]) (S.kE1++[(-(3:Int),(x2:Int),([]:B8))]=S.kE))))) (S.rW x2=(0:Int)/\b=S.xK/\(x2:Int)=(3:Int)) (aH5 [(-(2:Int),dQ b,([]:B8))]) (S.kE1++[(-(2:Int),dQ b,([]:B8))]=S.kE)):=by
 refine aP ?_;subst hp;with_reducible and_intros
 exact(show S.xK.length<=1099511627776 by decide)
 . refine⟨(nat_lit 0:Nat),?_⟩;with_reducible and_intros
   decide;rfl;iterate 2 decide
   exact T! _
 intro x1 h2;refine V.dI (λh3=>?_) λjH=>?_
 . with_reducible and_intros
   iterate 3 omega
   trivial
   . intro h4;trivial
   . intro h5;trivial
   . intro h6;with_reducible and_intros
     trivial;omega
     . rcases S.wz h3 with rfl|rfl|rfl<;>first|exact absurd h7.1 (by decide)|decide
     omega
     . rcases S.wz h3 with rfl|rfl|rfl<;>first|exact absurd h7.1 (by decide)|decide
     refine⟨(x1+nat_lit 1),?_⟩;try dsimp only
     with_reducible and_intros
     omega;rfl
     iterate 2
      . rcases S.wz h3 with rfl|rfl|rfl<;>first|exact absurd h7.1 (by decide)|decide
     . unfold S.fe;have :x1<3:=by have:=S.wz h3;omega
       omega
     rcases S.wz h3 with rfl|rfl|rfl<;>first|exact absurd h7.1 (by decide)|decide
   intro h7;try simp only [V.jz] at h7
   with_reducible and_intros
   . rcases S.wz h3 with rfl|rfl|rfl<;>first|exact absurd h7.1 (by decide)|decide
   with_reducible rfl
   . rcases S.wz h3 with rfl|rfl|rfl<;>first|exact absurd h7.1 (by decide)|decide
   . intro h8;with_reducible and_intros
     omega
     . rcases S.wz h3 with rfl|rfl|rfl<;>first|exact absurd h7.1 (by decide)|decide
     omega
     . rcases S.wz h3 with rfl|rfl|rfl<;>first|exact absurd h7.1 (by decide)|decide
     refine⟨(x1+nat_lit 1),?_⟩;try dsimp only
     with_reducible and_intros
     omega;rfl
     . rcases S.wz h3 with rfl|rfl|rfl<;>first|exact absurd h7.1 (by decide)|decide
     omega
     iterate 2
      . rcases S.wz h3 with rfl|rfl|rfl<;>first|exact absurd h7.1 (by decide)|decide
     rcases S.wz h3 with rfl|rfl|rfl<;>first|exact absurd h7.1 (by decide)|decide
   intro h9;refine⟨?_,?_⟩
   . intro h10;with_reducible and_intros
     . rcases S.wz h3 with rfl|rfl|rfl<;>first|exact absurd h7.1 (by decide)|decide
     omega
     . rcases S.wz h3 with rfl|rfl|rfl<;>first|exact absurd h7.1 (by decide)|decide
     omega
     . rcases S.wz h3 with rfl|rfl|rfl<;>first|exact absurd h7.1 (by decide)|decide
     refine⟨(x1+nat_lit 1),?_⟩;try dsimp only
     with_reducible and_intros
     omega;rfl
     . rcases S.wz h3 with rfl|rfl|rfl<;>first|exact absurd h7.1 (by decide)|decide
     omega
     iterate 2
      . rcases S.wz h3 with rfl|rfl|rfl<;>first|exact absurd h7.1 (by decide)|decide
     rcases S.wz h3 with rfl|rfl|rfl<;>first|exact absurd h7.1 (by decide)|decide
   intro iR;refine⟨?_,?_⟩
   . rcases S.wz h3 with rfl|rfl|rfl<;>first|exact absurd h7.1 (by decide)|decide
   rcases S.wz h3 with rfl|rfl|rfl<;>first|exact absurd h7.1 (by decide)|decide
 with_reducible and_intros
 . (have hx:=S.ge3 h2 jH;subst hx;decide)
 rfl
 . (have hx:=S.ge3 h2 jH;subst hx;decide)
 iterate 2 decide
def an5(e:List (Int×Int×B8))(n w:Int)(hp:0<=n/\n<e.length):q25 0 n (length e)/\(getD e (toNat n) (0,0,[])).1=(S.tI e n).1/\(getD e (toNat n) (0,0,[])).2.1=(S.tI e n).2.1/\(getD e (toNat n) (0,0,[])).2.2=(S.tI e n).2.2/\e=e/\n=n/\w=w:=by
 refine aP ?_;with_reducible and_intros
 iterate 2 omega
 iterate 6 rfl
def an6(e:List (Int×Int×B8))(n w:Int)(l:List (Int×B8))(hp:0<=n/\n<e.length):q25 0 n (length e)/\(getD e (toNat n) (0,0,[])).1=(S.tI e n).1/\(getD e (toNat n) (0,0,[])).2.1=(S.tI e n).2.1/\(getD e (toNat n) (0,0,[])).2.2=(S.tI e n).2.2/\e=e/\aGp n w (l=l):=by
 refine aP ?_;with_reducible and_intros
 iterate 2 omega
 iterate 7 rfl
def an7(d:Int)(e:List (Int×Int×B8))(n w:Int)(hp:e=S.kE/\n=0/\w=0):q25 (0:Int) n (length e:Int)/\q17 (decide ((S.tI e n).1=-(1:Int))) (MJ (decide ((16:Int)<=w)) ((8:Int)=(0:Int)) (e=e/\n=(1:Int)/\w=(1:Int)/\aF1) (w+(1:Int)) (q80 n (qV (length [((0:Int),(S.tI e n).2.2)])/\(0:Int)=(0:Int)/\e=e/\n+(1:Int)=(1:Int)/\w+(1:Int)=(1:Int)/\[((0:Int),(S.tI e n).2.2)]=S.eO))) (q17 (decide ((S.tI e n).1=(40:Int))) (MJ (decide ((8:Int)<=d)) ((8:Int)=(0:Int)) (e=e/\n=(1:Int)/\w=(1:Int)/\aF1) (n+(1:Int)) False) (q19 (decide ((S.tI e n).1=(33:Int))) ((9:Int)=(0:Int)) (e=e/\n=(1:Int)/\w=(1:Int)/\aF1) ((2:Int)=(0:Int)/\e=e/\n=(1:Int)/\w=(1:Int)/\aF1))):=by
 refine aP ?_;obtain⟨q1,q2,q3⟩:=hp;subst q1;subst q2;refine⟨⟨?_,?_⟩,⟨?_,?_⟩⟩
 . omega
 . decide
 . intro h1;refine⟨?_,?_⟩
   . grind
   intro h3;with_reducible and_intros
   iterate 4 omega
   decide;iterate 2 rfl
   iterate 2 omega
   decide
 intro h4;simp at h4;refine V.dI (λh5=>?_) λh8=>?_
 . refine V.dI (λh6=>?_) λh7=>?_
   . with_reducible and_intros
     exact absurd rfl h4;rfl;iterate 3 exact absurd rfl h4
   with_reducible and_intros
   iterate 2 omega
   exact absurd rfl h4
 refine V.dI (λh9=>?_) λh10=>?_
 . with_reducible and_intros
   exact absurd rfl h4;rfl;iterate 3 exact absurd rfl h4
 with_reducible and_intros
 exact absurd rfl h4;rfl;iterate 3 exact absurd rfl h4
def an8(d:Int)(e:List (Int×Int×B8))(n w:Int)(hp:e=S.kE/\n=0/\w=0):(e=S.kE/\n=0/\w=0)/\ya (aF0 0) ((0:Int)=0) (e=e/\aG3 1) (∃(x1:Nat),(e=e/\(1:Int)=1/\(1:Int)=1/\S.eO=S.eO)/\x1=0) (∀(x2:Nat),x2=0->q25 0 1 (length e)/\q19 (decide ((S.tI e 1).1=38)) (q26 (1+1)) False (yz (decide ((S.tI e 1).1=33)) (q26 (1+1)) False aDM (e=e) (aG3 1))):=by
 refine aP ?_;obtain⟨q1,q2,q3⟩:=hp;subst q1;subst q2;subst q3;with_reducible and_intros
 iterate 3 rfl
 grind;intro h2;refine⟨?_,?_⟩
 . grind
 intro x3 h4;with_reducible and_intros
 omega;decide
 . intro h5;with_reducible and_intros
   iterate 2 omega
   exact absurd h5 (by decide)
 intro h6;refine⟨?_,?_⟩
 . intro h7;with_reducible and_intros
   iterate 2 omega
   exact absurd h7 (by decide)
 grind
def an9(d:Int)(e:List (Int×Int×B8))(n w:Int)(hp:e=S.kE/\n=0/\w=0):(e=S.kE/\n=0/\w=0)/\ya (aF0 0) ((0:Int)=0) (e=e/\aG3 1) (∃(x1:Nat),(e=e/\(1:Int)=1/\(1:Int)=1/\S.eO=S.eO)/\x1=0) (∀(x2:Nat),x2=0->q25 0 1 (length e)/\yz (decide ((S.tI e 1).1=124)) (q26 (1+1)) False aDM (e=e) (aG3 1)):=by
 refine aP ?_;obtain⟨q1,q2,q3⟩:=hp;subst q1;subst q2;subst q3;with_reducible and_intros
 iterate 3 rfl
 grind;intro h2;refine⟨?_,?_⟩
 . grind
 intro x3 h4;with_reducible and_intros
 omega;decide
 . intro h5;with_reducible and_intros
   iterate 2 omega
   exact absurd h5 (by decide)
 grind
def aoa(b:B8)(hp:b=S.xK):yz (aFg 2000 b) aF1 ((0:Int)=0/\(8:Int)=0) (b=S.xK) (S.kE=S.kE/\(0:Int)=0/\aDM) (q19 (FI 0) ((0:Int)<=1) ((1:Int)<length S.kE) True/\ya (akZ (aHs 0 1 2)) (q25 0 (bif FI 0 then 1 else 1) (length (bif FI 0 then S.kE else S.kE))) (aF1/\(S.tI (bif FI 0 then S.kE else S.kE) (bif FI 0 then 1 else 1)).2.1=0/\aHs 0 1 2=0) ((bif FI 0 then S.eO else S.eO)=S.eO) ((0:Int)=0/\aDM)):=by
 refine aP ?_;subst hp;refine V.dI (λh1=>?_) λh2=>?_
 . with_reducible and_intros
   exact absurd h1 (by decide);rfl;exact absurd h1 (by decide)
 with_reducible and_intros
 iterate 4 rfl
 . intro h3;refine⟨?_,?_⟩
   . omega
   decide
 grind
 . intro h5;simp at h5;with_reducible and_intros
   iterate 2 decide
   iterate 2 (exact absurd (by decide) h5)
   decide
 grind
def aLM(l:List (Int×B8))(hp:S.eR l):(∃(x:Nat),((0:Int)=(↑x:Int)/\(0:Int)=S.nW l x)/\S.nh l x)/\∀(x:Nat),S.nh l x->(decide ((↑x:Int)<(↑(length l):Int))=true->((0:Int)<=(↑x:Int)/\(↑x:Int)<(↑(length l):Int))/\(decide ((getD l (toNat (↑x:Int)) ((0:Int),[])).1=(0:Int))=true->((0:Int)<=(↑x:Int)/\(↑x:Int)<(↑(length l):Int))/\S.small ((getD l (toNat (↑x:Int)) ((0:Int),[])).2)/\((!S.XA ((getD l (toNat (↑x:Int)) ((0:Int),[])).2))=true->false=S.bL l)/\((!S.XA ((getD l (toNat (↑x:Int)) ((0:Int),[])).2))=false->((-9223372036854775808:Int)<=S.nW l x+(1:Int)/\S.nW l x+(1:Int)<=(9223372036854775807:Int))/\((-9223372036854775808:Int)<=(↑x:Int)+(1:Int)/\(↑x:Int)+(1:Int)<=(9223372036854775807:Int))/\∃(x_1:Nat),((↑x:Int)+(1:Int)=(↑x_1:Int)/\S.nW l x+(1:Int)=S.nW l x_1)/\S.nh l x_1/\S.al (S.len l) x_1<S.al (S.len l) x))/\(decide ((getD l (toNat (↑x:Int)) ((0:Int),[])).1=(0:Int))=false->((0:Int)<=(↑x:Int)/\(↑x:Int)<(↑(length l):Int))/\((decide ((getD l (toNat (↑x:Int)) ((0:Int),[])).1<(0:Int))=true->True)/\(decide ((getD l (toNat (↑x:Int)) ((0:Int),[])).1<(0:Int))=false->((0:Int)<=(↑x:Int)/\(↑x:Int)<(↑(length l):Int))/\(decide ((3:Int)<(getD l (toNat (↑x:Int)) ((0:Int),[])).1)=true->True)/\(decide ((3:Int)<(getD l (toNat (↑x:Int)) ((0:Int),[])).1)=false->((0:Int)<=(↑x:Int)/\(↑x:Int)<(↑(length l):Int))/\((!decide ((getD l (toNat (↑x:Int)) ((0:Int),[])).2=[]))=true->True)/\((!decide ((getD l (toNat (↑x:Int)) ((0:Int),[])).2=[]))=false->((-9223372036854775808:Int)<=(↑x:Int)-S.nW l x/\(↑x:Int)-S.nW l x<=(9223372036854775807:Int))/\(-9223372036854775808:Int)<=(↑x:Int)-S.nW l x+(2:Int)/\(↑x:Int)-S.nW l x+(2:Int)<=(9223372036854775807:Int)))))/\((bif decide ((getD l (toNat (↑x:Int)) ((0:Int),[])).1<(0:Int)) then true else bif decide ((3:Int)<(getD l (toNat (↑x:Int)) ((0:Int),[])).1) then true else bif !decide ((getD l (toNat (↑x:Int)) ((0:Int),[])).2=[]) then true else decide (S.nW l x<(↑x:Int)-S.nW l x+(2:Int)))=true->false=S.bL l)/\((bif decide ((getD l (toNat (↑x:Int)) ((0:Int),[])).1<(0:Int)) then true else bif decide ((3:Int)<(getD l (toNat (↑x:Int)) ((0:Int),[])).1) then true else bif !decide ((getD l (toNat (↑x:Int)) ((0:Int),[])).2=[]) then true else decide (S.nW l x<(↑x:Int)-S.nW l x+(2:Int)))=false->((-9223372036854775808:Int)<=(↑x:Int)+(1:Int)/\(↑x:Int)+(1:Int)<=(9223372036854775807:Int))/\∃(x_1:Nat),((↑x:Int)+(1:Int)=(↑x_1:Int)/\S.nW l x=S.nW l x_1)/\S.nh l x_1/\S.al (S.len l) x_1<S.al (S.len l) x)))/\(decide ((↑x:Int)<(↑(length l):Int))=false->((-9223372036854775808:Int)<=(↑(length l):Int)-S.nW l x/\(↑(length l):Int)-S.nW l x<=(9223372036854775807:Int))/\((-9223372036854775808:Int)<=(↑(length l):Int)-S.nW l x+(1:Int)/\(↑(length l):Int)-S.nW l x+(1:Int)<=(9223372036854775807:Int))/\(bif decide (S.nW l x=(↑(length l):Int)-S.nW l x+(1:Int)) then decide (S.nW l x<=(16:Int)) else false)=S.bL l):=by
 have fV:l.length<=1099511627776:=hp.1;have hq:=hp;refine⟨?_,?_⟩
 . refine⟨(nat_lit 0:Nat),?_⟩;with_reducible and_intros
   iterate 2 rfl
   exact S.aBp hq.1
 intro x1 h2;refine V.dI (λh3=>?_) λDC=>?_
 . with_reducible and_intros
   iterate 2
    . have q:=S.vg l x1;have q2:=h2.1;omega
   . intro h4;try simp only [dt,tn] at h4
     with_reducible and_intros
     iterate 2
      . have q:=S.vg l x1;have q2:=h2.1;omega
     exact S.avw hq _
     . intro h5;try simp only [nt] at h5
       exact S.aho h3 (by assumption) (by rw [<-S.acE];assumption)
     intro h6;try simp only [nf] at h6
     with_reducible and_intros
     iterate 4
      . have q:=S.vg l x1;have q2:=h2.1;omega
     refine⟨(x1+nat_lit 1),?_⟩;try dsimp only
     with_reducible and_intros
     . have q:=S.vg l x1;have q2:=h2.1;omega
     exact(S.Si (by assumption)).symm
     . exact S.ahn h2 h3 (by assumption) (by rw [<-S.acE];assumption)
     grind [S.al,S.len]
   intro h7;try simp only [df,tn] at h7
   with_reducible and_intros
   iterate 2
    . have q:=S.vg l x1;have q2:=h2.1;omega
   . intro h8;trivial
   . intro h9;with_reducible and_intros
     iterate 2
      . have q:=S.vg l x1;have q2:=h2.1;omega
     . intro h10;trivial
     intro iR;with_reducible and_intros
     iterate 2
      . have q:=S.vg l x1;have q2:=h2.1;omega
     . intro jH;trivial
     intro mv;with_reducible and_intros
     iterate 3
      . have q:=S.vg l x1;have q2:=h2.1;omega
     have q:=S.vg l x1;have q2:=h2.1;omega
   . intro rY;try simp at rY
     exact S.aJ3 h3 (by assumption) (by assumption)
   intro Hq;try simp only [V.jz,df,tn,nf,dt] at Hq
   with_reducible and_intros
   iterate 2
    . have q:=S.vg l x1;have q2:=h2.1;omega
   refine⟨(x1+nat_lit 1),?_⟩;try dsimp only
   with_reducible and_intros
   . have q:=S.vg l x1;have q2:=h2.1;omega
   exact(S.L8 (by assumption)).symm;exact S.aIR h2 h3 (by assumption) (by assumption);grind [S.al,S.len]
 with_reducible and_intros
 . have q:=S.vg l x1;have q2:=h2.1;omega
 . have q:=S.vg l x1;omega
 . have q:=S.vg l x1;have q2:=h2.1;omega
 . have q:=S.vg l x1;omega
 grind[S.aJ4]
def aLN(l:List (Int×B8))(hp:S.aIl l)(hf:Vg.bo J.Qg l):(∃(x1:Nat),((0:Int)=x1/\[]=take x1 l)/\S.gP l x1)/\(∀(x2:Nat),S.gP l x2->q79 (decide ((x2:Int)<length l)) 0 x2 (length l) (q25 0 x2 (length l)/\qV (length (take x2 l)+length [((aAo l x2).1,(aAo l x2).2)])/\q80 x2 (∃(x3:Nat),aA6 x2 x3 (take x2 l++[((aAo l x2).1,(aAo l x2).2)]=take x3 l) (S.gP l x3) (S.len l))) (take x2 l=l)):=by
 refine aP ?_;have nI:Vg.hlen l:=hf.1.1;clear hf;have fV:l.length<=5864062014805:=hp;clear hp;refine⟨?_,?_⟩
 . refine⟨(nat_lit 0:Nat),?_⟩;try dsimp only
   with_reducible and_intros
   omega;iterate 2 (grind [S.al,S.len,S.gP,List.take_add_one])
 intro x1 h2;refine⟨?_,?_⟩
 . intro h3;try simp only [dt] at h3
   with_reducible and_intros
   iterate 4 omega
   grind [S.al,S.len,S.gP,List.take_add_one];iterate 2 omega
   refine⟨(x1+nat_lit 1),?_⟩;try dsimp only
   with_reducible and_intros
   omega;iterate 3 (grind [S.al,S.len,S.gP,List.take_add_one])
 intro h4;try simp only [df] at h4
 grind [S.al,S.len,S.gP,List.take_add_one]
def aob(l:List (Int×B8))(hf:Vg.bo J.Qg l):(∃(x1:Nat),(0:Int)=x1/\S.Dc l x1)/\(∀(x2:Nat),S.Dc l x2->q79 (decide ((x2:Int)<length l)) 0 x2 (length l) (q17 (aFg 200 (aAo l x2).2) (true=S.nO l) (q80 x2 (∃(x3:Nat),aCA x2 x3 (S.Dc l x3) (S.len l)))) (decide ((60:Int)<length l)=S.nO l)):=by
 refine aP ?_;have nI:Vg.hlen l:=hf.1.1;refine⟨?_,?_⟩
 . refine⟨(nat_lit 0:Nat),?_⟩;dsimp only;refine⟨?_,?_⟩
   . omega
   exact⟨T! _,z!⟩
 intro x1 h2;refine⟨?_,?_⟩
 . intro h3;simp only [dt] at h3;with_reducible and_intros
   iterate 2 omega
   . intro h4;simp at h4;exact S.amu h3 (by assumption)
   intro h5;simp only [df,tn] at h5;with_reducible and_intros
   iterate 2 omega
   refine⟨(x1+nat_lit 1),?_⟩;dsimp only;with_reducible and_intros
   omega;exact S.ahj h2 h3 (by assumption);grind [S.al,S.len]
 grind[df,S.amv]
def aoc(v:Int)(d:Bool)(l:B8)(hp:l.length<=35184372088832):q63 q98/\aFe l (S.lh q98 v)/\q29 (akZ (S.v7 v)) d=S.qi d (S.lp v)/\l++S.lh q98 v=aAA l (S.lp v):=by
 refine aP ?_;with_reducible and_intros
 grind;grind[S.amD];grind[S.aBv];rw [S.aBu v];rfl
def aod(b:B8)(m:Int)(d:Bool)(l:B8)(hp:l.length<=35184372088832/\b.length<=1099511627776):yz (aFg m b) (true=S.qi d (S.gk b m)) (l=aAA l (S.gk b m)) (S.nB q98 b) (aFe l ([]++S.text b)) (d=S.qi d (S.gk b m)/\l++([]++S.text b)=aAA l (S.gk b m)):=by
 refine aP ?_;refine V.dI (λh1=>?_) λh2=>?_
 . refine⟨?_,?_⟩
   . rw [S.ē h1];exact(Bool.or_true d).symm
   rw [S.ē h1];exact(F? l).symm
 with_reducible and_intros
 exact⟨T! _,w!⟩
 . have:=S.aht b;simp;omega
 . rw [S.ahy h2];exact(Bool.or_false d).symm
 rw [S.ahy h2];rfl
def aoe(y1:Int)(y2:B8)(y3:List (Int×Int×Int×B8))(d:Bool)(l:B8)(hp:l.length<=35184372088832):q54 (yz (akZ (S.hW y1 y2 y3).2) (true=S.qi d (S.pg y1 y2 y3)) (l=aAA l (S.pg y1 y2 y3)) (q63 l/\aGn (S.hW y1 y2 y3).1) (S.qi d (S.gk (S.hW y1 y2 y3).1 10000)=S.qi d (S.pg y1 y2 y3)) (aAA l (S.gk (S.hW y1 y2 y3).1 10000)=aAA l (S.pg y1 y2 y3))):=by
 refine aP ?_;with_reducible and_intros
 trivial
 . intro h1;simp at h1;refine⟨?_,?_⟩
   . rw [S.ahz h1];exact(Bool.or_true d).symm
   rw [S.ahz h1];exact(F? l).symm
 grind[S.amE]
def aof(p:List B8)(d:Bool)(l:B8)(hp:l.length<=17592186044416):yz (decide (64<wD p)) (true=S.qi d (S.jB p)) (l=aAA l (S.jB p)) (q63 l) (∃(x1:Nat),((0:Int)=x1/\S.qi d (S.lp (wD p))=d/\aAA l (S.lp (wD p))=l++S.gl p x1)/\S.ly p x1) (∀(x2:Nat),S.ly p x2->ya (decide (x2<wD p)) (q25 0 x2 (wD p)) (ya (hU (length (q93 p x2)) 32) (true=S.qi d (S.jB p)) (l++S.gl p x2=aAA l (S.jB p)) (aGq (l++S.gl p x2) (length (q93 p x2))) (q80 x2 (∃(x3:Nat),MP x2 x3 (d=d) (l++S.gl p x2++q93 p x2=l++S.gl p x3) (S.ly p x3) (S.len p)))) (d=S.qi d (S.jB p)) (l++S.gl p x2=aAA l (S.jB p))):=by
 refine aP ?_;refine V.dI (λh1=>?_) λh2=>?_
 . refine⟨?_,?_⟩
   . rw [S.ahu h1];exact(Bool.or_true d).symm
   rw [S.ahu h1];exact(F? l).symm
 with_reducible and_intros
 omega
 . refine⟨(nat_lit 0:Nat),?_⟩;dsimp only;with_reducible and_intros
   omega
   . rw [S.Sk w!];exact Bool.or_false d
   grind[S.Sk,S.gl,S.bytesOf];exact S.aBs h2
 intro x3 h4;refine V.dI (λh5=>?_) λh8=>?_
 . with_reducible and_intros
   iterate 2 omega
   . intro h6;simp at h6;refine⟨?_,?_⟩
     . rw [S.č h4 h5 h6];exact(Bool.or_true d).symm
     rw [S.č h4 h5 h6];rfl
   intro h7;simp only [nf,dt,tn] at h7;with_reducible and_intros
   . have q:=S.amB h4;rw [K!,tn];omega
   iterate 2 omega
   refine⟨(x3+nat_lit 1),?_⟩;dsimp only;with_reducible and_intros
   omega;rfl;rw [tn,Y!,(S.VL h4 h5 h7).2];exact(S.VL h4 h5 h7).1;simp [S.al,S.len];omega
 refine⟨?_,?_⟩
 . rw [S.Ď h4 h8];exact(Bool.or_false d).symm
 rw [S.Ď h4 h8];rfl
def aog(p1:Int)(p2 p3 p4:B8)(p5:List B8)(p6:B8)(d:Bool)(l:B8)(hp:l.length<=8796093022208/\p6.length<=1099511627776):q63 l/\q54 (yz (akZ (S.rb p2 p3 p4)) (true=S.qi d (S.jP (p1,p2,p3,p4,p5,p6))) (aAA l (S.lp p1)=aAA l (S.jP (p1,p2,p3,p4,p5,p6))) (q63 (aAA l (S.lp p1))/\aGn (S.ke p2 p3 p4)) (length (aAA (aAA l (S.lp p1)) (S.gk (S.ke p2 p3 p4) 200))<=17592186044416) ((q63 (aAA (aAA (aAA l (S.lp p1)) (S.gk (S.ke p2 p3 p4) 200)) (S.jB p5))/\aGn p6)/\S.qi (S.qi (S.qi (S.qi d (S.lp p1)) (S.gk (S.ke p2 p3 p4) 200)) (S.jB p5)) (S.gk p6 4000)=S.qi d (S.jP (p1,p2,p3,p4,p5,p6))/\aAA (aAA (aAA (aAA l (S.lp p1)) (S.gk (S.ke p2 p3 p4) 200)) (S.jB p5)) (S.gk p6 4000)=aAA l (S.jP (p1,p2,p3,p4,p5,p6)))):=by
 refine aP ?_;have a1:=S.VJ p1;have a2:=S.Bi (S.ke p2 p3 p4) (m:=200) (by decide);have a3:=S.Mc p5;have a4:=S.amF p2 p3 p4;with_reducible and_intros
 omega;trivial
 . intro h1;simp at h1;refine⟨?_,?_⟩
   . rw [S.Ĕ h1];exact(Bool.or_true d).symm
   rw [S.Ĕ h1];rfl
 grind[S.bytesOf,List.length_append,S.ahA,S.qi,S.cat,Bool.or_assoc,List.append_assoc]
def aoh(d:Bool)(l:B8):q19 d ([]=S.Fo (l,d)) (1=S.Fp (l,d)) (ya (aFg 1048576 l) ([]=S.Fo (l,d)) (3=S.Fp (l,d)) (l=S.Fo (l,d)) (0=S.Fp (l,d))):=by
 refine aP ?_;simp_all[dt,S.Fo,Q!,R!,S.Fp,df]
def aoi(a1:Int)(a2:B8)(a3:List (Int×Int×Int×B8))(a4:List (List (Int×B8×B8×B8×List B8×B8)))(hp:S.ti a4)(hf:Vg.bo J.aiP (a1,a2,a3,a4)):q63 [1]/\ya (hU (length a4) (length a3)) ([]=(S.nG a1 a2 a3 a4).1) (1=(S.nG a1 a2 a3 a4).2) (∃(x1:Nat),aF2 0 x1 false (S.pg a1 a2 a3) (S.eS a1 a2 a3 a4 x1) [1]/\S.mo a3 a4 x1) (∀(x2:Nat),S.mo a3 a4 x2->yz (decide ((x2:Int)<length a4)) (q25 0 x2 (length a4)) (yz (decide ((16:Int)<length (getD a4 (toNat x2) []))) ([]=(S.nG a1 a2 a3 a4).1) (1=(S.nG a1 a2 a3 a4).2) (q63 (S.bytesOf (S.eS a1 a2 a3 a4 x2))) (∃(x3:Nat×Nat),aF2 0 x3.1 (S.lS (S.eS a1 a2 a3 a4 x2)) (S.lp (length (getD a4 (toNat x2) []))) (S.fq a1 a2 a3 a4 x3.2 x3.1) (S.bytesOf (S.eS a1 a2 a3 a4 x2))/\S.kn a3 a4 x3.2 x3.1/\(x2:Int)=x3.2) (∀(x4:Nat×Nat),S.kn a3 a4 x4.2 x4.1/\(x2:Int)=x4.2->MJ (decide ((x4.1:Int)<length (getD a4 (toNat x2) []))) (q25 0 x4.1 (length (getD a4 (toNat x2) []))) ((length (S.bytesOf (S.fq a1 a2 a3 a4 x4.2 x4.1))<=8796093022208/\aGn (aD2 a4 x2 x4).2.2.2.2.2)/\q26 (x4.1+1)/\(∃(x5:Nat×Nat),aF2 (x4.1+1) x5.1 (S.lS (S.fq a1 a2 a3 a4 x4.2 x4.1)) (S.jP ((aD2 a4 x2 x4).1,(aD2 a4 x2 x4).2.1,(aD2 a4 x2 x4).2.2.1,(aD2 a4 x2 x4).2.2.2.1,(aD2 a4 x2 x4).2.2.2.2.1,(aD2 a4 x2 x4).2.2.2.2.2)) (S.fq a1 a2 a3 a4 x5.2 x5.1) (S.bytesOf (S.fq a1 a2 a3 a4 x4.2 x4.1))/\(S.kn a3 a4 x5.2 x5.1/\(x2:Int)=x5.2)/\q44 (S.len (S.iO a4 x5.2)) x5.1 (S.al (S.len (S.iO a4 x4.2)) x4.1))) (x2+1) (∃(x6:Nat),MP x2 x6 (S.lS (S.fq a1 a2 a3 a4 x4.2 x4.1)=S.lS (S.eS a1 a2 a3 a4 x6)) (S.bytesOf (S.fq a1 a2 a3 a4 x4.2 x4.1)=S.bytesOf (S.eS a1 a2 a3 a4 x6)) (S.mo a3 a4 x6) (S.len a4)))) True (S.Fo (S.bytesOf (S.eS a1 a2 a3 a4 x2),S.lS (S.eS a1 a2 a3 a4 x2))=(S.nG a1 a2 a3 a4).1) (S.Fp (S.bytesOf (S.eS a1 a2 a3 a4 x2),S.lS (S.eS a1 a2 a3 a4 x2))=(S.nG a1 a2 a3 a4).2)):=by
 refine aP ?_;have axY:Vg.hlen a3:=hf.2.2.1.1;with_reducible and_intros
 decide;grind[nt,df,S.avy];intro h2;simp at h2;refine⟨?_,?_⟩
 . refine⟨(nat_lit 0:Nat),?_⟩;dsimp only;with_reducible and_intros
   omega;iterate 2 rfl
   grind[S.aBt]
 intro x3 h4;refine V.dI (λh5=>?_) λjH=>?_
 . with_reducible and_intros
   iterate 2 omega
   . intro h6;try simp at h6
     refine⟨?_,?_⟩
     . rw [S.Đ h5 h6]
     rw [S.Đ h5 h6]
   intro h7;try simp only [df,tn] at h7
   with_reducible and_intros
   exact h? (S.Ē (n:=a1) (g:=a2) h4) (by decide)
   . refine⟨((nat_lit 0:Nat),(x3)),?_⟩;try dsimp only
     with_reducible and_intros
     omega
     iterate 2
      . rw [tn,S.Sk w!];rfl
     exact S.avx h4 h5 h7;with_reducible rfl
   intro x8 h9;refine⟨?_,?_⟩
   . intro h10;try simp only [dt,tn] at h10
     with_reducible and_intros
     omega;assumption;exact h? (S.ahx (n:=a1) (g:=a2) h9.1) (by decide)
     . obtain⟨q,e⟩:=h9;have e':x8.2=x3:=by omega
       rw [e'] at q;exact S.ahw q h10
     iterate 2 omega
     refine⟨((Prod.fst x8+nat_lit 1),(x3)),?_⟩;try dsimp only
     with_reducible and_intros
     omega
     . obtain⟨q,e⟩:=h9;have e':x8.2=x3:=by omega
       rw [e',tn,tn];exact(S.as3 _ rfl _ _ rfl rfl).1
     . obtain⟨q,e⟩:=h9;have e':x8.2=x3:=by omega
       rw [e',tn,tn];exact(S.as3 _ rfl _ _ rfl rfl).2
     . obtain⟨q,e⟩:=h9;have e':x8.2=x3:=by omega
       rw [e'] at q;exact S.ahv q h10
     with_reducible rfl
     obtain⟨q,e⟩:=h9;have e':x8.2=x3:=by omega
     rw [e'];have hh:(x8.1:Int)<((S.iO a4 x3).length:Int):=h10;simp only [S.al,S.len];omega
   intro iR;try simp only [df,tn] at iR
   with_reducible and_intros
   iterate 2 omega
   refine⟨(x3+nat_lit 1),?_⟩;try dsimp only
   with_reducible and_intros
   omega
   iterate 2
    . obtain⟨q,e⟩:=h9;have e':x8.2=x3:=by omega
      rw [e'] at q |-;rw [(S.ď (n:=a1) (g:=a2) q iR).2]
   . obtain⟨q,e⟩:=h9;have e':x8.2=x3:=by omega
     rw [e'] at q;exact(S.ď (n:=a1) (g:=a2) q iR).1
   simp only [S.al,S.len];omega
 with_reducible and_intros
 trivial
 . rw [S.đ h4 jH];rfl
 rw [S.đ h4 jH];rfl
def aoj(b:B8)(c:UInt8)(hp:S.eZ b c=0):q19 (decide (1048576<dQ b)) False ((3:Int)=0/\False) (ya (FI (dQ b)) False ((4:Int)=0/\False) ((0:Int)<=0/\0<dQ b) (yz (hU (axs b 0) (lG c)) False ((2:Int)=0/\False) (0=0) aDM (b=b/\(1:Int)=1/\aDM))):=by
 refine aP ?_;refine⟨?_,?_⟩
 . intro h1;simp_all[dt,S.ĕ]
 intro h2;refine⟨?_,?_⟩
 . intro h3;simp_all[dt,S.Ė]
 grind[df,nt,S.ahB]
def aok(b:B8)(c:UInt8)(hp:¬S.eZ b c=0):q17 (decide (1048576<dQ b)) (3=S.eZ b c) (q17 (FI (dQ b)) (4=S.eZ b c) (((0:Int)<=0/\0<dQ b)/\q17 (hU (axs b 0) (lG c)) (2=S.eZ b c) (False/\0=S.eZ b c))):=by
 refine aP ?_;refine⟨?_,?_⟩
 . simp_all[dt,S.ĕ]
 intro h2;refine⟨?_,?_⟩
 . simp_all[dt,S.Ė]
 intro h4;simp only [df] at h4;with_reducible and_intros
 iterate 2 omega
 grind[nt,df,S.ahB];intro h6;simp_all[nf,dt,S.avA]
def aol(r1:B8)(r2 r3:Int)(hp:r1.length<=140737488355328):q40 r1/\(S.af r1 r2 r3).2=(S.af r1 r2 r3).2/\(S.af r1 r2 r3).1.1=r1/\(S.af r1 r2 r3).1.2.1=(S.af r1 r2 r3).1.2.1/\(S.af r1 r2 r3).1.2.2=(S.af r1 r2 r3).1.2.2:=by
 refine aP ?_;grind[S.JB]
def aom(m:Int)(r1:B8)(r2 r3:Int)(hp:r1.length<=140737488355328):q40 r1/\(S.ai r1 r2 r3 m).2=(S.ai r1 r2 r3 m).2/\(S.ai r1 r2 r3 m).1.1=r1/\(S.ai r1 r2 r3 m).1.2.1=(S.ai r1 r2 r3 m).1.2.1/\(S.ai r1 r2 r3 m).1.2.2=(S.ai r1 r2 r3 m).1.2.2:=by
 refine aP ?_;grind[S.zU]
def aon(m:Int)(r1:B8)(r2 r3:Int)(hp:r1.length<=140737488355328):q40 r1/\yz (decide (m<(S.af r1 r2 r3).2)) (0=(S.dP r1 r2 r3 m).2) (r1=r1/\(S.af r1 r2 r3).1.2.1=(S.dP r1 r2 r3 m).1.1/\2=(S.dP r1 r2 r3 m).1.2) ((S.af r1 r2 r3).2=(S.dP r1 r2 r3 m).2) (r1=r1) ((S.af r1 r2 r3).1.2.1=(S.dP r1 r2 r3 m).1.1/\(S.af r1 r2 r3).1.2.2=(S.dP r1 r2 r3 m).1.2):=by
 refine aP ?_;simp_all[dt,S.amH,df,S.avB]
def aoo(r1:B8)(r2 r3:Int)(hp:r1.length<=140737488355328):q40 r1/\ya (akZ (S.ai r1 r2 r3 10000).1.2.2) (0=(S.cC r1 r2 r3).2.1) ([]=(S.cC r1 r2 r3).2.2.1/\[]=(S.cC r1 r2 r3).2.2.2/\r1=r1/\(S.ai r1 r2 r3 10000).1.2.1=(S.cC r1 r2 r3).1.1/\(S.ai r1 r2 r3 10000).1.2.2=(S.cC r1 r2 r3).1.2) (q40 (S.ai r1 r2 r3 10000).2) ((S.hR (S.ai r1 r2 r3 10000).2).1.1=(S.cC r1 r2 r3).2.1/\(S.hR (S.ai r1 r2 r3 10000).2).1.2.1=(S.cC r1 r2 r3).2.2.1/\(S.hR (S.ai r1 r2 r3 10000).2).1.2.2=(S.cC r1 r2 r3).2.2.2/\r1=r1/\(S.ai r1 r2 r3 10000).1.2.1=(S.cC r1 r2 r3).1.1/\(S.hR (S.ai r1 r2 r3 10000).2).2=(S.cC r1 r2 r3).1.2):=by
 refine aP ?_;with_reducible and_intros
 omega;grind[nt,df,S.avC];grind[S.JG,S.amI]
def aop(r1:B8)(r2 r3:Int)(hp:r1.length<=140737488355328):q40 r1/\yz (akZ (S.ai r1 r2 r3 200).1.2.2) ([]=(S.jC r1 r2 r3).2.1) ([]=(S.jC r1 r2 r3).2.2.1/\[]=(S.jC r1 r2 r3).2.2.2/\r1=r1/\(S.ai r1 r2 r3 200).1.2.1=(S.jC r1 r2 r3).1.1/\(S.ai r1 r2 r3 200).1.2.2=(S.jC r1 r2 r3).1.2) (q40 (S.ai r1 r2 r3 200).2) ((S.bf (S.ai r1 r2 r3 200).2).1.1=(S.jC r1 r2 r3).2.1) ((S.bf (S.ai r1 r2 r3 200).2).1.2.1=(S.jC r1 r2 r3).2.2.1/\(S.bf (S.ai r1 r2 r3 200).2).1.2.2=(S.jC r1 r2 r3).2.2.2/\r1=r1/\(S.ai r1 r2 r3 200).1.2.1=(S.jC r1 r2 r3).1.1/\(S.bf (S.ai r1 r2 r3 200).2).2=(S.jC r1 r2 r3).1.2):=by
 refine aP ?_;with_reducible and_intros
 omega;grind[nt,df,S.avD];grind[S.JG,S.amJ]
def aoq(r1:B8)(r2 r3:Int)(hp:r1.length<=140737488355328):q40 r1/\(∃(x1:Nat),((0:Int)=x1/\[]=(S.dh r1 r2 r3 x1).2/\r1=r1/\(S.dP r1 r2 r3 64).1.1=(S.dh r1 r2 r3 x1).1.1/\(S.dP r1 r2 r3 64).1.2=(S.dh r1 r2 r3 x1).1.2)/\S.fe x1 (S.ph r1 r2 r3))/\(∀(x2:Nat),S.fe x2 (S.ph r1 r2 r3)->yz (decide (x2<(S.dP r1 r2 r3 64).2)) (q40 r1) (Ĳ (S.dh r1 r2 r3 x2).2 [(S.an r1 (S.dh r1 r2 r3 x2).1.1 (S.dh r1 r2 r3 x2).1.2).2]/\q80 x2 (∃(x3:Nat),MP x2 x3 ((S.dh r1 r2 r3 x2).2++[(S.an r1 (S.dh r1 r2 r3 x2).1.1 (S.dh r1 r2 r3 x2).1.2).2]=(S.dh r1 r2 r3 x3).2) ((S.an r1 (S.dh r1 r2 r3 x2).1.1 (S.dh r1 r2 r3 x2).1.2).1.1=r1/\(S.an r1 (S.dh r1 r2 r3 x2).1.1 (S.dh r1 r2 r3 x2).1.2).1.2.1=(S.dh r1 r2 r3 x3).1.1/\(S.an r1 (S.dh r1 r2 r3 x2).1.1 (S.dh r1 r2 r3 x2).1.2).1.2.2=(S.dh r1 r2 r3 x3).1.2) (S.fe x3 (S.ph r1 r2 r3)) (S.ph r1 r2 r3))) ((S.dh r1 r2 r3 x2).2=(S.jD r1 r2 r3).2) (r1=r1) ((S.dh r1 r2 r3 x2).1.1=(S.jD r1 r2 r3).1.1/\(S.dh r1 r2 r3 x2).1.2=(S.jD r1 r2 r3).1.2)):=by
 refine aP ?_;with_reducible and_intros
 omega
 . refine⟨(nat_lit 0:Nat),?_⟩;dsimp only;with_reducible and_intros
   omega;iterate 4 rfl
   exact T! _
 intro x1 h2;refine V.dI (λh3=>?_) λh4=>?_
 . with_reducible and_intros
   omega
   . have:=S.JH r1 r2 r3 x1;have:=S.Md r1 r2 r3;have q:x1<=S.ph r1 r2 r3:=h2
     rw [W!];omega
   omega
   . have:=S.Md r1 r2 r3;have q:x1<=S.ph r1 r2 r3:=h2
     omega
   refine⟨(x1+nat_lit 1),?_⟩;dsimp only;with_reducible and_intros
   omega;exact rfl;exact(S.JB _ _ _).2;iterate 2 exact rfl
   exact S.Ye h3;have e:S.ph r1 r2 r3=(S.dP r1 r2 r3 64).2.toNat:=rfl;simp [S.al];omega
 with_reducible and_intros
 . have e:=S.Me h2 h4;rw [e];rfl
 rfl
 . have e:=S.Me h2 h4;rw [e];rfl
 have e:=S.Me h2 h4;rw [e];rfl
def aor(r1:B8)(r2 r3:Int)(hp:r1.length<=140737488355328):q40 r1/\q40 r1/\q40 r1/\q40 r1/\(S.af r1 r2 r3).2=(S.gw r1 r2 r3).2.1/\(am3 r1 r2 r3).2.1=(S.gw r1 r2 r3).2.2.1/\(am3 r1 r2 r3).2.2.1=(S.gw r1 r2 r3).2.2.2.1/\(am3 r1 r2 r3).2.2.2=(S.gw r1 r2 r3).2.2.2.2.1/\(S.jD r1 (am3 r1 r2 r3).1.1 (am3 r1 r2 r3).1.2).2=(S.gw r1 r2 r3).2.2.2.2.2.1/\(S.ai r1 (S.jD r1 (am3 r1 r2 r3).1.1 (am3 r1 r2 r3).1.2).1.1 (S.jD r1 (am3 r1 r2 r3).1.1 (am3 r1 r2 r3).1.2).1.2 4000).2=(S.gw r1 r2 r3).2.2.2.2.2.2/\r1=r1/\(S.ai r1 (S.jD r1 (am3 r1 r2 r3).1.1 (am3 r1 r2 r3).1.2).1.1 (S.jD r1 (am3 r1 r2 r3).1.1 (am3 r1 r2 r3).1.2).1.2 4000).1.2.1=(S.gw r1 r2 r3).1.1/\(S.ai r1 (S.jD r1 (am3 r1 r2 r3).1.1 (am3 r1 r2 r3).1.2).1.1 (S.jD r1 (am3 r1 r2 r3).1.1 (am3 r1 r2 r3).1.2).1.2 4000).1.2.2=(S.gw r1 r2 r3).1.2:=by
 refine aP ?_;with_reducible and_intros
 iterate 4 omega
 iterate 9 rfl
def aos(b:B8)(hp:b.length<=140737488355328/\S.eZ b 1=0):S.eZ b 1=0/\yz (aF0 0) (0=(S.ba b).1.1) ([]=(S.ba b).1.2.1/\[]=(S.ba b).1.2.2.1/\[]=(S.ba b).1.2.2.2/\0=(S.ba b).2) (q40 b) (∃(x1:Nat),((0:Int)=x1/\b=b/\(S.cC b 1 0).1.1=(S.gR b x1).1.1/\(S.cC b 1 0).1.2=(S.gR b x1).1.2/\(S.cC b 1 0).2.1=(aDO b).1/\(S.cC b 1 0).2.2.1=(aDO b).2.1/\(S.cC b 1 0).2.2.2=(aDO b).2.2/\[]=(S.gR b x1).2)/\S.fe x1 (S.aN b)) (∀(x2:Nat),S.fe x2 (S.aN b)->ya (decide ((x2:Int)<length (S.cC b 1 0).2.2.2)) (q40 b) ((∃(x3:Nat×Nat),((0:Int)=x3.1/\[]=(S.Af b x3.2 x3.1).2/\b=b/\(S.dP b (S.gR b x2).1.1 (S.gR b x2).1.2 16).1.1=(S.Af b x3.2 x3.1).1.1/\(S.dP b (S.gR b x2).1.1 (S.gR b x2).1.2 16).1.2=(S.Af b x3.2 x3.1).1.2/\(aDO b).1=(aDO b).1/\(aDO b).2.1=(aDO b).2.1/\(aDO b).2.2=(aDO b).2.2/\(S.gR b x2).2=(S.gR b x3.2).2)/\(S.fe x3.1 (S.pj b x3.2)/\x3.2+1<=S.aN b)/\(x2:Int)=x3.2)/\(∀(x4:Nat×Nat),(S.fe x4.1 (S.pj b x4.2)/\x4.2+1<=S.aN b)/\(x2:Int)=x4.2->ya (decide (x4.1<(S.dP b (S.gR b x2).1.1 (S.gR b x2).1.2 16).2)) (q40 b) (length (aBP b x4).2+length [((azv b x4).2.1,(azv b x4).2.2.1,(azv b x4).2.2.2.1,(azv b x4).2.2.2.2.1,(azv b x4).2.2.2.2.2.1,(azv b x4).2.2.2.2.2.2)]<=1353245080339/\q26 (x4.1+1)/\(∃(x5:Nat×Nat),((x4.1:Int)+1=x5.1/\(aBP b x4).2++[((azv b x4).2.1,(azv b x4).2.2.1,(azv b x4).2.2.2.1,(azv b x4).2.2.2.2.1,(azv b x4).2.2.2.2.2.1,(azv b x4).2.2.2.2.2.2)]=(S.Af b x5.2 x5.1).2/\b=b/\(azv b x4).1.1=(S.Af b x5.2 x5.1).1.1/\(azv b x4).1.2=(S.Af b x5.2 x5.1).1.2/\(aDO b).1=(aDO b).1/\(aDO b).2.1=(aDO b).2.1/\(aDO b).2.2=(aDO b).2.2/\(S.gR b x4.2).2=(S.gR b x5.2).2)/\((S.fe x5.1 (S.pj b x5.2)/\x5.2+1<=S.aN b)/\(x2:Int)=x5.2)/\q44 (S.pj b x5.2) x5.1 (S.al (S.pj b x4.2) x4.1))) (qV (length (S.gR b x4.2).2+length [(aBP b x4).2])) (q80 x2 (∃(x6:Nat),MP x2 x6 (b=b) ((aBP b x4).1.1=(S.gR b x6).1.1/\(aBP b x4).1.2=(S.gR b x6).1.2/\(aDO b).1=(aDO b).1/\(aDO b).2.1=(aDO b).2.1/\(aDO b).2.2=(aDO b).2.2/\(S.gR b x4.2).2++[(aBP b x4).2]=(S.gR b x6).2) (S.fe x6 (S.aN b)) (S.aN b))))) True (yz (akZ (S.done b (S.gR b x2).1.1 (S.gR b x2).1.2)) (0=(S.ba b).1.1) ([]=(S.ba b).1.2.1/\[]=(S.ba b).1.2.2.1/\[]=(S.ba b).1.2.2.2/\S.done b (S.gR b x2).1.1 (S.gR b x2).1.2=(S.ba b).2) ((aDO b).1=(S.ba b).1.1) ((aDO b).2.1=(S.ba b).1.2.1) ((aDO b).2.2=(S.ba b).1.2.2.1/\(S.gR b x2).2=(S.ba b).1.2.2.2/\0=(S.ba b).2))):=by
 refine aP ?_;have oA:=hp.2;with_reducible and_intros
 omega;grind;intro h2;with_reducible and_intros
 omega
 . refine⟨(nat_lit 0:Nat),?_⟩;dsimp only;with_reducible and_intros
   omega;iterate 7 rfl
   exact T! _
 intro x3 h4;refine V.dI (λh5=>?_) λh10=>?_
 . with_reducible and_intros
   omega
   . refine⟨((nat_lit 0:Nat),(x3)),?_⟩;try dsimp only
     with_reducible and_intros
     omega;exact rfl;rfl;iterate 2 exact rfl
     iterate 3 rfl
     with_reducible rfl
     exact T! _;exact S.Sl h5;with_reducible rfl
   intro x6 h7;refine V.dI (λh8=>?_) λh9=>?_
   . with_reducible and_intros
     omega
     . rw [S.amK,W!];have:=S.ahD b x6.2;have :x6.1<=S.pj b x6.2:=h7.1.1
       omega
     omega
     . have:=S.ahD b x6.2;have :x6.1<=S.pj b x6.2:=h7.1.1
       omega
     refine⟨((Prod.fst x6+nat_lit 1),(x3)),?_⟩;try dsimp only
     with_reducible and_intros
     omega
     . have e':x6.2=x3:=by have:=h7.2;omega
       rw [e'];exact rfl
     rfl
     iterate 2
      . have e':x6.2=x3:=by have:=h7.2;omega
        rw [e'];exact rfl
     iterate 3 rfl
     . have e':x6.2=x3:=by have:=h7.2;omega
       rw [e']
     exact S.Ye (by assumption);omega;with_reducible rfl
     have e':x6.2=x3:=by have:=h7.2;omega
     rw [e'];have q:=S.Ye (by assumption);have w:S.pj b x3=(S.dP b (S.gR b x3).1.1 (S.gR b x3).1.2 16).2.toNat:=rfl
     simp only [S.al];omega
   with_reducible and_intros
   . rw [S.amL,W!];have:=S.Yf b;have:=h7.1.2;omega
   omega
   . have:=S.Yf b;have:=S.Sl h5;omega
   refine⟨(x3+nat_lit 1),?_⟩;try dsimp only
   with_reducible and_intros
   omega;rfl
   iterate 2
    . have e':x6.2=x3:=by have:=h7.2;omega
      rw [e'];have q:x6.1=S.pj b x3:=S.Me (e'▸h7.1.1) (by assumption)
      rw [q];exact rfl
   iterate 3 rfl
   . have e':x6.2=x3:=by have:=h7.2;omega
     rw [e'];have q:x6.1=S.pj b x3:=S.Me (e'▸h7.1.1) (by assumption)
     rw [q];exact rfl
   exact S.Sl h5;have:=S.Sl h5;simp only [S.al];omega
 with_reducible and_intros
 trivial
 . intro iR;simp at iR;with_reducible and_intros
   iterate 4 (rw [S.ahE oA (S.Yg h4 (by assumption)) (by assumption)])
   rw [S.ahE oA (S.Yg h4 (by assumption)) (by assumption)]
 grind[S.as5,S.Yg]
def aot(b:B8)(hp:¬S.eZ b 1=0):(S.eZ b 1=0->False)/\q19 (akZ (S.eZ b 1)) (0=(S.ba b).1.1) ([]=(S.ba b).1.2.1/\[]=(S.ba b).1.2.2.1/\[]=(S.ba b).1.2.2.2/\S.eZ b 1=(S.ba b).2) False:=by
 refine aP ?_;simp_all[nt,df,S.as4,nf,dt]
def aoy(y1:Int)(y2:B8)(y3:List (Int×Int×Int×B8)):q54 (yz (akZ (S.hW y1 y2 y3).2) ([]=(S.ik y1 y2 y3).1) ((S.hW y1 y2 y3).2=(S.ik y1 y2 y3).2) (S.bQ (S.hW y1 y2 y3).1) (S.lB 3 (S.hW y1 y2 y3).1=(S.ik y1 y2 y3).1) (0=(S.ik y1 y2 y3).2)):=by
 refine aP ?_;simp_all[nt,df,S.avH,nf,dt,S.amO]
def aoz(y1:List B8)(y2:List (Int×Int×List (B8×List Int))):q54 (yz (akZ (S.iK y1 y2).2) ([]=(S.lC y1 y2).1) (7=(S.lC y1 y2).2) True ((S.ik (S.iK y1 y2).1.1 (S.iK y1 y2).1.2.1 (S.iK y1 y2).1.2.2).1=(S.lC y1 y2).1) ((S.ik (S.iK y1 y2).1.1 (S.iK y1 y2).1.2.1 (S.iK y1 y2).1.2.2).2=(S.lC y1 y2).2)):=by
 refine aP ?_;simp_all[nt,df,S.avI,nf,dt,S.amP]
def aoA(t:B8)(dd:List (B8×List Int))(er:Int)(hp:S.bh dd/\S.aY dd=true/\S.isTerm t=true/\er=0):(S.bh dd/\S.small t)/\length [((S.gj dd t).1.1,(S.gj dd t).1.2.1,(S.gj dd t).1.2.2.1,(S.gj dd t).1.2.2.2.1,(S.gj dd t).1.2.2.2.2.1,(S.gj dd t).1.2.2.2.2.2)]<=1353245080339/\dd=dd/\(bif FI er then(S.gj dd t).2 else er)=0/\[((S.gj dd t).1.1,(S.gj dd t).1.2.1,(S.gj dd t).1.2.2.1,(S.gj dd t).1.2.2.2.1,(S.gj dd t).1.2.2.2.2.1,(S.gj dd t).1.2.2.2.2.2)]=[S.jO dd t]:=by
 refine aP ?_;grind[S.ID,List.length_singleton,S.wy]
def aoB(t:B8)(dd:List (B8×List Int))(er:Int)(l:List (Int×B8×B8×B8×List B8×B8))(hp:S.bh dd/\S.aY dd=true/\S.isTerm t=true/\er=0/\l.length<=100000):(S.bh dd/\S.small t)/\length l+length [((S.gj dd t).1.1,(S.gj dd t).1.2.1,(S.gj dd t).1.2.2.1,(S.gj dd t).1.2.2.2.1,(S.gj dd t).1.2.2.2.2.1,(S.gj dd t).1.2.2.2.2.2)]<=1353245080339/\dd=dd/\(bif FI er then(S.gj dd t).2 else er)=0/\l++[((S.gj dd t).1.1,(S.gj dd t).1.2.1,(S.gj dd t).1.2.2.1,(S.gj dd t).1.2.2.2.1,(S.gj dd t).1.2.2.2.2.1,(S.gj dd t).1.2.2.2.2.2)]=l++[S.jO dd t]:=by
 refine aP ?_;grind[S.ID,List.length_singleton,S.wy]
def aoC(d:List (B8×List Int))(er:Int)(ts:List B8)(hp:S.Mf d ts/\er=0)(hf:Vg.dL J.atK d)(hg:Vg.bT.ok J.atG (er,(ts,()))):(∃(x1:Nat),((0:Int)=x1/\d=d/\[]=S.qj d ts x1/\er=0/\ts=ts)/\S.gP ts x1)/\(∀(x2:Nat),S.gP ts x2->yz (decide (x2<wD ts)) (q25 0 x2 (wD ts)) ((S.bh d/\S.aY d/\S.isTerm (q93 ts x2)/\(0:Int)=0/\length (S.qj d ts x2)<=100000)/\q80 x2 (∃(x3:Nat),MP x2 x3 (d=d) (S.qj d ts x2++[S.jO d (q93 ts x2)]=S.qj d ts x3/\(0:Int)=0/\ts=ts) (S.gP ts x3) (S.len ts))) (S.qj d ts x2=S.Od d ts) aDM (ts=ts)):=by
 refine aP ?_;have atW:Vg.hlen d:=hf.1.1;have aEk:Vg.hint er:=hg.1.1;have aEl:Vg.hlen ts:=hg.2.1.1.1;clear hf hg;obtain⟨oA,q4⟩:=hp;subst q4;refine⟨?_,?_⟩
 . refine⟨(nat_lit 0:Nat),?_⟩;try dsimp only
   with_reducible and_intros
   omega;iterate 4 rfl
   exact T! _
 intro x1 h2;refine⟨?_,?_⟩
 . intro h3;try simp only [dt] at h3
   with_reducible and_intros
   iterate 2 omega
   exact oA.1;exact oA.2.1;exact S.avJ oA h3;rfl
   . have:=S.amQ d ts x1;have:=oA.2.2.1;omega
   iterate 2 omega
   refine⟨(x1+nat_lit 1),?_⟩;try dsimp only
   with_reducible and_intros
   omega;rfl;exact S.ahN h3;iterate 2 rfl
   . unfold S.gP;omega
   simp only [S.al,S.len];omega
 grind[df,S.amR]
def aoD(y1:List B8)(y2:List (Int×Int×List (B8×List Int)))(l:List (Int×B8))(hp:S.eR l)(hf:Vg.bo J.Aq (y1,y2,l)):q54 (ya (akZ (S.iK y1 y2).2) ([]=(S.abP y1 y2 l).1) (7=(S.abP y1 y2 l).2) (S.eR l) (yz (Bool.not (S.bL l)) ([]=(S.abP y1 y2 l).1) (1=(S.abP y1 y2 l).2) (S.small l) (∃(x1:Nat),((0:Int)=x1/\(S.iK y1 y2).2=0/\S.aA l=S.aA l/\(S.iK y1 y2).1.1=S.len y1/\(S.iK y1 y2).1.2.1=aFv y1/\(S.iK y1 y2).1.2.2=S.cL y1 y2/\[]=S.lD y2 (S.aA l) x1)/\S.gP y2 x1/\S.gC y1 y2/\S.bL l) (∀(x2:Nat),S.gP y2 x2/\S.gC y1 y2/\S.bL l->q79 (decide ((x2:Int)<length y2)) 0 x2 (length y2) ((S.Mf (getD y2 (toNat x2) (0,0,[])).2.2 (S.aA l)/\(0:Int)=0)/\qV (length (S.lD y2 (S.aA l) x2)+length [S.Od (getD y2 (toNat x2) (0,0,[])).2.2 (S.aA l)])/\q80 x2 (∃(x3:Nat),MP x2 x3 aDM (S.aA l=S.aA l/\(S.len y1:Int)=S.len y1/\aFv y1=aFv y1/\S.cL y1 y2=S.cL y1 y2/\S.lD y2 (S.aA l) x2++[S.Od (getD y2 (toNat x2) (0,0,[])).2.2 (S.aA l)]=S.lD y2 (S.aA l) x3) (S.gP y2 x3/\S.gC y1 y2/\S.bL l) (S.len y2))) (yz (aF0 0) ([]=(S.abP y1 y2 l).1) (0=(S.abP y1 y2 l).2) (S.ti (S.lD y2 (S.aA l) x2)) ((S.nG (S.len y1) (aFv y1) (S.cL y1 y2) (S.lD y2 (S.aA l) x2)).1=(S.abP y1 y2 l).1) ((S.nG (S.len y1) (aFv y1) (S.cL y1 y2) (S.lD y2 (S.aA l) x2)).2=(S.abP y1 y2 l).2))))):=by
 refine aP ?_;have YF:Vg.hlen y2:=hf.2.1.1;with_reducible and_intros
 trivial;grind[nt,df,S.avK];intro h2;simp at h2;with_reducible and_intros
 omega;grind[nt,S.amV];intro h4;simp at h4;with_reducible and_intros
 exact hp.1
 . refine⟨(nat_lit 0:Nat),?_⟩;dsimp only;with_reducible and_intros
   iterate 2 omega
   rfl;exact(S.Fq h2).2.1;iterate 2 (simp_all[S.Fq])
   rfl;exact Nat.zero_le _;grind[S.Fq];omega
 intro x5 h6;refine V.dI (λh7=>?_) λh8=>?_
 . with_reducible and_intros
   iterate 2 omega
   exact S.amU h6.2.1 h6.2.2 h7;rfl
   . have:=S.amS y2 (S.aA l) x5;have:=S.PZ h6.2.1;rw [W!];omega
   iterate 2 omega
   refine⟨(x5+nat_lit 1),?_⟩;try dsimp only
   with_reducible and_intros
   omega;iterate 5 rfl
   exact S.ahO h7
   . unfold S.gP;omega
   exact h6.2.1;omega;simp only [S.al,S.len];omega
 refine⟨?_,?_⟩
 . intro h9;refine⟨?_,?_⟩
   . grind
   grind
 grind[S.amW]
def aoE(i n:Int)(hp:S.mW i n):(∃(x1:Int×Int×List Bool),(i=x1.1/\n=x1.2.1/\[]=x1.2.2)/\S.jf i n x1)/\(∀(x2:Int×Int×List Bool),S.jf i n x2->q19 (decide (1<x2.2.1)) True (ya (decide (x2.1<S.split x2.2.1)) (py (length x2.2.2+length [false])) (∃(x3:Int×Int×List Bool),(x2.1=x3.1/\S.split x2.2.1=x3.2.1/\x2.2.2++[false]=x3.2.2)/\S.jf i n x3/\aDZ x3.2.1 (toNat x2.2.1)) (py (length x2.2.2+length [true])) (q26 (x2.1-S.split x2.2.1)/\q26 (x2.2.1-S.split x2.2.1)/\(∃(x4:Int×Int×List Bool),(x2.1-S.split x2.2.1=x4.1/\x2.2.1-S.split x2.2.1=x4.2.1/\x2.2.2++[true]=x4.2.2)/\S.jf i n x4/\aDZ x4.2.1 (toNat x2.2.1)))) (x2.2.2=S.bl i n)):=by
 refine aP ?_;refine⟨?_,?_⟩
 . refine⟨((i),((n),([]))),?_⟩;grind[S.aBw]
 intro x1 h2;refine⟨?_,?_⟩
 . intro h3;with_reducible and_intros
   trivial
   . intro h4;refine⟨?_,?_⟩
     . grind[S.Mg,lc,ln]
     refine⟨((Prod.fst x1),((S.split (Prod.fst (Prod.snd x1))),(Prod.snd (Prod.snd x1)++[Bool.false]))),?_⟩;grind[S.aBx,S.Mg]
   intro h5;simp at h5;with_reducible and_intros
   grind[S.Mg,lc,ln];omega;iterate 3 (grind[S.Mg])
   refine⟨((Prod.fst x1-S.split (Prod.fst (Prod.snd x1))),((Prod.fst (Prod.snd x1)-S.split (Prod.fst (Prod.snd x1))),(Prod.snd (Prod.snd x1)++[Bool.true]))),?_⟩;grind[S.aBy,S.Mg]
 grind[df,S.sd_end]
def aoF(d:B8)(i n:Int)(p:List B8)(hp:S.dz p)(hf:Vg.bo J.atM (d,i,n,p)):yz (q29 (aFi d) (yA n (1:Int) (yA (1099511627776:Int) n (yA i (0:Int) (decide (n<=i)))))) (([]:B8)=S.mV d i n p) ((1:Int)=S.fc d i n p) (S.mW i n) (aA5 (hU (wD p) (length (S.bl i n):Int))) (ya (aDL (hU (wD p) (length (S.bl i n):Int)) (S.cY p)) (([]:B8)=S.mV d i n p) ((6:Int)=S.fc d i n p) (∃(x1:Nat),((0:Int)=(x1:Int)/\d=S.gQ d i n p x1)/\S.fc d i n p=(0:Int)/\x1<=S.len p) (∀(x2:Nat),S.fc d i n p=(0:Int)/\x2<=S.len p->ya (decide ((x2:Int)<wD p)) (q26 ((length (S.bl i n):Int)-(1:Int))) (Dp ((length (S.bl i n):Int)-(1:Int)-(x2:Int)) (0:Int) (length (S.bl i n):Int) (toNat ((length (S.bl i n):Int)-(1:Int)-(x2:Int))<length (S.bl i n)/\((getD (S.bl i n) (toNat ((length (S.bl i n):Int)-(1:Int)-(x2:Int))) false=true->q25 (0:Int) (x2:Int) (wD p)/\True)/\(getD (S.bl i n) (toNat ((length (S.bl i n):Int)-(1:Int)-(x2:Int))) false=false->q25 (0:Int) (x2:Int) (wD p)/\True))/\q80 (x2:Int) (∃(x3:Nat),((x2:Int)+(1:Int)=(x3:Int)/\(bif getD (S.bl i n) (toNat ((length (S.bl i n):Int)-(1:Int)-(x2:Int))) false then S.bc (q93 p (x2:Int)) (S.gQ d i n p x2) else S.bc (S.gQ d i n p x2) (q93 p (x2:Int)))=S.gQ d i n p x3)/\(S.fc d i n p=(0:Int)/\x3<=S.len p)/\yb (S.len p) x3 x2))) (S.gQ d i n p x2=S.mV d i n p) ((0:Int)=S.fc d i n p))):=by
 refine aP ?_;have Ĺ:Vg.hlen p:=hf.2.2.2.1.1;refine⟨?_,?_⟩
 . grind[S.ahQ]
 intro h2;simp at h2;with_reducible and_intros
 grind[S.Sm];iterate 2 grind
 grind[S.Ě];intro h6;simp at h6;refine⟨?_,?_⟩
 . grind[S.aBz,S.avL]
 intro x7 h8;refine⟨?_,?_⟩
 . intro h9;simp at h9;with_reducible and_intros
   iterate 7 omega
   iterate 2 grind
   iterate 2 omega
   refine⟨(x7+nat_lit 1),?_⟩;dsimp only;with_reducible and_intros
   omega
   ((exact S.ahR x! w!))
   omega;iterate 2 (grind [S.al,S.len])
 grind[df,S.Mh,S.Sm,S.Bj,S.amY]
def aDu(b:B8)(hp:b.length<=140737488355328):q40 b/\q19 (akZ (S.af b 0 0).1.2.2) ([]=(S.JI b).1) ((S.af b 0 0).1.2.2=(S.JI b).2) (ya (decide (1000<(S.af b 0 0).2)) ([]=(S.JI b).1) (2=(S.JI b).2) (∃(x1:Nat×Int×Int×Int×List Int),((0:Int)=x1.1/\-1=x1.2.2.2.1/\[]=x1.2.2.2.2/\(S.af b 0 0).1.1=b/\(S.af b 0 0).1.2.1=x1.2.1/\(S.af b 0 0).1.2.2=x1.2.2.1)/\S.afq b x1.1 x1.2) (∀(x2:Nat×Int×Int×Int×List Int),S.afq b x2.1 x2.2->ya (decide (x2.1<(S.af b 0 0).2)) (q40 b) (MJ (akZ (S.af b x2.2.1 x2.2.2.1).1.2.2) ([]=(S.JI b).1) ((S.af b x2.2.1 x2.2.2.1).1.2.2=(S.JI b).2) (999-x2.2.2.2.1) (q26 (999-x2.2.2.2.1-1)/\MJ (decide (999-x2.2.2.2.1-1<(S.af b x2.2.1 x2.2.2.1).2)) ([]=(S.JI b).1) (2=(S.JI b).2) ((S.af b x2.2.1 x2.2.2.1).2+1) (q26 (x2.2.2.2.1+((S.af b x2.2.1 x2.2.2.1).2+1))/\abF x2.2.2.2.2 [x2.2.2.2.1+((S.af b x2.2.1 x2.2.2.1).2+1)]/\q26 (x2.1+1)/\(∃(x3:Nat×Int×Int×Int×List Int),((x2.1:Int)+1=x3.1/\x2.2.2.2.1+((S.af b x2.2.1 x2.2.2.1).2+1)=x3.2.2.2.1/\x2.2.2.2.2++[x2.2.2.2.1+((S.af b x2.2.1 x2.2.2.1).2+1)]=x3.2.2.2.2/\(S.af b x2.2.1 x2.2.2.1).1.1=b/\(S.af b x2.2.1 x2.2.2.1).1.2.1=x3.2.1/\(S.af b x2.2.1 x2.2.2.1).1.2.2=x3.2.2.1)/\S.afq b x3.1 x3.2/\yb 1000 x3.1 x2.1)))) True (ya (akZ (S.done b x2.2.1 x2.2.2.1)) ([]=(S.JI b).1) (S.done b x2.2.1 x2.2.2.1=(S.JI b).2) (x2.2.2.2.2=(S.JI b).1) (0=(S.JI b).2)))):=by
 refine aP ?_;with_reducible and_intros
 grind
 . intro h1;simp at h1;refine⟨?_,?_⟩
   . exact(S.auN h1).1
   exact(S.auN h1).2
 intro h2;simp at h2;refine V.dI (λh3=>?_) λh4=>?_
 . refine⟨?_,?_⟩
   . exact(S.aul h2 h3).1
   exact(S.aul h2 h3).2
 refine⟨?_,?_⟩
 . refine⟨((nat_lit 0:Nat),((Prod.fst (Prod.snd (Prod.fst (S.af b (0:Int) (0:Int))))),((Prod.snd (Prod.snd (Prod.fst (S.af b (0:Int) (0:Int))))),(((-1:Int)),([]))))),?_⟩;with_reducible and_intros
   grind;iterate 2 rfl
   grind[S.JB];iterate 2 rfl
   exact S.aFZ h2 h4
 intro x5 h6;refine V.dI (λh7=>?_) λjH=>?_
 . with_reducible and_intros
   omega
   . intro h8;try simp only [nt,df] at h8
     refine⟨?_,?_⟩
     . exact(S.auO h6 h7 h8).1
     exact(S.auO h6 h7 h8).2
   intro h9;try simp only [nf,dt] at h9
   with_reducible and_intros
   iterate 4
    . (have q1:=h6.2.2.2.2.1;have q2:=h6.2.2.2.2.2.1;have q3:=h6.2.2.2.2.2.2;have q4:=h6.2.2.1;have q5:=S.adB b x5.2.1 x5.2.2.1;have q6:=h6.1;omega)
   . intro h10;try simp only [dt] at h10
     refine⟨?_,?_⟩
     . exact(S.auP h6 h7 h9 w!).1
     exact(S.auP h6 h7 h9 w!).2
   intro iR;try simp only [df] at iR
   with_reducible and_intros
   iterate 4
    . (have q1:=h6.2.2.2.2.1;have q2:=h6.2.2.2.2.2.1;have q3:=h6.2.2.2.2.2.2;have q4:=h6.2.2.1;have q5:=S.adB b x5.2.1 x5.2.2.1;have q6:=h6.1;omega)
   . (have q1:=h6.2.2.2.2.1;have q2:=h6.2.2.2.2.2.1;have q3:=h6.2.2.2.2.2.2;have q4:=h6.2.2.1;have q5:=S.adB b x5.2.1 x5.2.2.1;have q6:=h6.1;have q7:(S.Sq b).2=(S.af b 0 0).2:=rfl;rw [W!];omega)
   . (have q1:=h6.2.2.2.2.1;have q2:=h6.2.2.2.2.2.1;have q3:=h6.2.2.2.2.2.2;have q4:=h6.2.2.1;have q5:=S.adB b x5.2.1 x5.2.2.1;have q6:=h6.1;omega)
   . (have q1:=h6.2.2.2.2.1;have q2:=h6.2.2.2.2.2.1;have q3:=h6.2.2.2.2.2.2;have q4:=h6.2.2.1;have q5:=S.adB b x5.2.1 x5.2.2.1;have q6:=h6.1;have q7:(S.Sq b).2=(S.af b 0 0).2:=rfl;omega)
   refine⟨((Prod.fst x5+nat_lit 1),((Prod.fst (Prod.snd (Prod.fst (S.af b (Prod.fst (Prod.snd x5)) (Prod.fst (Prod.snd (Prod.snd x5))))))),((Prod.snd (Prod.snd (Prod.fst (S.af b (Prod.fst (Prod.snd x5)) (Prod.fst (Prod.snd (Prod.snd x5))))))),((Prod.fst (Prod.snd (Prod.snd (Prod.snd x5)))+(Prod.snd (S.af b (Prod.fst (Prod.snd x5)) (Prod.fst (Prod.snd (Prod.snd x5))))+(1:Int))),(Prod.snd (Prod.snd (Prod.snd (Prod.snd x5)))++[Prod.fst (Prod.snd (Prod.snd (Prod.snd x5)))+(Prod.snd (S.af b (Prod.fst (Prod.snd x5)) (Prod.fst (Prod.snd (Prod.snd x5))))+(1:Int))]))))),?_⟩;try dsimp only
   with_reducible and_intros
   . (have q1:=h6.2.2.2.2.1;have q2:=h6.2.2.2.2.2.1;have q3:=h6.2.2.2.2.2.2;have q4:=h6.2.2.1;have q5:=S.adB b x5.2.1 x5.2.2.1;have q6:=h6.1;have q7:(S.Sq b).2=(S.af b 0 0).2:=rfl;omega)
   iterate 2 with_reducible rfl
   exact(S.JB b _ _).1;iterate 2 with_reducible rfl
   exact S.aBR h6 h7 h9 w!
   . (have q1:=h6.2.2.2.2.1;have q2:=h6.2.2.2.2.2.1;have q3:=h6.2.2.2.2.2.2;have q4:=h6.2.2.1;have q5:=S.adB b x5.2.1 x5.2.2.1;have q6:=h6.1;have q7:(S.Sq b).2=(S.af b 0 0).2:=rfl;simp only [S.al];omega)
 with_reducible and_intros
 trivial
 . intro mv;simp at mv;refine⟨?_,?_⟩
   . rw [S.ak3 h6 jH,Q! mv]
   rw [S.ak3 h6 jH,Q! mv]
 intro rY;simp at rY;refine⟨?_,?_⟩
 . rw [S.ak3 h6 jH,R! rY]
 rw [S.ak3 h6 jH,R! rY]
def aoG(n:Int)(p q:Bool):eP p q=S.Cd p q:=by
 refine aP ?_;grind[S.Cd]
def aoH(n:Int)(p q:Bool):q29 p q=S.Oe p q:=by
 refine aP ?_;rfl
def aoI(n:Int)(p q:Bool):eP p (Bool.not q)=S.Ce p q:=by
 refine aP ?_;grind[S.Ce]
def aoJ(a b:List Int):aFf (∃(x1:List Int×List Int×List Int),aG5 a x1.1 b x1.2.1 ([]=x1.2.2)/\S.kp S.Cd a b x1) (∀(x2:List Int×List Int×List Int),S.kp S.Cd a b x2->q19 (q29 (azw (q48 x2.1)) (azw (q48 x2.2.1))) (aFh (azw (q48 x2.1)) (FI (q48 x2.2.1)) 0 (q48 x2.1) (q48 x2.2.1)) (aFh (azw (q48 x2.2.1)) (FI (q48 x2.1)) 0 (q48 x2.2.1) (q48 x2.1)/\aFd (aF4 x2) 0 (q48 x2.1) 1/\aFd (aEK x2) 0 (q48 x2.2.1) 1/\q54 (q19 (S.Cd (aF4 x2) (aEK x2)) (abF x2.2.2 [aEA (aEK x2) (aEL x2) (aF4 x2) (aF5 x2) 0]) (∃(x3:List Int×List Int×List Int),(MM (aF4 x2) 1 x2.1=x3.1/\MM (aEK x2) 1 x2.2.1=x3.2.1/\x2.2.2++[aEA (aEK x2) (aEL x2) (aF4 x2) (aF5 x2) 0]=x3.2.2)/\S.kp S.Cd a b x3/\S.gZ x3<S.gZ x2) (∃(x4:List Int×List Int×List Int),(MM (aF4 x2) 1 x2.1=x4.1/\MM (aEK x2) 1 x2.2.1=x4.2.1/\x2.2.2=x4.2.2)/\S.kp S.Cd a b x4/\S.gZ x4<S.gZ x2))) (x2.2.2=S.Dg a b)):=by
 refine aP ?_;refine⟨trivial,trivial,⟨(S.tH a,S.tH b,[]),⟨S.Bl a,S.Bl b,rfl⟩,S.ahW ..⟩,λx h=>⟨λhc=>?_,λhc=>S.Sr rfl h hc⟩⟩;have q:=S.Yl rfl h hc;refine⟨⟨λh1=>⟨λ_=>trivial,λh2=>⟨⟨Int.le_refl _,of_decide_eq_true h1⟩,Int.le_refl _,x!⟩⟩,λ_=>trivial⟩,⟨λh1=>⟨λ_=>trivial,λh2=>⟨⟨Int.le_refl _,of_decide_eq_true h1⟩,Int.le_refl _,x!⟩⟩,λ_=>trivial⟩,⟨λhA=>⟨⟨Int.le_refl _,(S.lq hA).1⟩,by decide,(S.lq hA).2⟩,λ_=>trivial⟩,⟨λhA=>⟨⟨Int.le_refl _,(S.lq hA).1⟩,by decide,(S.lq hA).2⟩,λ_=>trivial⟩,trivial,λhk=>⟨x!,(S.oc (S.iw x.1 x.2.1) x.1,S.oc (S.iw x.2.1 x.1) x.2.1,x.2.2++[S.Fw x.1 x.2.1]),⟨rfl,rfl,rfl⟩,q.2.1 hk,q.2.2.2.1⟩,λhk=>⟨(S.oc (S.iw x.1 x.2.1) x.1,S.oc (S.iw x.2.1 x.1) x.2.1,x.2.2),⟨rfl,rfl,rfl⟩,q.2.2.1 hk,q.2.2.2.2⟩⟩
def aoK(a b:List Int):aFf (∃(x1:List Int×List Int×List Int),aG5 a x1.1 b x1.2.1 ([]=x1.2.2)/\S.kp S.Oe a b x1) (∀(x2:List Int×List Int×List Int),S.kp S.Oe a b x2->q19 (q29 (azw (q48 x2.1)) (azw (q48 x2.2.1))) (aFh (azw (q48 x2.1)) (FI (q48 x2.2.1)) 0 (q48 x2.1) (q48 x2.2.1)) (aFh (azw (q48 x2.2.1)) (FI (q48 x2.1)) 0 (q48 x2.2.1) (q48 x2.1)/\aFd (aF8 x2) 0 (q48 x2.1) 1/\aFd (aE5 x2) 0 (q48 x2.2.1) 1/\q54 (q19 (S.Oe (aF8 x2) (aE5 x2)) (abF x2.2.2 [aEA (aE5 x2) (aF9 x2) (aF8 x2) (aE2 x2) 0]) (∃(x3:List Int×List Int×List Int),(MM (aF8 x2) 1 x2.1=x3.1/\MM (aE5 x2) 1 x2.2.1=x3.2.1/\x2.2.2++[aEA (aE5 x2) (aF9 x2) (aF8 x2) (aE2 x2) 0]=x3.2.2)/\S.kp S.Oe a b x3/\S.gZ x3<S.gZ x2) (∃(x4:List Int×List Int×List Int),(MM (aF8 x2) 1 x2.1=x4.1/\MM (aE5 x2) 1 x2.2.1=x4.2.1/\x2.2.2=x4.2.2)/\S.kp S.Oe a b x4/\S.gZ x4<S.gZ x2))) (x2.2.2=S.tm a b)):=by
 refine aP ?_;refine⟨trivial,trivial,⟨(S.tH a,S.tH b,[]),⟨S.Bl a,S.Bl b,rfl⟩,S.ahW ..⟩,λx h=>⟨λhc=>?_,λhc=>S.Sr rfl h hc⟩⟩;have q:=S.Yl rfl h hc;refine⟨⟨λh1=>⟨λ_=>trivial,λh2=>⟨⟨Int.le_refl _,of_decide_eq_true h1⟩,Int.le_refl _,x!⟩⟩,λ_=>trivial⟩,⟨λh1=>⟨λ_=>trivial,λh2=>⟨⟨Int.le_refl _,of_decide_eq_true h1⟩,Int.le_refl _,x!⟩⟩,λ_=>trivial⟩,⟨λhA=>⟨⟨Int.le_refl _,(S.lq hA).1⟩,by decide,(S.lq hA).2⟩,λ_=>trivial⟩,⟨λhA=>⟨⟨Int.le_refl _,(S.lq hA).1⟩,by decide,(S.lq hA).2⟩,λ_=>trivial⟩,trivial,λhk=>⟨x!,(S.oc (S.iw x.1 x.2.1) x.1,S.oc (S.iw x.2.1 x.1) x.2.1,x.2.2++[S.Fw x.1 x.2.1]),⟨rfl,rfl,rfl⟩,q.2.1 hk,q.2.2.2.1⟩,λhk=>⟨(S.oc (S.iw x.1 x.2.1) x.1,S.oc (S.iw x.2.1 x.1) x.2.1,x.2.2),⟨rfl,rfl,rfl⟩,q.2.2.1 hk,q.2.2.2.2⟩⟩
def aoL(a b:List Int):aFf (∃(x1:List Int×List Int×List Int),aG5 a x1.1 b x1.2.1 ([]=x1.2.2)/\S.kp S.Ce a b x1) (∀(x2:List Int×List Int×List Int),S.kp S.Ce a b x2->q19 (q29 (azw (q48 x2.1)) (azw (q48 x2.2.1))) (aFh (azw (q48 x2.1)) (FI (q48 x2.2.1)) 0 (q48 x2.1) (q48 x2.2.1)) (aFh (azw (q48 x2.2.1)) (FI (q48 x2.1)) 0 (q48 x2.2.1) (q48 x2.1)/\aFd (aE0 x2) 0 (q48 x2.1) 1/\aFd (aE1 x2) 0 (q48 x2.2.1) 1/\q54 (q19 (S.Ce (aE0 x2) (aE1 x2)) (abF x2.2.2 [aEA (aE1 x2) (aF7 x2) (aE0 x2) (aF6 x2) 0]) (∃(x3:List Int×List Int×List Int),(MM (aE0 x2) 1 x2.1=x3.1/\MM (aE1 x2) 1 x2.2.1=x3.2.1/\x2.2.2++[aEA (aE1 x2) (aF7 x2) (aE0 x2) (aF6 x2) 0]=x3.2.2)/\S.kp S.Ce a b x3/\S.gZ x3<S.gZ x2) (∃(x4:List Int×List Int×List Int),(MM (aE0 x2) 1 x2.1=x4.1/\MM (aE1 x2) 1 x2.2.1=x4.2.1/\x2.2.2=x4.2.2)/\S.kp S.Ce a b x4/\S.gZ x4<S.gZ x2))) (x2.2.2=S.Mi a b)):=by
 refine aP ?_;refine⟨trivial,trivial,⟨(S.tH a,S.tH b,[]),⟨S.Bl a,S.Bl b,rfl⟩,S.ahW ..⟩,λx h=>⟨λhc=>?_,λhc=>S.Sr rfl h hc⟩⟩;have q:=S.Yl rfl h hc;refine⟨⟨λh1=>⟨λ_=>trivial,λh2=>⟨⟨Int.le_refl _,of_decide_eq_true h1⟩,Int.le_refl _,x!⟩⟩,λ_=>trivial⟩,⟨λh1=>⟨λ_=>trivial,λh2=>⟨⟨Int.le_refl _,of_decide_eq_true h1⟩,Int.le_refl _,x!⟩⟩,λ_=>trivial⟩,⟨λhA=>⟨⟨Int.le_refl _,(S.lq hA).1⟩,by decide,(S.lq hA).2⟩,λ_=>trivial⟩,⟨λhA=>⟨⟨Int.le_refl _,(S.lq hA).1⟩,by decide,(S.lq hA).2⟩,λ_=>trivial⟩,trivial,λhk=>⟨x!,(S.oc (S.iw x.1 x.2.1) x.1,S.oc (S.iw x.2.1 x.1) x.2.1,x.2.2++[S.Fw x.1 x.2.1]),⟨rfl,rfl,rfl⟩,q.2.1 hk,q.2.2.2.1⟩,λhk=>⟨(S.oc (S.iw x.1 x.2.1) x.1,S.oc (S.iw x.2.1 x.1) x.2.1,x.2.2),⟨rfl,rfl,rfl⟩,q.2.2.1 hk,q.2.2.2.2⟩⟩
def aoM(a b:List Int):q54 (S.Dg a b=S.Dg a b):=by
 refine aP ?_;grind
def aoN(a b:List Int):q54 (S.tm a b=S.tm a b):=by
 refine aP ?_;grind
def aoO(a b:List Int):q54 (S.Mi a b=S.Mi a b):=by
 refine aP ?_;grind
def aoP(s:B8):Bool.not (decide (s=s))=false:=by
 grind
def aoQ(a b:B8):afu (aA5 false) ((bif false then q29 (Bool.not false) (Op.bytesLess a b) else Op.bytesLess a b)=Op.bytesLess a b):=by
 refine aP ?_;grind
def aoR(x:List B8)(t:B8)(hp:S.vj x):(∃(x1:Int×Int),(0=x1.1/\wD x=x1.2)/\S.qk x t x1.1 x1.2)/\(∀(x2:Int×Int),S.qk x t x2.1 x2.2->ya (decide (x2.1<x2.2)) (q26 (x2.1+x2.2)) (aAM 1 64/\Dp (aDS x2) 0 (wD x) (afu (q19 (Op.bytesLess (q93 x (aDS x2)) t) (-9223372036854775808<=aDS x2+1) (aDS x2+1<=9223372036854775807) True) (∃(x3:Int×Int),((bif Op.bytesLess (q93 x (aDS x2)) t then aDS x2+1 else x2.1)=x3.1/\aFY (Op.bytesLess (q93 x (aDS x2)) t) x2.2 (aDS x2) x3.2)/\S.qk x t x3.1 x3.2/\aDZ (x3.2-x3.1) (toNat (x2.2-x2.1))))) (q79 (decide (x2.1<wD x)) 0 x2.1 (wD x) (q68 (decide (q93 x x2.1=t)) (q25 0 x2.1 (wD x)/\q54 (aA5 false))) True) ((bif decide (x2.1<wD x) then bif decide (q93 x x2.1=t) then x2.1 else bif false then x2.1 else x2.1 else x2.1)=S.ni x t/\eP (decide (x2.1<wD x)) (q29 (decide (q93 x x2.1=t)) (bif false then false else false))=S.Ag x t)):=by
 refine aP ?_;refine⟨?_,?_⟩
 . refine⟨(((0:Int)),((↑(length x):Int))),?_⟩;with_reducible and_intros
   iterate 2 rfl
   exact⟨P? _,w!,P? _,λk hk=>by omega,λk hk hk2=>by omega⟩
 intro x1 h2;refine V.dI (λh3=>?_) λh6=>?_
 . with_reducible and_intros
   iterate 2
    . obtain⟨e,q1,q2,q3,q4,q5⟩:=S.Bm hp h2 h3;omega
   iterate 2 omega
   iterate 3 grind
   . obtain⟨e,q1,q2,q3,q4,q5⟩:=S.Bm hp h2 h3;omega
   trivial
   . intro h4;refine⟨?_,?_⟩
     . grind
     obtain⟨e,q1,q2,q3,q4,q5⟩:=S.Bm hp h2 h3;omega
   grind;refine⟨((bif Op.bytesLess (getD x (toNat ((Prod.fst x1+Prod.snd x1)%(18446744073709551616:Int)/(2:Int)^toNat (1:Int))) []) t then(Prod.fst x1+Prod.snd x1)%(18446744073709551616:Int)/(2:Int)^toNat (1:Int)+(1:Int) else Prod.fst x1),(bif Op.bytesLess (getD x (toNat ((Prod.fst x1+Prod.snd x1)%(18446744073709551616:Int)/(2:Int)^toNat (1:Int))) []) t then Prod.snd x1 else(Prod.fst x1+Prod.snd x1)%(18446744073709551616:Int)/(2:Int)^toNat (1:Int))),?_⟩;with_reducible and_intros
   iterate 2 rfl
   . obtain⟨e,q1,q2,q3,q4,q5⟩:=S.Bm hp h2 h3;rw [e];exact(S.ahX hp h2 q2 q3).1
   obtain⟨e,q1,q2,q3,q4,q5⟩:=S.Bm hp h2 h3;grind
 with_reducible and_intros
 . intro h7;simp at h7;with_reducible and_intros
   . have q:=h2.1;omega
   omega;grind;intro h9;with_reducible and_intros
   . have q:=h2.1;omega
   omega;trivial;iterate 2 grind
 grind;grind[S.am1];exact S.am2 hp h2 h6
def aoS(s:B8)(t:List B8)(f:List (List Int))(hp:S.Ah t f):S.vj t/\q17 (Bool.not (S.Ag t s)) ([]=S.lE t f s) (q25 0 (S.ni t s) (length f)/\S.small (aD1 f (toNat (S.ni t s)))/\aD1 f (toNat (S.ni t s))=S.lE t f s):=by
 refine aP ?_;with_reducible and_intros
 exact hp.1;grind[nt,S.am5];intro h2;with_reducible and_intros
 omega
 . have q:=(S.Yn hp (s:=s) x!).1;omega
 exact(S.Yn hp x!).2.1;exact(S.Yn hp x!).2.2
def aoT(s:B8)(l:List (List Int))(hp:S.qD l):aH4 (ame l-1) (ame l-1-1) 0 (ame l) (toNat (ame l-1-1)) (ame l) (toNat (ame l-1)) [S.Dg (aD1 l (toNat (ame l-1-1))) (aD1 l (toNat (ame l-1)))] l 1:=by
 refine aP ?_;obtain⟨p1,p2⟩:=hp;have p3:l.length<=1099511627776:=p2;have e1:toNat ((l.length:Int)-1-1)=l.length-2:=by omega
 have e2:toNat ((l.length:Int)-1)=l.length-1:=by omega
 with_reducible and_intros
 iterate 14 omega
 trivial;grind[List.length_singleton];rw [e1,e2];rfl
def aoU(s:B8)(l:List (List Int))(hp:S.qD l):aH4 (axp l-1) (axp l-1-1) 0 (axp l) (toNat (axp l-1-1)) (axp l) (toNat (axp l-1)) [S.tm (aD1 l (toNat (axp l-1-1))) (aD1 l (toNat (axp l-1)))] l 2:=by
 refine aP ?_;obtain⟨p1,p2⟩:=hp;have p3:l.length<=1099511627776:=p2;have e1:toNat ((l.length:Int)-1-1)=l.length-2:=by omega
 have e2:toNat ((l.length:Int)-1)=l.length-1:=by omega
 with_reducible and_intros
 iterate 14 omega
 trivial;grind[List.length_singleton];rw [e1,e2];rfl
def aoV(s:B8)(l:List (List Int))(hp:S.qD l):aH4 (abE l-1) (abE l-1-1) 0 (abE l) (toNat (abE l-1-1)) (abE l) (toNat (abE l-1)) [S.Mi (aD1 l (toNat (abE l-1-1))) (aD1 l (toNat (abE l-1)))] l 3:=by
 refine aP ?_;obtain⟨p1,p2⟩:=hp;have p3:l.length<=1099511627776:=p2;have e1:toNat ((l.length:Int)-1-1)=l.length-2:=by omega
 have e2:toNat ((l.length:Int)-1)=l.length-1:=by omega
 with_reducible and_intros
 iterate 14 omega
 trivial;grind[List.length_singleton];rw [e1,e2];rfl
def aoW(s:B8)(t:List B8)(f l:List (List Int))(hp:S.Ah t f/\S.small l):S.Ah t f/\qV (length l+length [S.lE t f s])/\[t]=[t]/\0=0/\[f]=[f]/\0=0/\l++[S.lE t f s]=S.Fv l (S.lE t f s):=by
 refine aP ?_;with_reducible and_intros
 grind;grind[S.small,List.length_singleton];iterate 5 rfl
def aoX(l:List (Int×B8))(t:List B8)(f:List (List Int))(hp:S.Dh l t f)(hf:Vg.dL J.MF (l,t,f)):(∃(x1:Nat),((0:Int)=x1/\[]=S.fy (S.lE t f) l x1/\[t]=[t]/\0=0/\[f]=[f]/\0=0)/\S.ob l (S.fy (S.lE t f) l x1) x1)/\(∀(x2:Nat),S.ob l (S.fy (S.lE t f) l x2) x2->yz (decide ((x2:Int)<length l)) (q25 0 x2 (length l)) (((aAo l x2).1=0->(aAo l x2).1=0/\(S.Ah t f/\S.small (S.fy (S.lE t f) l x2))/\q80 x2 (∃(x3:Nat),((x2:Int)+1=x3/\S.Fv (S.fy (S.lE t f) l x2) (S.lE t f (aAo l x2).2)=S.fy (S.lE t f) l x3/\[t]=[t]/\0=0/\[f]=[f]/\0=0)/\S.ob l (S.fy (S.lE t f) l x3) x3/\q44 (S.len l) x3 (S.al (S.len l) x2)))/\((aAo l x2).1=1->(aAo l x2).1=1/\S.qD (S.fy (S.lE t f) l x2)/\q80 x2 (∃(x4:Nat),((x2:Int)+1=x4/\S.vk 1 (S.fy (S.lE t f) l x2)=S.fy (S.lE t f) l x4/\[t]=[t]/\0=0/\[f]=[f]/\0=0)/\S.ob l (S.fy (S.lE t f) l x4) x4/\q44 (S.len l) x4 (S.al (S.len l) x2)))/\((aAo l x2).1=2->(aAo l x2).1=2/\S.qD (S.fy (S.lE t f) l x2)/\q80 x2 (∃(x5:Nat),((x2:Int)+1=x5/\S.vk 2 (S.fy (S.lE t f) l x2)=S.fy (S.lE t f) l x5/\[t]=[t]/\0=0/\[f]=[f]/\0=0)/\S.ob l (S.fy (S.lE t f) l x5) x5/\q44 (S.len l) x5 (S.al (S.len l) x2)))/\((aAo l x2).1=3->(aAo l x2).1=3/\S.qD (S.fy (S.lE t f) l x2)/\q80 x2 (∃(x6:Nat),((x2:Int)+1=x6/\S.vk 3 (S.fy (S.lE t f) l x2)=S.fy (S.lE t f) l x6/\[t]=[t]/\0=0/\[f]=[f]/\0=0)/\S.ob l (S.fy (S.lE t f) l x6) x6/\q44 (S.len l) x6 (S.al (S.len l) x2)))/\(((aAo l x2).1=0->False)/\((aAo l x2).1=1->False)/\((aAo l x2).1=2->False)/\((aAo l x2).1=3->False)/\True->False)) ((0:Int)<=0/\(0:Int)<length (S.fy (S.lE t f) l x2)) (aDZ 0 (length (S.fy (S.lE t f) l x2))) (aD1 (S.fy (S.lE t f) l x2) (toNat 0)=S.Mj l t f)):=by
 refine aP ?_;have nI:Vg.hlen l:=hf.1.1;refine⟨?_,?_⟩
 . grind[S.ě,S.aBG]
 intro x1 h2;refine V.dI (λh3=>?_) λh9=>?_
 . with_reducible and_intros
   iterate 2 omega
   . intro h4;with_reducible and_intros
     omega;exact hp.2.2;exact S.ads hp h2;iterate 2 omega
     refine⟨(x1+nat_lit 1),?_⟩;try dsimp only
     with_reducible and_intros
     omega;exact S.VQ h3 h4;iterate 4 rfl
     exact S.ahZ h2 h3 h4;simp only [S.al,S.len];omega
   . intro h5;with_reducible and_intros
     omega
     . exact S.JK hp h2 h3 (by rw [show(S.iM l x1).1=1 from h5];decide)
     iterate 2 omega
     refine⟨(x1+nat_lit 1),?_⟩;try dsimp only
     with_reducible and_intros
     omega;exact S.JJ h3 h5 (by decide);iterate 4 rfl
     exact S.Mn hp h2 h3 h5 (by decide);simp only [S.al,S.len];omega
   . intro h6;with_reducible and_intros
     omega
     . exact S.JK hp h2 h3 (by rw [show(S.iM l x1).1=2 from h6];decide)
     iterate 2 omega
     refine⟨(x1+nat_lit 1),?_⟩;try dsimp only
     with_reducible and_intros
     omega;exact S.JJ h3 h6 (by decide);iterate 4 rfl
     exact S.Mn hp h2 h3 h6 (by decide);simp only [S.al,S.len];omega
   . intro h7;with_reducible and_intros
     omega
     . exact S.JK hp h2 h3 (by rw [show(S.iM l x1).1=3 from h7];decide)
     iterate 2 omega
     refine⟨(x1+nat_lit 1),?_⟩;try dsimp only
     with_reducible and_intros
     omega;exact S.JJ h3 h7 (by decide);iterate 4 rfl
     exact S.Mn hp h2 h3 h7 (by decide);simp only [S.al,S.len];omega
   intro h8;have q:0<=(getD l (toNat (x1:Int)) (0,[])).1/\(getD l (toNat (x1:Int)) (0,[])).1<=3:=⟨(S.Ss hp.1 h3).1,(S.Ss hp.1 h3).2.1⟩;grind
 with_reducible and_intros
 omega
 iterate 2
  . have:=S.ĝ hp h2 h9;omega
 rw [(S.ĝ hp h2 h9).2];rfl
def aoY(l:List (Int×B8))(f:List (List Int))(hp:S.eR l)(hf:Vg.bo J.atU (l,f)):S.eR l/\ya (Bool.not (S.bL l)) ([]=(S.kZ l f).1) (1=(S.kZ l f).2) (S.small l) (ya (hU (length f) (wD (S.aA l))) ([]=(S.kZ l f).1) (1=(S.kZ l f).2) (∃(x1:Nat),(0:Int)=x1/\S.Di f x1) (∀(x2:Nat),S.Di f x2->yz (decide ((x2:Int)<length f)) (q25 0 x2 (length f)) (q54 (MJ (Bool.not (S.bF (aD1 f (toNat x2)))) ([]=(S.kZ l f).1) (1=(S.kZ l f).2) (x2+1) (∃(x3:Nat),aCA x2 x3 (S.Di f x3) (S.len f)))) (S.Dh l (S.aA l) f) (S.Mj l (S.aA l) f=(S.kZ l f).1) (0=(S.kZ l f).2))):=by
 refine aP ?_;have ajg:Vg.hlen f:=hf.2.1.1;with_reducible and_intros
 omega
 . intro h1;refine⟨?_,?_⟩
   . exact(S.G1 (by simp_all[S.lN,Bool.false_and])).1
   exact(S.G1 (by simp_all[S.lN,Bool.false_and])).2
 intro h2;simp at h2;with_reducible and_intros
 exact hp.1
 . intro h3;refine⟨?_,?_⟩
   . exact(S.G1 (by simp [S.lN,h2,Bool.true_and];grind)).1
   exact(S.G1 (by simp [S.lN,h2,Bool.true_and];grind)).2
 intro h4;simp at h4;refine⟨?_,?_⟩
 . refine⟨(nat_lit 0:Nat),?_⟩;dsimp only;refine⟨?_,?_⟩
   . omega
   exact⟨Nat.zero_le _,λx hx=>by grind⟩
 intro x5 h6;refine V.dI (λh7=>?_) λh10=>?_
 . with_reducible and_intros
   iterate 2 omega
   trivial
   . intro h8;try simp only [nt] at h8
     refine⟨?_,?_⟩
     . exact(S.G1 (by simp only [S.lN,S.ğ h7 h8,Bool.and_false])).1
     exact(S.G1 (by simp only [S.lN,S.ğ h7 h8,Bool.and_false])).2
   intro h9;try simp only [nf] at h9
   with_reducible and_intros
   iterate 2 omega
   refine⟨(x5+nat_lit 1),?_⟩;try dsimp only
   with_reducible and_intros
   omega;exact S.ah0 h6 h7 h9;simp only [S.al,S.len];omega
 with_reducible and_intros
 exact⟨h2,hp.1,S.P2 hp.1,w!,X!.1 (S.Su h6 (by assumption))⟩
 . exact(S.Ğ (by simp only [S.lN,h2,S.Su h6 (by assumption),Bool.true_and,Bool.and_true];exact H? w!)).1
 . exact(S.Ğ (by simp only [S.lN,h2,S.Su h6 (by assumption),Bool.true_and,Bool.and_true];exact H? w!)).2
def aDv(p1:Int)(p2 p3 p4:B8)(p5:List B8)(p6 t:B8)(e:Int)(hp:S.bQ p6):q17 (decide (p2=t)) (q17 (FI e) (S.bQ p6) True) True/\eP (decide (p2=t)) (aFJ (FI e) (S.lB 2 p6) p4)=S.aBB t e p2 p4 p6:=by
 refine aP ?_;simp_all[dt,df,S.aBB]
def aDw(p1:Int)(p2 p3 p4:B8)(p5:List B8)(p6 t:B8):eP (Op.bytesLess p2 t) (bif Bool.not (aH2 p3 t) then FI (dQ p6) else eP (decide (p3=[])) (FI (dQ p6)))=S.aBC t p2 p3 p6:=by
 refine aP ?_;grind[S.aEF,S.aBC,Op.bytesLess,decide]
def aDx(t:B8)(p1:Int)(p2 p3 p4:B8)(p5:List B8)(p6:B8)(hp:p6.length<=140737488355328):q40 p6/\[t]=[t]/\0=0/\[(S.JI p6).2]=[(S.JI p6).2]/\0=0/\(S.JI p6).1=(S.JI p6).1/\[t]=[t]/\0=0:=by
 refine aP ?_;grind
def aDy(root:B8)(n:Int)(t:B8)(p1:Int)(p2 p3 p4:B8)(p5:List B8)(p6:B8)(hp:S.Mk t p5 p6):q68 (aFi root) (q68 (decide (n<1)) (q68 (decide (1099511627776<n)) (S.small t)))/\ya (aiu (aFi root) (decide (n<1)) (aDL (decide (1099511627776<n)) (S.isTerm t))) ([]=(S.IG root n t (p1,p2,p3,p4,p5,p6)).1) (1=(S.IG root n t (p1,p2,p3,p4,p5,p6)).2) True (yz (akZ (S.rb p2 p3 p4)) ([]=(S.IG root n t (p1,p2,p3,p4,p5,p6)).1) (6=(S.IG root n t (p1,p2,p3,p4,p5,p6)).2) (S.bQ (S.ke p2 p3 p4)) (S.dz p5) (yz (aDL (akZ (S.fc (S.leaf (S.ke p2 p3 p4)) p1 n p5)) (decide (S.mV (S.leaf (S.ke p2 p3 p4)) p1 n p5=root))) ([]=(S.IG root n t (p1,p2,p3,p4,p5,p6)).1) (6=(S.IG root n t (p1,p2,p3,p4,p5,p6)).2) (q40 p6) (∃(x1:Nat),(0:Int)=x1/\S.acr root n t (p1,p2,p3,p4,p5,p6) x1) (∀(x2:Nat),S.acr root n t (p1,p2,p3,p4,p5,p6) x2->q17 (decide ((x2:Int)<((2:Nat):Int))) (((x2:Int)=((0:Nat):Int)->(x2:Int)=((0:Nat):Int)/\S.bQ p6/\MJ (S.aBB t (S.JI p6).2 p2 p4 p6) ((S.JI p6).1=(S.IG root n t (p1,p2,p3,p4,p5,p6)).1) (0=(S.IG root n t (p1,p2,p3,p4,p5,p6)).2) (x2+1) (∃(x3:Nat),(x2:Int)+1=x3/\S.acr root n t (p1,p2,p3,p4,p5,p6) x3/\q44 2 x3 (S.al 2 x2)))/\(x2=aFt->x2=aFt/\q54 (MJ (S.aBC t p2 p3 p6) ([]=(S.IG root n t (p1,p2,p3,p4,p5,p6)).1) (0=(S.IG root n t (p1,p2,p3,p4,p5,p6)).2) (x2+1) (∃(x4:Nat),(x2:Int)+1=x4/\S.acr root n t (p1,p2,p3,p4,p5,p6) x4/\q44 2 x4 (S.al 2 x2))))/\(((x2:Int)=((0:Nat):Int)->False)/\(x2=aFt->False)/\True->False)) ([]=(S.IG root n t (p1,p2,p3,p4,p5,p6)).1/\6=(S.IG root n t (p1,p2,p3,p4,p5,p6)).2)))):=by
 refine aP ?_;with_reducible and_intros
 grind
 . intro h2;refine⟨?_,?_⟩
   . grind
   intro h4;refine⟨?_,?_⟩
   . grind
   intro h6;exact hp.1
 . intro h7;grind[S.auR,S.auS]
 intro h8;with_reducible and_intros
 trivial;grind[nt,df,S.aue,S.ak4,S.auU];intro h10;with_reducible and_intros
 grind[S.aup];exact hp.2.1
 . intro iR;grind[S.aue,S.ak4,S.auW]
 intro jH;with_reducible and_intros
 . have:=hp.2.2.2;grind[S.small]
 grind[S.aEH,S.ak4,S.aEG];intro x13 rY;refine⟨?_,?_⟩
 . intro Hq;try simp only [dt] at Hq
   with_reducible and_intros
   . intro DC;with_reducible and_intros
     exact(by assumption);exact hp.2.2.1
     . intro VY;refine⟨?_,?_⟩
       . exact(S.auX rY VY).1
       exact(S.auX rY VY).2
     intro h18;with_reducible and_intros
     iterate 2 omega
     refine⟨(x13+nat_lit 1),?_⟩;try dsimp only
     with_reducible and_intros
     omega;exact S.aEI rY DC h18;simp only [S.al];omega
   . intro h19;with_reducible and_intros
     exact(by assumption);trivial
     . intro h20;refine⟨?_,?_⟩
       . exact(S.auZ rY h19 h20).1
       exact(S.auZ rY h19 h20).2
     intro vC;with_reducible and_intros
     iterate 2 omega
     refine⟨(x13+nat_lit 1),?_⟩;try dsimp only
     with_reducible and_intros
     omega;exact S.aEJ rY h19 vC;simp only [S.al];omega
   intro h22;have q:(x13:Int)=((0:Nat):Int)\/(x13:Int)=((1:Nat):Int):=by omega
   exact q.elim h22.1 h22.2.1
 grind[df,S.au0]
def ao3(h1:Int)(h2:B8)(h3:List (Int×Int×Int×B8))(root:B8):q54 (aFJ (FI (S.ik h1 h2 h3).2) (S.ik h1 h2 h3).1 root=S.tj h1 h2 h3 root):=by
 refine aP ?_;grind[S.amX]
def ao4(h1:Int)(h2:B8)(h3:List (Int×Int×Int×B8))(root:B8): [(h1,h2,h3)]=[(h1,h2,h3)]/\0=0/\[root]=[root]/\0=0:=by
 grind
def ao5(a1:Int)(a2:B8)(a3:List (Int×Int×Int×B8))(a4:List (List (Int×B8×B8×B8×List B8×B8)))(i:Int)(t:List B8)(hp:0<=i/\i<(S.len a4:Nat)):q25 0 i (length a4)/\decide (length (getD a4 (toNat i) [])=wD t)=S.pn a4 i t:=by
 refine aP ?_;grind[S.pn,S.len]
def aDB(l:List Int)(s1 s2:Int)(hf:Vg.bo J.IK (l,s1,s2)):(∃(x1:Nat),(0:Int)=x1/\S.afc l s1 s2 x1/\x1<=S.len l)/\(∀(x2:Nat),S.afc l s1 s2 x2/\x2<=S.len l->q79 (decide (x2<q48 l)) 0 x2 (q48 l) (VV (yA (aCV l x2) s1 (decide (s2<=aCV l x2))) (S.IE l s1 s2) x2 (∃(x3:Nat),aCA x2 x3 (S.afc l s1 s2 x3/\x3<=S.len l) (S.len l))) (true=S.IE l s1 s2)):=by
 refine aP ?_;have nI:Vg.hlen l:=hf.1.1;have Ho:Vg.hint s1:=hf.2.1;have Hp:Vg.hint s2:=hf.2.2.1;clear hf;refine⟨?_,?_⟩
 . grind[S.afc,S.ajc,S.akY,S.ak2,S.al,S.len]
 intro x1 h2;refine⟨?_,?_⟩
 . intro h3;try simp only [dt] at h3
   with_reducible and_intros
   iterate 2 omega
   . intro h4;try simp only [V.xq,dt,tn] at h4
     grind [S.afc,S.ajc,S.akY,S.ak2,S.al,S.len]
   intro h5;try simp only [V.jz,df,tn] at h5
   with_reducible and_intros
   iterate 2 omega
   refine⟨(x1+nat_lit 1),?_⟩;try dsimp only
   with_reducible and_intros
   omega;iterate 3 (grind [S.afc,S.ajc,S.akY,S.ak2,S.al,S.len])
 grind[df,S.ajc,S.akY,S.ak2]
def ao9(g1 g2 g3:Int)(g4 w:B8)(a1:Int)(a2:B8)(a3:List (Int×Int×Int×B8))(a4:List (List (Int×B8×B8×B8×List B8×B8)))(i j:Int)(xs:List Value)(q:Nat)(l:List Int)(hp:S.Mo w a4 i j/\S.P4 j q xs.length l/\S.rC (g1,g2,g3,g4) w a4 i j=true):q25 0 i (length a4)/\q25 0 j (length (getD a4 (toNat i) []))/\S.Mk w (agd a4 i j).2.2.2.2.1 (agd a4 i j).2.2.2.2.2/\aA5 (akZ (ar8 a4 g3 g4 i j w).2)/\yz (aDL (akZ (ar8 a4 g3 g4 i j w).2) (S.IE (ar8 a4 g3 g4 i j w).1 g1 g2)) (false=true) (xs=xs/\q=q/\l=S.P5 l (S.wA (g1,g2,g3,g4) w a4 i j).1) (q25 0 j (Vg.aW.zg xs)) (toNat j<Vg.aW.zg xs) (toNat j=q/\abF l (ar8 a4 g3 g4 i j w).1/\q25 0 j (Vg.aW.zg xs)/\toNat j<Vg.aW.zg xs/\toNat j=q/\true=true/\xs=xs/\q=q/\l++(ar8 a4 g3 g4 i j w).1=S.P5 l (S.wA (g1,g2,g3,g4) w a4 i j).1):=by
 refine aP ?_;obtain⟨⟨p1,p2,p3⟩,⟨p4,p5,p6⟩,p7⟩:=hp;have p8:(S.wA (g1,g2,g3,g4) w a4 i j).2=0/\S.IE (S.wA (g1,g2,g3,g4) w a4 i j).1 g1 g2=true:=by grind[S.rC]
 have g1':0<=j/\j<(xs.length:Int):=⟨p2.1,w!⟩;have WL:toNat j<xs.length:=by omega
 have g3':(S.wA (g1,g2,g3,g4) w a4 i j).1.length<=1000:=S.P6 _ _ _ _;have g4':l.length<=1099511627776:=p6;have g5':l.length+(S.wA (g1,g2,g3,g4) w a4 i j).1.length<=17592186044416:=by omega
 refine⟨p1,p2,p3,⟨λ_=>trivial,λ_=>trivial⟩,λh3=>?_,λh4=>⟨g1',WL,p4.symm,g5',g1',WL,p4.symm,rfl,rfl,rfl,rfl⟩⟩;change (bif !decide ((S.wA (g1,g2,g3,g4) w a4 i j).2=0) then true else !S.IE (S.wA (g1,g2,g3,g4) w a4 i j).1 g1 g2)=true at h3;grind
def apa(g1 g2 g3:Int)(g4 w:B8)(a1:Int)(a2:B8)(a3:List (Int×Int×Int×B8))(a4:List (List (Int×B8×B8×B8×List B8×B8)))(i j:Int)(xs:List Value)(q:Nat)(l:List Int)(hp:S.Mo w a4 i j/\S.P4 j q xs.length l/\S.rC (g1,g2,g3,g4) w a4 i j=false):q25 0 i (length a4)/\q25 0 j (length (getD a4 (toNat i) []))/\S.Mk w (akE a4 i j).2.2.2.2.1 (akE a4 i j).2.2.2.2.2/\aA5 (akZ (S.IG g4 g3 w ((akE a4 i j).1,(akE a4 i j).2.1,(akE a4 i j).2.2.1,(akE a4 i j).2.2.2.1,(akE a4 i j).2.2.2.2.1,(akE a4 i j).2.2.2.2.2)).2)/\yz (aDL (akZ (S.IG g4 g3 w ((akE a4 i j).1,(akE a4 i j).2.1,(akE a4 i j).2.2.1,(akE a4 i j).2.2.2.1,(akE a4 i j).2.2.2.2.1,(akE a4 i j).2.2.2.2.2)).2) (S.IE (S.IG g4 g3 w ((akE a4 i j).1,(akE a4 i j).2.1,(akE a4 i j).2.2.1,(akE a4 i j).2.2.2.1,(akE a4 i j).2.2.2.2.1,(akE a4 i j).2.2.2.2.2)).1 g1 g2)) (false=false) (xs=xs/\q=q/\l=l) (q25 0 j (Vg.aW.zg xs)) (toNat j<Vg.aW.zg xs) (toNat j=q/\abF l (S.IG g4 g3 w ((akE a4 i j).1,(akE a4 i j).2.1,(akE a4 i j).2.2.1,(akE a4 i j).2.2.2.1,(akE a4 i j).2.2.2.2.1,(akE a4 i j).2.2.2.2.2)).1/\q25 0 j (Vg.aW.zg xs)/\toNat j<Vg.aW.zg xs/\toNat j=q/\true=false/\False/\False):=by
 refine aP ?_;obtain⟨⟨p1,p2,p3⟩,⟨p4,p5,p6⟩,p7⟩:=hp;refine⟨p1,p2,p3,⟨λ_=>trivial,λ_=>trivial⟩,λh3=>⟨rfl,rfl,rfl,rfl⟩,λh4=>?_⟩;change (bif !decide ((S.wA (g1,g2,g3,g4) w a4 i j).2=0) then true else !S.IE (S.wA (g1,g2,g3,g4) w a4 i j).1 g1 g2)=false at h4;change (decide ((S.wA (g1,g2,g3,g4) w a4 i j).2=0)&&S.IE (S.wA (g1,g2,g3,g4) w a4 i j).1 g1 g2)=false at p7;grind
def apb(root:B8)(l:List (Int×B8))(b:B8)(hp:b.length<1099511627776/\S.eR l):q68 (aFi root) (S.eR l)/\ya (aDL (aFi root) (S.bL l)) ([]=(S.ep root l b).1) (1=(S.ep root l b).2) (q40 b) (yz (akZ (afP b).2) ([]=(S.ep root l b).1) ((afP b).2=(S.ep root l b).2) (S.small l) (aG4 0 (wD (S.aA l)) ((24:Nat):Int)) (afu (∃(x1:Nat),((0:Int)=x1/\[λ(x2:Vg.Z)=>(True,Vg.AV.bool (S.tj (afP b).1.1 (afP b).1.2.1 (afP b).1.2.2.1 root),x2)]=S.conds 27 3 root (afP b).1.1 (afP b).1.2.1 (afP b).1.2.2.1 (afP b).1.2.2.2 (S.aA l) x1)/\S.ġ b x1) (∀(x3:Nat),S.ġ b x3->ya (decide ((x3:Int)<length (afP b).1.2.2.1)) (q25 0 x3 (length (afP b).1.2.2.1)) (q78 (Nat.succ (Vg.aW.len (S.conds 27 3 root (afP b).1.1 (afP b).1.2.1 (afP b).1.2.2.1 (afP b).1.2.2.2 (S.aA l) x3)))/\(∃(x4:Nat×Nat),((0:Int)=x4.2/\Vg.aW.cat (S.conds 27 3 root (afP b).1.1 (afP b).1.2.1 (afP b).1.2.2.1 (afP b).1.2.2.2 (S.aA l) x3) [λ(x5:Vg.Z)=>(q25 0 x3 (S.len (afP b).1.2.2.2),Vg.AV.bool (S.pn (afP b).1.2.2.2 x3 (S.aA l)),x5)]=S.mq 27 3 root (afP b).1.1 (afP b).1.2.1 (afP b).1.2.2.1 (afP b).1.2.2.2 (S.aA l) x4.1 x4.2)/\S.Sv b (S.aA l) x4.1 x4.2/\(x3:Int)=x4.1)/\(∀(x6:Nat×Nat),S.Sv b (S.aA l) x6.1 x6.2/\(x3:Int)=x6.1->MJ (decide (x6.2<wD (S.aA l))) (q25 0 x6.2 (wD (S.aA l))) (q78 (Nat.succ (Vg.aW.len (S.mq 27 3 root (afP b).1.1 (afP b).1.2.1 (afP b).1.2.2.1 (afP b).1.2.2.2 (S.aA l) x6.1 x6.2)))/\q26 (x6.2+1)/\(∃(x7:Nat×Nat),((x6.2:Int)+1=x7.2/\Vg.aW.cat (S.mq 27 3 root (afP b).1.1 (afP b).1.2.1 (afP b).1.2.2.1 (afP b).1.2.2.2 (S.aA l) x6.1 x6.2) [S.Aj 27 3 ((afQ b x3).1,(afQ b x3).2.1,(afQ b x3).2.2.1,(afQ b x3).2.2.2) (q93 (S.aA l) x6.2) (afP b).1.2.2.2 x3 x6.2]=S.mq 27 3 root (afP b).1.1 (afP b).1.2.1 (afP b).1.2.2.1 (afP b).1.2.2.2 (S.aA l) x7.1 x7.2)/\(S.Sv b (S.aA l) x7.1 x7.2/\(x3:Int)=x7.1)/\yb (S.len (S.aA l)) x7.2 x6.2)) (x3+1) (∃(x8:Nat),aA6 x3 x8 (S.mq 27 3 root (afP b).1.1 (afP b).1.2.1 (afP b).1.2.2.1 (afP b).1.2.2.2 (S.aA l) x6.1 x6.2=S.conds 27 3 root (afP b).1.1 (afP b).1.2.1 (afP b).1.2.2.1 (afP b).1.2.2.2 (S.aA l) x8) (S.ġ b x8) (S.len (afP b).1.2.2.1)))) (Vg.aW.Ku (toNat (wD (S.aA l)))=Vg.aW.Ku (toNat (wD (S.aA l)))/\(akW b l root x3).1) (yz (akZ (bif (akW b l root x3).2.1 then 0 else 6)) ([]=(S.ep root l b).1) ((bif (akW b l root x3).2.1 then 0 else 6)=(S.ep root l b).2) (S.eR l) ((S.kZ l (Vg.aW.rows (akW b l root x3).2.2)).1=(S.ep root l b).1) ((S.kZ l (Vg.aW.rows (akW b l root x3).2.2)).2=(S.ep root l b).2))))):=by
 refine aP ?_;with_reducible and_intros
 iterate 2 grind
 grind[S.ĥ,S.ah3];intro h4;try simp at h4
 with_reducible and_intros
 omega;grind[nt,df,S.Ħ,S.G3];intro h6;simp at h6;with_reducible and_intros
 exact hp.2.1;iterate 2 omega
 grind[S.ow];trivial
 . refine⟨(nat_lit 0:Nat),?_⟩;try dsimp only
   with_reducible and_intros
   omega;rfl;exact⟨T! _,h6⟩
 intro x7 h8;refine V.dI (λh9=>?_) λrY=>?_
 . with_reducible and_intros
   iterate 2 omega
   . have e:=S.Dl (e0:=27) (ei0:=3) (root:=root) (n:=(S.ba b).1.1) (g:=(S.ba b).1.2.1) (s:=(S.ba b).1.2.2.1) (a:=(S.ba b).1.2.2.2) (t:=S.aA l) x7;have q:=S.Ĥ hp.1 hp.2 h6 h4.2 h8.1;show length _+1<=_;omega
   . refine⟨((x7),(nat_lit 0:Nat)),?_⟩;try dsimp only
     with_reducible and_intros
     omega;rfl;exact⟨w!,T! _,h6⟩;omega
   intro DD iR;refine⟨?_,?_⟩
   . intro jH;try simp only [dt] at jH
     with_reducible and_intros
     iterate 2 omega
     . have e:=S.Sx (e0:=27) (ei0:=3) (root:=root) (n:=(S.ba b).1.1) (g:=(S.ba b).1.2.1) (s:=(S.ba b).1.2.2.1) (a:=(S.ba b).1.2.2.2) (t:=S.aA l) DD.1 DD.2;have q:=S.Ĥ hp.1 hp.2 h6 h4.2 (Nat.le_of_lt iR.1.1);have q2:=iR.1.2.1;have q3:=S.ow h4.2;show length _+1<=_;omega
     omega
     . have q:=S.ow h4.2;omega
     refine⟨((x7),(Prod.snd DD+nat_lit 1)),?_⟩;try dsimp only
     with_reducible and_intros
     omega
     . have e:x7=DD.1:=by have:=iR.2;omega
       rw [<-e];exact S.Of x7 DD.2
     . have:=iR.1.1;exact⟨w!,w!,h6⟩
     omega;simp only [S.al,S.len];omega
   intro mv;try simp only [df] at mv
   with_reducible and_intros
   omega
   . have q:=S.ģ hp.1 hp.2 h6;omega
   refine⟨(x7+nat_lit 1),?_⟩;try dsimp only
   with_reducible and_intros
   omega
   . have e:x7=DD.1:=by have:=iR.2;omega
     have e2:DD.2=(S.aA l).length:=by have:=iR.1.2.1;omega
     rw [<-e,e2];rfl
   exact⟨w!,h6⟩;simp only [S.al,S.len];omega
 with_reducible and_intros
 rfl
 . exact(S.Fx hp.1 hp.2 h6 (by have:=h8.1;omega)).pre
 . intro Hq;try simp at Hq
   refine⟨?_,?_⟩
   . exact(S.ah4 (S.G3 h4) h6 (S.Fx hp.1 hp.2 h6 (by have:=h8.1;omega)) Hq).1
   exact(S.ah4 (S.G3 h4) h6 (S.Fx hp.1 hp.2 h6 (by have:=h8.1;omega)) Hq).2
 intro DC;try simp at DC
 with_reducible and_intros
 exact hp.2
 . rw [S.ħ (S.G3 h4) h6 (S.Fx hp.1 hp.2 h6 (by have:=h8.1;omega)) DC]
 rw [S.ħ (S.G3 h4) h6 (S.Fx hp.1 hp.2 h6 (by have:=h8.1;omega)) DC]
def aD7(d:Bool)(l:B8):q19 d (1=S.Fp (l,d)) ([]=S.Fo (l,d)) (ya (aFg 1048576 l) (3=S.Fp (l,d)) ([]=S.Fo (l,d)) (0=S.Fp (l,d)) (l=S.Fo (l,d))):=by
 refine aP ?_;simp_all[dt,S.Fp,Q!,R!,S.Fo,df]
def aD8(a1:Int)(a2:B8)(a3:List (Int×Int×Int×B8))(a4:List (List (Int×B8×B8×B8×List B8×B8)))(hp:S.ti a4)(hf:Vg.bo J.aiP (a1,a2,a3,a4)):q63 [1]/\ya (hU (length a4) (length a3)) (1=(S.nG a1 a2 a3 a4).2) ([]=(S.nG a1 a2 a3 a4).1) (∃(x1:Nat),aF2 0 x1 false (S.pg a1 a2 a3) (S.eS a1 a2 a3 a4 x1) [1]/\S.mo a3 a4 x1) (∀(x2:Nat),S.mo a3 a4 x2->ya (decide ((x2:Int)<length a4)) (q25 0 x2 (length a4)) (yz (decide ((16:Int)<length (getD a4 (toNat x2) []))) (1=(S.nG a1 a2 a3 a4).2) ([]=(S.nG a1 a2 a3 a4).1) (q63 (S.bytesOf (S.eS a1 a2 a3 a4 x2))) (∃(x3:Nat×Nat),aF2 0 x3.1 (S.lS (S.eS a1 a2 a3 a4 x2)) (S.lp (length (getD a4 (toNat x2) []))) (S.fq a1 a2 a3 a4 x3.2 x3.1) (S.bytesOf (S.eS a1 a2 a3 a4 x2))/\S.kn a3 a4 x3.2 x3.1/\(x2:Int)=x3.2) (∀(x4:Nat×Nat),S.kn a3 a4 x4.2 x4.1/\(x2:Int)=x4.2->MJ (decide ((x4.1:Int)<length (getD a4 (toNat x2) []))) (q25 0 x4.1 (length (getD a4 (toNat x2) []))) ((length (S.bytesOf (S.fq a1 a2 a3 a4 x4.2 x4.1))<=8796093022208/\aGn (aD3 a4 x2 x4).2.2.2.2.2)/\q26 (x4.1+1)/\(∃(x5:Nat×Nat),aF2 (x4.1+1) x5.1 (S.lS (S.fq a1 a2 a3 a4 x4.2 x4.1)) (S.jP ((aD3 a4 x2 x4).1,(aD3 a4 x2 x4).2.1,(aD3 a4 x2 x4).2.2.1,(aD3 a4 x2 x4).2.2.2.1,(aD3 a4 x2 x4).2.2.2.2.1,(aD3 a4 x2 x4).2.2.2.2.2)) (S.fq a1 a2 a3 a4 x5.2 x5.1) (S.bytesOf (S.fq a1 a2 a3 a4 x4.2 x4.1))/\(S.kn a3 a4 x5.2 x5.1/\(x2:Int)=x5.2)/\q44 (S.len (S.iO a4 x5.2)) x5.1 (S.al (S.len (S.iO a4 x4.2)) x4.1))) (x2+1) (∃(x6:Nat),MP x2 x6 (S.lS (S.fq a1 a2 a3 a4 x4.2 x4.1)=S.lS (S.eS a1 a2 a3 a4 x6)) (S.bytesOf (S.fq a1 a2 a3 a4 x4.2 x4.1)=S.bytesOf (S.eS a1 a2 a3 a4 x6)) (S.mo a3 a4 x6) (S.len a4)))) True (S.Fp (S.bytesOf (S.eS a1 a2 a3 a4 x2),S.lS (S.eS a1 a2 a3 a4 x2))=(S.nG a1 a2 a3 a4).2/\S.Fo (S.bytesOf (S.eS a1 a2 a3 a4 x2),S.lS (S.eS a1 a2 a3 a4 x2))=(S.nG a1 a2 a3 a4).1)):=by
 refine aP ?_;have axY:Vg.hlen a3:=hf.2.2.1.1;with_reducible and_intros
 decide;grind[nt,df,S.avy];intro h2;simp at h2;refine⟨?_,?_⟩
 . refine⟨(nat_lit 0:Nat),?_⟩;dsimp only;with_reducible and_intros
   omega;iterate 2 rfl
   grind[S.aBt]
 intro x3 h4;refine V.dI (λh5=>?_) λjH=>?_
 . with_reducible and_intros
   iterate 2 omega
   . intro h6;try simp at h6
     refine⟨?_,?_⟩
     . rw [S.Đ h5 h6]
     rw [S.Đ h5 h6]
   intro h7;try simp only [df,tn] at h7
   with_reducible and_intros
   exact h? (S.Ē (n:=a1) (g:=a2) h4) (by decide)
   . refine⟨((nat_lit 0:Nat),(x3)),?_⟩;try dsimp only
     with_reducible and_intros
     omega
     iterate 2
      . rw [tn,S.Sk w!];rfl
     exact S.avx h4 h5 h7;with_reducible rfl
   intro x8 h9;refine⟨?_,?_⟩
   . intro h10;try simp only [dt,tn] at h10
     with_reducible and_intros
     omega;assumption;exact h? (S.ahx (n:=a1) (g:=a2) h9.1) (by decide)
     . obtain⟨q,e⟩:=h9;have e':x8.2=x3:=by omega
       rw [e'] at q;exact S.ahw q h10
     iterate 2 omega
     refine⟨((Prod.fst x8+nat_lit 1),(x3)),?_⟩;try dsimp only
     with_reducible and_intros
     omega
     . obtain⟨q,e⟩:=h9;have e':x8.2=x3:=by omega
       rw [e',tn,tn];exact(S.as3 _ rfl _ _ rfl rfl).1
     . obtain⟨q,e⟩:=h9;have e':x8.2=x3:=by omega
       rw [e',tn,tn];exact(S.as3 _ rfl _ _ rfl rfl).2
     . obtain⟨q,e⟩:=h9;have e':x8.2=x3:=by omega
       rw [e'] at q;exact S.ahv q h10
     with_reducible rfl
     obtain⟨q,e⟩:=h9;have e':x8.2=x3:=by omega
     rw [e'];have hh:(x8.1:Int)<((S.iO a4 x3).length:Int):=h10;simp only [S.al,S.len];omega
   intro iR;try simp only [df,tn] at iR
   with_reducible and_intros
   iterate 2 omega
   refine⟨(x3+nat_lit 1),?_⟩;try dsimp only
   with_reducible and_intros
   omega
   iterate 2
    . obtain⟨q,e⟩:=h9;have e':x8.2=x3:=by omega
      rw [e'] at q |-;rw [(S.ď (n:=a1) (g:=a2) q iR).2]
   . obtain⟨q,e⟩:=h9;have e':x8.2=x3:=by omega
     rw [e'] at q;exact(S.ď (n:=a1) (g:=a2) q iR).1
   simp only [S.al,S.len];omega
 with_reducible and_intros
 trivial
 . rw [S.đ h4 jH];rfl
 rw [S.đ h4 jH];rfl
def aD9(y1:List B8)(y2:List (Int×Int×List (B8×List Int)))(l:List (Int×B8))(hp:S.eR l)(hf:Vg.bo J.Aq (y1,y2,l)):q54 (ya (akZ (S.iK y1 y2).2) (7=(S.abP y1 y2 l).2) ([]=(S.abP y1 y2 l).1) (S.eR l) (yz (Bool.not (S.bL l)) (1=(S.abP y1 y2 l).2) ([]=(S.abP y1 y2 l).1) (S.small l) (∃(x1:Nat),((0:Int)=x1/\(S.iK y1 y2).2=0/\S.aA l=S.aA l/\(S.iK y1 y2).1.1=S.len y1/\(S.iK y1 y2).1.2.1=aGc y1/\(S.iK y1 y2).1.2.2=S.cL y1 y2/\[]=S.lD y2 (S.aA l) x1)/\S.gP y2 x1/\S.gC y1 y2/\S.bL l) (∀(x2:Nat),S.gP y2 x2/\S.gC y1 y2/\S.bL l->q79 (decide ((x2:Int)<length y2)) 0 x2 (length y2) ((S.Mf (getD y2 (toNat x2) (0,0,[])).2.2 (S.aA l)/\(0:Int)=0)/\qV (length (S.lD y2 (S.aA l) x2)+length [S.Od (getD y2 (toNat x2) (0,0,[])).2.2 (S.aA l)])/\q80 x2 (∃(x3:Nat),MP x2 x3 aDM (S.aA l=S.aA l/\(S.len y1:Int)=S.len y1/\aGc y1=aGc y1/\S.cL y1 y2=S.cL y1 y2/\S.lD y2 (S.aA l) x2++[S.Od (getD y2 (toNat x2) (0,0,[])).2.2 (S.aA l)]=S.lD y2 (S.aA l) x3) (S.gP y2 x3/\S.gC y1 y2/\S.bL l) (S.len y2))) (ya (aF0 0) (0=(S.abP y1 y2 l).2) ([]=(S.abP y1 y2 l).1) (S.ti (S.lD y2 (S.aA l) x2)) ((S.nG (S.len y1) (aGc y1) (S.cL y1 y2) (S.lD y2 (S.aA l) x2)).2=(S.abP y1 y2 l).2/\(S.nG (S.len y1) (aGc y1) (S.cL y1 y2) (S.lD y2 (S.aA l) x2)).1=(S.abP y1 y2 l).1))))):=by
 refine aP ?_;have YF:Vg.hlen y2:=hf.2.1.1;with_reducible and_intros
 trivial;grind[nt,df,S.avK];intro h2;simp at h2;with_reducible and_intros
 omega;grind[nt,S.amV];intro h4;simp at h4;with_reducible and_intros
 exact hp.1
 . refine⟨(nat_lit 0:Nat),?_⟩;dsimp only;with_reducible and_intros
   iterate 2 omega
   rfl;exact(S.Fq h2).2.1;iterate 2 (simp_all[S.Fq])
   rfl;exact Nat.zero_le _;grind[S.Fq];omega
 intro x5 h6;refine V.dI (λh7=>?_) λh8=>?_
 . with_reducible and_intros
   iterate 2 omega
   exact S.amU h6.2.1 h6.2.2 h7;rfl
   . have:=S.amS y2 (S.aA l) x5;have:=S.PZ h6.2.1;rw [W!];omega
   iterate 2 omega
   refine⟨(x5+nat_lit 1),?_⟩;try dsimp only
   with_reducible and_intros
   omega;iterate 5 rfl
   exact S.ahO h7
   . unfold S.gP;omega
   exact h6.2.1;omega;simp only [S.al,S.len];omega
 refine⟨?_,?_⟩
 . intro h9;refine⟨?_,?_⟩
   . grind
   grind
 grind[S.amW]
def aEb:0<length ([104,97,121]:B8)/\afu (0<length ([119,97,105,110,32,104,97,121]:B8)) (q54 (aFf (0<length ([104,97,121]:B8)) ([104,97,121]=S.xK/\S.eR S.eO/\(aG2 (wE 97 32)/\S.eR S.eO)/\q17 (FI (dQ (wE 97 32))) (false=true) (q26 aF3/\(0<=aF3/\dQ (wE 97 32)-1<dQ (wE 97 32))/\aHt/\(0<=aF3/\dQ (wE 97 32)-1<dQ (wE 97 32))/\aHt/\(∀(x1:B8),x1=List.set (wE 97 32) (toNat aF3) (aAD (axs (wE 97 32) aF3+1))->(aG2 x1/\S.eR S.eO)/\q54 (eP (S.q9 Du.1 [0,1]) (eP (FI Du.2) (akZ (S.ep (S.lC (akm 97 32).1 (akm 97 32).2).1 S.eO x1).2))=true)))))):=by
 refine aP ?_;with_reducible and_intros
 decide;trivial;decide;iterate 3 trivial
 decide;rfl;exact S.ahP;grind[S.Mv,S.JL];exact S.ahP;grind[S.Mv,S.JL];intro h2;try simp only [df] at h2
 with_reducible and_intros
 omega;grind[S.Mv,S.JL];iterate 6 omega
 intro x3 h4;with_reducible and_intros
 grind[S.Mv,S.ata];exact S.ahP;trivial;exact S.ang (S.ata h4).2
def aLO(l m:List (Int×Int×Int×B8))(q:List (Int×B8))(hf:Vg.bo J.aH1 (l,m,q)):afu (q68 (S.nO q) (S.aIl q/\S.eR q)) (q19 (aDL (S.nO q) (S.bL q)) True (true=true) (aFf (∃(x1:Nat),((0:Int)=x1/\[]=(S.abH l m x1).1/\[]=(S.abH l m x1).2)/\S.aDN l x1) (∀(x2:Nat),S.aDN l x2->ya (decide (x2<wD (aC6 l).1)) (q25 0 x2 (wD (aC6 l).1)) (afu (q19 (decide ((x2:Int)<length m)) ((0:Int)<=x2) ((x2:Int)<length m) True) (q17 (eP (decide ((x2:Int)<length m)) (akZ (aE8 m x2).1)) (q25 0 x2 (length m)/\True) True/\q80 x2 (∃(x3:Nat),MP x2 x3 ((bif eP (decide ((x2:Int)<length m)) (akZ (aE8 m x2).1) then(S.oa (aGa l m x2).1 (aGa l m x2).2 (aE8 m x2).1 (aE8 m x2).2.1 (aE8 m x2).2.2.1 (aE8 m x2).2.2.2).1.1 else(aGa l m x2).1)=(S.abH l m x3).1) ((bif eP (decide ((x2:Int)<length m)) (akZ (aE8 m x2).1) then(S.oa (aGa l m x2).1 (aGa l m x2).2 (aE8 m x2).1 (aE8 m x2).2.1 (aE8 m x2).2.2.1 (aE8 m x2).2.2.2).1.2 else(aGa l m x2).2)=(S.abH l m x3).2) (S.aDN l x3) (S.pD l)))) True (aFf (S.eR q) (S.eR q/\(aG2 (S.abP (aC6 l).1 (aC6 l).2 q).1/\S.eR q)/\(aG2 (S.abP (S.bV (S.abH l m x2).1 (S.abH l m x2).2).1.1 (S.bV (S.abH l m x2).1 (S.abH l m x2).2).1.2 q).1/\S.eR q)/\q17 (FI (aGe l q).2) (q17 (FI (S.ep (S.lC (S.bV (S.abH l m x2).1 (S.abH l m x2).2).1.1 (S.bV (S.abH l m x2).1 (S.abH l m x2).2).1.2).1 q (S.abP (S.bV (S.abH l m x2).1 (S.abH l m x2).2).1.1 (S.bV (S.abH l m x2).1 (S.abH l m x2).2).1.2 q).1).2) (q54 (q17 (S.q9 (aGe l q).1 (S.ep (S.lC (S.bV (S.abH l m x2).1 (S.abH l m x2).2).1.1 (S.bV (S.abH l m x2).1 (S.abH l m x2).2).1.2).1 q (S.abP (S.bV (S.abH l m x2).1 (S.abH l m x2).2).1.1 (S.bV (S.abH l m x2).1 (S.abH l m x2).2).1.2 q).1).1) (q54 (aA5 (S.aCF (aC6 l).1 (S.bV (S.abH l m x2).1 (S.abH l m x2).2).1.1))) True)) True) True/\eP (FI (aGe l q).2) (eP (FI (S.ep (S.lC (S.bV (S.abH l m x2).1 (S.abH l m x2).2).1.1 (S.bV (S.abH l m x2).1 (S.abH l m x2).2).1.2).1 q (S.abP (S.bV (S.abH l m x2).1 (S.abH l m x2).2).1.1 (S.bV (S.abH l m x2).1 (S.abH l m x2).2).1.2 q).1).2) (eP (S.q9 (aGe l q).1 (S.ep (S.lC (S.bV (S.abH l m x2).1 (S.abH l m x2).2).1.1 (S.bV (S.abH l m x2).1 (S.abH l m x2).2).1.2).1 q (S.abP (S.bV (S.abH l m x2).1 (S.abH l m x2).2).1.1 (S.bV (S.abH l m x2).1 (S.abH l m x2).2).1.2 q).1).1) (q29 (S.aCF (aC6 l).1 (S.bV (S.abH l m x2).1 (S.abH l m x2).2).1.1) false)))))))):=by
 refine aP ?_;have nI:Vg.hlen l:=hf.1.1;have aCk:Vg.hlen m:=hf.2.1.1;have aQY:Vg.hlen q:=hf.2.2.1.1;clear hf;with_reducible and_intros
 trivial
 . intro h1;trivial
 . intro h2;refine⟨?_,?_⟩
   . exact S.aKq (S.ahs h2).1
   exact S.ahs h2
 . intro h3;try simp only [V.xq,nt] at h3
   refine⟨?_,?_⟩
   . trivial
   rfl
 intro h4;try simp only [V.jz,nf] at h4
 with_reducible and_intros
 iterate 2 trivial
 . refine⟨(nat_lit 0:Nat),?_⟩;try dsimp only
   with_reducible and_intros
   omega;iterate 2 rfl
   exact T! _
 intro x5 h6;refine⟨?_,?_⟩
 . intro h7;try simp only [dt] at h7
   with_reducible and_intros
   iterate 2 omega
   trivial
   . intro h8;try simp only [dt] at h8
     refine⟨?_,?_⟩
     . omega
     omega
   . intro h9;try simp only [df] at h9
     trivial
   . intro h10;try simp only [V.afK,dt,nt,df,tn] at h10
     with_reducible and_intros
     iterate 2 omega
     trivial
   . intro iR;try simp only [V.EP,df,nf,dt,tn] at iR
     trivial
   omega
   . have q:=S.ahd l;simp only [S.aDN] at h6;omega
   refine⟨(x5+nat_lit 1),?_⟩;try dsimp only
   with_reducible and_intros
   omega
   . rw [(S.pf l).1];exact(S.aHU l m x5 _ rfl).1
   . rw [(S.pf l).1];exact(S.aHU l m x5 _ rfl).2
   . rw [(S.pf l).1] at h7;simp only [S.aDN];omega
   rw [(S.pf l).1] at h7;simp only [S.al,S.pD];omega
 intro jH;try simp only [df] at jH
 with_reducible and_intros
 iterate 3 trivial
 iterate 2 exact S.ahs h4.1
 . have:=S.aOP l h4.2;simp only [S.hx] at this;exact this
 exact S.ahs h4.1
 . rw [(S.pf l).1] at jH;rw [(S.aKo l m h6 jH).1];exact(S.aMn l m h4.2 h6 jH).2.1
 exact S.ahs h4.1
 . intro mv;try simp only [dt] at mv
   refine⟨?_,?_⟩
   . intro rY;try simp only [dt] at rY
     with_reducible and_intros
     trivial
     . intro Hq;with_reducible and_intros
       trivial
       . intro DC;trivial
       intro VY;trivial
     intro h18;trivial
   intro h19;try simp only [df] at h19
   trivial
 . intro h20;try simp only [df] at h20
   trivial
 rw [(S.pf l).1] at jH;have gx:=S.aOR l h4.2;have gy:=S.aKo l m h6 jH;have gz:=S.aMn l m h4.2 h6 jH;simp only [S.hx,(S.pf l).1] at gx;simp only [(S.pf l).1,gy.1,gx.2,gz.2.2,S.aGL];simp [S.aCF]
end Go

end
