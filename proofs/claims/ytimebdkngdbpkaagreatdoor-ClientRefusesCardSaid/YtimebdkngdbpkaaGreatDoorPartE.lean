import Derived.Test.YtimebdkngdbpkaaGreatDoorPartD
set_option linter.unusedVariables false
set_option linter.unusedSimpArgs false
set_option linter.unusedSectionVars false
section
set_option linter.unusedVariables false
namespace Go
theorem df {p:Prop} [Decidable p]:decide p=false↔¬p:=j?
theorem dt {p:Prop} [Decidable p]:(decide p=true)=p:=J!
theorem lc {α:Type} {a:α} {l:List α}:(a::l).length=l.length+1:=G?
theorem ln {α:Type}:([]:List α).length=0:=List.length_nil
theorem tn(n:Nat):(n:Int).toNat=n:=Z! n
theorem nf {b:Bool}:((!b)=false)=(b=true):=Bool.not_eq_false' b
theorem nt {b:Bool}:((!b)=true)=(b=false):=J? b
theorem aCb(x k:Int)(hp:S.iS x k)(hf:Vg.bo J.q0p (x,k)):abN (ar7 k) 32 (abN (ak8 (32-ar7 k)) 32 (Vg.cm (tv (x*ix 2 (ar7 k))) (x/ix 2 (ak8 (32-ar7 k)))=S.rotl x k)):=by
 refine aP ?_;have aCc:0<=x/\x<=4294967295:=hf.1;have aEW:Vg.hint k:=hf.2.1;clear hf;have hb:=S.alB hp;have Q5:=hp;simp only [S.iS] at Q5;with_reducible and_intros
 iterate 4 omega
 exact S.alA hp
theorem aCd(hp:True)(hf:Vg.bo J.q1p ()):(1779033703:Int)=1779033703/\(3144134277:Int)=3144134277/\(1013904242:Int)=1013904242/\(2773480762:Int)=2773480762/\(1359893119:Int)=1359893119/\(2600822924:Int)=2600822924/\(528734635:Int)=528734635/\(1541459225:Int)=1541459225/\ai5:=by
 refine aP ?_;clear hf;with_reducible and_intros
 iterate 9 rfl
theorem aCe(s1 s2 s3 s4 s5 s6 s7 s8:Int)(s9:B8)(cD:Int)(hp:True)(hf:Vg.bo J.q2p (s1,s2,s3,s4,s5,s6,s7,s8,s9,cD)):fO (decide (0<=cD)) (hU (decide (cD<=1099511627776)) (0<=cD) ((0:Int)<64) True) True/\q38 (decide (0<=cD)) (q38 (decide (cD<=1099511627776)) (decide (q26 s9=cD%64)))=S.oV s9 cD:=by
 refine aP ?_;have Ho:0<=s1/\s1<=4294967295:=hf.1;have Hp:0<=s2/\s2<=4294967295:=hf.2.1;have M6:0<=s3/\s3<=4294967295:=hf.2.2.1;have SJ:0<=s4/\s4<=4294967295:=hf.2.2.2.1;have SK:0<=s5/\s5<=4294967295:=hf.2.2.2.2.1;have SL:0<=s6/\s6<=4294967295:=hf.2.2.2.2.2.1;have SM:0<=s7/\s7<=4294967295:=hf.2.2.2.2.2.2.1;have aja:0<=s8/\s8<=4294967295:=hf.2.2.2.2.2.2.2.1;have ajb:Vg.hlen s9:=hf.2.2.2.2.2.2.2.2.1.1;have ĸ:Vg.hint cD:=hf.2.2.2.2.2.2.2.2.2.1;clear hf;with_reducible and_intros
 . intro h1;try simp only [dt] at h1
   refine⟨?_,?_⟩
   . intro h2;try simp only [dt] at h2
     refine⟨?_,?_⟩
     . omega
     omega
   intro h3;try simp only [df] at h3
   trivial
 . intro h4;try simp only [df] at h4
   trivial
 simp only [S.oV];grind
theorem aCf(u1 u2 u3 u4 u5 u6 u7 u8:Int)(p:B8)(hp:S.RL (u1,u2,u3,u4,u5,u6,u7,u8) p)(hf:Vg.bo J.q3p (u1,u2,u3,u4,u5,u6,u7,u8,p)):(∃(x1:Nat),((0:Int)=x1/\yz 0 (yz 0 (yz 0 (yz 0 (yz 0 (yz 0 (yz 0 (yz 0 (yz 0 (yz 0 (yz 0 (yz 0 (yz 0 (yz 0 (yz 0 (yz 0 [])))))))))))))))=S.aI p x1)/\S.fe x1 16)/\(∀(x2:Nat),S.fe x2 16->eP (decide ((x2:Int)<16)) (q32 (4*x2)) (dQ 0 (4*x2) (q26 p)/\abN 24 32 (q32 (4*x2)/\q89 (4*x2+1) 0 (q26 p) (abN 16 32 (q32 (4*x2)/\q89 (4*x2+2) 0 (q26 p) (abN 8 32 (q32 (4*x2)/\q89 (4*x2+3) 0 (q26 p) (dQ 0 x2 amz/\0+Int.toNat x2*1<List.length (S.aI p x2)/\abK x2 (∃(x3:Nat),((x2:Int)+1=x3/\List.set (S.aI p x2) (0+Int.toNat x2*1) (Vg.cm (Vg.cm (Vg.cm (tv (VV p (4*x2) 0*ix 2 24)) (tv (VV p (4*x2+1) 0*ix 2 16))) (tv (VV p (4*x2+2) 0*ix 2 8))) (VV p (4*x2+3) 0))=S.aI p x3)/\anj x3 16 x2)))))))) (∃(x4:Nat),((16:Int)=x4/\S.aI p x2=S.aI p x4)/\16<=x4/\x4<=64) (∀(x5:Nat),16<=x5/\x5<=64->q64 (decide ((x5:Int)<64)) (q32 (x5-15)) (dQ 0 (x5-15) amz/\axp x5<List.length (S.aI p x5)/\q89 (x5-2) 0 amz (abE x5<List.length (S.aI p x5)/\S.iS (List.getD (S.aI p x5) (axp x5) 0) (-7)/\S.iS (List.getD (S.aI p x5) (axp x5) 0) (-18)/\abN 3 32 (S.iS (List.getD (S.aI p x5) (abE x5) 0) (-17)/\S.iS (List.getD (S.aI p x5) (abE x5) 0) (-19)/\abN 10 32 (q89 (x5-16) 0 amz (0+Int.toNat (x5-16)*1<List.length (S.aI p x5)/\q89 (x5-7) 0 amz (0+Int.toNat (x5-7)*1<List.length (S.aI p x5)/\dQ 0 x5 amz/\0+Int.toNat x5*1<List.length (S.aI p x5)/\abK x5 (∃(x6:Nat),alj x5 x6 (List.set (S.aI p x5) (0+Int.toNat x5*1) (tv (tv (tv (List.getD (S.aI p x5) (0+Int.toNat (x5-16)*1) 0+aua (List.getD (S.aI p x5) (axp x5) 0) 7 18 (List.getD (S.aI p x5) (axp x5) 0/ix 2 3))+List.getD (S.aI p x5) (0+Int.toNat (x5-7)*1) 0)+aua (List.getD (S.aI p x5) (abE x5) 0) 17 19 (List.getD (S.aI p x5) (abE x5) 0/ix 2 10)))=S.aI p x6) (16<=x6/\x6<=64) 64))))))) ((0:Int)<=0/\0<ae3) (dQ 0 1 ae3) (uA 0 2 ae3 3 (uA 0 4 ae3 5 (uA 0 6 ae3 7 ((∃(x7:Nat),((0:Int)=x7/\u1=(S.bW (alu p) (u1,u2,u3,u4,u5,u6,u7,u8) x7).1/\u2=(S.bW (alu p) (u1,u2,u3,u4,u5,u6,u7,u8) x7).2.1/\u3=(S.bW (alu p) (u1,u2,u3,u4,u5,u6,u7,u8) x7).2.2.1/\u4=(S.bW (alu p) (u1,u2,u3,u4,u5,u6,u7,u8) x7).2.2.2.1/\u5=(S.bW (alu p) (u1,u2,u3,u4,u5,u6,u7,u8) x7).2.2.2.2.1/\u6=(S.bW (alu p) (u1,u2,u3,u4,u5,u6,u7,u8) x7).2.2.2.2.2.1/\u7=(S.bW (alu p) (u1,u2,u3,u4,u5,u6,u7,u8) x7).2.2.2.2.2.2.1/\u8=(S.bW (alu p) (u1,u2,u3,u4,u5,u6,u7,u8) x7).2.2.2.2.2.2.2)/\S.fe x7 64)/\(∀(x8:Nat),S.fe x8 64->q64 (decide ((x8:Int)<64)) (S.iS (S.bW (alu p) (u1,u2,u3,u4,u5,u6,u7,u8) x8).2.2.2.2.1 (-6)) (S.iS (S.bW (alu p) (u1,u2,u3,u4,u5,u6,u7,u8) x8).2.2.2.2.1 (-11)/\S.iS (S.bW (alu p) (u1,u2,u3,u4,u5,u6,u7,u8) x8).2.2.2.2.1 (-25)/\64=List.length S.Ih/\dQ 0 x8 (q48 S.Ih)/\dQ 0 x8 amz/\0+Int.toNat x8*1<List.length (S.aI p x5)/\S.iS (S.bW (alu p) (u1,u2,u3,u4,u5,u6,u7,u8) x8).1 (-2)/\S.iS (S.bW (alu p) (u1,u2,u3,u4,u5,u6,u7,u8) x8).1 (-13)/\S.iS (S.bW (alu p) (u1,u2,u3,u4,u5,u6,u7,u8) x8).1 (-22)/\abK x8 (∃(x9:Nat),((x8:Int)+1=x9/\tv (tv (tv (tv (tv ((S.bW (alu p) (u1,u2,u3,u4,u5,u6,u7,u8) x8).2.2.2.2.2.2.2+aua (S.bW (alu p) (u1,u2,u3,u4,u5,u6,u7,u8) x8).2.2.2.2.1 6 11 (S.rotl (S.bW (alu p) (u1,u2,u3,u4,u5,u6,u7,u8) x8).2.2.2.2.1 (-25)))+Vg.fC (Vg.aK (S.bW (alu p) (u1,u2,u3,u4,u5,u6,u7,u8) x8).2.2.2.2.1 (S.bW (alu p) (u1,u2,u3,u4,u5,u6,u7,u8) x8).2.2.2.2.2.1) (Vg.aK (4294967296-1-(S.bW (alu p) (u1,u2,u3,u4,u5,u6,u7,u8) x8).2.2.2.2.1) (S.bW (alu p) (u1,u2,u3,u4,u5,u6,u7,u8) x8).2.2.2.2.2.2.1))+List.getD S.Ih (Int.toNat x8) 0)+List.getD (S.aI p x5) (0+Int.toNat x8*1) 0)+tv (aua (S.bW (alu p) (u1,u2,u3,u4,u5,u6,u7,u8) x8).1 2 13 (S.rotl (S.bW (alu p) (u1,u2,u3,u4,u5,u6,u7,u8) x8).1 (-22))+Vg.fC (Vg.fC (Vg.aK (S.bW (alu p) (u1,u2,u3,u4,u5,u6,u7,u8) x8).1 (S.bW (alu p) (u1,u2,u3,u4,u5,u6,u7,u8) x8).2.1) (Vg.aK (S.bW (alu p) (u1,u2,u3,u4,u5,u6,u7,u8) x8).1 (S.bW (alu p) (u1,u2,u3,u4,u5,u6,u7,u8) x8).2.2.1)) (Vg.aK (S.bW (alu p) (u1,u2,u3,u4,u5,u6,u7,u8) x8).2.1 (S.bW (alu p) (u1,u2,u3,u4,u5,u6,u7,u8) x8).2.2.1)))=(S.bW (alu p) (u1,u2,u3,u4,u5,u6,u7,u8) x9).1/\(S.bW (alu p) (u1,u2,u3,u4,u5,u6,u7,u8) x8).1=(S.bW (alu p) (u1,u2,u3,u4,u5,u6,u7,u8) x9).2.1/\(S.bW (alu p) (u1,u2,u3,u4,u5,u6,u7,u8) x8).2.1=(S.bW (alu p) (u1,u2,u3,u4,u5,u6,u7,u8) x9).2.2.1/\(S.bW (alu p) (u1,u2,u3,u4,u5,u6,u7,u8) x8).2.2.1=(S.bW (alu p) (u1,u2,u3,u4,u5,u6,u7,u8) x9).2.2.2.1/\tv ((S.bW (alu p) (u1,u2,u3,u4,u5,u6,u7,u8) x8).2.2.2.1+tv (tv (tv (tv ((S.bW (alu p) (u1,u2,u3,u4,u5,u6,u7,u8) x8).2.2.2.2.2.2.2+aua (S.bW (alu p) (u1,u2,u3,u4,u5,u6,u7,u8) x8).2.2.2.2.1 6 11 (S.rotl (S.bW (alu p) (u1,u2,u3,u4,u5,u6,u7,u8) x8).2.2.2.2.1 (-25)))+Vg.fC (Vg.aK (S.bW (alu p) (u1,u2,u3,u4,u5,u6,u7,u8) x8).2.2.2.2.1 (S.bW (alu p) (u1,u2,u3,u4,u5,u6,u7,u8) x8).2.2.2.2.2.1) (Vg.aK (4294967296-1-(S.bW (alu p) (u1,u2,u3,u4,u5,u6,u7,u8) x8).2.2.2.2.1) (S.bW (alu p) (u1,u2,u3,u4,u5,u6,u7,u8) x8).2.2.2.2.2.2.1))+List.getD S.Ih (Int.toNat x8) 0)+List.getD (S.aI p x5) (0+Int.toNat x8*1) 0))=(S.bW (alu p) (u1,u2,u3,u4,u5,u6,u7,u8) x9).2.2.2.2.1/\(S.bW (alu p) (u1,u2,u3,u4,u5,u6,u7,u8) x8).2.2.2.2.1=(S.bW (alu p) (u1,u2,u3,u4,u5,u6,u7,u8) x9).2.2.2.2.2.1/\(S.bW (alu p) (u1,u2,u3,u4,u5,u6,u7,u8) x8).2.2.2.2.2.1=(S.bW (alu p) (u1,u2,u3,u4,u5,u6,u7,u8) x9).2.2.2.2.2.2.1/\(S.bW (alu p) (u1,u2,u3,u4,u5,u6,u7,u8) x8).2.2.2.2.2.2.1=(S.bW (alu p) (u1,u2,u3,u4,u5,u6,u7,u8) x9).2.2.2.2.2.2.2)/\anj x9 64 x8)) ((0:Int)<=0/\0<ae3) (dQ 0 1 ae3) (uA 0 2 ae3 3 (uA 0 4 ae3 5 (uA 0 6 ae3 7 (tv (u1+(S.bW (alu p) (u1,u2,u3,u4,u5,u6,u7,u8) x8).1)=(S.block (u1,u2,u3,u4,u5,u6,u7,u8) p).1/\tv (u2+(S.bW (alu p) (u1,u2,u3,u4,u5,u6,u7,u8) x8).2.1)=(S.block (u1,u2,u3,u4,u5,u6,u7,u8) p).2.1/\tv (u3+(S.bW (alu p) (u1,u2,u3,u4,u5,u6,u7,u8) x8).2.2.1)=(S.block (u1,u2,u3,u4,u5,u6,u7,u8) p).2.2.1/\tv (u4+(S.bW (alu p) (u1,u2,u3,u4,u5,u6,u7,u8) x8).2.2.2.1)=(S.block (u1,u2,u3,u4,u5,u6,u7,u8) p).2.2.2.1/\tv (u5+(S.bW (alu p) (u1,u2,u3,u4,u5,u6,u7,u8) x8).2.2.2.2.1)=(S.block (u1,u2,u3,u4,u5,u6,u7,u8) p).2.2.2.2.1/\tv (u6+(S.bW (alu p) (u1,u2,u3,u4,u5,u6,u7,u8) x8).2.2.2.2.2.1)=(S.block (u1,u2,u3,u4,u5,u6,u7,u8) p).2.2.2.2.2.1/\tv (u7+(S.bW (alu p) (u1,u2,u3,u4,u5,u6,u7,u8) x8).2.2.2.2.2.2.1)=(S.block (u1,u2,u3,u4,u5,u6,u7,u8) p).2.2.2.2.2.2.1/\tv (u8+(S.bW (alu p) (u1,u2,u3,u4,u5,u6,u7,u8) x8).2.2.2.2.2.2.2)=(S.block (u1,u2,u3,u4,u5,u6,u7,u8) p).2.2.2.2.2.2.2))))))))))):=by
 refine aP ?_;have awH:0<=u1/\u1<=4294967295:=hf.1;have awI:0<=u2/\u2<=4294967295:=hf.2.1;have awJ:0<=u3/\u3<=4294967295:=hf.2.2.1;have awK:0<=u4/\u4<=4294967295:=hf.2.2.2.1;have awL:0<=u5/\u5<=4294967295:=hf.2.2.2.2.1;have awM:0<=u6/\u6<=4294967295:=hf.2.2.2.2.2.1;have awN:0<=u7/\u7<=4294967295:=hf.2.2.2.2.2.2.1;have awO:0<=u8/\u8<=4294967295:=hf.2.2.2.2.2.2.2.1;have Ĺ:Vg.hlen p:=hf.2.2.2.2.2.2.2.2.1.1;clear hf;obtain⟨oA,Q5⟩:=hp;refine⟨?_,?_⟩
 . refine⟨(nat_lit 0:Nat),?_⟩;try dsimp only
   with_reducible and_intros
   omega;rfl;simp only [S.fe,S.al] at *;omega
 intro x1 h2;refine⟨?_,?_⟩
 . intro h3;try simp only [dt] at h3
   with_reducible and_intros
   iterate 30 omega
   . rw [S.sO _ _ w!];omega
   iterate 2 omega
   refine⟨(x1+nat_lit 1),?_⟩;try dsimp only
   with_reducible and_intros
   omega;exact S.alx _ _ w!
   . simp only [S.fe,S.al] at *;omega
   simp only [S.fe,S.al] at *;omega
 intro h4;try simp only [df] at h4
 refine⟨?_,?_⟩
 . refine⟨(nat_lit 16:Nat),?_⟩;try dsimp only
   with_reducible and_intros
   omega
   . simp only [S.fe] at h2;rw [show x1=16 by omega]
   iterate 2 omega
 intro x5 h6;refine⟨?_,?_⟩
 . intro h7;try simp only [dt] at h7
   with_reducible and_intros
   iterate 4 omega
   . rw [S.sO _ _ w!];omega
   iterate 4 omega
   . rw [S.sO _ _ w!];omega
   iterate 2 (with_reducible exact S.UC _ _ _ _ w!)
   iterate 2 omega
   iterate 2 (with_reducible exact S.UC _ _ _ _ w!)
   iterate 6 omega
   . rw [S.sO _ _ w!];omega
   iterate 4 omega
   . rw [S.sO _ _ w!];omega
   iterate 2 omega
   . rw [S.sO _ _ w!];omega
   iterate 2 omega
   refine⟨(x5+nat_lit 1),?_⟩;try dsimp only
   with_reducible and_intros
   omega;exact S.aly _ _ w! w!;iterate 2 omega
   simp only [S.fe,S.al] at *;omega
 intro h8;try simp only [df] at h8
 with_reducible and_intros
 iterate 16 omega
 . refine⟨(nat_lit 0:Nat),?_⟩;try dsimp only
   with_reducible and_intros
   omega;iterate 8 rfl
   simp only [S.fe,S.al] at *;omega
 intro x9 e6;refine⟨?_,?_⟩
 . intro iR;try simp only [dt] at iR
   with_reducible and_intros
   iterate 3 (with_reducible exact S.au2 (S.Lr _ _ oA _) _ w!)
   with_reducible exact S.Pa
   omega
   . rw [<-S.Pa];simp only [S.fe] at *;omega
   iterate 2 omega
   . rw [S.sO _ _ w!];omega
   iterate 3 (with_reducible exact S.au1 (S.Lr _ _ oA _) _ w!)
   iterate 2 omega
   refine⟨(x9+nat_lit 1),?_⟩;try dsimp only
   with_reducible and_intros
   omega
   . rw [show x5=64 by omega,S.ï];simp only [S.bW,tn,q?,Nat.mul_one];rfl
   iterate 3 rfl
   . rw [show x5=64 by omega,S.ï];simp only [S.bW,tn,q?,Nat.mul_one];rfl
   iterate 3 rfl
   . simp only [S.fe,S.al] at *;omega
   simp only [S.fe,S.al] at *;omega
 intro jH;try simp only [df] at jH
 with_reducible and_intros
 iterate 16 omega
 iterate 7
  . simp only [S.fe] at e6;rw [show x9=64 by omega];simp only [S.block,S.î]
 simp only [S.fe] at e6;rw [show x9=64 by omega];simp only [S.block,S.î]
theorem awP(u1 u2 u3 u4 u5 u6 u7 u8:Int)(b:B8)(hp:S.vZ (u1,u2,u3,u4,u5,u6,u7,u8))(hf:Vg.bo J.q3p (u1,u2,u3,u4,u5,u6,u7,u8,b)):(∃(x1:Nat),(b=S.gg b x1/\u1=(S.proc (u1,u2,u3,u4,u5,u6,u7,u8) b x1).1/\u2=(S.proc (u1,u2,u3,u4,u5,u6,u7,u8) b x1).2.1/\u3=(S.proc (u1,u2,u3,u4,u5,u6,u7,u8) b x1).2.2.1/\u4=(S.proc (u1,u2,u3,u4,u5,u6,u7,u8) b x1).2.2.2.1/\u5=(S.proc (u1,u2,u3,u4,u5,u6,u7,u8) b x1).2.2.2.2.1/\u6=(S.proc (u1,u2,u3,u4,u5,u6,u7,u8) b x1).2.2.2.2.2.1/\u7=(S.proc (u1,u2,u3,u4,u5,u6,u7,u8) b x1).2.2.2.2.2.2.1/\u8=(S.proc (u1,u2,u3,u4,u5,u6,u7,u8) b x1).2.2.2.2.2.2.2)/\64*x1<=List.length b)/\(∀(x2:Nat),64*x2<=List.length b->eP (decide (64<=q26 (S.gg b x2))) ((0:Int)<=64/\64<=q26 (S.gg b x2)) (S.RL ((S.proc (u1,u2,u3,u4,u5,u6,u7,u8) b x2).1,(S.proc (u1,u2,u3,u4,u5,u6,u7,u8) b x2).2.1,(S.proc (u1,u2,u3,u4,u5,u6,u7,u8) b x2).2.2.1,(S.proc (u1,u2,u3,u4,u5,u6,u7,u8) b x2).2.2.2.1,(S.proc (u1,u2,u3,u4,u5,u6,u7,u8) b x2).2.2.2.2.1,(S.proc (u1,u2,u3,u4,u5,u6,u7,u8) b x2).2.2.2.2.2.1,(S.proc (u1,u2,u3,u4,u5,u6,u7,u8) b x2).2.2.2.2.2.2.1,(S.proc (u1,u2,u3,u4,u5,u6,u7,u8) b x2).2.2.2.2.2.2.2) (agi b x2)/\abN 64 (q26 (S.gg b x2)) (∃(x3:Nat),(List.drop (Int.toNat 64) (S.gg b x2)=S.gg b x3/\(S.block ((S.proc (u1,u2,u3,u4,u5,u6,u7,u8) b x2).1,(S.proc (u1,u2,u3,u4,u5,u6,u7,u8) b x2).2.1,(S.proc (u1,u2,u3,u4,u5,u6,u7,u8) b x2).2.2.1,(S.proc (u1,u2,u3,u4,u5,u6,u7,u8) b x2).2.2.2.1,(S.proc (u1,u2,u3,u4,u5,u6,u7,u8) b x2).2.2.2.2.1,(S.proc (u1,u2,u3,u4,u5,u6,u7,u8) b x2).2.2.2.2.2.1,(S.proc (u1,u2,u3,u4,u5,u6,u7,u8) b x2).2.2.2.2.2.2.1,(S.proc (u1,u2,u3,u4,u5,u6,u7,u8) b x2).2.2.2.2.2.2.2) (agi b x2)).1=(S.proc (u1,u2,u3,u4,u5,u6,u7,u8) b x3).1/\(S.block ((S.proc (u1,u2,u3,u4,u5,u6,u7,u8) b x2).1,(S.proc (u1,u2,u3,u4,u5,u6,u7,u8) b x2).2.1,(S.proc (u1,u2,u3,u4,u5,u6,u7,u8) b x2).2.2.1,(S.proc (u1,u2,u3,u4,u5,u6,u7,u8) b x2).2.2.2.1,(S.proc (u1,u2,u3,u4,u5,u6,u7,u8) b x2).2.2.2.2.1,(S.proc (u1,u2,u3,u4,u5,u6,u7,u8) b x2).2.2.2.2.2.1,(S.proc (u1,u2,u3,u4,u5,u6,u7,u8) b x2).2.2.2.2.2.2.1,(S.proc (u1,u2,u3,u4,u5,u6,u7,u8) b x2).2.2.2.2.2.2.2) (agi b x2)).2.1=(S.proc (u1,u2,u3,u4,u5,u6,u7,u8) b x3).2.1/\(S.block ((S.proc (u1,u2,u3,u4,u5,u6,u7,u8) b x2).1,(S.proc (u1,u2,u3,u4,u5,u6,u7,u8) b x2).2.1,(S.proc (u1,u2,u3,u4,u5,u6,u7,u8) b x2).2.2.1,(S.proc (u1,u2,u3,u4,u5,u6,u7,u8) b x2).2.2.2.1,(S.proc (u1,u2,u3,u4,u5,u6,u7,u8) b x2).2.2.2.2.1,(S.proc (u1,u2,u3,u4,u5,u6,u7,u8) b x2).2.2.2.2.2.1,(S.proc (u1,u2,u3,u4,u5,u6,u7,u8) b x2).2.2.2.2.2.2.1,(S.proc (u1,u2,u3,u4,u5,u6,u7,u8) b x2).2.2.2.2.2.2.2) (agi b x2)).2.2.1=(S.proc (u1,u2,u3,u4,u5,u6,u7,u8) b x3).2.2.1/\(S.block ((S.proc (u1,u2,u3,u4,u5,u6,u7,u8) b x2).1,(S.proc (u1,u2,u3,u4,u5,u6,u7,u8) b x2).2.1,(S.proc (u1,u2,u3,u4,u5,u6,u7,u8) b x2).2.2.1,(S.proc (u1,u2,u3,u4,u5,u6,u7,u8) b x2).2.2.2.1,(S.proc (u1,u2,u3,u4,u5,u6,u7,u8) b x2).2.2.2.2.1,(S.proc (u1,u2,u3,u4,u5,u6,u7,u8) b x2).2.2.2.2.2.1,(S.proc (u1,u2,u3,u4,u5,u6,u7,u8) b x2).2.2.2.2.2.2.1,(S.proc (u1,u2,u3,u4,u5,u6,u7,u8) b x2).2.2.2.2.2.2.2) (agi b x2)).2.2.2.1=(S.proc (u1,u2,u3,u4,u5,u6,u7,u8) b x3).2.2.2.1/\(S.block ((S.proc (u1,u2,u3,u4,u5,u6,u7,u8) b x2).1,(S.proc (u1,u2,u3,u4,u5,u6,u7,u8) b x2).2.1,(S.proc (u1,u2,u3,u4,u5,u6,u7,u8) b x2).2.2.1,(S.proc (u1,u2,u3,u4,u5,u6,u7,u8) b x2).2.2.2.1,(S.proc (u1,u2,u3,u4,u5,u6,u7,u8) b x2).2.2.2.2.1,(S.proc (u1,u2,u3,u4,u5,u6,u7,u8) b x2).2.2.2.2.2.1,(S.proc (u1,u2,u3,u4,u5,u6,u7,u8) b x2).2.2.2.2.2.2.1,(S.proc (u1,u2,u3,u4,u5,u6,u7,u8) b x2).2.2.2.2.2.2.2) (agi b x2)).2.2.2.2.1=(S.proc (u1,u2,u3,u4,u5,u6,u7,u8) b x3).2.2.2.2.1/\(S.block ((S.proc (u1,u2,u3,u4,u5,u6,u7,u8) b x2).1,(S.proc (u1,u2,u3,u4,u5,u6,u7,u8) b x2).2.1,(S.proc (u1,u2,u3,u4,u5,u6,u7,u8) b x2).2.2.1,(S.proc (u1,u2,u3,u4,u5,u6,u7,u8) b x2).2.2.2.1,(S.proc (u1,u2,u3,u4,u5,u6,u7,u8) b x2).2.2.2.2.1,(S.proc (u1,u2,u3,u4,u5,u6,u7,u8) b x2).2.2.2.2.2.1,(S.proc (u1,u2,u3,u4,u5,u6,u7,u8) b x2).2.2.2.2.2.2.1,(S.proc (u1,u2,u3,u4,u5,u6,u7,u8) b x2).2.2.2.2.2.2.2) (agi b x2)).2.2.2.2.2.1=(S.proc (u1,u2,u3,u4,u5,u6,u7,u8) b x3).2.2.2.2.2.1/\(S.block ((S.proc (u1,u2,u3,u4,u5,u6,u7,u8) b x2).1,(S.proc (u1,u2,u3,u4,u5,u6,u7,u8) b x2).2.1,(S.proc (u1,u2,u3,u4,u5,u6,u7,u8) b x2).2.2.1,(S.proc (u1,u2,u3,u4,u5,u6,u7,u8) b x2).2.2.2.1,(S.proc (u1,u2,u3,u4,u5,u6,u7,u8) b x2).2.2.2.2.1,(S.proc (u1,u2,u3,u4,u5,u6,u7,u8) b x2).2.2.2.2.2.1,(S.proc (u1,u2,u3,u4,u5,u6,u7,u8) b x2).2.2.2.2.2.2.1,(S.proc (u1,u2,u3,u4,u5,u6,u7,u8) b x2).2.2.2.2.2.2.2) (agi b x2)).2.2.2.2.2.2.1=(S.proc (u1,u2,u3,u4,u5,u6,u7,u8) b x3).2.2.2.2.2.2.1/\(S.block ((S.proc (u1,u2,u3,u4,u5,u6,u7,u8) b x2).1,(S.proc (u1,u2,u3,u4,u5,u6,u7,u8) b x2).2.1,(S.proc (u1,u2,u3,u4,u5,u6,u7,u8) b x2).2.2.1,(S.proc (u1,u2,u3,u4,u5,u6,u7,u8) b x2).2.2.2.1,(S.proc (u1,u2,u3,u4,u5,u6,u7,u8) b x2).2.2.2.2.1,(S.proc (u1,u2,u3,u4,u5,u6,u7,u8) b x2).2.2.2.2.2.1,(S.proc (u1,u2,u3,u4,u5,u6,u7,u8) b x2).2.2.2.2.2.2.1,(S.proc (u1,u2,u3,u4,u5,u6,u7,u8) b x2).2.2.2.2.2.2.2) (agi b x2)).2.2.2.2.2.2.2=(S.proc (u1,u2,u3,u4,u5,u6,u7,u8) b x3).2.2.2.2.2.2.2)/\64*x3<=List.length b/\q53 (S.blocks b) x3 x2)) ((S.proc (u1,u2,u3,u4,u5,u6,u7,u8) b x2).1=(S.aE (u1,u2,u3,u4,u5,u6,u7,u8) b).1) ((S.proc (u1,u2,u3,u4,u5,u6,u7,u8) b x2).2.1=(S.aE (u1,u2,u3,u4,u5,u6,u7,u8) b).2.1/\(S.proc (u1,u2,u3,u4,u5,u6,u7,u8) b x2).2.2.1=(S.aE (u1,u2,u3,u4,u5,u6,u7,u8) b).2.2.1/\(S.proc (u1,u2,u3,u4,u5,u6,u7,u8) b x2).2.2.2.1=(S.aE (u1,u2,u3,u4,u5,u6,u7,u8) b).2.2.2.1/\(S.proc (u1,u2,u3,u4,u5,u6,u7,u8) b x2).2.2.2.2.1=(S.aE (u1,u2,u3,u4,u5,u6,u7,u8) b).2.2.2.2.1/\(S.proc (u1,u2,u3,u4,u5,u6,u7,u8) b x2).2.2.2.2.2.1=(S.aE (u1,u2,u3,u4,u5,u6,u7,u8) b).2.2.2.2.2.1/\(S.proc (u1,u2,u3,u4,u5,u6,u7,u8) b x2).2.2.2.2.2.2.1=(S.aE (u1,u2,u3,u4,u5,u6,u7,u8) b).2.2.2.2.2.2.1/\(S.proc (u1,u2,u3,u4,u5,u6,u7,u8) b x2).2.2.2.2.2.2.2=(S.aE (u1,u2,u3,u4,u5,u6,u7,u8) b).2.2.2.2.2.2.2/\S.gg b x2=S.jo b)):=by
 refine aP ?_;have awH:0<=u1/\u1<=4294967295:=hf.1;have awI:0<=u2/\u2<=4294967295:=hf.2.1;have awJ:0<=u3/\u3<=4294967295:=hf.2.2.1;have awK:0<=u4/\u4<=4294967295:=hf.2.2.2.1;have awL:0<=u5/\u5<=4294967295:=hf.2.2.2.2.1;have awM:0<=u6/\u6<=4294967295:=hf.2.2.2.2.2.1;have awN:0<=u7/\u7<=4294967295:=hf.2.2.2.2.2.2.1;have awO:0<=u8/\u8<=4294967295:=hf.2.2.2.2.2.2.2.1;have ko:Vg.hlen b:=hf.2.2.2.2.2.2.2.2.1.1;clear hf;refine⟨?_,?_⟩
 . refine⟨0,?_⟩;try dsimp only
   with_reducible and_intros
   . simp only [S.gg,Y?];congr 1
   iterate 8 rfl
   omega
 intro x1 h2;refine⟨?_,?_⟩
 . intro h3;try simp only [dt] at h3
   with_reducible and_intros
   iterate 2 omega
   . exact⟨S.UE _ _ hp _,by simp only [S.gg,T?,D?] at *;omega⟩
   iterate 2 omega
   refine⟨(x1+1),?_⟩;try dsimp only
   with_reducible and_intros
   . simp only [S.gg,Y?];congr 1
   iterate 8 (simp only [S.alD])
   . simp only [S.gg,D?,S.al,S.blocks] at *;omega
   simp only [S.gg,D?,S.al,S.blocks] at *;omega
 intro h4;try simp only [df] at h4
 with_reducible and_intros
 iterate 8
  . rw [show x1=S.blocks b by(simp only [S.gg,D?,S.blocks] at *;omega)];rfl
 rw [show x1=S.blocks b by(simp only [S.gg,D?,S.blocks] at *;omega)];rfl
theorem awQ(s1 s2 s3 s4 s5 s6 s7 s8:Int)(s9:B8)(cD:Int)(b:B8)(hp:S.RK (s1,s2,s3,s4,s5,s6,s7,s8) s9 cD b)(hf:Vg.bo J.q4p (s1,s2,s3,s4,s5,s6,s7,s8,s9,cD,b)):abS (afu (Bool.not (S.oV s9 cD)) (q32 (1099511627776-cD))) (acd (adn b cD s9)/\q32 (List.length (aeP b cD s9)+akX b)/\((0:Int)<=0/\(0:Int)<=List.length (aeP b cD s9)+akX b/\List.length (aeP b cD s9)+akX b<=ani alm)/\wC (List.length (afy 0 0)+List.length (aeP b cD s9))/\wC (List.length (afy 0 0++aeP b cD s9)+akX b)/\S.vZ (aeL (adn b cD s9) s1 s2 s3 s4 s5 s6 s7 s8)/\q36 (S.jo (afy 0 0++aeP b cD s9++b))/\q32 ((bif adn b cD s9 then 0 else cD)+akX b)/\(S.aE (aeL (adn b cD s9) s1 s2 s3 s4 s5 s6 s7 s8) (afy 0 0++aeP b cD s9++b)).1=(S.aE (s1,s2,s3,s4,s5,s6,s7,s8) b).1/\(S.aE (aeL (adn b cD s9) s1 s2 s3 s4 s5 s6 s7 s8) (afy 0 0++aeP b cD s9++b)).2.1=(S.aE (s1,s2,s3,s4,s5,s6,s7,s8) b).2.1/\(S.aE (aeL (adn b cD s9) s1 s2 s3 s4 s5 s6 s7 s8) (afy 0 0++aeP b cD s9++b)).2.2.1=(S.aE (s1,s2,s3,s4,s5,s6,s7,s8) b).2.2.1/\(S.aE (aeL (adn b cD s9) s1 s2 s3 s4 s5 s6 s7 s8) (afy 0 0++aeP b cD s9++b)).2.2.2.1=(S.aE (s1,s2,s3,s4,s5,s6,s7,s8) b).2.2.2.1/\(S.aE (aeL (adn b cD s9) s1 s2 s3 s4 s5 s6 s7 s8) (afy 0 0++aeP b cD s9++b)).2.2.2.2.1=(S.aE (s1,s2,s3,s4,s5,s6,s7,s8) b).2.2.2.2.1/\(S.aE (aeL (adn b cD s9) s1 s2 s3 s4 s5 s6 s7 s8) (afy 0 0++aeP b cD s9++b)).2.2.2.2.2.1=(S.aE (s1,s2,s3,s4,s5,s6,s7,s8) b).2.2.2.2.2.1/\(S.aE (aeL (adn b cD s9) s1 s2 s3 s4 s5 s6 s7 s8) (afy 0 0++aeP b cD s9++b)).2.2.2.2.2.2.1=(S.aE (s1,s2,s3,s4,s5,s6,s7,s8) b).2.2.2.2.2.2.1/\(S.aE (aeL (adn b cD s9) s1 s2 s3 s4 s5 s6 s7 s8) (afy 0 0++aeP b cD s9++b)).2.2.2.2.2.2.2=(S.aE (s1,s2,s3,s4,s5,s6,s7,s8) b).2.2.2.2.2.2.2/\S.jo (afy 0 0++aeP b cD s9++b)=S.jo b/\(bif adn b cD s9 then(0:Int) else cD)+akX b=S.B2 b):=by
 refine aP ?_;have Ho:0<=s1/\s1<=4294967295:=hf.1;have Hp:0<=s2/\s2<=4294967295:=hf.2.1;have M6:0<=s3/\s3<=4294967295:=hf.2.2.1;have SJ:0<=s4/\s4<=4294967295:=hf.2.2.2.1;have SK:0<=s5/\s5<=4294967295:=hf.2.2.2.2.1;have SL:0<=s6/\s6<=4294967295:=hf.2.2.2.2.2.1;have SM:0<=s7/\s7<=4294967295:=hf.2.2.2.2.2.2.1;have aja:0<=s8/\s8<=4294967295:=hf.2.2.2.2.2.2.2.1;have ajb:Vg.hlen s9:=hf.2.2.2.2.2.2.2.2.1.1;have ĸ:Vg.hint cD:=hf.2.2.2.2.2.2.2.2.2.1;have ko:Vg.hlen b:=hf.2.2.2.2.2.2.2.2.2.2.1.1;clear hf;obtain⟨Rr,rfl,rfl,hs⟩:=hp;simp only [S.small] at hs;have hv:S.oV [] 0=true :=by decide
 have hd:decide ((1099511627776:Int)-0<(b.length:Int))=false :=by simp;omega
 simp only [hv,hd,Bool.not_true,L!,I!,ln,Int.toNat_zero];with_reducible and_intros
 trivial
 . intro h1;try simp only [nt] at h1
   trivial
 . intro h2;try simp only [nf] at h2
   refine⟨?_,?_⟩
   . omega
   omega
 . intro h3;try simp only [V.xq,nt,dt] at h3
   trivial
 . intro h4;try simp only [V.jz,nf,df] at h4
   trivial
 iterate 5 omega
 iterate 2
  . simp only [List.replicate_zero,d?,F?,S.qR,S.B2,ln,K!] at *;omega
 omega
 . simp only [List.replicate_zero,d?,F?,S.qR,S.B2,ln,K!] at *;omega
 iterate 2 omega
 iterate 9 rfl
 simp only [List.replicate_zero,d?,F?,S.qR,S.B2,ln,K!] at *;omega
theorem awR(s1 s2 s3 s4 s5 s6 s7 s8:Int)(s9:B8)(cD:Int)(hp:S.Jt (s1,s2,s3,s4,s5,s6,s7,s8) s9 cD)(hf:Vg.bo J.q2p (s1,s2,s3,s4,s5,s6,s7,s8,s9,cD)):abS (acd (aje cD s9)) (wC (List.length (bif aje cD s9 then([]:B8) else s9))/\wC (List.length (bif aje cD s9 then([]:B8) else s9)+List.length [(128:UInt8)])/\(∃(x1:Nat),(bif aje cD s9 then([]:B8) else s9)++ [(128:UInt8)]=S.j6 s9 x1/\S.fb s9 x1)/\(∀(x2:Nat),S.fb s9 x2->(0:Int)<=(List.length (S.j6 s9 x2):Int)/\(0:Int)<(64:Int)/\eP (py ((List.length (S.j6 s9 x2):Int)%(64:Int)) (56:Int)) (wC (List.length (S.j6 s9 x2)+List.length [(0:UInt8)])) (∃(x3:Nat),S.j6 s9 x2++ [(0:UInt8)]=S.j6 s9 x3/\S.fb s9 x3/\q53 (S.lf (S.len s9)) x3 x2) (∃(x4:Nat),((0:Int)=(x4:Int)/\S.j6 s9 x2=S.jd s9 cD x4)/\S.fe x4 (8:Nat)) (∀(x5:Nat),S.fe x5 (8:Nat)->q64 (decide ((x5:Int)<(8:Int))) (q32 ((8:Int)*(x5:Int))) (q32 ((56:Int)-(8:Int)*(x5:Int))/\((0:Int)<=(56:Int)-(8:Int)*(x5:Int)/\(56:Int)-(8:Int)*(x5:Int)<=(64:Int))/\aeR (S.jd s9 cD x5) [alk (ak8 (ak8 (bif aje cD s9 then(0:Int) else cD)*(8:Int))) ((56:Int)-(8:Int)*(x5:Int))]/\abK (x5:Int) (∃(x6:Nat),((x5:Int)+(1:Int)=(x6:Int)/\S.jd s9 cD x5++ [alk (ak8 (ak8 (bif aje cD s9 then(0:Int) else cD)*(8:Int))) ((56:Int)-(8:Int)*(x5:Int))]=S.jd s9 cD x6)/\anj x6 (8:Nat) x5)) (S.vZ (aeL (aje cD s9) s1 s2 s3 s4 s5 s6 s7 s8)) ((0:Int)<=(0:Int)/\(0:Int)<=(32:Int)/\(32:Int)<=ani alm) ((∃(x7:Nat),((0:Int)=(x7:Int)/\afy (0:Int) (0:UInt8)=S.vY (S.aE (s1,s2,s3,s4,s5,s6,s7,s8) (S.tail s9 cD)) x7)/\S.fe x7 (8:Nat))/\(∀(x8:Nat),S.fe x8 (8:Nat)->q90 (decide ((x8:Int)<(8:Int))) (0:Int) (x8:Int) ae3 (abN (24:Int) (32:Int) (abN (16:Int) (32:Int) (abN (8:Int) (32:Int) (aeR (S.vY (S.aE (s1,s2,s3,s4,s5,s6,s7,s8) (S.tail s9 cD)) x8) [alk (ado cD s1 s2 s3 s4 s5 s6 s7 s8 s9 x5 x8) (24:Int),alk (ado cD s1 s2 s3 s4 s5 s6 s7 s8 s9 x5 x8) (16:Int),alk (ado cD s1 s2 s3 s4 s5 s6 s7 s8 s9 x5 x8) (8:Int),rX (ado cD s1 s2 s3 s4 s5 s6 s7 s8 s9 x5 x8%(256:Int))]/\abK (x8:Int) (∃(x9:Nat),((x8:Int)+(1:Int)=(x9:Int)/\S.vY (S.aE (s1,s2,s3,s4,s5,s6,s7,s8) (S.tail s9 cD)) x8++ [alk (ado cD s1 s2 s3 s4 s5 s6 s7 s8 s9 x5 x8) (24:Int),alk (ado cD s1 s2 s3 s4 s5 s6 s7 s8 s9 x5 x8) (16:Int),alk (ado cD s1 s2 s3 s4 s5 s6 s7 s8 s9 x5 x8) (8:Int),rX (ado cD s1 s2 s3 s4 s5 s6 s7 s8 s9 x5 x8%(256:Int))]=S.vY (S.aE (s1,s2,s3,s4,s5,s6,s7,s8) (S.tail s9 cD)) x9)/\anj x9 (8:Nat) x8))))) (S.vY (S.aE (s1,s2,s3,s4,s5,s6,s7,s8) (S.tail s9 cD)) x8=S.dig (S.aE (s1,s2,s3,s4,s5,s6,s7,s8) (S.tail s9 cD)))))))):=by
 refine aP ?_;have Ho:0<=s1/\s1<=4294967295:=hf.1;have Hp:0<=s2/\s2<=4294967295:=hf.2.1;have M6:0<=s3/\s3<=4294967295:=hf.2.2.1;have SJ:0<=s4/\s4<=4294967295:=hf.2.2.2.1;have SK:0<=s5/\s5<=4294967295:=hf.2.2.2.2.1;have SL:0<=s6/\s6<=4294967295:=hf.2.2.2.2.2.1;have SM:0<=s7/\s7<=4294967295:=hf.2.2.2.2.2.2.1;have aja:0<=s8/\s8<=4294967295:=hf.2.2.2.2.2.2.2.1;have ajb:Vg.hlen s9:=hf.2.2.2.2.2.2.2.2.1.1;have ĸ:Vg.hint cD:=hf.2.2.2.2.2.2.2.2.2.1;clear hf;have hv:=S.acf hp;obtain⟨Rr,h01,h02,h03⟩:=hp;simp only [hv,Bool.not_true,L!];with_reducible and_intros
 trivial
 . intro h1;try simp only [nt] at h1
   trivial
 . intro h2;try simp only [nf] at h2
   trivial
 omega
 . simp only [S.fm,S.iE,S.fb,S.lf,S.fe,S.al,S.len,lc,ln] at *;omega
 . refine⟨0,?_⟩;try dsimp only
   refine⟨?_,?_⟩
   . exact S.afW _
   simp only [S.fm,S.iE,S.fb,S.lf,S.fe,S.al,S.len,lc,ln] at *;omega
 intro x3 h4;with_reducible and_intros
 iterate 2 omega
 . intro h5;try simp only [nt,df] at h5
   refine⟨?_,?_⟩
   . simp only [S.fm,S.iE,S.fb,S.lf,S.fe,S.al,S.len,lc,ln] at *;omega
   refine⟨(x3+1),?_⟩;try dsimp only
   with_reducible and_intros
   exact S.UF _ _;exact S.Xf h4 h5;simp only [S.fm,S.iE,S.fb,S.lf,S.fe,S.al,S.len,lc,ln] at *;omega
 intro h6;try simp only [nf,dt] at h6
 refine⟨?_,?_⟩
 . refine⟨(nat_lit 0:Nat),?_⟩;try dsimp only
   with_reducible and_intros
   omega;rw [S.afX,<-S.acg h4 h6];simp only [S.fm,S.iE,S.fb,S.lf,S.fe,S.al,S.len,lc,ln] at *;omega
 intro x7 h8;refine⟨?_,?_⟩
 . intro h9;try simp only [dt] at h9
   with_reducible and_intros
   iterate 6 omega
   . simp only [S.fm,S.iE,S.fb,S.lf,S.fe,S.al,S.len,lc,ln] at *;omega
   iterate 2 omega
   refine⟨(x7+nat_lit 1),?_⟩;try dsimp only
   with_reducible and_intros
   omega;exact S.UG s9 cD x7 h01 h02 w!
   . simp only [S.fm,S.iE,S.fb,S.lf,S.fe,S.al,S.len,lc,ln] at *;omega
   simp only [S.fm,S.iE,S.fb,S.lf,S.fe,S.al,S.len,lc,ln] at *;omega
 intro e6;try simp only [df] at e6
 with_reducible and_intros
 iterate 4 omega
 . refine⟨(nat_lit 0:Nat),?_⟩;try dsimp only
   with_reducible and_intros
   omega;rfl;simp only [S.fm,S.iE,S.fb,S.lf,S.fe,S.al,S.len,lc,ln] at *;omega
 intro x11 jH;refine⟨?_,?_⟩
 . intro mv;try simp only [dt] at mv
   with_reducible and_intros
   iterate 8 omega
   . rw [S.Pb _ _ (by simp only [S.fe] at *;omega)];simp;omega
   iterate 2 omega
   refine⟨(x11+nat_lit 1),?_⟩;try dsimp only
   with_reducible and_intros
   omega
   . rw [show x7=8 by(simp only [S.fe] at *;omega)];exact S.alC _ x11 w!
   . simp only [S.fm,S.iE,S.fb,S.lf,S.fe,S.al,S.len,lc,ln] at *;omega
   simp only [S.fm,S.iE,S.fb,S.lf,S.fe,S.al,S.len,lc,ln] at *;omega
 intro rY;try simp only [df] at rY
 rw [show x11=8 by(simp only [S.fe] at *;omega)];rfl
theorem awS(b:B8)(hp:S.small b)(hf:Vg.bo J.fv b):abS (S.RK afC q70 0 b) (S.Jt (aus b) (S.jo b) (S.B2 b)/\S.dig (S.aE (aus b) (S.tail (S.jo b) (S.B2 b)))=S.sum b):=by
 refine aP ?_;have ko:Vg.hlen b:=hf.1.1;clear hf;with_reducible and_intros
 trivial;exact⟨S.afV,rfl,rfl,hp⟩
 . simp only [S.small] at hp;exact⟨S.UE _ _ S.afV _,by simp only [S.B2];omega,by simp only [S.B2];omega,by rw [S.qR];simp [S.B2]⟩
 exact congrArg S.dig (S.Xh b _)
theorem awT(b:B8)(hp:b.length<=140737488355328)(hf:Vg.bo J.fv b):q36 b/\b=b:=by
 refine aP ?_;grind
theorem awU(v:Int)(l:B8)(hp:S.EW l v)(hf:Vg.dL J.q6p v)(hg:Vg.bT.ok J.q0q (l,())):(∃(x1:B8×Int),(v=x1.2/\l=x1.1)/\S.rP l v x1.1 x1.2)/\(∀(x2:B8×Int),S.rP l v x2.1 x2.2->eP (decide (127<x2.2)) (0<=x2.2) ((0:Int)<=127/\wC (List.length x2.1+List.length [rX (Vg.cm (Vg.aK x2.2 127%256) 128)])/\abN 7 64 (∃(x3:B8×Int),(x2.2/ix 2 7=x3.2/\x2.1++ [rX (Vg.cm (Vg.aK x2.2 127%256) 128)]=x3.1)/\S.rP l v x3.1 x3.2/\Qj x3.2 x2.2)) (wC (List.length x2.1+List.length [rX (x2.2%256)])) (x2.1++ [rX (x2.2%256)]=l++S.num v)):=by
 refine aP ?_;have ĺ:Vg.hint v:=hf.1;obtain⟨oA,Q5⟩:=hp;refine⟨?_,?_⟩
 . refine⟨((l),(v)),?_⟩;with_reducible and_intros
   omega;rfl;exact⟨oA,P? _,rfl⟩
 intro x1 h2;refine V.dI (fun h3=> ?_) fun h4=> ?_
 . with_reducible and_intros
   iterate 2 omega
   . (have hl:=S.EY h2;grind)
   iterate 2 omega
   refine⟨((Prod.fst x1++ [UInt8.ofNat (Int.toNat (Vg.cm (Vg.aK (Prod.snd x1) (127:Int)%(256:Int)) (128:Int)))]),(Prod.snd x1/(2:Int)^Int.toNat (7:Int))),?_⟩;grind[S.EY,S.ò,S.acm]
 refine⟨?_,?_⟩
 . (have hl:=S.EY h2;grind)
 grind[S.EY,S.ò,S.af5]
theorem awV(s l:B8)(hp:S.nB l s)(hf:Vg.dL J.q7p s)(hg:Vg.bT.ok J.q0q (l,())):S.EW l (List.length s)/\wC (List.length (l++S.num (List.length s))+List.length s)/\l++S.num (List.length s)++s=l++S.text s:=by
 refine aP ?_;obtain⟨oA,Q5⟩:=hp;grind[S.eN,S.EW,List.length_append,S.text]
theorem awW(b:B8)(v:Int)(hp:b.length<=35184372088832)(hf:Vg.bo J.q8p (b,v)):q64 (q79 v 0 (decide (4611686018427387904<v))) (1=S.v7 v) ([]=S.lh b v) (q36 b) (S.EW b v) (0=S.v7 v/\b++S.num v=S.lh b v):=by
 refine aP ?_;refine⟨?_,?_⟩
 . simp_all[V.xq,dt,S.lh,S.v7,S.fD]
 intro h2;simp at h2;with_reducible and_intros
 omega;exact⟨w!,w!⟩;iterate 2 (grind[S.lh,S.v7,S.fD])
theorem awX(b s:B8)(hp:S.nB b s)(hf:Vg.bo J.q9p (b,s)):q36 b/\S.nB b s/\b++S.text s=b++S.text s:=by
 refine aP ?_;grind[S.nB]
theorem awY(r1:B8)(r2 r3:Int)(hp:True)(hf:Vg.bo J.Cg (r1,r2,r3)):aum 0 r2 (q26 r1)=S.inside r1 r2:=by
 refine aP ?_;grind[S.inside,decide]
theorem awZ(r1:B8)(r2 r3:Int)(hp:r1.length<=140737488355328)(hf:Vg.bo J.Cg (r1,r2,r3)):q36 r1/\acd (mr r3)/\r1=r1/\(bif q38 (mr r3) (Bool.not (S.inside r1 r2)) then r2 else r2)=r2/\(bif q38 (mr r3) (Bool.not (S.inside r1 r2)) then(1:Int) else r3)=S.bU r1 r2 r3:=by
 refine aP ?_;grind[S.bU,S.inside]
theorem aw0(b:B8)(p:Int)(hp:S.dy b p)(hf:Vg.bo J.q8p (b,p)):(∃(x1:Nat),(0=S.fA b p x1/\(0:Int)=x1)/\S.jq b p x1)/\(∀(x2:Nat),S.jq b p x2->q98 (decide ((x2:Int)=9)) (0=(S.aD b p).1) (0=(S.aD b p).2.1/\2=(S.aD b p).2.2) (q32 (q26 b-p)) (decide (x2=q26 b-p)) (0=(S.aD b p).2.1/\4=(S.aD b p).2.2) (q32 (p+x2)) (dQ 0 (p+x2) (q26 b)) (q32 (7*x2)/\((0:Int)<=7*x2/\(7:Int)*x2<=64)/\q32 (Hi b p x2)/\0<=S.fA b p x2/\0<=Hi b p x2/\abK x2 (hU (decide (VV b (p+x2) 0<128)) (hU (decide ((1:Int)<x2+1)) (q32 (p+(x2+1))) (q32 (p+(x2+1)-1)/\dQ 0 (p+(x2+1)-1) (q26 b)) True) (eP (bif decide ((1:Int)<x2+1) then gD (mr (VV b (p+(x2+1)-1) 0)) (decide (4611686018427387904<Vg.cm (S.fA b p x2) (Hi b p x2))) else decide (4611686018427387904<Vg.cm (S.fA b p x2) (Hi b p x2))) (0=(S.aD b p).1) (0=(S.aD b p).2.1/\2=(S.aD b p).2.2) (q32 (p+(x2+1))) (Vg.cm (S.fA b p x2) (Hi b p x2)=(S.aD b p).1/\p+(x2+1)=(S.aD b p).2.1/\0=(S.aD b p).2.2)) (∃(x3:Nat),(Vg.cm (S.fA b p x2) (Hi b p x2)=S.fA b p x3/\(x2:Int)+1=x3)/\S.jq b p x3/\q53 9 x3 x2)))):=by
 refine aP ?_;have ko:Vg.hlen b:=hf.1.1;clear hf;have zA:=hp;simp only [S.dy] at zA;refine⟨?_,?_⟩
 . refine⟨(nat_lit 0:Nat),?_⟩;try dsimp only
   with_reducible and_intros
   exact(S.aA1 b p).symm;omega;exact S.aA0 hp
 intro x1 h2;refine V.dI (fun h3=> ?_) fun h4=> ?_
 . with_reducible and_intros
   iterate 3 (grind [S.af2,S.UJ])
 with_reducible and_intros
 iterate 2 omega
 . intro h5;with_reducible and_intros
   iterate 3 (grind [S.af2,S.UJ])
 intro h6;try simp at h6
 with_reducible and_intros
 omega
 . (have hg:=S.fU h2;omega)
 omega
 . (have hg:=S.fU h2;omega)
 omega
 . (have hg:=S.fU h2;omega)
 omega
 . (have hg:=S.fU h2;omega)
 iterate 2
  . have hg:=S.fU h2;have hn:=S.mg ((b.getD (p+(x1:Int)).toNat 0).toNat:Int) w!;have hs:=S.ñ (Vg.aK ((b.getD (p+(x1:Int)).toNat 0).toNat:Int) 127) x1 w! w! w!;try clear h8
    try clear h9
    clear hn;omega
 . (have hg:=S.fU h2;have hv:=S.alF (b:=b) (p:=p) hg.1;exact hv.1)
 . (have hg:=S.fU h2;have hn:=S.mg ((b.getD (p+(x1:Int)).toNat 0).toNat:Int) w!;have hs:=S.ñ (Vg.aK ((b.getD (p+(x1:Int)).toNat 0).toNat:Int) 127) x1 w! w! w!;exact hs.1)
 omega
 . (have hg:=S.fU h2;omega)
 . intro h7;try simp only [dt] at h7
   with_reducible and_intros
   . intro h8;with_reducible and_intros
     omega
     . have hg:=S.fU h2;have hn:=S.mg ((b.getD (p+(x1:Int)).toNat 0).toNat:Int) w!;try clear h8
       try clear h9
       clear hn;omega
     omega
     . have hg:=S.fU h2;have hn:=S.mg ((b.getD (p+(x1:Int)).toNat 0).toNat:Int) w!;try clear h8
       try clear h9
       clear hn;omega
     omega;have hg:=S.fU h2;have hn:=S.mg ((b.getD (p+(x1:Int)).toNat 0).toNat:Int) w!;try clear h8
     try clear h9
     clear hn;omega
   . intro h9;trivial
   . intro e6;with_reducible and_intros
     . exact(S.Gw hp h2 (by have hg:=S.fU h2;omega) w! w! e6).1
     . exact(S.Gw hp h2 (by have hg:=S.fU h2;omega) w! w! e6).2.1
     . exact(S.Gw hp h2 (by have hg:=S.fU h2;omega) w! w! e6).2.2
   intro iR;with_reducible and_intros
   omega
   . clear iR;have hg:=S.fU h2;omega
   . exact(S.Gx hp h2 (by have hg:=S.fU h2;omega) w! w! iR).1
   . exact(S.Gx hp h2 (by have hg:=S.fU h2;omega) w! w! iR).2.1
   . exact(S.Gx hp h2 (by have hg:=S.fU h2;omega) w! w! iR).2.2
 intro jH;try simp only [df] at jH
 refine⟨(x1+nat_lit 1),?_⟩;try dsimp only
 with_reducible and_intros
 . (have hg:=S.fU h2;exact S.ð hp h2 w!)
 omega
 . (have hg:=S.fU h2;exact S.ack hp h2 w! w! w!)
 . (have hg:=S.fU h2;simp only [S.al];omega)
theorem aw1(b:B8)(p dg:Int)(hp:S.dy b p)(hf:Vg.bo J.atd (b,p,dg)):S.dy b p/\hU (abF (S.aD b p).2.2) ([]=(S.cM b p dg).1) (0=(S.cM b p dg).2.1/\(S.aD b p).2.2=(S.cM b p dg).2.2) (q98 (decide (dg<(S.aD b p).1)) ([]=(S.cM b p dg).1) (0=(S.cM b p dg).2.1/\2=(S.cM b p dg).2.2) (q32 (q26 b-(S.aD b p).2.1)) (decide (q26 b-(S.aD b p).2.1<(S.aD b p).1)) (0=(S.cM b p dg).2.1/\4=(S.cM b p dg).2.2) (q32 ((S.aD b p).2.1+(S.aD b p).1)) (0<=(S.aD b p).2.1/\(S.aD b p).2.1<=(S.aD b p).2.1+(S.aD b p).1/\(S.aD b p).2.1+(S.aD b p).1<=q26 b) (q32 ((S.aD b p).2.1+(S.aD b p).1)/\adp (S.aD b p).2.1 ((S.aD b p).2.1+(S.aD b p).1) b=(S.cM b p dg).1/\(S.aD b p).2.1+(S.aD b p).1=(S.cM b p dg).2.1/\0=(S.cM b p dg).2.2)):=by
 refine aP ?_;have ko:Vg.hlen b:=hf.1.1;have hb:=S.Xk hp;with_reducible and_intros
 omega;grind[nt,df,S.cM];intro h2;refine⟨?_,?_⟩
 . simp_all[dt,S.cM]
 intro h4;with_reducible and_intros
 iterate 2 omega
 grind[S.cM];grind[df,S.cM]
theorem aw2(r1:B8)(r2 r3 dg:Int)(hp:r1.length<=140737488355328)(hf:Vg.bo J.ate (r1,r2,r3,dg)):q36 r1/\eP (abF (S.bU r1 r2 r3)) (r1=(S.ai r1 r2 r3 dg).1.1) (r2=(S.ai r1 r2 r3 dg).1.2.1/\S.bU r1 r2 r3=(S.ai r1 r2 r3 dg).1.2.2/\ []=(S.ai r1 r2 r3 dg).2) (S.dy r1 r2) (hU (abF (S.cM r1 r2 dg).2.2) (r1=(S.ai r1 r2 r3 dg).1.1) (r2=(S.ai r1 r2 r3 dg).1.2.1/\(S.cM r1 r2 dg).2.2=(S.ai r1 r2 r3 dg).1.2.2/\ []=(S.ai r1 r2 r3 dg).2) (r1=(S.ai r1 r2 r3 dg).1.1/\(S.cM r1 r2 dg).2.1=(S.ai r1 r2 r3 dg).1.2.1/\S.bU r1 r2 r3=(S.ai r1 r2 r3 dg).1.2.2/\(S.cM r1 r2 dg).1=(S.ai r1 r2 r3 dg).2)):=by
 refine aP ?_;with_reducible and_intros
 omega;grind[nt,df,S.ai,S.dy,S.bU,S.inside];intro h2;with_reducible and_intros
 grind[S.ai,S.dy,S.bU,S.inside];grind[nt,df,S.ai,S.dy,S.bU,S.inside];simp_all[nf,dt,S.ai,S.dy,S.bU,S.inside]
theorem aw3(r1:B8)(r2 r3:Int)(hp:r1.length<=140737488355328)(hf:Vg.bo J.Cg (r1,r2,r3)):q36 r1/\eP (abF (S.bU r1 r2 r3)) (r1=(S.af r1 r2 r3).1.1) (r2=(S.af r1 r2 r3).1.2.1/\S.bU r1 r2 r3=(S.af r1 r2 r3).1.2.2/\0=(S.af r1 r2 r3).2) (S.dy r1 r2) (hU (abF (S.aD r1 r2).2.2) (r1=(S.af r1 r2 r3).1.1) (r2=(S.af r1 r2 r3).1.2.1/\(S.aD r1 r2).2.2=(S.af r1 r2 r3).1.2.2/\0=(S.af r1 r2 r3).2) (r1=(S.af r1 r2 r3).1.1/\(S.aD r1 r2).2.1=(S.af r1 r2 r3).1.2.1/\S.bU r1 r2 r3=(S.af r1 r2 r3).1.2.2/\(S.aD r1 r2).1=(S.af r1 r2 r3).2)):=by
 refine aP ?_;with_reducible and_intros
 omega;grind[nt,df,S.af,S.dy,S.bU,S.inside];intro h2;with_reducible and_intros
 grind[S.af,S.dy,S.bU,S.inside];grind[nt,df,S.af,S.dy,S.bU,S.inside];simp_all[nf,dt,S.af,S.dy,S.bU,S.inside]
theorem aw4(r1:B8)(r2 r3:Int)(hp:r1.length<=140737488355328)(hf:Vg.bo J.Cg (r1,r2,r3)):wC (List.length r1)/\q98 (abF (S.bU r1 r2 r3)) (r1=(S.an r1 r2 r3).1.1) (r2=(S.an r1 r2 r3).1.2.1/\S.bU r1 r2 r3=(S.an r1 r2 r3).1.2.2/\ []=(S.an r1 r2 r3).2) (q32 (List.length r1-r2)) (decide (List.length r1-r2<32)) (r2=(S.an r1 r2 r3).1.2.1/\4=(S.an r1 r2 r3).1.2.2/\ []=(S.an r1 r2 r3).2) (q32 (r2+32)) (0<=r2/\r2<=r2+32/\r2+32<=List.length r1) (q32 (r2+32)/\r1=(S.an r1 r2 r3).1.1/\r2+32=(S.an r1 r2 r3).1.2.1/\S.bU r1 r2 r3=(S.an r1 r2 r3).1.2.2/\adp r2 (r2+32) r1=(S.an r1 r2 r3).2):=by
 refine aP ?_;have aEf:Vg.hint r2:=hf.2.1;with_reducible and_intros
 omega;grind[nt,df,S.an,S.dy,S.bU,S.inside];intro h2;with_reducible and_intros
 omega;grind[S.an,S.dy,S.bU,S.inside];simp_all[dt,S.an,S.dy,S.bU,S.inside]
 grind[df,S.an,S.dy,S.bU,S.inside,S.acn,List.drop_take]
theorem aw5(r1:B8)(r2 r3:Int)(hp:True)(hf:Vg.bo J.Cg (r1,r2,r3)):fO (abF r3) (r3=S.done r1 r2 r3) (fw (fO (Bool.not (S.inside r1 r2)) (1=S.done r1 r2 r3) (fO (akD r2 r1) (2=S.done r1 r2 r3) (0=S.done r1 r2 r3)))):=by
 refine aP ?_;simp_all[nt,df,S.done,nf,dt]
theorem aw6(kind:UInt8)(parts:List B8)(hp:S.nC parts)(hf:Vg.bo J.atf (kind,parts)):(∃(x1:Nat),((0:Int)=x1/\ [rX (q73 kind)]=S.mN kind parts x1)/\S.ud parts x1)/\(∀(x2:Nat),S.ud parts x2->q90 (decide (x2<wD parts)) 0 x2 (wD parts) (aeR (S.mN kind parts x2) (Dp parts x2)/\abK x2 (∃(x3:Nat),alj x2 x3 (S.mN kind parts x2++Dp parts x2=S.mN kind parts x3) (S.ud parts x3) (S.len parts))) (S.mN kind parts x2=S.fM kind parts)):=by
 refine aP ?_;have azP:Vg.hlen parts:=hf.2.1.1;clear hf;refine⟨?_,?_⟩
 . refine⟨(nat_lit 0:Nat),?_⟩;try dsimp only
   with_reducible and_intros
   omega;exact S.acp _ _;simp only [S.ud,S.al,S.len] at *;omega
 intro x1 h2;refine⟨?_,?_⟩
 . intro h3;try simp only [dt] at h3
   with_reducible and_intros
   iterate 2 omega
   exact S.Xl kind hp w!;iterate 2 omega
   refine⟨(x1+nat_lit 1),?_⟩;try dsimp only
   with_reducible and_intros
   omega;exact S.RO _ _ _ w!
   . simp only [S.ud,S.al,S.len] at *;omega
   simp only [S.ud,S.al,S.len] at *;omega
 intro h4;try simp only [df] at h4
 exact S.UL _ _ _ w!
theorem aw7(b:B8)(hp:S.bQ b)(hf:Vg.bo J.fv b):aun [b] 0 0 b:=by
 refine aP ?_;have ko:Vg.hlen b:=hf.1.1;clear hf;refine⟨?_,?_⟩
 . simp only [S.nC,S.bQ] at *;simp;omega
 simp [S.fM,S.nd]
theorem aw8(l r:B8)(hp:S.bQ (l++r))(hf:Vg.bo J.yh (l,r)):aun [l,r] 1 1 (l++r):=by
 refine aP ?_;have nI:Vg.hlen l:=hf.1;have aCg:Vg.hlen r:=hf.2.1;clear hf;refine⟨?_,?_⟩
 . simp only [S.nC,S.bQ,K!] at *;simp;omega
 simp [S.fM,S.nd]
theorem aw9(b:B8)(hp:S.bQ b)(hf:Vg.bo J.fv b):aun [b] 2 2 b:=by
 refine aP ?_;have ko:Vg.hlen b:=hf.1.1;clear hf;refine⟨?_,?_⟩
 . simp only [S.nC,S.bQ] at *;simp;omega
 simp [S.fM,S.nd]
theorem axa(b:B8)(hp:S.bQ b)(hf:Vg.bo J.fv b):aun [b] 3 3 b:=by
 refine aP ?_;have ko:Vg.hlen b:=hf.1.1;clear hf;refine⟨?_,?_⟩
 . simp only [S.nC,S.bQ] at *;simp;omega
 simp [S.fM,S.nd]
theorem axb(b:B8)(hp:S.bQ b)(hf:Vg.bo J.fv b):awe b (S.nd 0 b) (S.leaf b):=by
 refine aP ?_;have ko:Vg.hlen b:=hf.1.1;clear hf;with_reducible and_intros
 iterate 2 exact hp
 rfl
theorem axc(l r:B8)(hp:True)(hf:Vg.bo J.yh (l,r)):q64 (gD (afB l) (afB r)) ([]=S.bc l r) (1=S.qc l r) (S.bQ (l++r)) (S.small (S.nd 1 (l++r))) (S.sum (S.nd 1 (l++r))=S.bc l r/\0=S.qc l r):=by
 refine aP ?_;have nI:Vg.hlen l:=hf.1;have aCg:Vg.hlen r:=hf.2.1;clear hf;refine⟨?_,?_⟩
 . intro h1;try simp only [V.xq,nt,df] at h1
   refine⟨?_,?_⟩
   . grind [S.bc,S.qc,S.Pj,S.RN,S.lB]
   grind [S.bc,S.qc,S.Pj,S.RN,S.lB]
 intro h2;try simp only [V.jz,nf,dt] at h2
 with_reducible and_intros
 iterate 2
  . simp only [S.small,S.nd,S.bQ,lc,K!] at *;omega
 iterate 2 (grind [S.bc,S.qc,S.Pj,S.RN,S.lB])
theorem axd(b:B8)(hp:S.bQ b)(hf:Vg.bo J.fv b):awe b (S.nd 2 b) (S.lB 2 b):=by
 refine aP ?_;have ko:Vg.hlen b:=hf.1.1;clear hf;with_reducible and_intros
 iterate 2 exact hp
 rfl
theorem axe(b:B8)(hp:S.bQ b)(hf:Vg.bo J.fv b):awe b (S.nd 3 b) (S.lB 3 b):=by
 refine aP ?_;have ko:Vg.hlen b:=hf.1.1;clear hf;with_reducible and_intros
 iterate 2 exact hp
 rfl
theorem axf(c:Int)(hp:True)(hf:Vg.bo J.rD c):amh 0 c (amh c 1114111 (q79 c 55296 (decide (57343<c))))=S.cq c:=by
 refine aP ?_;grind[S.cq]
theorem axg(c:Int)(hp:True)(hf:Vg.bo J.rD c):fO (decide (c<128)) (1=S.dY c) (fO (decide (c<2048)) (2=S.dY c) (fO (decide (c<65536)) (3=S.dY c) (4=S.dY c))):=by
 refine aP ?_;refine⟨?_,?_⟩
 . simp_all[dt,S.dY]
 intro h2;refine⟨?_,?_⟩
 . simp_all[dt,S.dY]
 intro h4;refine⟨?_,?_⟩
 . grind [S.dY]
 grind[df,S.dY]
theorem axh(c:Int)(hp:0<=c)(hf:Vg.bo J.rD c):0<=c/\(0:Int)<=63/\Vg.cm 128 (Vg.aK c 63%256)=q73 (S.more c):=by
 refine aP ?_;have e:Vg.aK c 63%256=c%64:=by grind[S.Lp]
 grind[S.zF,S.alH]
theorem axi(c:Int)(hp:True)(hf:Vg.bo J.rD c):fw (eP (ami c) (1=S.yf c) ([]=S.gN c) True (hU (decide (S.dY c=1)) (0=S.yf c) ([rX (c%256)]=S.gN c) (hU (decide (S.dY c=2)) ((0:Int)<=6/\(6:Int)<=64) (0<=c/\0=S.yf c/\rX (Vg.cm 192 (c/ix 2 6%256))::auk c=S.gN c) (eP (decide (S.dY c=3)) ((0:Int)<=12/\(12:Int)<=64) (abN 6 64 (0<=c/ix 2 6/\0<=c/\0=S.yf c/\rX (Vg.cm 224 (c/ix 2 12%256))::rX (q73 (S.more (c/ix 2 6)))::auk c=S.gN c)) ((0:Int)<=18/\(18:Int)<=64) (abN 12 64 (0<=c/ix 2 12/\abN 6 64 (0<=c/ix 2 6/\0<=c/\0=S.yf c/\rX (Vg.cm 240 (c/ix 2 18%256))::rX (q73 (S.more (c/ix 2 12)))::rX (q73 (S.more (c/ix 2 6)))::auk c=S.gN c))))))):=by
 refine aP ?_;with_reducible and_intros
 trivial;grind[nt,S.yf,S.gN];intro h2;simp at h2;with_reducible and_intros
 trivial
 . intro h3;refine⟨?_,?_⟩
   . grind[S.eC,S.yf]
   (have hc:=S.eC h2;(simp [S.gN,h2,if_true];grind[S.alI,S.dY]))
 intro h4;refine V.dI (fun h5=> ?_) fun h6=> ?_
 . with_reducible and_intros
   iterate 2 omega
   simp_all[S.eC]
   grind[S.eC,S.yf]
   . (have hc:=S.eC h2;(simp only [S.gN,h2,if_true];grind[S.alM,S.dY]))
 refine V.dI (fun h7=> ?_) fun h8=> ?_
 . with_reducible and_intros
   iterate 4 omega
   . (have hc:=S.eC h2;grind)
   simp_all[S.eC]
   grind[S.eC,S.yf]
   . (have hc:=S.eC h2;(simp only [S.gN,h2,if_true];grind[S.alN,S.dY]))
 with_reducible and_intros
 iterate 4 omega
 . (have hc:=S.eC h2;grind)
 iterate 2 omega
 . (have hc:=S.eC h2;grind)
 simp_all[S.eC]
 grind[S.eC,S.yf]
 . (have hc:=S.eC h2;(simp only [S.gN,h2,if_true];grind[S.alO,S.dY]))
theorem axj(b:B8)(hp:0<b.length)(hf:Vg.bo J.fv b):((0:Int)<=0/\0<q26 b)/\eP (decide (VV b 0 0<128)) (VV b 0 0=(S.aL b).1) (1=(S.aL b).2) ((0:Int)<=5/\(5:Int)<=64) (eP (decide (VV b 0 0/ix 2 5=6)) (0<=VV b 0 0) ((0:Int)<=31/\q64 (decide (q26 b<2)) (65533=(S.aL b).1) (1=(S.aL b).2) ((0:Int)<=1/\(1:Int)<=2/\2<=q26 b) (∃(x1:Nat),((0:Int)=x1/\Vg.aK (VV b 0 0) 31=S.bX b x1)/\S.pI b x1) (∀(x2:Nat),S.pI b x2->q64 (decide (x2<q26 (adp 1 2 b))) (dQ 0 x2 (q26 (adp 1 2 b))) (abN 6 8 (awD (py (VV (adp 1 2 b) x2 0/ix 2 6) 2) (S.aL b).1 1 (S.aL b).2 0 6 (S.bX b x2*ix 2 6) (Vg.aK (VV (adp 1 2 b) x2 0) 63) x2 (∃(x3:Nat),aug x2 x3 (S.bX b x2*ix 2 6) (Vg.aK (VV (adp 1 2 b) x2 0) 63) b 4))) True (acd (ami (S.bX b x2))) (eP (gD (ami (S.bX b x2)) (py (S.dY (S.bX b x2)) 2)) (65533=(S.aL b).1) (1=(S.aL b).2) (S.bX b x2=(S.aL b).1) (2=(S.aL b).2)))) ((0:Int)<=4/\(4:Int)<=64) (eP (decide (VV b 0 0/ix 2 4=14)) (0<=VV b 0 0) ((0:Int)<=15/\q64 (decide (q26 b<3)) (65533=(S.aL b).1) (1=(S.aL b).2) ((0:Int)<=1/\(1:Int)<=3/\3<=q26 b) (∃(x4:Nat),((0:Int)=x4/\Vg.aK (VV b 0 0) 15=S.bX b x4)/\S.pI b x4) (∀(x5:Nat),S.pI b x5->q64 (decide (x5<q26 (adp 1 3 b))) (dQ 0 x5 (q26 (adp 1 3 b))) (abN 6 8 (awD (py (VV (adp 1 3 b) x5 0/ix 2 6) 2) (S.aL b).1 1 (S.aL b).2 0 6 (S.bX b x5*ix 2 6) (Vg.aK (VV (adp 1 3 b) x5 0) 63) x5 (∃(x6:Nat),aug x5 x6 (S.bX b x5*ix 2 6) (Vg.aK (VV (adp 1 3 b) x5 0) 63) b 4))) True (acd (ami (S.bX b x5))) (eP (gD (ami (S.bX b x5)) (py (S.dY (S.bX b x5)) 3)) (65533=(S.aL b).1) (1=(S.aL b).2) (S.bX b x5=(S.aL b).1) (3=(S.aL b).2)))) ((0:Int)<=3/\(3:Int)<=64) (eP (decide (VV b 0 0/ix 2 3=30)) (0<=VV b 0 0) ((0:Int)<=7/\q64 (decide (q26 b<4)) (65533=(S.aL b).1) (1=(S.aL b).2) ((0:Int)<=1/\(1:Int)<=4/\4<=q26 b) (∃(x7:Nat),((0:Int)=x7/\Vg.aK (VV b 0 0) 7=S.bX b x7)/\S.pI b x7) (∀(x8:Nat),S.pI b x8->q64 (decide (x8<q26 (adp 1 4 b))) (dQ 0 x8 (q26 (adp 1 4 b))) (abN 6 8 (awD (py (VV (adp 1 4 b) x8 0/ix 2 6) 2) (S.aL b).1 1 (S.aL b).2 0 6 (S.bX b x8*ix 2 6) (Vg.aK (VV (adp 1 4 b) x8 0) 63) x8 (∃(x9:Nat),aug x8 x9 (S.bX b x8*ix 2 6) (Vg.aK (VV (adp 1 4 b) x8 0) 63) b 4))) True (acd (ami (S.bX b x8))) (eP (gD (ami (S.bX b x8)) (py (S.dY (S.bX b x8)) 4)) (65533=(S.aL b).1) (1=(S.aL b).2) (S.bX b x8=(S.aL b).1) (4=(S.aL b).2)))) (65533=(S.aL b).1) (1=(S.aL b).2)))):=by
 refine aP ?_;have ko:Vg.hlen b:=hf.1.1;clear hf;have zA:(0:Int)<b.length:=by omega
 with_reducible and_intros
 iterate 2 omega
 simp_all[dt,S.uf1]
 intro h2;try simp only [df] at h2
 with_reducible and_intros
 iterate 2 omega
 . intro h3;try simp only [dt] at h3
   with_reducible and_intros
   iterate 2 omega
   . intro h4;try simp only [dt] at h4
     refine⟨?_,?_⟩
     . (have hn:=S.sP (b:=b) w! w!;simp_all[S.sc])
     (have hn:=S.sP (b:=b) w! w!;simp_all[S.sc])
   intro h5;try simp only [df] at h5
   with_reducible and_intros
   iterate 3 omega
   . refine⟨(nat_lit 0:Nat),?_⟩;try dsimp only
     with_reducible and_intros
     omega;grind[S.sP,S.aA2]
     . (have hn:=S.sP (b:=b) w! w!;simp_all[S.Xm])
   intro x6 h7;refine V.dI (fun h8=> ?_) fun iR=> ?_
   . with_reducible and_intros
     iterate 4 omega
     . intro h9;try simp only [nt,df,tn] at h9
       refine⟨?_,?_⟩
       . have hn:=S.sP (b:=b) v! v!;have hb:=S.bM h7;have hx:(x6:Int)+1<2:=by(have hc:=S.cg b 2 w! w!;simp only [hc,show Int.toNat 2=2 by rfl] at *;omega)
         simp only [S.j7 b 2 x6 hx,S.mQ b 2 x6 hx] at *;rw [S.v8 hn h7 w! v!]
       have hn:=S.sP (b:=b) v! v!;have hb:=S.bM h7;have hx:(x6:Int)+1<2:=by(have hc:=S.cg b 2 w! w!;simp only [hc,show Int.toNat 2=2 by rfl] at *;omega)
       simp only [S.j7 b 2 x6 hx,S.mQ b 2 x6 hx] at *;rw [S.v8 hn h7 w! v!]
     intro e6;try simp only [nf,dt,tn] at e6
     with_reducible and_intros
     iterate 2 omega
     iterate 3
      . (have hn:=S.sP (b:=b) v! v!;(have hb:=S.bM h7;(try simp only [S.cg b 2 w! w!,show Int.toNat 2=2 by rfl] at *);simp only [show Int.toNat 6=6 by rfl,S.al] at *;omega))
     exact Int.natCast_nonneg _;omega
     . (have hn:=S.sP (b:=b) v! v!;(have hb:=S.bM h7;(try simp only [S.cg b 2 w! w!,show Int.toNat 2=2 by rfl] at *);omega))
     refine⟨(x6+nat_lit 1),?_⟩;try dsimp only
     with_reducible and_intros
     omega
     . have hn:=S.sP (b:=b) v! v!;have hb:=S.bM h7;have hx:(x6:Int)+1<2:=by(have hc:=S.cg b 2 w! w!;simp only [hc,show Int.toNat 2=2 by rfl] at *;omega)
       rw [S.j7 b 2 x6 hx];exact S.Xo h7 w!
     . have hn:=S.sP (b:=b) v! v!;have hb:=S.bM h7;have hx:(x6:Int)+1<2:=by(have hc:=S.cg b 2 w! w!;simp only [hc,show Int.toNat 2=2 by rfl] at *;omega)
       simp only [S.j7 b 2 x6 hx,S.mQ b 2 x6 hx] at *;exact S.RQ h7 v! w!
     . (have hn:=S.sP (b:=b) v! v!;(have hb:=S.bM h7;(try simp only [S.cg b 2 w! w!,show Int.toNat 2=2 by rfl] at *);simp only [show Int.toNat 6=6 by rfl,S.al] at *;omega))
   with_reducible and_intros
   trivial
   . intro jH;try simp only [nt] at jH
     trivial
   . intro mv;try simp only [nf] at mv
     trivial
   . intro rY;try simp only [V.xq,nt,df] at rY
     refine⟨?_,?_⟩
     . have hn:=S.sP (b:=b) v! v!;have hb:=S.bM h7;have hc:=S.cg b 2 w! w!;rw [hc] at iR;have hx:x6+1=2:=by omega
       rw [S.wa hn h7 hx rY rfl]
     have hn:=S.sP (b:=b) v! v!;have hb:=S.bM h7;have hc:=S.cg b 2 w! w!;rw [hc] at iR;have hx:x6+1=2:=by omega
     rw [S.wa hn h7 hx rY rfl]
   intro Hq;try simp only [V.jz,nf,dt] at Hq
   refine⟨?_,?_⟩
   . have hn:=S.sP (b:=b) v! v!;have hb:=S.bM h7;have hc:=S.cg b 2 w! w!;rw [hc] at iR;have hx:x6+1=2:=by omega
     rw [S.wb hn h7 hx Hq rfl]
   have hn:=S.sP (b:=b) v! v!;have hb:=S.bM h7;have hc:=S.cg b 2 w! w!;rw [hc] at iR;have hx:x6+1=2:=by omega
   rw [S.wb hn h7 hx Hq rfl]
 intro DC;try simp only [df] at DC
 with_reducible and_intros
 iterate 2 omega
 . intro VY;try simp only [dt] at VY
   with_reducible and_intros
   iterate 2 omega
   . intro h18;try simp only [dt] at h18
     refine⟨?_,?_⟩
     . (have hn:=S.uf (b:=b) v! v! v!;rw [S.sc hn w! w!])
     (have hn:=S.uf (b:=b) v! v! v!;rw [S.sc hn w! w!])
   intro h19;try simp only [df] at h19
   with_reducible and_intros
   iterate 3 omega
   . refine⟨(nat_lit 0:Nat),?_⟩;try dsimp only
     with_reducible and_intros
     omega
     (exact S.aA3 v! v!)
     . (have hn:=S.uf (b:=b) v! v! v!;exact S.Xm hn w! w!)
   intro Bz vC;refine V.dI (fun h22=> ?_) fun h25=> ?_
   . with_reducible and_intros
     iterate 4 omega
     . intro h23;try simp only [nt,df,tn] at h23
       refine⟨?_,?_⟩
       . have hn:=S.uf (b:=b) v! v! v!;have hb:=S.bM vC;have hx:(Bz:Int)+1<3:=by(have hc:=S.cg b 3 w! w!;simp only [hc,show Int.toNat 3=3 by rfl] at *;omega)
         simp only [S.j7 b 3 Bz hx,S.mQ b 3 Bz hx] at *;rw [S.v8 hn vC w! v!]
       have hn:=S.uf (b:=b) v! v! v!;have hb:=S.bM vC;have hx:(Bz:Int)+1<3:=by(have hc:=S.cg b 3 w! w!;simp only [hc,show Int.toNat 3=3 by rfl] at *;omega)
       simp only [S.j7 b 3 Bz hx,S.mQ b 3 Bz hx] at *;rw [S.v8 hn vC w! v!]
     intro WC;try simp only [nf,dt,tn] at WC
     with_reducible and_intros
     iterate 2 omega
     iterate 3
      . (have hn:=S.uf (b:=b) v! v! v!;(have hb:=S.bM vC;(try simp only [S.cg b 3 w! w!,show Int.toNat 3=3 by rfl] at *);simp only [show Int.toNat 6=6 by rfl,S.al] at *;omega))
     exact Int.natCast_nonneg _;omega
     . (have hn:=S.uf (b:=b) v! v! v!;(have hb:=S.bM vC;(try simp only [S.cg b 3 w! w!,show Int.toNat 3=3 by rfl] at *);omega))
     refine⟨(Bz+nat_lit 1),?_⟩;try dsimp only
     with_reducible and_intros
     omega
     . have hn:=S.uf (b:=b) v! v! v!;have hb:=S.bM vC;have hx:(Bz:Int)+1<3:=by(have hc:=S.cg b 3 w! w!;simp only [hc,show Int.toNat 3=3 by rfl] at *;omega)
       rw [S.j7 b 3 Bz hx];exact S.Xo vC w!
     . have hn:=S.uf (b:=b) v! v! v!;have hb:=S.bM vC;have hx:(Bz:Int)+1<3:=by(have hc:=S.cg b 3 w! w!;simp only [hc,show Int.toNat 3=3 by rfl] at *;omega)
       simp only [S.j7 b 3 Bz hx,S.mQ b 3 Bz hx] at *;exact S.RQ vC v! w!
     . (have hn:=S.uf (b:=b) v! v! v!;(have hb:=S.bM vC;(try simp only [S.cg b 3 w! w!,show Int.toNat 3=3 by rfl] at *);simp only [show Int.toNat 6=6 by rfl,S.al] at *;omega))
   with_reducible and_intros
   trivial
   . intro h26;try simp only [nt] at h26
     trivial
   . intro h27;try simp only [nf] at h27
     trivial
   . intro h28;try simp only [V.xq,nt,df] at h28
     refine⟨?_,?_⟩
     . have hn:=S.uf (b:=b) v! v! v!;have hb:=S.bM vC;have hc:=S.cg b 3 w! w!;rw [hc] at h25;have hx:Bz+1=3:=by omega
       rw [S.wa hn vC hx h28 rfl]
     have hn:=S.uf (b:=b) v! v! v!;have hb:=S.bM vC;have hc:=S.cg b 3 w! w!;rw [hc] at h25;have hx:Bz+1=3:=by omega
     rw [S.wa hn vC hx h28 rfl]
   intro h29;try simp only [V.jz,nf,dt] at h29
   refine⟨?_,?_⟩
   . have hn:=S.uf (b:=b) v! v! v!;have hb:=S.bM vC;have hc:=S.cg b 3 w! w!;rw [hc] at h25;have hx:Bz+1=3:=by omega
     rw [S.wb hn vC hx h29 rfl]
   have hn:=S.uf (b:=b) v! v! v!;have hb:=S.bM vC;have hc:=S.cg b 3 w! w!;rw [hc] at h25;have hx:Bz+1=3:=by omega
   rw [S.wb hn vC hx h29 rfl]
 intro h30;try simp only [df] at h30
 with_reducible and_intros
 iterate 2 omega
 . intro h31;try simp only [dt] at h31
   with_reducible and_intros
   iterate 2 omega
   . intro h32;try simp only [dt] at h32
     refine⟨?_,?_⟩
     . (have hn:=S.ug (b:=b) v! v! v! v!;rw [S.sc hn w! w!])
     (have hn:=S.ug (b:=b) v! v! v! v!;rw [S.sc hn w! w!])
   intro h33;try simp only [df] at h33
   with_reducible and_intros
   iterate 3 omega
   . refine⟨(nat_lit 0:Nat),?_⟩;try dsimp only
     with_reducible and_intros
     omega
     (exact S.aA4 v! v!)
     . (have hn:=S.ug (b:=b) v! v! v! v!;exact S.Xm hn w! w!)
   intro BA vD;refine V.dI (fun h36=> ?_) fun h39=> ?_
   . with_reducible and_intros
     iterate 4 omega
     . intro h37;try simp only [nt,df,tn] at h37
       refine⟨?_,?_⟩
       . have hn:=S.ug (b:=b) v! v! v! v!;have hb:=S.bM vD;have hx:(BA:Int)+1<4:=by(have hc:=S.cg b 4 w! w!;simp only [hc,show Int.toNat 4=4 by rfl] at *;omega)
         simp only [S.j7 b 4 BA hx,S.mQ b 4 BA hx] at *;rw [S.v8 hn vD w! v!]
       have hn:=S.ug (b:=b) v! v! v! v!;have hb:=S.bM vD;have hx:(BA:Int)+1<4:=by(have hc:=S.cg b 4 w! w!;simp only [hc,show Int.toNat 4=4 by rfl] at *;omega)
       simp only [S.j7 b 4 BA hx,S.mQ b 4 BA hx] at *;rw [S.v8 hn vD w! v!]
     intro h38;try simp only [nf,dt,tn] at h38
     with_reducible and_intros
     iterate 2 omega
     iterate 3
      . (have hn:=S.ug (b:=b) v! v! v! v!;(have hb:=S.bM vD;(try simp only [S.cg b 4 w! w!,show Int.toNat 4=4 by rfl] at *);simp only [show Int.toNat 6=6 by rfl,S.al] at *;omega))
     exact Int.natCast_nonneg _;omega
     . (have hn:=S.ug (b:=b) v! v! v! v!;(have hb:=S.bM vD;(try simp only [S.cg b 4 w! w!,show Int.toNat 4=4 by rfl] at *);omega))
     refine⟨(BA+nat_lit 1),?_⟩;try dsimp only
     with_reducible and_intros
     omega
     . have hn:=S.ug (b:=b) v! v! v! v!;have hb:=S.bM vD;have hx:(BA:Int)+1<4:=by(have hc:=S.cg b 4 w! w!;simp only [hc,show Int.toNat 4=4 by rfl] at *;omega)
       rw [S.j7 b 4 BA hx];exact S.Xo vD w!
     . have hn:=S.ug (b:=b) v! v! v! v!;have hb:=S.bM vD;have hx:(BA:Int)+1<4:=by(have hc:=S.cg b 4 w! w!;simp only [hc,show Int.toNat 4=4 by rfl] at *;omega)
       simp only [S.j7 b 4 BA hx,S.mQ b 4 BA hx] at *;exact S.RQ vD v! w!
     . (have hn:=S.ug (b:=b) v! v! v! v!;(have hb:=S.bM vD;(try simp only [S.cg b 4 w! w!,show Int.toNat 4=4 by rfl] at *);simp only [show Int.toNat 6=6 by rfl,S.al] at *;omega))
   with_reducible and_intros
   trivial
   . intro h40;try simp only [nt] at h40
     trivial
   . intro h41;try simp only [nf] at h41
     trivial
   . intro h42;try simp only [V.xq,nt,df] at h42
     refine⟨?_,?_⟩
     . have hn:=S.ug (b:=b) v! v! v! v!;have hb:=S.bM vD;have hc:=S.cg b 4 w! w!;rw [hc] at h39;have hx:BA+1=4:=by omega
       rw [S.wa hn vD hx h42 rfl]
     have hn:=S.ug (b:=b) v! v! v! v!;have hb:=S.bM vD;have hc:=S.cg b 4 w! w!;rw [hc] at h39;have hx:BA+1=4:=by omega
     rw [S.wa hn vD hx h42 rfl]
   intro h43;try simp only [V.jz,nf,dt] at h43
   refine⟨?_,?_⟩
   . have hn:=S.ug (b:=b) v! v! v! v!;have hb:=S.bM vD;have hc:=S.cg b 4 w! w!;rw [hc] at h39;have hx:BA+1=4:=by omega
     rw [S.wb hn vD hx h43 rfl]
   have hn:=S.ug (b:=b) v! v! v! v!;have hb:=S.bM vD;have hc:=S.cg b 4 w! w!;rw [hc] at h39;have hx:BA+1=4:=by omega
   rw [S.wb hn vD hx h43 rfl]
 grind[df,S.uf0]
theorem axu(b:B8)(hp:S.small b)(hf:Vg.bo J.fv b):(∃(x1:B8×List Int),(b=x1.1/\ []=x1.2)/\S.rQ b x1.1 x1.2)/\(∀(x2:B8×List Int),S.rQ b x2.1 x2.2->hU (abO (List.length x2.1)) (0<List.length x2.1) (ale x2.2 [(S.aL x2.1).1]/\abN (S.aL x2.1).2 (List.length x2.1) (∃(x3:B8×List Int),(List.drop (Int.toNat (S.aL x2.1).2) x2.1=x3.1/\x2.2++ [(S.aL x2.1).1]=x3.2)/\S.rQ b x3.1 x3.2/\S.len x3.1<S.len x2.1)) (x2.2=S.decode b)):=by
 refine aP ?_;simp [S.small] at hp;refine⟨?_,?_⟩
 . refine⟨((b),([])),?_⟩;grind[S.au4]
 intro x1 h2;refine⟨?_,?_⟩
 . intro h3;simp at h3;with_reducible and_intros
   omega
   . (have hd:=S.RR h2 w!;grind)
   iterate 2
    . (have hd:=S.RR h2 w!;omega)
   refine⟨((List.drop (Int.toNat (Prod.snd (S.aL (Prod.fst x1)))) (Prod.fst x1)),(Prod.snd x1++ [Prod.fst (S.aL (Prod.fst x1))])),?_⟩;dsimp only;with_reducible and_intros
   iterate 2 rfl
   grind[S.acq]
   . (have hd:=S.RR h2 w!;grind[S.len,List.length_drop,lc,ln])
 grind[df,S.af6]
theorem axv(c:Int)(hp:True)(hf:Vg.bo J.rD c):(∃(x1:Nat),(0:Int)=x1/\S.ot c x1)/\(∀(x2:Nat),S.ot c x2->q90 (decide ((x2:Int)<9)) 0 x2 ((9:Nat):Int) (fO (aum (List.getD [65,97,192,216,248,913,931,945,1024] (Int.toNat x2) 0) c (List.getD [90,122,214,246,255,929,937,969,1119] (Int.toNat x2) 0)) (true=S.letter c) (abK x2 (∃(x3:Nat),ae9 x2 x3 (S.ot c x3) 9))) (false=S.letter c)):=by
 refine aP ?_;refine⟨?_,?_⟩
 . refine⟨(nat_lit 0:Nat),?_⟩;grind[S.ot]
 intro x1 h2;refine⟨?_,?_⟩
 . intro h3;simp at h3;with_reducible and_intros
   iterate 2 omega
   . intro h4;simp at h4;exact S.Xq (x:=x1) w! (S.Xt h4)
   intro h5;simp only [V.EP,df,tn] at h5;with_reducible and_intros
   iterate 2 omega
   refine⟨(x1+nat_lit 1),?_⟩;dsimp only;with_reducible and_intros
   omega;exact S.Xr (x:=x1) h2 w! (S.af7 h5);simp [S.al];omega
 grind[df,S.Xs]
theorem axw(c:Int)(hp:True)(hf:Vg.bo J.rD c):aum 48 c 57=S.digit c:=by
 refine aP ?_;grind[S.digit]
theorem axx(c:Int)(hp:True)(hf:Vg.bo J.rD c):(∃(x1:Nat),(0:Int)=x1/\S.oX c x1)/\(∀(x2:Nat),S.oX c x2->q90 (decide ((x2:Int)<7)) 0 x2 ((7:Nat):Int) (VW (aum (List.getD [65,192,216,913,931,1024,1040] (Int.toNat x2) 0) c (List.getD [90,214,222,929,937,1039,1071] (Int.toNat x2) 0)) (q32 (auw c x2)) (auw c x2=S.bJ c) x2 (∃(x3:Nat),ae9 x2 x3 (S.oX c x3) 7)) (c=S.bJ c)):=by
 refine aP ?_;refine⟨?_,?_⟩
 . refine⟨(nat_lit 0:Nat),?_⟩;grind[S.oX]
 intro x1 h2;refine⟨?_,?_⟩
 . intro h3;simp at h3;with_reducible and_intros
   iterate 2 omega
   . intro h4;simp at h4;with_reducible and_intros
     iterate 2
      . have hs:=(S.Pn (c:=c) (x:=x1) h2 h3 (S.Xt h4)).2;omega
     exact(S.Pn (x:=x1) h2 w! (S.Xt h4)).1
   intro h5;simp only [V.EP,df,tn] at h5;with_reducible and_intros
   iterate 2 omega
   refine⟨(x1+nat_lit 1),?_⟩;dsimp only;with_reducible and_intros
   omega;exact S.acs (x:=x1) h2 w! (S.af7 h5);simp [S.al];omega
 grind[df,S.acu]
theorem axy(u:List Int)(hp:S.okC u)(hf:Vg.bo J.FB u):(∃(x1:Nat×B8),((0:Int)=x1.1/\ []=x1.2)/\S.oY u x1.1 x1.2)/\(∀(x2:Nat×B8),S.oY u x2.1 x2.2->q90 (decide (x2.1<q48 u)) 0 x2.1 (q48 u) (fw (fw (q32 (List.length x2.2+List.length (ar9 u x2))/\fO (decide ((64:Int)<List.length x2.2+List.length (ar9 u x2))) (x2.2=S.iT u) (wC (List.length x2.2+List.length (ar9 u x2))/\q32 (x2.1+1)/\(∃(x3:Nat×B8),((x2.1:Int)+1=x3.1/\x2.2++ar9 u x2=x3.2)/\S.oY u x3.1 x3.2/\q53 (S.len u) x3.1 x2.1))))) (x2.2=S.iT u)):=by
 refine aP ?_;have Ļ:Vg.hlen u:=hf.1.1;clear hf;have hq:=hp.1;refine⟨?_,?_⟩
 . refine⟨((nat_lit 0:Nat),([])),?_⟩;try dsimp only
   with_reducible and_intros
   omega;rfl;exact S.alQ u
 intro x1 h2;refine⟨?_,?_⟩
 . intro h3;try simp only [dt] at h3
   with_reducible and_intros
   iterate 2 omega
   iterate 2 trivial
   omega
   . have :=h2.2.2;have :=S.Pq (S.bJ (List.getD u (Int.toNat (x1.1:Int)) 0));omega
   . intro h4;try simp only [dt,tn] at h4
     exact S.Xy h2 h3 h4
   intro h5;try simp only [df,tn] at h5
   with_reducible and_intros
   . have :=h2.2.2;have :=S.Pq (S.bJ (List.getD u (Int.toNat (x1.1:Int)) 0));omega
   iterate 2 omega
   refine⟨((Prod.fst x1+nat_lit 1),(Prod.snd x1++S.gN (S.bJ (List.getD u (Int.toNat (↑(Prod.fst x1):Int)) (0:Int))))),?_⟩;try dsimp only
   with_reducible and_intros
   omega;rfl;exact S.Xx h2 h3 h5;simp only [S.al,S.len];omega
 intro h6;try simp only [df] at h6
 exact S.acy h2 v!
theorem axz(b:B8)(hp:S.small b)(hf:Vg.bo J.fv b):S.small b/\(∃(x1:Nat×List B8×List Int),((0:Int)=x1.1/\ []=x1.2.1/\ []=x1.2.2)/\S.jL (S.decode b) x1.1 x1.2.1 x1.2.2)/\(∀(x2:Nat×List B8×List Int),S.jL (S.decode b) x2.1 x2.2.1 x2.2.2->q90 (decide ((x2.1:Int)<List.length (S.decode b))) 0 x2.1 (List.length (S.decode b)) (Int.toNat x2.1<List.length (S.decode b)/\abS (acd (S.letter (List.getD (S.decode b) (Int.toNat x2.1) 0))) (hU (gD (S.letter (List.getD (S.decode b) (Int.toNat x2.1) 0)) (S.digit (List.getD (S.decode b) (Int.toNat x2.1) 0))) (q84 (List.length x2.2.2+List.length [List.getD (S.decode b) (Int.toNat x2.1) 0])) (q32 (x2.1+1)/\(∃(x3:Nat×List B8×List Int),((x2.1:Int)+1=x3.1/\x2.2.1=x3.2.1/\x2.2.2++ [List.getD (S.decode b) (Int.toNat x2.1) 0]=x3.2.2)/\S.jL (S.decode b) x3.1 x3.2.1 x3.2.2/\q46 (S.len (S.decode b)) x3.1 (S.al (S.len (S.decode b)) x2.1))) (eP (abO (List.length x2.2.2)) (S.okC x2.2.2) (nH x2.2.1 [S.iT x2.2.2]/\q32 (x2.1+1)/\(∃(x4:Nat×List B8×List Int),((x2.1:Int)+1=x4.1/\x2.2.1++ [S.iT x2.2.2]=x4.2.1/\ []=x4.2.2)/\S.jL (S.decode b) x4.1 x4.2.1 x4.2.2/\q46 (S.len (S.decode b)) x4.1 (S.al (S.len (S.decode b)) x2.1))) (q32 (x2.1+1)) (∃(x5:Nat×List B8×List Int),((x2.1:Int)+1=x5.1/\x2.2.1=x5.2.1/\x2.2.2=x5.2.2)/\S.jL (S.decode b) x5.1 x5.2.1 x5.2.2/\q46 (S.len (S.decode b)) x5.1 (S.al (S.len (S.decode b)) x2.1))))) (hU (abO (List.length x2.2.2)) (S.okC x2.2.2) (nH x2.2.1 [S.iT x2.2.2]/\x2.2.1++ [S.iT x2.2.2]=S.bK b) (x2.2.1=S.bK b))):=by
 refine aP ?_;have ko:Vg.hlen b:=hf.1.1;clear hf;have fV:b.length<=1099511627776:=hp;with_reducible and_intros
 omega
 . refine⟨((nat_lit 0:Nat),(([]),([]))),?_⟩;try dsimp only
   with_reducible and_intros
   omega;iterate 2 with_reducible rfl
   exact S.avc _
 intro x1 h2;refine⟨?_,?_⟩
 . intro h3;try simp only [dt] at h3
   with_reducible and_intros
   iterate 3 omega
   trivial
   . intro h4;trivial
   . intro h5;trivial
   . intro h6;try simp only [V.xq] at h6
     with_reducible and_intros
     . (have hq:=S.oZ h2 fV;simp only [lc,ln];omega)
     omega
     . (have hq:=S.oZ h2 fV;omega)
     refine⟨((Prod.fst x1+nat_lit 1),((Prod.fst (Prod.snd x1)),(Prod.snd (Prod.snd x1)++ [List.getD (S.decode b) (Int.toNat (↑(Prod.fst x1):Int)) (0:Int)]))),?_⟩;try dsimp only
     with_reducible and_intros
     omega;iterate 2 with_reducible rfl
     exact S.acz h2 h3 (S.agh v!)
     . (have hq:=S.oZ h2 fV;simp only [S.al,S.len];omega)
   intro h7;try simp only [V.jz] at h7
   refine⟨?_,?_⟩
   . intro h8;try simp only [dt] at h8
     with_reducible and_intros
     . (have hq:=S.oZ h2 fV;exact hq.1)
     . (have hq:=S.oZ h2 fV;simp only [lc,ln];omega)
     omega
     . (have hq:=S.oZ h2 fV;omega)
     refine⟨((Prod.fst x1+nat_lit 1),((Prod.fst (Prod.snd x1)++ [S.iT (Prod.snd (Prod.snd x1))]),([]))),?_⟩;try dsimp only
     with_reducible and_intros
     omega;iterate 2 with_reducible rfl
     exact S.agf h2 h3 (S.US v!) v!
     . (have hq:=S.oZ h2 fV;simp only [S.al,S.len];omega)
   intro h9;try simp only [df] at h9
   with_reducible and_intros
   omega
   . (have hq:=S.oZ h2 fV;omega)
   refine⟨((Prod.fst x1+nat_lit 1),((Prod.fst (Prod.snd x1)),(Prod.snd (Prod.snd x1)))),?_⟩;try dsimp only
   with_reducible and_intros
   omega;iterate 2 with_reducible rfl
   exact S.acA h2 h3 (S.US v!) v!
   . (have hq:=S.oZ h2 fV;simp only [S.al,S.len];omega)
 intro e6;try simp only [df] at e6
 refine⟨?_,?_⟩
 . intro iR;try simp only [dt] at iR
   with_reducible and_intros
   . (have hq:=S.oZ h2 fV;exact hq.1)
   . (have hq:=S.oZ h2 fV;simp only [lc,ln];omega)
   exact S.acB h2 v! v!
 intro jH;try simp only [df] at jH
 exact S.acC h2 v! v!
theorem axA(s:B8)(hp:S.small s)(hf:Vg.bo J.P9 s):S.small s/\hU (decide ((List.length (S.bK s):Int)=1)) ((0:Int)<=0/\(0:Int)<List.length (S.bK s)) (Int.toNat 0<List.length (S.bK s)) True/\ala (decide ((List.length (S.bK s):Int)=1)) (Dp (S.bK s) 0) s=S.isTerm s:=by
 refine aP ?_;have IT:Vg.hlen s:=hf.1;clear hf;with_reducible and_intros
 omega
 . intro h1;try simp only [dt] at h1
   with_reducible and_intros
   iterate 3 omega
 . intro h2;try simp only [df] at h2
   trivial
 exact S.acD s
theorem axB(s:B8)(hp:True)(hf:Vg.bo J.P9 s):Bool.not (decide (s=s))=false :=by
 have IT:Vg.hlen s:=hf.1;clear hf;simp
theorem axC(a b:B8)(hp:True)(hf:Vg.bo J.yh (a,b)):fw (fw (fO false (fO false (0=S.iF a b) (-1=S.iF a b)) (fO false (1=S.iF a b) (fO (Op.bytesLess a b) (-1=S.iF a b) (fO (Bool.not (Op.bytesLess a b||decide (a=b))) (1=S.iF a b) (0=S.iF a b)))))):=by
 refine aP ?_;have FL:Vg.hlen a:=hf.1;have ko:Vg.hlen b:=hf.2.1;clear hf;with_reducible and_intros
 iterate 2 trivial
 . intro h1;refine⟨?_,?_⟩
   . intro h2;simp only [S.iF] at *;grind [S.cJ,S.jM,S.ou]
   intro h3;simp only [S.iF] at *;grind [S.cJ,S.jM,S.ou]
 intro h4;refine⟨?_,?_⟩
 . intro h5;simp only [S.iF] at *;grind [S.cJ,S.jM,S.ou]
 intro h6;refine⟨?_,?_⟩
 . intro h7;simp only [S.iF] at *;grind [S.cJ,S.jM,S.ou]
 intro h8;refine⟨?_,?_⟩
 . intro h9;try simp only [nt] at h9
   simp only [S.iF] at *;grind [S.cJ,S.jM,S.ou]
 intro e6;try simp only [nf] at e6
 simp only [S.iF] at *;grind [S.cJ,S.jM,S.ou]
theorem axD(a b:B8)(hp:True)(hf:Vg.dL J.atg (a,b))(hg:Vg.bT.ok J.q1q ((),())):fw (mr (S.iF a b)=decide (a=b)):=by
 refine aP ?_;have FL:Vg.hlen a:=hf.1;have ko:Vg.hlen b:=hf.2.1;clear hf hg;refine⟨?_,?_⟩
 . trivial
 exact S.alS a b
theorem axE(l:List B8)(hp:S.small l)(hf:Vg.dL J.ath ())(hg:Vg.bT.ok J.q2q (l,((),()))):fO (decide ((afv l:Int)<2)) (l=S.bR l) ((∃(x1:Nat),(1:Int)=x1/\S.mR l x1)/\(∀(x2:Nat),S.mR l x2->q90 (decide ((x2:Int)<afv l)) 0 x2 (afv l) (aeT x2<afv l/\q89 (x2-1) 0 (afv l) (Int.toNat (x2-1)<afv l/\fw (VW (decide (q68 l (aeT x2)=q68 l (Int.toNat (x2-1)))) ((0:Int)<=x2/\(x2:Int)<=afv l) ((∃(x3:Nat×Nat×List B8×Nat),((x2:Int)=x3.1/\(1:Int)=x3.2.1/\l=x3.2.2.1)/\S.iG l x3.2.2.2 x3.1 x3.2.1 x3.2.2.1/\(x2:Int)=x3.2.2.2)/\(∀(x4:Nat×Nat×List B8×Nat),S.iG l x4.2.2.2 x4.1 x4.2.1 x4.2.2.1/\(x2:Int)=x4.2.2.2->q64 (decide ((x4.2.1:Int)<((afv l-aeT x2:Nat):Int))) (dQ 0 x4.2.1 ((afv l-aeT x2:Nat):Int)) (aeT x2+Int.toNat x4.2.1<aut x4/\q89 (x4.2.1-1) 0 ((afv l-aeT x2:Nat):Int) (aeT x2+Int.toNat (x4.2.1-1)<aut x4/\abS (q90 (auh x2 x4) 0 x4.2.1 ((afv l-aeT x2:Nat):Int) (aeT x2+Int.toNat x4.2.1<aut x4/\dQ 0 x4.1 (aut x4)/\ae5 x4<aut x4/\q32 (x4.1+1)) True) (q32 (x4.2.1+1)/\(∃(x5:Nat×Nat×List B8×Nat),((bif auh x2 x4 then(x4.1:Int)+1 else(x4.1:Int))=x5.1/\(x4.2.1:Int)+1=x5.2.1/\(bif auh x2 x4 then List.set x4.2.2.1 (ae5 x4) (q68 x4.2.2.1 (aeT x2+Int.toNat x4.2.1)) else x4.2.2.1)=x5.2.2.1)/\(S.iG l x5.2.2.2 x5.1 x5.2.1 x5.2.2.1/\(x2:Int)=x5.2.2.2)/\q53 (S.len l) x5.2.1 x4.2.1)))) ((0:Int)<=x4.1/\(x4.1:Int)<=aut x4) (ae5 x4+(aut x4-ae5 x4)<=aut x4) (abN x4.1 (wD (ahr x4)) (List.take (ae5 x4) (ahr x4)=S.bR l)))) x2 (∃(x6:Nat),ae9 x2 x6 (S.mR l x6) (S.len l))))) (l=S.bR l))):=by
 refine aP ?_;have nI:Vg.hlen l:=hg.1.1;clear hf hg;have fV:l.length<=1099511627776:=hp;refine⟨?_,?_⟩
 . intro h1;try simp only [dt] at h1
   exact S.LC h1
 intro h2;try simp only [df] at h2
 refine⟨?_,?_⟩
 . refine⟨(nat_lit 1:Nat),?_⟩;try dsimp only
   refine⟨?_,?_⟩
   . omega
   exact S.agj h2
 intro x3 h4;refine⟨?_,?_⟩
 . intro h5;try simp only [dt] at h5
   with_reducible and_intros
   iterate 5 omega
   . have :=h4.1;omega
   iterate 2 omega
   trivial
   . intro h6;try simp only [dt,tn] at h6
     with_reducible and_intros
     iterate 2 omega
     . refine⟨((x3),((nat_lit 1:Nat),((l),(x3)))),?_⟩;try dsimp only
       with_reducible and_intros
       iterate 2 omega
       trivial;exact S.ó h4 h5 h6;omega
     intro x7 h8;refine⟨?_,?_⟩
     . intro h9;try simp only [dt,tn] at h9
       with_reducible and_intros
       iterate 2 omega
       . have q1:=h8.1.1;have q2:=h8.1.2.1;have q3:=h8.1.2.2.2.1;have q4:=h8.1.2.2.2.2.1;have q5:=h8.2;omega
       iterate 2 omega
       . have q1:=h8.1.1;have q2:=h8.1.2.1;have q3:=h8.1.2.2.2.1;have q4:=h8.1.2.2.2.2.1;have q5:=h8.2;omega
       omega
       . have q1:=h8.1.1;have q2:=h8.1.2.1;have q3:=h8.1.2.2.2.1;have q4:=h8.1.2.2.2.2.1;have q5:=h8.2;omega
       trivial
       . intro e6;try simp only [nt,df,tn] at e6
         with_reducible and_intros
         iterate 2 omega
         . have q1:=h8.1.1;have q2:=h8.1.2.1;have q3:=h8.1.2.2.2.1;have q4:=h8.1.2.2.2.2.1;have q5:=h8.2;omega
         omega
         iterate 2
          . have q1:=h8.1.1;have q2:=h8.1.2.1;have q3:=h8.1.2.2.2.1;have q4:=h8.1.2.2.2.2.1;have q5:=h8.2;omega
         omega;have q1:=h8.1.1;have q2:=h8.1.2.1;have q3:=h8.1.2.2.2.1;have q4:=h8.1.2.2.2.2.1;have q5:=h8.2;omega
       . intro iR;try simp only [nf,dt,tn] at iR
         trivial
       iterate 2 omega
       refine⟨((Int.toNat (bif !Decidable.decide (List.getD (Prod.fst (Prod.snd (Prod.snd x7))) (Int.toNat (↑x3:Int)+Int.toNat (↑(Prod.fst (Prod.snd x7)):Int)) []=List.getD (Prod.fst (Prod.snd (Prod.snd x7))) (Int.toNat (↑x3:Int)+Int.toNat ((↑(Prod.fst (Prod.snd x7)):Int)-(1:Int))) []) then(↑(Prod.fst x7):Int)+(1:Int) else(↑(Prod.fst x7):Int))),((Prod.fst (Prod.snd x7)+nat_lit 1),((bif !Decidable.decide (List.getD (Prod.fst (Prod.snd (Prod.snd x7))) (Int.toNat (↑x3:Int)+Int.toNat (↑(Prod.fst (Prod.snd x7)):Int)) []=List.getD (Prod.fst (Prod.snd (Prod.snd x7))) (Int.toNat (↑x3:Int)+Int.toNat ((↑(Prod.fst (Prod.snd x7)):Int)-(1:Int))) []) then List.set (Prod.fst (Prod.snd (Prod.snd x7))) (Int.toNat (↑(Prod.fst x7):Int)) (List.getD (Prod.fst (Prod.snd (Prod.snd x7))) (Int.toNat (↑x3:Int)+Int.toNat (↑(Prod.fst (Prod.snd x7)):Int)) []) else Prod.fst (Prod.snd (Prod.snd x7))),(x3)))),?_⟩;try dsimp only
       with_reducible and_intros
       . generalize (!decide (List.getD x7.2.2.1 (Int.toNat (x3:Int)+Int.toNat (x7.2.1:Int)) []=List.getD x7.2.2.1 (Int.toNat (x3:Int)+Int.toNat ((x7.2.1:Int)-1)) []))=c;cases c<;>simp only [I!,L!]<;>omega
       omega;trivial
       . have q1:=h8.1.1;have e3:x7.2.2.2=x3:=by have :=h8.2;omega
         have hi:=h8.1;rw [e3] at hi;have e1:Int.toNat (x3:Int)+Int.toNat (x7.2.1:Int)=x3+x7.2.1:=by omega
         have e2:Int.toNat (x3:Int)+Int.toNat ((x7.2.1:Int)-1)=x3+x7.2.1-1:=by omega
         rw [e1,e2];by_cases hd:List.getD x7.2.2.1 (x3+x7.2.1) []=List.getD x7.2.2.1 (x3+x7.2.1-1) []
         . rw [H? hd];exact S.LD hi w! hd
         rw [L? hd];exact S.Pw hi w! hd
       omega;simp only [S.al,S.len];have q2:=h8.1.2.1;omega
     intro jH;try simp only [df,tn] at jH
     with_reducible and_intros
     omega
     iterate 2
      . have q1:=h8.1.2.1;have q2:=h8.1.2.2.2.1;have q3:=h8.1.2.2.2.2.1;omega
     omega
     . have q1:=h8.1.2.1;have q2:=h8.1.2.2.2.1;have q3:=h8.1.2.2.2.2.1;simp only [K!,T?];omega
     have q1:=h8.1.2.1;have q2:=h8.1.2.2.2.1;have q3:=h8.1.2.2.2.2.1;have e1:Int.toNat (x7.1:Int)=x7.1:=by omega
     rw [e1,S.Iv w!];exact S.Px h8.1 (by have :=h8.2;omega)
   intro mv;try simp only [df,tn] at mv
   with_reducible and_intros
   iterate 2 omega
   refine⟨(x3+nat_lit 1),?_⟩;try dsimp only
   with_reducible and_intros
   omega;exact S.Pu h4 h5 mv;simp only [S.al,S.len];omega
 intro rY;try simp only [df] at rY
 exact S.UW h4 rY
theorem axF(l:List B8)(hp:S.small l)(hf:Vg.dL J.atj l)(hg:Vg.bT.ok J.ql ()):S.small l/\S.small l/\S.small (S.eD l)/\S.bR (S.eD l)=S.bR (S.eD l):=by
 have nI:Vg.hlen l:=hf.1.1;clear hf hg;with_reducible and_intros
 iterate 2 exact hp
 exact S.R0 hp;rfl
theorem axG(b:B8)(hp:S.small b)(hf:Vg.bo J.fv b):S.small b/\S.small (S.bK b)/\S.bR (S.eD (S.bK b))=S.sorted (S.bK b):=by
 have ko:Vg.hlen b:=hf.1.1;clear hf;with_reducible and_intros
 exact hp;exact S.RZ hp;exact S.LF _
theorem axH(l:List B8)(hp:True)(hf:Vg.bo J.MC l):(∃(x1:Nat),(0:Int)=x1/\S.iH l x1)/\(∀(x2:Nat),S.iH l x2->q90 (decide (x2<wD l)) 0 x2 (wD l) (dB (afB (Dp l x2)) (S.cY l) x2 1 (∃(x3:Nat),ae9 x2 x3 (S.iH l x3) (S.len l))) (true=S.cY l)):=by
 refine aP ?_;have nI:Vg.hlen l:=hf.1.1;clear hf;refine⟨?_,?_⟩
 . refine⟨(nat_lit 0:Nat),?_⟩;try dsimp only
   refine⟨?_,?_⟩
   . omega
   exact S.ô l
 intro x1 h2;refine⟨?_,?_⟩
 . intro h3;try simp only [dt] at h3
   with_reducible and_intros
   iterate 2 omega
   . intro h4;try simp only [nt,df,tn] at h4
     exact S.acI h3 h4
   intro h5;try simp only [nf,dt,tn] at h5
   with_reducible and_intros
   iterate 2 omega
   refine⟨(x1+nat_lit 1),?_⟩;try dsimp only
   with_reducible and_intros
   omega;exact S.XF h2 h3 h5;simp only [S.al,S.len];omega
 intro h6;try simp only [df] at h6
 exact S.acJ h2 v!
theorem axI(a b:B8)(hp:True)(hf:Vg.bo J.yh (a,b)):fw (S.bc a b=S.bc a b):=by
 refine aP ?_;have FL:Vg.hlen a:=hf.1;have ko:Vg.hlen b:=hf.2.1;clear hf;refine⟨?_,?_⟩
 . trivial
 rfl
theorem axJ(s:List B8)(hp:S.we s)(hf:Vg.dL J.Qb ())(hg:Vg.bT.ok J.Yr (s,())):q89 (abY s-2) 0 (abY s) (Int.toNat (abY s-2)<abY s/\q89 (abY s-2+1) 0 (abY s) (Int.toNat (abY s-2+1)<abY s/\fw (dQ 0 (abY s-2) (abY s)/\Int.toNat (abY s-2)<abY s/\q32 (abY s-2+1)/\((0:Int)<=abY s-2+1/\abY s-2+1<=wD (auv s))/\List.take (Int.toNat (abY s-2+1)) (auv s)=S.comb s))):=by
 refine aP ?_;have IT:Vg.hlen s:=hg.1.1;clear hf hg;have h1:=hp.1;have h2:=hp.2;with_reducible and_intros
 iterate 10 omega
 trivial;iterate 6 omega
 . rw [n?];omega
 exact S.alV hp
theorem axK(l:List B8)(hp:S.kQ l)(hf:Vg.bo J.atk l):(∃(x1:Nat),((0:Int)=x1/\ []=S.iu l x1)/\S.ud l x1)/\(∀(x2:Nat),S.ud l x2->q90 (decide (x2<wD l)) 0 x2 (wD l) (S.bQ (Dp l x2)/\nH (S.iu l x2) [S.leaf (Dp l x2)]/\abK x2 (∃(x3:Nat),alj x2 x3 (S.iu l x2++ [S.leaf (Dp l x2)]=S.iu l x3) (S.ud l x3) (S.len l))) (S.iu l x2=S.leaves l)):=by
 refine aP ?_;have nI:Vg.hlen l:=hf.1.1;clear hf;have h1:=hp.1;refine⟨?_,?_⟩
 . refine⟨(nat_lit 0:Nat),?_⟩;try dsimp only
   with_reducible and_intros
   omega;rfl;simp only [S.ud,S.al,S.len] at *;omega
 intro x1 h2;refine⟨?_,?_⟩
 . intro h3;try simp only [dt] at h3
   with_reducible and_intros
   iterate 2 omega
   exact S.U0 hp v!
   . have :=S.N9 l x1;simp only [lc,ln];omega
   iterate 2 omega
   refine⟨(x1+nat_lit 1),?_⟩;try dsimp only
   with_reducible and_intros
   omega;exact S.RV v!
   . simp only [S.ud,S.al,S.len] at *;omega
   simp only [S.ud,S.al,S.len] at *;omega
 intro h4;try simp only [df] at h4
 exact S.UZ v!
theorem axL(l:List B8)(hp:S.j9 l)(hf:Vg.bo J.MC l):eP (mr (wD l)) (S.small q70) (S.sum q70=S.root l) (∃(x1:Nat×List B8),((0:Int)=x1.1/\ []=x1.2)/\S.o0 l x1.1 x1.2) (∀(x2:Nat×List B8),S.o0 l x2.1 x2.2->eP (decide (x2.1<wD l)) (dQ 0 x2.1 (wD l)) (nH x2.2 [Dp l x2.1]/\(∃(x3:Nat×Nat×List B8×Nat),((x2.1:Int)=x3.2.1/\x2.2++ [Dp l x2.1]=x3.2.2.1)/\S.nN l x3.2.2.2 x3.1 x3.2.1 x3.2.2.1/\(x2.1:Int)=x3.2.2.2)/\(∀(x4:Nat×Nat×List B8×Nat),S.nN l x4.2.2.2 x4.1 x4.2.1 x4.2.2.1/\(x2.1:Int)=x4.2.2.2->(0:Int)<=x4.2.1/\(0:Int)<=1/\eP (decide (Vg.aK x4.2.1 1=1)) (S.we x4.2.2.1) (abN 1 64 (∃(x5:Nat×Nat×List B8×Nat),(x4.2.1/ix 2 1=x5.2.1/\S.comb x4.2.2.1=x5.2.2.1)/\(S.nN l x5.2.2.2 x5.1 x5.2.1 x5.2.2.1/\(x2.1:Int)=x5.2.2.2)/\x5.2.1<x4.2.1)) (q32 (x2.1+1)) (∃(x6:Nat×List B8),((x2.1:Int)+1=x6.1/\x4.2.2.1=x6.2)/\S.o0 l x6.1 x6.2/\q53 (S.len l) x6.1 x2.1))) (∃(x7:List B8),x2.2=x7/\S.o8 l x7) (∀(x8:List B8),S.o8 l x8->q64 (decide ((1:Int)<List.length x8)) (S.we x8) (∃(x9:List B8),S.comb x8=x9/\S.o8 l x9/\S.len x9<S.len x8) ((0:Int)<=0/\(0:Int)<List.length x8) (Int.toNat 0<List.length x8) (Dp x8 0=S.root l))):=by
 refine aP ?_;have nI:Vg.hlen l:=hf.1.1;clear hf;have fV:=hp.2;refine⟨?_,?_⟩
 . intro h1;try simp only [dt] at h1
   refine⟨?_,?_⟩
   . exact T! _
   exact S.acK h1
 intro h2;try simp only [df] at h2
 refine⟨?_,?_⟩
 . refine⟨((nat_lit 0:Nat),([])),?_⟩;try dsimp only
   with_reducible and_intros
   omega;with_reducible rfl
   exact S.alT l
 intro x3 h4;refine⟨?_,?_⟩
 . intro h5;try simp only [dt] at h5
   with_reducible and_intros
   iterate 2 omega
   . have :=S.U1 h4;simp only [lc,ln];omega
   . refine⟨(0,x3.1,x3.2++ [List.getD l (Int.toNat (x3.1:Int)) []],x3.1),?_⟩;try dsimp only
     with_reducible and_intros
     omega;with_reducible rfl
     exact S.ave h4 h5;omega
   intro x6 h7;with_reducible and_intros
   iterate 2 omega
   . intro h8;try simp only [dt] at h8
     with_reducible and_intros
     exact S.agq (S.Jx h7) h8 hp;iterate 2 omega
     refine⟨(x6.1+1,x6.2.1/2,S.comb x6.2.2.1,x3.1),?_⟩;try dsimp only
     with_reducible and_intros
     . simp only [show Int.toNat 1=1 by rfl];omega
     with_reducible rfl
     exact(S.GG (S.Jx h7) h8).1;omega;exact(S.GG (S.Jx h7) h8).2.1
   intro h9;try simp only [df] at h9
   with_reducible and_intros
   iterate 2 omega
   refine⟨((Prod.fst x3+nat_lit 1),(Prod.fst (Prod.snd (Prod.snd x6)))),?_⟩;try dsimp only
   with_reducible and_intros
   omega;with_reducible rfl
   exact S.agl (S.Jx h7) h9;simp only [S.al,S.len];omega
 intro e6;try simp only [df] at e6
 refine⟨?_,?_⟩
 . refine⟨(Prod.snd x3),?_⟩;try dsimp only
   refine⟨?_,?_⟩
   . with_reducible rfl
   exact S.avf h4 e6 h2
 intro x11 jH;refine⟨?_,?_⟩
 . intro mv;try simp only [dt] at mv
   refine⟨?_,?_⟩
   . have :=S.ago jH;exact⟨w!,w!⟩
   refine⟨(S.comb x11),?_⟩;try dsimp only
   with_reducible and_intros
   with_reducible rfl
   exact(S.PB jH mv).1;exact(S.PB jH mv).2
 intro rY;try simp only [df] at rY
 with_reducible and_intros
 omega
 iterate 2
  . have :=(S.UX jH rY).2;omega
 exact(S.UX jH rY).1
theorem axM(l:List B8)(hp:S.small l)(hf:Vg.bo J.MC l):fw (q64 (Bool.not (S.cY l)) ([]=S.sU l) (1=S.ae2 l) (S.j9 l) (S.root l=S.sU l) (0=S.ae2 l)):=by
 refine aP ?_;have nI:Vg.hlen l:=hf.1.1;clear hf;have fV:l.length<=1099511627776:=hp;with_reducible and_intros
 trivial
 . intro h1;try simp only [nt] at h1
   refine⟨?_,?_⟩
   . grind [S.sU,S.ae2,S.j9]
   grind [S.sU,S.ae2,S.j9]
 intro h2;try simp only [nf] at h2
 with_reducible and_intros
 trivial;iterate 2 (grind [S.sU,S.ae2,S.j9])
theorem axN(n:Int)(hp:True)(hf:Vg.bo J.rD n):fO (q79 n 2 (decide (1099511627776<n))) (0=S.split n) ((∃(x1:Nat×Int),1=x1.2/\S.mS n x1.2 x1.1)/\(∀(x2:Nat×Int),S.mS n x2.2 x2.1->q32 (2*x2.2)/\hU (decide (2*x2.2<n)) (q32 (x2.2*2)) (∃(x3:Nat×Int),x2.2*2=x3.2/\S.mS n x3.2 x3.1/\Qj (n-x3.2) (n-x2.2)) (x2.2=S.split n))):=by
 refine aP ?_;have IU:Vg.hint n:=hf.1;clear hf;refine⟨?_,?_⟩
 . intro h1;try simp only [V.xq,dt] at h1
   exact S.agp v!
 intro h2;try simp only [V.jz,df] at h2
 refine⟨?_,?_⟩
 . refine⟨(0,1),?_⟩;try dsimp only
   refine⟨?_,?_⟩
   . omega
   exact S.UY h2.1
 intro x3 h4;with_reducible and_intros
 iterate 2
  . (have :=S.o9 h4;omega)
 . intro h5;try simp only [dt] at h5
   with_reducible and_intros
   . (have :=S.o9 h4;omega)
   omega;refine⟨(x3.1+1,2*x3.2),?_⟩;try dsimp only
   with_reducible and_intros
   omega
   . (have :=S.o9 h4;exact(S.LH h4 h5).1)
   . (have :=S.o9 h4;omega)
 intro h6;try simp only [df] at h6
 (have :=S.o9 h4;exact S.N8 h4 h2.1 h2.2 h6)
theorem axO(l:List B8)(i:Int)(hp:S.dz l)(hf:Vg.bo J.atl (l,i)):fw (eP (gD (Bool.not (S.cY l)) (q79 i 0 (decide (wD l<=i)))) ([]=S.qh l i) (1=S.Ad l i) (∃(x1:List B8×Int×List B8),(l=x1.1/\i=x1.2.1/\ []=x1.2.2)/\S.fp l i x1) (∀(x2:List B8×Int×List B8),S.fp l i x2->q64 (decide (1<wD x2.1)) True (hU (decide (x2.2.1<S.split (wD x2.1))) (0<=S.split (wD x2.1)/\S.split (wD x2.1)<=wD x2.1) (S.j9 (List.drop (Int.toNat (S.split (wD x2.1))) x2.1)/\List.length x2.2.2+List.length [S.root (List.drop (Int.toNat (S.split (wD x2.1))) x2.1)]<=8796093022208/\abN (S.split (wD x2.1)) (wD x2.1) (∃(x3:List B8×Int×List B8),(List.take (Int.toNat (S.split (wD x2.1))) x2.1=x3.1/\x2.2.1=x3.2.1/\x2.2.2++ [S.root (List.drop (Int.toNat (S.split (wD x2.1))) x2.1)]=x3.2.2)/\S.fp l i x3/\S.len x3.1<S.len x2.1)) (abN (S.split (wD x2.1)) (wD x2.1) (S.j9 (List.take (Int.toNat (S.split (wD x2.1))) x2.1)/\List.length x2.2.2+List.length [S.root (List.take (Int.toNat (S.split (wD x2.1))) x2.1)]<=8796093022208/\abN (S.split (wD x2.1)) (wD x2.1) (q32 (x2.2.1-S.split (wD x2.1))/\(∃(x4:List B8×Int×List B8),(List.drop (Int.toNat (S.split (wD x2.1))) x2.1=x4.1/\x2.2.1-S.split (wD x2.1)=x4.2.1/\x2.2.2++ [S.root (List.take (Int.toNat (S.split (wD x2.1))) x2.1)]=x4.2.2)/\S.fp l i x4/\S.len x4.1<S.len x2.1))))) (S.small x2.2.2) (S.L6 x2.2.2=S.qh l i) (0=S.Ad l i))):=by
 refine aP ?_;have nI:Vg.hlen l:=hf.1.1;have IV:Vg.hint i:=hf.2.1;clear hf;have fV:l.length<=1099511627776:=hp;with_reducible and_intros
 trivial
 . intro h1;try simp only [V.xq,nt,dt] at h1
   refine⟨?_,?_⟩
   . exact(S.ahh h1).1
   exact(S.ahh h1).2
 intro h2;try simp only [V.jz,nf,df] at h2
 refine⟨?_,?_⟩
 . refine⟨((l),((i),([]))),?_⟩;try dsimp only
   with_reducible and_intros
   iterate 3 with_reducible rfl
   exact S.adk h2
 intro x3 h4;refine⟨?_,?_⟩
 . intro h5;try simp only [dt] at h5
   with_reducible and_intros
   trivial
   . intro h6;try simp only [dt] at h6
     with_reducible and_intros
     iterate 2
      . (have q:=S.Cb fV h4 h5;omega)
     . (have q:=S.Cb fV h4 h5;exact q.2.2.1)
     . (have q:=S.Cb fV h4 h5;exact q.2.2.2.1 _)
     iterate 2
      . (have q:=S.Cb fV h4 h5;omega)
     refine⟨((List.take (Int.toNat (S.split (↑(List.length (Prod.fst x3)):Int))) (Prod.fst x3)),((Prod.fst (Prod.snd x3)),(Prod.snd (Prod.snd x3)++ [S.root (List.drop (Int.toNat (S.split (↑(List.length (Prod.fst x3)):Int))) (Prod.fst x3))]))),?_⟩;try dsimp only
     with_reducible and_intros
     iterate 3 with_reducible rfl
     exact S.avt fV h4 h5 h6
     . (have q:=S.Cb fV h4 h5;omega)
   intro h7;try simp only [df] at h7
   with_reducible and_intros
   iterate 2
    . (have q:=S.Cb fV h4 h5;omega)
   . (have q:=S.Cb fV h4 h5;exact q.2.1)
   . (have q:=S.Cb fV h4 h5;exact q.2.2.2.1 _)
   iterate 4
    . (have q:=S.Cb fV h4 h5;omega)
   refine⟨((List.drop (Int.toNat (S.split (↑(List.length (Prod.fst x3)):Int))) (Prod.fst x3)),((Prod.fst (Prod.snd x3)-S.split (↑(List.length (Prod.fst x3)):Int)),(Prod.snd (Prod.snd x3)++ [S.root (List.take (Int.toNat (S.split (↑(List.length (Prod.fst x3)):Int))) (Prod.fst x3))]))),?_⟩;try dsimp only
   with_reducible and_intros
   iterate 3 with_reducible rfl
   exact S.avu fV h4 h5 h7
   . (have q:=S.Cb fV h4 h5;omega)
 intro h8;try simp only [df] at h8
 with_reducible and_intros
 exact S.avv fV h4;exact(S.ą h2 h4 (by assumption)).1;exact(S.ą h2 h4 (by assumption)).2
theorem axP(l:List Int)(hp:True)(hf:Vg.bo J.FB l):(∃(x1:Nat),((0:Int)=x1/\-1=S.fo l x1)/\S.lj l x1)/\(∀(x2:Nat),S.lj l x2->q90 (decide (x2<q48 l)) 0 x2 (q48 l) (dB (gD (decide (aeS l x2<=S.fo l x2)) (decide (1000<=aeS l x2))) (S.bF l) x2 1 (∃(x3:Nat),((x2:Int)+1=x3/\aeS l x2=S.fo l x3)/\S.lj l x3/\q53 (S.len l) x3 x2)) (true=S.bF l)):=by
 refine aP ?_;have nI:Vg.hlen l:=hf.1.1;clear hf;refine⟨?_,?_⟩
 . refine⟨(nat_lit 0:Nat),?_⟩;try dsimp only
   with_reducible and_intros
   omega;exact(S.wh l).symm;exact S.alW l
 intro x1 h2;refine⟨?_,?_⟩
 . intro h3;try simp only [dt] at h3
   with_reducible and_intros
   iterate 2 omega
   . intro h4;try simp only [V.xq,dt,tn] at h4
     exact S.acL h3 h4
   intro h5;try simp only [V.jz,df,tn] at h5
   with_reducible and_intros
   iterate 2 omega
   refine⟨(x1+nat_lit 1),?_⟩;try dsimp only
   with_reducible and_intros
   omega;rw [S.kA,tn];exact S.XG h2 h3 h5;simp only [S.al,S.len];omega
 intro h6;try simp only [df] at h6
 exact S.acM h2 v!
theorem axQ(l:List Int)(hp:True)(hf:Vg.bo J.FB l):fw (q64 (Bool.not (S.bF l)) (1=S.pb l) ([]=S.pa l) (q63 q70) (∃(x1:Nat),((0:Int)=x1/\-1=S.fo l x1/\S.lh q70 (List.length l)=S.gY l x1)/\x1<=List.length l) (∀(x2:Nat),x2<=List.length l->eP (decide ((x2:Int)<List.length l)) (dQ 0 x2 (List.length l)) (q32 (aeS l x2-S.fo l x2)/\q32 (aeS l x2-S.fo l x2-1)/\q63 q70/\aeR (S.gY l x2) (S.lh q70 (aeS l x2-S.fo l x2-1))/\abK x2 (∃(x3:Nat),((x2:Int)+1=x3/\aeS l x2=S.fo l x3/\S.gY l x2++S.lh q70 (aeS l x2-S.fo l x2-1)=S.gY l x3)/\x3<=List.length l/\q53 (S.len l) x3 x2)) (0=S.pb l) (S.gY l x2=S.pa l))):=by
 refine aP ?_;have nI:Vg.hlen l:=hf.1.1;clear hf;with_reducible and_intros
 trivial
 . intro h1;try simp only [nt] at h1
   refine⟨?_,?_⟩
   . simp only [S.pb,S.pa,h1];rfl
   simp only [S.pb,S.pa,h1];rfl
 intro h2;try simp only [nf] at h2
 with_reducible and_intros
 exact T! _
 . refine⟨(nat_lit 0:Nat),?_⟩;try dsimp only
   with_reducible and_intros
   omega;exact(S.wh l).symm
   . have :=S.mT h2;rw [S.PE w! w!,S.PD]
   omega
 intro x3 h4;refine⟨?_,?_⟩
 . intro h5;try simp only [dt] at h5
   with_reducible and_intros
   iterate 2 omega
   iterate 4
    . have :=S.PF h2 h5;omega
   exact T! _
   . have :=(S.Oa h2 h5 (List.getD l (Int.toNat (x3:Int)) 0-S.fo l x3-1)).1;omega
   iterate 2 omega
   refine⟨(x3+nat_lit 1),?_⟩;try dsimp only
   with_reducible and_intros
   omega;rw [S.kA,tn];exact S.LK h2 h5;omega;simp only [S.al,S.len];omega
 intro h6;try simp only [df] at h6
 refine⟨?_,?_⟩
 . simp only [S.pb,h2];rfl
 rw [show x3=l.length by omega];exact S.acN h2
theorem axR(l:List Int)(hp:True)(hf:Vg.bo J.FB l):fw (q64 (abF (S.pb l)) ([]=S.u9 l) (S.pb l=S.pb l) (S.bQ (S.pa l)) (S.lB 2 (S.pa l)=S.u9 l) (0=S.pb l)):=by
 refine aP ?_;have nI:Vg.hlen l:=hf.1.1;clear hf;with_reducible and_intros
 trivial
 . intro h1;try simp only [nt,df] at h1
   refine⟨?_,?_⟩
   . have hq:S.bF l=false :=by
      cases hr:S.bF l with
      |false=>rfl
      |true=>exact absurd (by simp only [S.pb,hr];rfl) h1
     simp only [S.u9,hq];rfl
   rfl
 intro h2;try simp only [nf,dt] at h2
 with_reducible and_intros
 iterate 2
  . have hq:S.bF l=true :=by
     cases hr:S.bF l with
     |true=>rfl
     |false=>simp only [S.pb,hr] at h2;exact absurd h2 (by decide)
    have hl:=S.XH hq;simp only [S.pa,S.u9,hq,R?,S.bQ];try (first|rfl|omega)
 omega
theorem axS(n:Int)(p q:Bool)(s1 s2:Int)(hp:True)(hf:Vg.dL J.atm (n,p,q))(hg:Vg.bT.ok J.q5q ((s1,s2),())):amh s1 n (decide (n<s2))=S.vc n s1 s2/\s1=s1/\s2=s2:=by
 refine aP ?_;have IU:Vg.hint n:=hf.1;have Ho:Vg.hint s1:=hg.1.1;have Hp:Vg.hint s2:=hg.1.2.1;clear hf hg;with_reducible and_intros
 . simp only [S.vc];grind
 iterate 2 rfl
theorem axT(a b:List Int)(s1 s2:Int)(hp:b.length=0)(hf:Vg.dL J.aiw (a,b))(hg:Vg.bT.ok J.q5q ((s1,s2),())):fw (abS (∃(x1:List Int×List Int),(alc a x1.1/\alc b S.qC/\ []=x1.2/\s1=s1/\s2=s2)/\S.mi a s1 s2 x1.1 x1.2) (∀(x2:List Int×List Int),S.mi a s1 s2 x2.1 x2.2->q64 (gD (abO (q48 x2.1)) (decide (0<ald))) (ali (abO (q48 x2.1)) (mr ald) 0 (q48 x2.1) ald) (ali (abO ald) (mr (q48 x2.1)) 0 ald (q48 x2.1)/\FH (YB x2) 0 (q48 x2.1) 1/\FH (SG x2) 0 ald 1/\fw (hU (S.vc (As (SG x2) (at7 0) (YB x2) (xX x2) 0) s1 s2) (ale x2.2 [As (SG x2) (at7 0) (YB x2) (xX x2) 0]) (∃(x3:List Int×List Int),(aeY (YB x2) 1 x2.1=x3.1/\aeY (SG x2) 1 S.qC=S.qC/\x2.2++ [As (SG x2) (at7 0) (YB x2) (xX x2) 0]=x3.2/\s1=s1/\s2=s2)/\S.mi a s1 s2 x3.1 x3.2/\S.len x3.1<S.len x2.1) (∃(x4:List Int×List Int),(aeY (YB x2) 1 x2.1=x4.1/\aeY (SG x2) 1 S.qC=S.qC/\x2.2=x4.2/\s1=s1/\s2=s2)/\S.mi a s1 s2 x4.1 x4.2/\S.len x4.1<S.len x2.1))) (s1=s1) (s2=s2) (x2.2=S.LJ a s1 s2))):=by
 refine aP ?_;have hb:b= []:=V! hp;subst hb;have ha:Vg.hlen a:=hf.1.1;clear hf hg;refine⟨trivial,trivial,?_,?_⟩
 . refine⟨(S.tH a,[]),⟨?_,?_,rfl,rfl,rfl⟩,S.alX a s1 s2⟩
   . simp only [S.tH];cases S.bF a<;>rfl
   simp [S.qC]
 rintro⟨r,out⟩ h;have hl:=h.2;cases r with
 |nil=>simp [S.qC];exact S.acP h
 |cons n r=>
  simp [S.qC];refine⟨w!,fun hn=>⟨?_,?_⟩,fun hn=> ?_⟩
  . simp at hl;omega
  . exact⟨r,out++ [n],⟨rfl,rfl⟩,S.acO h hn,by simp [S.len]⟩
  exact⟨r,out,⟨rfl,rfl⟩,S.ags h hn,by simp [S.len]⟩
theorem axU(l:List Int)(s1 s2:Int)(hp:True)(hf:Vg.bo J.atn (l,s1,s2)):List.length (Vg.me Int)=0/\S.LJ l s1 s2=S.LJ l s1 s2:=by
 have nI:Vg.hlen l:=hf.1.1;have Ho:Vg.hint s1:=hf.2.1;have Hp:Vg.hint s2:=hf.2.2.1;clear hf;refine⟨?_,?_⟩
 . rfl
 rfl
theorem axV(a b:List Int)(hp:True)(hf:Vg.bo J.Ch (a,b)):q97 (py (q48 a) (q48 b)) (S.q9 a b) ((∃(x1:Nat),(0:Int)=x1/\S.ui a b x1)/\(∀(x2:Nat),S.ui a b x2->q90 (decide (x2<q48 a)) 0 x2 (q48 a) (dQ 0 x2 (q48 b)/\dB (py (List.getD a (Int.toNat x2) 0) (List.getD b (Int.toNat x2) 0)) (S.q9 a b) x2 1 (∃(x3:Nat),ae9 x2 x3 (S.ui a b x3) (S.len a))) (true=S.q9 a b))):=by
 refine aP ?_;have FL:Vg.hlen a:=hf.1.1;have ko:Vg.hlen b:=hf.2.1.1;clear hf;refine⟨?_,?_⟩
 . intro h1;try simp only [nt,df] at h1
   exact S.acR h1
 intro h2;try simp only [nf,dt] at h2
 refine⟨?_,?_⟩
 . refine⟨(nat_lit 0:Nat),?_⟩;try dsimp only
   refine⟨?_,?_⟩
   . omega
   exact S.alY h2
 intro x3 h4;refine⟨?_,?_⟩
 . intro h5;try simp only [dt] at h5
   with_reducible and_intros
   iterate 4 omega
   . intro h6;try simp only [nt,df,tn] at h6
     exact S.acQ h6
   intro h7;try simp only [nf,dt,tn] at h7
   with_reducible and_intros
   iterate 2 omega
   refine⟨(x3+nat_lit 1),?_⟩;try dsimp only
   with_reducible and_intros
   omega;exact S.XI h4 h5 h7;simp only [S.al,S.len];omega
 intro h8;try simp only [df] at h8
 exact S.acS h4 h8
theorem axW(d:List (B8×List Int))(hp:S.bh d)(hf:Vg.bo J.IK d):(∃(x1:Nat),(0:Int)=x1/\S.Ip d x1)/\(∀(x2:Nat),S.Ip d x2->q90 (decide ((x2:Int)<List.length d)) 0 x2 (List.length d) (hU (abO x2) (q32 (x2-1)) (dQ 0 (x2-1) (List.length d)) True/\q97 (q38 (abO x2) (avP (adC d x2).1 (adC d (x2-1)).1)) (S.aY d) (afu (mr (q48 (adC d x2).2)) (fw (afu (Bool.not (S.bF (adC d x2).2)) (S.small (adC d x2).1)))/\dB (gD (mr (q48 (adC d x2).2)) (akm (Bool.not (S.bF (adC d x2).2)) (S.isTerm (adC d x2).1))) (S.aY d) x2 1 (∃(x3:Nat),ae9 x2 x3 (S.Ip d x3) (S.len d)))) (true=S.aY d)):=by
 refine aP ?_;have fV:=hp.1;refine⟨?_,?_⟩
 . grind[S.aA7]
 intro x1 h2;refine⟨?_,?_⟩
 . intro h3;simp only [dt] at h3;with_reducible and_intros
   iterate 2 omega
   iterate 2 grind
   . intro h6;simp only [V.afK,dt] at h6;refine S.ö h3 ((S.LL _ _).2 (.inl ⟨w!,?_⟩));have e:Int.toNat ((x1:Int)-1)=x1-1:=by omega
     have h62:=h6.2;rw [e] at h62;exact h62
   intro h7;simp only [V.EP,df] at h7;with_reducible and_intros
   grind
   . intro h9;with_reducible and_intros
     trivial;grind;intro iR;exact S.acT hp
   . intro jH;simp only [V.xq,dt,tn,nt] at jH;exact S.ö h3 ((S.LL _ _).2 (.inr (jH.imp (fun q=>by grind[S.iZ]) id)))
   intro mv;simp at mv;with_reducible and_intros
   iterate 2 omega
   refine⟨(x1+nat_lit 1),?_⟩;dsimp only;with_reducible and_intros
   omega
   . refine S.agt h2 h3 ((S.sW _ _).2 ⟨?_,?_,mv.2.1,mv.2.2⟩);rotate_left
     . grind[S.iZ]
     rcases h7 with h7|h7
     . omega
     right;have e:Int.toNat ((x1:Int)-1)=x1-1:=by omega
     rw [e] at h7;exact h7
   grind[S.al,S.len]
 grind[df,S.alZ]
theorem ann(l1 l2 l3:B8)(hp:True)(hf:Vg.bo J.ato (l1,l2,l3)):q64 (q79 64 (q26 l1) (q79 64 (q26 l2) (py (List.length l3) 32))) ([]=S.ke l1 l2 l3) (1=S.rb l1 l2 l3) (S.nB q70 l1) (S.nB ([]++S.text l1) l2) (wC (List.length ([]++S.text l1++S.text l2)+List.length l3)/\ []++S.text l1++S.text l2++l3=S.ke l1 l2 l3/\0=S.rb l1 l2 l3):=by
 refine aP ?_;refine⟨?_,?_⟩
 . simp_all[V.xq,dt,nt,df,S.XN,S.ke,S.rb]
 intro h2;simp only [V.jz,df,nf,dt] at h2;with_reducible and_intros
 exact S.Iq (T! _) w!
 . have t1:=S.GH (s:=l1);exact S.Iq (by rw [d?];omega) w!
 grind[S.zV,S.uj,S.GH,List.length_append,ln]
 . have hq:=S.zV h2;simp only [S.ke,hq,R?];rfl
 simp_all[S.zV,S.uj,S.GH,S.rb,R?]
theorem ano(b:B8)(hp:b.length<=140737488355328)(hf:Vg.bo J.fv b):q36 b/\q36 (S.ai b 0 0 64).1.1/\q36 (xV b).1.1/\fw (q64 (abF (S.done (oe b).1.1 (oe b).1.2.1 (oe b).1.2.2)) ([]=(S.bf b).1.1) ([]=(S.bf b).1.2.1/\ []=(S.bf b).1.2.2/\S.done (oe b).1.1 (oe b).1.2.1 (oe b).1.2.2=(S.bf b).2) ((S.ai b 0 0 64).2=(S.bf b).1.1) ((xV b).2=(S.bf b).1.2.1) ((oe b).2=(S.bf b).1.2.2/\0=(S.bf b).2)):=by
 refine aP ?_;refine⟨hp,?_,?_,trivial,fun h=> ?_,fun h=> ?_⟩
 . grind[S.zU]
 . grind[S.zU]
 . have h':(!decide (S.done (S.sV b).1.1 (S.sV b).1.2.1 (S.sV b).1.2.2=0))=true :=h
   have e:S.bf b=(([],[],[]),S.done (S.sV b).1.1 (S.sV b).1.2.1 (S.sV b).1.2.2):=by
    simp_all[S.bf,Q!,H?]
   rw [e];exact⟨rfl,rfl,rfl,rfl⟩
 have h':(!decide (S.done (S.sV b).1.1 (S.sV b).1.2.1 (S.sV b).1.2.2=0))=false :=h
 have e:S.bf b=(((S.XJ b).2,(S.RX b).2,(S.sV b).2),0):=by
  grind[S.bf]
 rw [e];exact⟨rfl,rfl,rfl,rfl⟩
theorem anp(d:List (B8×List Int))(hp:S.bh d)(hf:Vg.bo J.IK d):S.bh d/\q64 (Bool.not (S.aY d)) (1=S.dE d) ([]=S.bP d) (q32 (mu d+1)) (∃(x1:Nat),((0:Int)=x1/\ []=S.gO d x1)/\x1<=mu d+1) (∀(x2:Nat),x2<=mu d+1->eP (decide ((x2:Int)<mu d+1)) (hU (abO x2) (q32 (x2-1)) (dQ 0 (x2-1) (mu d)/\q32 (x2-1)/\dQ 0 (x2-1) (mu d)) True) (hU (decide ((x2:Int)<mu d)) ((0:Int)<=x2) ((x2:Int)<mu d) True/\fw (abS (MH (List.length (S.gO d x2)+List.length (ae4 d x2))) (abK x2 (∃(x3:Nat),alj x2 x3 (S.gO d x2++ae4 d x2=S.gO d x3) (x3<=mu d+1) (S.len d+1))))) (0=S.dE d) (S.gO d x2=S.bP d)):=by
 refine aP ?_;have fV:=hp.1;with_reducible and_intros
 omega;grind[nt,S.dE,S.bP];intro h2;simp at h2;with_reducible and_intros
 iterate 2 omega
 . refine⟨(nat_lit 0:Nat),?_⟩;dsimp only;with_reducible and_intros
   omega;rfl;omega
 intro x3 h4;refine V.dI (fun h5=> ?_) fun e6=> ?_
 . with_reducible and_intros
   . intro h6;simp at h6;with_reducible and_intros
     iterate 8 omega
   . intro h7;trivial
   . intro h8;try simp at h8
     refine⟨?_,?_⟩
     . omega
     omega
   . intro h9;trivial
   iterate 2 trivial
   . rw [S.LN];simp;omega
   iterate 2 omega
   refine⟨(x3+nat_lit 1),?_⟩;try dsimp only
   with_reducible and_intros
   omega;rw [S.al2 h2 w!,S.U2];omega;simp [S.al,S.len];omega
 refine⟨?_,?_⟩
 . simp only [S.dE,h2];rfl
 simp [S.bP,h2,R?];rw [show x3=d.length+1 by omega];rfl
theorem anq(d:List (B8×List Int))(hp:S.bh d)(hf:Vg.bo J.IK d):S.bh d/\q64 (abF (S.dE d)) ([]=S.zQ d) (S.dE d=S.dE d) (S.kQ (S.bP d)) (S.small (S.leaves (S.bP d))) (S.sU (S.leaves (S.bP d))=S.zQ d/\S.ae2 (S.leaves (S.bP d))=S.dE d):=by
 refine aP ?_;with_reducible and_intros
 omega;grind[nt,df,S.zQ,S.aA8];intro h2;simp at h2;with_reducible and_intros
 . have hr:=S.sX h2;have hq:=S.n4 hp hr;simp_all[S.bP,S.gh,R?]
 . have hr:=S.sX h2;have hq:=S.n4 hp hr;have e:S.bP d=S.gh d:=by simp_all[S.bP,R?]
   rw [e];exact hq.2.2
 . have hr:=S.sX h2;have hq:=S.n4 hp hr;have e:S.bP d=S.gh d:=by simp_all[S.bP,R?]
   rw [e];simp [S.zQ,S.sU,hr,hq.2.1,R?];rfl
 have hr:=S.sX h2;have hq:=S.n4 hp hr;have e:S.bP d=S.gh d:=by simp_all[S.bP,R?]
 rw [e];simp [S.dE,S.ae2,hr,hq.2.1,R?]
theorem anr(d:List (B8×List Int))(t:B8)(hp:S.bh d)(hf:Vg.bo J.Qc (d,t)):S.bh d/\eP (Bool.not (S.aY d)) (-1=S.bp d t) (false=S.jN d t) (∃(x1:Nat),((0:Int)=x1/\-1=S.dF d t x1)/\x1<=List.length d) (∀(x2:Nat),x2<=List.length d->eP (decide ((x2:Int)<List.length d)) (dQ 0 x2 (List.length d)) (abK x2 (∃(x3:Nat),((x2:Int)+1=x3/\(bif avP (adC d x2).1 t then(x2:Int) else S.dF d t x2)=S.dF d t x3)/\x3<=List.length d/\q53 (S.len d) x3 x2)) (hU (decide (0<=S.dF d t x2)) (0<=S.dF d t x2) (S.dF d t x2<List.length d) True) ((bif decide (0<=S.dF d t x2) then S.dF d t x2 else S.dF d t x2)=S.bp d t/\ala (decide (0<=S.dF d t x2)) (adC d (S.dF d t x2)).1 t=S.jN d t)):=by
 refine aP ?_;have fV:=hp.1;with_reducible and_intros
 omega
 . intro h1;simp at h1;refine⟨?_,?_⟩
   . exact(S.PG h1).1
   exact(S.PG h1).2
 intro h2;simp at h2;refine⟨?_,?_⟩
 . refine⟨(nat_lit 0:Nat),?_⟩;dsimp only;with_reducible and_intros
   omega;rfl;omega
 intro x3 h4;refine V.dI (fun h5=> ?_) fun h6=> ?_
 . with_reducible and_intros
   iterate 4 omega
   refine⟨(x3+nat_lit 1),?_⟩;dsimp only;with_reducible and_intros
   omega;exact S.al3 d t x3;omega;simp [S.al,S.len];omega
 with_reducible and_intros
 . intro h7;simp at h7;refine⟨?_,?_⟩
   . omega
   have :=(S.Fb (d:=d) (t:=t) x3).2;omega
 . intro h8;trivial
 . rw [show x3=d.length by omega,S.agu h2];cases decide (0<=S.bp d t)<;>rfl
 rw [show x3=d.length by omega];exact S.agv h2
theorem ans(d:List (B8×List Int))(t:B8)(hp:S.bh d)(hf:Vg.bo J.Qc (d,t)):S.bh d/\fO (Bool.not (S.jN d t)) ([]=S.pc d t) (dQ 0 (S.bp d t) (List.length d)/\S.small (adC d (S.bp d t)).2/\(adC d (S.bp d t)).2=S.pc d t):=by
 refine aP ?_;grind[nt,S.al7,nf,S.Jy,S.al8]
theorem ant(s1 s2:Int)(hp:True)(hf:Vg.bo J.atp (s1,s2)):amh 0 s1 (q38 (decide (s1<s2)) (decide (s2<=1000)))=S.kT s1 s2:=by
 refine aP ?_;grind[S.kT,S.E1]
theorem anu(s1 s2:Int)(s3:List (B8×List Int))(hp:S.bh s3)(hf:Vg.bo J.ĭ (s1,s2,s3)):abS (afu (Bool.not (S.kT s1 s2)) (S.bh s3)) (q97 (akm (Bool.not (S.kT s1 s2)) (S.aY s3)) (S.ec s1 s2 s3) ((∃(x1:Nat),(0:Int)=x1/\S.uk s1 s2 s3 x1)/\(∀(x2:Nat),S.uk s1 s2 s3 x2->q90 (decide ((x2:Int)<List.length s3)) 0 x2 (List.length s3) (fw (dB (py (q48 (S.LJ (adC s3 x2).2 s1 s2)) (q48 (adC s3 x2).2)) (S.ec s1 s2 s3) x2 1 (∃(x3:Nat),ae9 x2 x3 (S.uk s1 s2 s3 x3) (S.len s3)))) (true=S.ec s1 s2 s3)))):=by
 refine aP ?_;have M6:Vg.hlen s3:=hf.2.2.1.1;with_reducible and_intros
 trivial;iterate 2 grind
 . intro h3;simp at h3;exact S.al5 h3
 intro h4;refine⟨?_,?_⟩
 . grind[S.avi]
 intro x5 h6;refine⟨?_,?_⟩
 . intro h7;simp only [dt] at h7;with_reducible and_intros
   iterate 2 omega
   trivial
   . intro h8;simp at h8;exact S.agA h7 (L? h8)
   intro h9;simp at h9;with_reducible and_intros
   iterate 2 omega
   refine⟨(x5+nat_lit 1),?_⟩;dsimp only;with_reducible and_intros
   omega;exact S.ac0 h6 h7 (H? h9);simp [S.al,S.len];omega
 grind[df,S.agB]
theorem anv(s1 s2:Int)(s3:List (B8×List Int))(hp:S.bh s3)(hf:Vg.bo J.ĭ (s1,s2,s3)):S.bh s3/\eP (Bool.not (S.ec s1 s2 s3)) (0=(S.rf s1 s2 s3).1.1) (0=(S.rf s1 s2 s3).1.2.1/\0=(S.rf s1 s2 s3).1.2.2.1/\ []=(S.rf s1 s2 s3).1.2.2.2/\1=(S.rf s1 s2 s3).2) (S.bh s3) (eP (abF (S.dE s3)) (0=(S.rf s1 s2 s3).1.1) (0=(S.rf s1 s2 s3).1.2.1/\0=(S.rf s1 s2 s3).1.2.2.1/\ []=(S.rf s1 s2 s3).1.2.2.2/\1=(S.rf s1 s2 s3).2) (q32 (List.length s3+1)) (s1=(S.rf s1 s2 s3).1.1/\s2=(S.rf s1 s2 s3).1.2.1/\List.length s3+1=(S.rf s1 s2 s3).1.2.2.1/\S.zQ s3=(S.rf s1 s2 s3).1.2.2.2/\0=(S.rf s1 s2 s3).2)):=by
 refine aP ?_;have fV:=hp.1;with_reducible and_intros
 omega;grind[nt,S.XP];intro h2;with_reducible and_intros
 omega;grind[nt,df,S.Iu];grind[S.Iu]
theorem anw(s1 s2 s3:Int)(s4:B8)(hp:True)(hf:Vg.bo J.atq (s1,s2,s3,s4)):fw (q38 (S.kT s1 s2) (amh 1 s3 (amh s3 1099511627776 (decide (q26 s4=32))))=S.ng s1 s2 s3 s4):=by
 refine aP ?_;grind[S.ng,S.E1]
theorem anx(docs:List B8)(s1 s2:Int)(hp:True)(hf:Vg.bo J.aiy (docs,s1,s2)):fw (hU (abF (S.kg docs s1 s2).2) (0=(S.b8 docs s1 s2).1.1) (0=(S.b8 docs s1 s2).1.2.1/\ []=(S.b8 docs s1 s2).1.2.2/\(S.kg docs s1 s2).2=(S.b8 docs s1 s2).2) (eP (decide (s1=s2)) (0=(S.b8 docs s1 s2).1.1) (0=(S.b8 docs s1 s2).1.2.1/\ []=(S.b8 docs s1 s2).1.2.2/\1=(S.b8 docs s1 s2).2) (s1=(S.b8 docs s1 s2).1.1) (s2=(S.b8 docs s1 s2).1.2.1/\(S.kg docs s1 s2).1=(S.b8 docs s1 s2).1.2.2/\0=(S.b8 docs s1 s2).2))):=by
 refine aP ?_;simp_all[nt,df,S.agC,nf,dt,S.agE,S.agF]
theorem anz(l:List (Int×Int×Int×B8))(n:Int)(hp:True)(hf:Vg.bo J.atr (l,n)):q97 (decide ((64:Int)<List.length l)) (S.pK l n) ((∃(x1:Nat),((0:Int)=x1/\0=S.rowAt l x1)/\S.vW l x1)/\(∀(x2:Nat),S.vW l x2->q90 (decide ((x2:Int)<List.length l)) 0 x2 (List.length l) (acd (Bool.not (Bool.rec false (Bool.rec false (decide ((abU l x2).2.2.2=(abU l x2).2.2.2)) (decide ((abU l x2).2.2.1=(abU l x2).2.2.1))) (Bool.rec false (decide ((abU l x2).2.1=(abU l x2).2.1)) (decide ((abU l x2).1=S.rowAt l x2)))))/\dB (akm (Bool.not (Bool.rec false (Bool.rec false (decide ((abU l x2).2.2.2=(abU l x2).2.2.2)) (decide ((abU l x2).2.2.1=(abU l x2).2.2.1))) (Bool.rec false (decide ((abU l x2).2.1=(abU l x2).2.1)) (decide ((abU l x2).1=S.rowAt l x2))))) (S.ng (abU l x2).1 (abU l x2).2.1 (abU l x2).2.2.1 (abU l x2).2.2.2)) (S.pK l n) x2 1 (∃(x3:Nat),((x2:Int)+1=x3/\(abU l x2).2.1=S.rowAt l x3)/\S.vW l x3/\q53 (S.len l) x3 x2)) (decide (S.rowAt l x2=n)=S.pK l n))):=by
 refine aP ?_;refine V.dI (fun h1=> ?_) fun h2=> ?_
 . exact S.agG h1
 refine⟨?_,?_⟩
 . grind[S.LS,S.al6]
 intro x3 h4;refine⟨?_,?_⟩
 . intro h5;simp only [dt] at h5;with_reducible and_intros
   iterate 2 omega
   . intro h6;trivial
   . intro h7;trivial
   . intro h8;refine S.ac3 h4 h5 (S.Va ?_);simpa [S.U8,S.sg] using h8
   intro h9;with_reducible and_intros
   iterate 2 omega
   refine⟨(x3+nat_lit 1),?_⟩;dsimp only;with_reducible and_intros
   omega;exact(S.U9 l x3).symm
   . refine S.XQ h4 h5 (S.XR ?_);simpa [S.U8,S.sg] using h9
   simp [S.al,S.len];omega
 grind[df,S.ac4]
theorem anA(l:B8)(hp:S.small l)(hf:Vg.bo J.fv l):(l= []-> []=l)/\aeR q70 l/\ []++l=l:=by
 refine aP ?_;with_reducible and_intros
 grind
 . simp [S.small,Vg.me,ln] at *;omega
 rfl
theorem anB(l:List (B8×List Int))(hp:S.small l)(hf:Vg.bo J.IK l):(l= []-> []=l)/\List.length (Vg.me (Prod B8 (List Int)))+List.length l<=3518437208883/\ []++l=l:=by
 with_reducible and_intros
 grind
 . simp [S.small,Vg.me,ln] at *;omega
 rfl
theorem anC(a b:List Int)(hp:True)(hf:Vg.bo J.Ch (a,b)):q97 (py (q48 a) (q48 b)) (S.GO a b) ((∃(x1:Nat),(0:Int)=x1/\S.Fk a b x1)/\(∀(x2:Nat),S.Fk a b x2->q90 (decide (x2<q48 a)) 0 x2 (q48 a) (dQ 0 x2 (q48 b)/\dB (py (List.getD a (Int.toNat x2) 0) (List.getD b (Int.toNat x2) 0)) (S.GO a b) x2 1 (∃(x3:Nat),ae9 x2 x3 (S.Fk a b x3) (S.len a))) (true=S.GO a b))):=by
 refine aP ?_;have FL:Vg.hlen a:=hf.1.1;refine⟨?_,?_⟩
 . intro h1;simp at h1;exact(L? (S.Vn h1)).symm
 intro h2;simp at h2;refine⟨?_,?_⟩
 . refine⟨(nat_lit 0:Nat),?_⟩;dsimp only;refine⟨?_,?_⟩
   . omega
   exact S.agX h2
 intro x3 h4;refine V.dI (fun h5=> ?_) fun h8=> ?_
 . with_reducible and_intros
   iterate 4 omega
   . intro h6;simp at h6;exact(L? (S.Vo 0 h6)).symm
   intro h7;simp at h7;with_reducible and_intros
   iterate 2 omega
   refine⟨(x3+nat_lit 1),?_⟩;dsimp only;with_reducible and_intros
   omega;exact S.PN 0 h4 h5 h7;simp [S.al,S.len,S.gP,S.rB] at *;omega
 exact(H? (S.Vm h4 h8)).symm
theorem anD(a1:B8)(a2:List Int)(b1:B8)(b2:List Int)(hp:True)(hf:Vg.bo J.ats (a1,a2,b1,b2)):acd (decide (a1=b1))/\q38 (decide (a1=b1)) (S.GO a2 b2)=S.Ab a1 a2 b1 b2:=by
 refine aP ?_;simp_all[dt,df,S.Ab,S.GO,decide]
theorem anE(a b:List (B8×List Int))(hp:True)(hf:Vg.Row.ok (Vg.TA.du [.c9 (.slice [.str, .slice [.int .i64]]), .c9 (.slice [.str, .slice [.int .i64]]), .fn (.func 214) [] []]) (a,b))(hg:Vg.bT.ok J.ql ()):q97 (py (List.length a) (List.length b)) (S.re a b) ((∃(x1:Nat),(0:Int)=x1/\S.E9 a b x1)/\(∀(x2:Nat),S.E9 a b x2->q90 (decide ((x2:Int)<List.length a)) 0 x2 (List.length a) (dQ 0 x2 (List.length b)/\fw (dB (Bool.not (S.Ab (List.getD a (Int.toNat x2) ([],[])).1 (List.getD a (Int.toNat x2) ([],[])).2 (List.getD b (Int.toNat x2) ([],[])).1 (List.getD b (Int.toNat x2) ([],[])).2)) (S.re a b) x2 1 (∃(x3:Nat),ae9 x2 x3 (S.E9 a b x3) (S.len a)))) (true=S.re a b))):=by
 refine aP ?_;have FL:Vg.hlen a:=hf.1.1;refine⟨?_,?_⟩
 . intro h1;simp at h1;exact(L? (S.Vn h1)).symm
 intro h2;simp at h2;refine⟨?_,?_⟩
 . refine⟨(nat_lit 0:Nat),?_⟩;dsimp only;refine⟨?_,?_⟩
   . omega
   exact S.agX h2
 intro x3 h4;refine V.dI (fun h5=> ?_) fun h8=> ?_
 . with_reducible and_intros
   iterate 4 omega
   trivial
   . intro h6;simp at h6;exact(L? (S.Vo ([],[]) (S.amd h6))).symm
   intro h7;simp at h7;with_reducible and_intros
   iterate 2 omega
   refine⟨(x3+nat_lit 1),?_⟩;dsimp only;with_reducible and_intros
   omega;exact S.PN ([],[]) h4 h5 (S.amc h7);simp [S.al,S.len,S.gP,S.rB] at *;omega
 exact(H? (S.Vm h4 h8)).symm
theorem anF(a b:List (B8×List Int))(hp:True)(hf:Vg.bo J.att (a,b)):fw (S.re a b=S.re a b):=by
 refine aP ?_;grind
theorem anG(y1:List B8)(y2:List (Int×Int×List (B8×List Int)))(hp:True)(hf:Vg.bo J.pO (y1,y2)):q97 (q79 1000 (wD y1) (decide ((64:Int)<List.length y2))) (S.bD y1 y2) ((∃(x1:Nat),(0:Int)=x1/\S.L0 y1 y2 x1)/\(∀(x2:Nat),S.L0 y1 y2 x2->eP (decide (x2<wD y1)) (dQ 0 x2 (wD y1)) (dB (akD 2000 (Dp y1 x2)) (S.bD y1 y2) x2 1 (∃(x3:Nat),ae9 x2 x3 (S.L0 y1 y2 x3) (S.len y1))) (∃(x4:Nat),((0:Int)=x4/\0=S.gi y2 x4)/\S.z8 y1 y2 x4) (∀(x5:Nat),S.z8 y1 y2 x5->q90 (decide ((x5:Int)<List.length y2)) 0 x5 (List.length y2) (q97 (gD (py (M4 y2 x5).1 (S.gi y2 x5)) (gD (decide ((M4 y2 x5).2.1<=S.gi y2 x5)) (decide (wD y1<(M4 y2 x5).2.1)))) (S.bD y1 y2) (abS (acd (abF (S.b8 y1 (M4 y2 x5).1 (M4 y2 x5).2.1).2)) (dB (akm (abF (S.b8 y1 (M4 y2 x5).1 (M4 y2 x5).2.1).2) (S.re (S.b8 y1 (M4 y2 x5).1 (M4 y2 x5).2.1).1.2.2 (M4 y2 x5).2.2)) (S.bD y1 y2) x5 1 (∃(x6:Nat),((x5:Int)+1=x6/\(M4 y2 x5).2.1=S.gi y2 x6)/\S.z8 y1 y2 x6/\q53 (S.len y2) x6 x5)))) (true=S.bD y1 y2)))):=by
 refine aP ?_;refine⟨?_,?_⟩
 . intro h1;simp at h1;exact S.aA9 h1
 intro h2;simp at h2;refine⟨?_,?_⟩
 . refine⟨(nat_lit 0:Nat),?_⟩;dsimp only;refine⟨?_,?_⟩
   . omega
   exact⟨w!,w!,S.al1 _⟩
 intro x3 h4;refine V.dI (fun h5=> ?_) fun h8=> ?_
 . with_reducible and_intros
   iterate 2 omega
   . intro h6;try simp only [dt,tn] at h6
     exact S.aBa h5 h6
   intro h7;try simp only [df,tn] at h7
   with_reducible and_intros
   iterate 2 omega
   refine⟨(x3+nat_lit 1),?_⟩;try dsimp only
   with_reducible and_intros
   omega;exact⟨h4.1,h4.2.1,S.XM h4.2.2 h5 w!⟩;simp only [S.al,S.len,S.gP,S.rB] at *;omega
 refine⟨?_,?_⟩
 . refine⟨(nat_lit 0:Nat),?_⟩;dsimp only;with_reducible and_intros
   omega;rfl;exact S.agY h4 h8
 intro x9 e6;refine⟨?_,?_⟩
 . intro iR;simp only [dt] at iR;with_reducible and_intros
   iterate 2 omega
   . intro jH;simp at jH;exact S.û iR (S.aBb jH)
   intro mv;simp only [V.jz,nf,dt,tn,df] at mv;with_reducible and_intros
   trivial
   . intro rY;trivial
   . intro Hq;trivial
   . intro DC;simp at DC;exact S.û iR (S.aBc e6 mv DC)
   intro VY;simp at VY;with_reducible and_intros
   iterate 2 omega
   refine⟨(x9+nat_lit 1),?_⟩;try dsimp only
   with_reducible and_intros
   omega;exact S.ac9 _ _;exact S.agZ e6 iR (S.aBd e6 mv VY);simp [S.al,S.len,S.gP,S.rB] at *;omega
 grind[df,S.amb]
theorem anH(y1:List B8)(y2:List (Int×Int×List (B8×List Int)))(hp:True)(hf:Vg.bo J.pO (y1,y2)):fw (eP (Bool.not (S.bD y1 y2)) ([]=(S.ak y1 y2).1) ([]=(S.ak y1 y2).2) (y1=(S.ak y1 y2).1) (y2=(S.ak y1 y2).2)):=by
 refine aP ?_;grind[nt,S.ag0,nf,S.kY]
theorem anI(y1:List B8)(y2:List (Int×Int×List (B8×List Int)))(hp:True)(hf:Vg.bo J.pO (y1,y2)):fO (mr (List.length y2)) (0=S.cz y2) (q89 (List.length y2-1) 0 (List.length y2) ((List.getD y2 (Int.toNat (List.length y2-1)) (0,0,[])).2.1=S.cz y2)):=by
 refine aP ?_;have YF:Vg.hlen y2:=hf.2.1.1;refine V.dI (fun h1=> ?_) fun h2=> ?_
 . exact S.avl h1
 with_reducible and_intros
 iterate 4 omega
 exact S.avn h2
theorem anJ(y1:List B8)(y2:List (Int×Int×List (B8×List Int)))(hp:S.uu y1 y2)(hf:Vg.bo J.pO (y1,y2)):(0<=wD y1/\wD y1<=wD y1/\wD y1<=ani ((24:Nat):Int))/\((0:Int)<=List.length y2/\(List.length y2:Int)<=List.length y2/\List.length y2<=ani ((40:Nat):Int))/\(∃(x1:Nat),((0:Int)=x1/\List.replicate (Int.toNat (wD y1)) q70=S.dG q70 y1 x1)/\S.gP y1 x1)/\(∀(x2:Nat),S.gP y1 x2->eP (decide (x2<wD y1)) (dQ 0 x2 (wD y1)) (S.small (q68 y1 (Int.toNat x2))/\dQ 0 x2 (List.length (S.dG q70 y1 x2))/\Int.toNat x2<List.length (S.dG q70 y1 x2)/\abK x2 (∃(x3:Nat),alj x2 x3 (List.set (S.dG q70 y1 x2) (Int.toNat x2) (q68 y1 (Int.toNat x2))=S.dG q70 y1 x3) (S.gP y1 x3) (S.len y1))) (∃(x4:Nat),((0:Int)=x4/\List.replicate (Int.toNat (List.length y2)) (0,0,[])=S.dG (0,0,[]) y2 x4)/\S.gP y2 x4) (∀(x5:Nat),S.gP y2 x5->eP (decide ((x5:Int)<List.length y2)) (dQ 0 x5 (List.length y2)) (S.small (nk y2 x5).2.2/\dQ 0 x5 (List.length (S.dG (0,0,[]) y2 x5))/\Int.toNat x5<List.length (S.dG (0,0,[]) y2 x5)/\(∃(x6:Nat×Nat×List S.aT),((0:Int)=x6.1/\List.set (S.dG (0,0,[]) y2 x5) (Int.toNat x5) ((nk y2 x5).1,(nk y2 x5).2.1,[])=x6.2.2/\Int.toNat x5=x6.2.1/\(nk y2 x5).2.2=(S.aV y2 x6.2.1).2.2)/\S.uv y2 x6.2.2 x6.2.1 x6.1/\(x5:Int)=x6.2.1)/\(∀(x7:Nat×Nat×List S.aT),S.uv y2 x7.2.2 x7.2.1 x7.1/\(x5:Int)=x7.2.1->eP (decide ((x7.1:Int)<List.length (nk y2 x5).2.2)) (dQ 0 x7.1 (List.length (nk y2 x5).2.2)) (dQ 0 x5 (List.length x7.2.2)/\Int.toNat x5<List.length x7.2.2/\Int.toNat x5=x7.2.1/\S.small (List.getD (nk y2 x5).2.2 (Int.toNat x7.1) ([],[])).2/\dQ 0 x7.1 (List.length (S.aV y2 x7.2.1).2.2)/\Int.toNat x7.1<List.length (S.aV y2 x7.2.1).2.2/\q32 (x7.1+1)/\(∃(x8:Nat×Nat×List S.aT),((x7.1:Int)+1=x8.1/\x7.2.2=x8.2.2/\x7.2.1=x8.2.1/\List.set (S.aV y2 x7.2.1).2.2 (Int.toNat x7.1) ((List.getD (S.aV y2 x7.2.1).2.2 (Int.toNat x7.1) ([],[])).1,(List.getD (nk y2 x5).2.2 (Int.toNat x7.1) ([],[])).2)=(S.aV y2 x8.2.1).2.2)/\(S.uv y2 x8.2.2 x8.2.1 x8.1/\(x5:Int)=x8.2.1)/\q46 (S.rB y2 x8.2.1) x8.1 (S.al (S.rB y2 x7.2.1) x7.1))) (x7.2.1<List.length x7.2.2) (abK x5 (∃(x9:Nat),alj x5 x9 (List.set x7.2.2 x7.2.1 ((List.getD x7.2.2 x7.2.1 (0,0,[])).1,(List.getD x7.2.2 x7.2.1 (0,0,[])).2.1,(S.aV y2 x7.2.1).2.2)=S.dG (0,0,[]) y2 x9) (S.gP y2 x9) (S.len y2))))) (S.dG q70 y1 x2=y1) (S.dG (0,0,[]) y2 x5=y2))):=by
 refine aP ?_;have axX:Vg.hlen y1:=hf.1.1;have YF:Vg.hlen y2:=hf.2.1.1;clear hf;with_reducible and_intros
 iterate 2 omega
 . have :=hp.1;omega
 iterate 2 omega
 . have :=hp.2.1;omega
 grind[S.ü,S.al,S.len,S.gP,S.rB];intro x1 h2;refine V.dI (fun h3=> ?_) fun h4=> ?_
 . with_reducible and_intros
   iterate 2 omega
   exact S.Vq hp _;omega;exact(S.Be _ h3).1;exact(S.Be _ h3).2;iterate 2 omega
   refine⟨(x1+nat_lit 1),?_⟩;try dsimp only
   with_reducible and_intros
   omega;exact S.Vp _ h3
   . simp only [S.al,S.len,S.gP,S.rB] at *;omega
   simp only [S.al,S.len,S.gP,S.rB] at *;omega
 refine⟨?_,?_⟩
 . refine⟨(nat_lit 0:Nat),?_⟩;try dsimp only
   with_reducible and_intros
   omega;exact S.ü _ _;simp only [S.al,S.len,S.gP,S.rB] at *;omega
 intro x5 h6;refine⟨?_,?_⟩
 . intro h7;try simp only [dt] at h7
   with_reducible and_intros
   iterate 2 omega
   exact(S.C7 hp _).1;omega;exact(S.Be _ h7).1;exact(S.Be _ h7).2
   . refine⟨((nat_lit 0:Nat),((Int.toNat (↑x5:Int)),(List.set (S.dG ((0:Int),(0:Int),[]) y2 x5) (Int.toNat (↑x5:Int)) (Prod.fst (List.getD y2 (Int.toNat (↑x5:Int)) ((0:Int),(0:Int),[])),Prod.fst (Prod.snd (List.getD y2 (Int.toNat (↑x5:Int)) ((0:Int),(0:Int),[]))),[])))),?_⟩;try dsimp only
     with_reducible and_intros
     omega;rfl;omega;rfl;exact S.avo h7;omega
   intro x8 h9;refine⟨?_,?_⟩
   . intro e6;try simp only [dt,tn] at e6
     with_reducible and_intros
     omega;trivial;omega
     . have q:=h9.1.2.2.1;have q3:=h9.2;omega
     . have q:=h9.1.2.2.1;have q2:=h9.1.1;have q3:=h9.2;omega
     omega;exact(S.C7 hp _).2 _;omega
     iterate 2
      . have e:x5=x8.2.1:=w!;subst e;first|exact e6|exact Int.ofNat_lt.1 e6
     omega
     . have q:=(S.C7 hp x5).1;exact S.adb q e6
     refine⟨((Prod.fst x8+nat_lit 1),((Prod.fst (Prod.snd x8)),(Prod.snd (Prod.snd x8)))),?_⟩;try dsimp only
     with_reducible and_intros
     omega;rfl;omega
     . have e:x5=x8.2.1:=w!;subst e;exact S.AM _ _ _
     . have e:x5=x8.2.1:=w!;subst e;exact S.ade h9.1 e6
     omega;have e:x5=x8.2.1:=w!;subst e;exact S.adf e6
   intro iR;with_reducible and_intros
   . have q:=h9.1.2.2.1;have q3:=h9.2;omega
   iterate 2 omega
   refine⟨(x5+nat_lit 1),?_⟩;try dsimp only
   with_reducible and_intros
   omega
   . have e:x5=x8.2.1:=w!;subst e;exact S.ag1 h9.1
   . simp only [S.al,S.len,S.gP,S.rB] at *;omega
   simp only [S.al,S.len,S.gP,S.rB] at *;omega
 grind[df,S.ada]
theorem anK(y1:List B8)(y2:List (Int×Int×List (B8×List Int)))(hp:True)(hf:Vg.bo J.pO (y1,y2)):fw (fw (S.cz (S.ak y1 y2).2=S.kW y1 y2)):=by
 refine aP ?_;with_reducible and_intros
 iterate 2 trivial
 rfl
theorem anL(y1:List B8)(y2:List (Int×Int×List (B8×List Int)))(d:B8)(hp:True)(hf:Vg.bo J.atu (y1,y2,d)):fw (hU (akD 2000 d) ((S.ak y1 y2).1=(S.cA y1 y2 d).1.1) ((S.ak y1 y2).2=(S.cA y1 y2 d).1.2/\1=(S.cA y1 y2 d).2) (q64 (decide ((1000:Int)<=List.length (S.ak y1 y2).1)) ((S.ak y1 y2).1=(S.cA y1 y2 d).1.1) ((S.ak y1 y2).2=(S.cA y1 y2 d).1.2/\3=(S.cA y1 y2 d).2) (S.uu (S.ak y1 y2).1 (S.ak y1 y2).2) (S.small d) (MH (List.length (S.ak y1 y2).1+List.length [d])/\(S.ak y1 y2).1++ [d]=(S.cA y1 y2 d).1.1/\(S.ak y1 y2).2=(S.cA y1 y2 d).1.2/\0=(S.cA y1 y2 d).2))):=by
 refine aP ?_;with_reducible and_intros
 trivial;simp_all[dt,S.aBe]
 intro h2;refine⟨?_,?_⟩
 . simp_all[dt,S.aBf]
 grind[df,S.Iz,S.small,S.wx,List.length_singleton,S.asU]
theorem anM(y1:List B8)(y2:List (Int×Int×List (B8×List Int)))(hp:True)(hf:Vg.bo J.pO (y1,y2)):fw (fw (hU (decide (S.cz (S.ak y1 y2).2=wD (S.ak y1 y2).1)) ((S.ak y1 y2).1=(S.bV y1 y2).1.1) ((S.ak y1 y2).2=(S.bV y1 y2).1.2/\5=(S.bV y1 y2).2) (q98 (decide ((64:Int)<=List.length (S.ak y1 y2).2)) ((S.ak y1 y2).1=(S.bV y1 y2).1.1) ((S.ak y1 y2).2=(S.bV y1 y2).1.2/\3=(S.bV y1 y2).2) True (abF (S.b8 (S.ak y1 y2).1 (S.cz (S.ak y1 y2).2) (wD (S.ak y1 y2).1)).2) ((S.ak y1 y2).2=(S.bV y1 y2).1.2/\(S.b8 (S.ak y1 y2).1 (S.cz (S.ak y1 y2).2) (wD (S.ak y1 y2).1)).2=(S.bV y1 y2).2) (S.uu (S.ak y1 y2).1 (S.ak y1 y2).2) (List.length (S.ak y1 y2).2+List.length [((S.b8 (S.ak y1 y2).1 (S.cz (S.ak y1 y2).2) (wD (S.ak y1 y2).1)).1.1,(S.b8 (S.ak y1 y2).1 (S.cz (S.ak y1 y2).2) (wD (S.ak y1 y2).1)).1.2.1,(S.b8 (S.ak y1 y2).1 (S.cz (S.ak y1 y2).2) (wD (S.ak y1 y2).1)).1.2.2)]<=3518437208883) ((S.ak y1 y2).1=(S.bV y1 y2).1.1/\(S.ak y1 y2).2++ [((S.b8 (S.ak y1 y2).1 (S.cz (S.ak y1 y2).2) (wD (S.ak y1 y2).1)).1.1,(S.b8 (S.ak y1 y2).1 (S.cz (S.ak y1 y2).2) (wD (S.ak y1 y2).1)).1.2.1,(S.b8 (S.ak y1 y2).1 (S.cz (S.ak y1 y2).2) (wD (S.ak y1 y2).1)).1.2.2)]=(S.bV y1 y2).1.2/\0=(S.bV y1 y2).2)))):=by
 refine aP ?_;with_reducible and_intros
 iterate 2 trivial
 simp_all[dt,S.aBg]
 intro h2;refine⟨?_,?_⟩
 . simp_all[dt,S.aBh]
 intro h4;with_reducible and_intros
 trivial;grind[nt,df,S.asV];grind[S.Iz,S.wx,List.length_singleton,S.aBi]
theorem anN(y1:List B8)(y2:List (Int×Int×List (B8×List Int)))(hp:True)(hf:Vg.bo J.pO (y1,y2)):abS ((0:Int)<=0/\(0:Int)<=List.length (S.ak y1 y2).2/\List.length (S.ak y1 y2).2<=ani ((40:Nat):Int)) ((∃(x1:Nat),((0:Int)=x1/\List.replicate (Int.toNat 0) (0,0,0,[])=S.kh y1 y2 x1)/\x1<=S.gL y1 y2)/\(∀(x2:Nat),x2<=S.gL y1 y2->q90 (decide ((x2:Int)<List.length (S.ak y1 y2).2)) 0 x2 (List.length (S.ak y1 y2).2) (S.bh (vw y1 y2 x2).2.2/\List.length (S.kh y1 y2 x2)+List.length [((DA y1 y2 x2).1,(DA y1 y2 x2).2.1,(DA y1 y2 x2).2.2.1,(DA y1 y2 x2).2.2.2)]<=3518437208883/\abK x2 (∃(x3:Nat),alj x2 x3 (S.kh y1 y2 x2++ [((DA y1 y2 x2).1,(DA y1 y2 x2).2.1,(DA y1 y2 x2).2.2.1,(DA y1 y2 x2).2.2.2)]=S.kh y1 y2 x3) (x3<=S.gL y1 y2) (S.gL y1 y2))) (S.kh y1 y2 x2=S.cL y1 y2))):=by
 refine aP ?_;have axX:Vg.hlen y1:=hf.1.1;have YF:Vg.hlen y2:=hf.2.1.1;clear hf;with_reducible and_intros
 trivial;iterate 2 omega
 grind[S.wx]
 . refine⟨(nat_lit 0:Nat),?_⟩;try dsimp only
   with_reducible and_intros
   omega;rfl;omega
 intro x1 h2;refine⟨?_,?_⟩
 . intro h3;try simp only [dt] at h3
   with_reducible and_intros
   iterate 2 omega
   exact(S.PO y1 y2 (k:=x1) w!).2
   . have :=S.Sa y1 y2 x1;simp only [W!];omega
   omega
   . have :=(S.wx y1 y2).2.1;omega
   refine⟨(x1+nat_lit 1),?_⟩;try dsimp only
   with_reducible and_intros
   omega;exact S.ag2 h3
   . simp only [S.gL,S.al] at *;omega
   simp only [S.gL,S.al] at *;omega
 grind[df,S.amf]
theorem anO(y1:Int)(y2:B8)(y3:List (Int×Int×Int×B8))(hp:True)(hf:Vg.bo J.Qd (y1,y2,y3)):fO (decide (0<=y1)) (fO (decide (y1<=1000)) (acd (decide (q26 y2=32))) True) True/\q38 (decide (0<=y1)) (q38 (decide (y1<=1000)) (q38 (decide (q26 y2=32)) (S.pK y3 y1)))=S.dO y1 y2 y3:=by
 refine aP ?_;grind[S.amm]
theorem anP(y1:List B8)(y2:List (Int×Int×List (B8×List Int)))(hp:True)(hf:Vg.bo J.pO (y1,y2)):abS (acd (Bool.not (S.bD y1 y2))) (q64 (gD (Bool.not (S.bD y1 y2)) (py (S.kW y1 y2) (wD y1))) (0=(S.iK y1 y2).1.1) ([]=(S.iK y1 y2).1.2.1/\ []=(S.iK y1 y2).1.2.2/\7=(S.iK y1 y2).2) (S.kQ y1) (S.small (S.leaves y1)) (eP (abF (S.ae2 (S.leaves y1))) (0=(S.iK y1 y2).1.1) ([]=(S.iK y1 y2).1.2.1/\ []=(S.iK y1 y2).1.2.2/\S.ae2 (S.leaves y1)=(S.iK y1 y2).2) True (wD y1=(S.iK y1 y2).1.1/\S.sU (S.leaves y1)=(S.iK y1 y2).1.2.1/\S.cL y1 y2=(S.iK y1 y2).1.2.2/\0=(S.iK y1 y2).2))):=by
 refine aP ?_;with_reducible and_intros
 trivial;iterate 2 grind
 simp_all[V.xq,nt,df,S.amn]
 intro h4;simp at h4;with_reducible and_intros
 grind[S.L2];exact(S.L2 h4.1).2;grind[nt,df,S.Vw];simp_all[nf,dt,S.Vv,S.Vw]
theorem anQ(v q:Int)(hp:S.fD v=false/\q=0)(hf:Vg.dL J.Qe v)(hg:Vg.bT.ok J.q6q (q,((),()))):eP (mr q) (q63 q70) (S.v7 v=0/\S.lh q70 v=S.num v) (q=0) ([]=S.num v):=by
 refine aP ?_;refine⟨?_,?_⟩
 . grind[S.asW]
 grind
theorem anR(v q:Int)(l:B8)(hp:S.fD v=false/\q=0/\l.length<=35184372088832)(hf:Vg.dL J.Qe v)(hg:Vg.bT.ok J.q7q (q,((),(l,())))):eP (mr q) (q63 l) (S.v7 v=0/\S.lh l v=l++S.num v) (q=0) (l=l++S.num v):=by
 refine aP ?_;refine⟨?_,?_⟩
 . grind[S.asW]
 grind
theorem anS(d l:B8)(hp:l.length<=35184372088832/\d.length<=35184372088832)(hf:Vg.dL J.atv d)(hg:Vg.bT.ok J.q8q ((),(l,()))):aeR l d/\l++d=l++d:=by
 refine aP ?_;grind
theorem anT(y1:Int)(y2:B8)(y3:List (Int×Int×Int×B8))(hp:True)(hf:Vg.bo J.Qd (y1,y2,y3)):fw (q64 (Bool.not (S.dO y1 y2 y3)) (1=(S.hW y1 y2 y3).2) ([]=(S.hW y1 y2 y3).1) (S.fD y1=false/\(0:Int)=0) (q63 (S.num y1)/\q63 y2) ((S.fD (List.length y3)=false/\(0:Int)=0/\q63 (S.num y1++y2))/\(∃(x1:Nat),((0:Int)=x1/\S.num y1++y2++S.num (List.length y3)=S.Ac y1 y2 y3 x1/\ai5)/\S.PT y1 y2 y3 x1)/\(∀(x2:Nat),S.PT y1 y2 y3 x2->q90 (decide ((x2:Int)<List.length y3)) 0 x2 (List.length y3) ((S.fD (afE y3 x2).1=false/\(0:Int)=0/\q63 (S.Ac y1 y2 y3 x2))/\(S.fD (afE y3 x2).2.1=false/\(0:Int)=0/\q63 (S.Ac y1 y2 y3 x2++S.num (afE y3 x2).1))/\(q63 (S.Ac y1 y2 y3 x2++S.num (afE y3 x2).1++S.num (afE y3 x2).2.1)/\q63 (afE y3 x2).2.2)/\abK x2 (∃(x3:Nat),((x2:Int)+1=x3/\S.Ac y1 y2 y3 x2++S.num (afE y3 x2).1++S.num (afE y3 x2).2.1++(afE y3 x2).2.2=S.Ac y1 y2 y3 x3/\ai5)/\S.PT y1 y2 y3 x3/\q53 (S.len y3) x3 x2)) (hU (ak5 0) (0=(S.hW y1 y2 y3).2) ([]=(S.hW y1 y2 y3).1) (0=(S.hW y1 y2 y3).2/\S.Ac y1 y2 y3 x2=(S.hW y1 y2 y3).1))))):=by
 refine aP ?_;have aEj:Vg.hlen y3:=hf.2.2.1.1;clear hf;with_reducible and_intros
 trivial;grind[nt,S.X7];intro h2;try simp at h2
 with_reducible and_intros
 grind[S.ij,S.L3];rfl;grind[S.eN];grind[S.ij];grind[S.qg,S.ij,S.L3];rfl;grind[S.eN,S.ij,List.length_append]
 . refine⟨(nat_lit 0:Nat),?_⟩;try dsimp only
   with_reducible and_intros
   omega;grind[S.aBk];rfl;exact⟨h2,Nat.zero_le _⟩
 intro x3 h4;refine⟨?_,?_⟩
 . intro h5;try simp only [dt] at h5
   with_reducible and_intros
   iterate 2 omega
   exact(S.X8 h4 h5).1;rfl
   . have :=S.JD h4;omega
   exact(S.X8 h4 h5).2.1;rfl
   . have q:=S.JD h4;have q2:=S.eN (y3.getD (Int.toNat (x3:Int)) (0,0,0,[])).2.1;simp only [K!];omega
   . have q:=S.JD h4;have q2:=S.eN (y3.getD (Int.toNat (x3:Int)) (0,0,0,[])).2.1;have q3:=S.eN (y3.getD (Int.toNat (x3:Int)) (0,0,0,[])).2.2.1;simp only [K!];omega
   exact h? (Nat.le_of_eq (S.X8 h4 h5).2.2) (by decide);iterate 2 omega
   refine⟨(x3+nat_lit 1),?_⟩;try dsimp only
   with_reducible and_intros
   omega;exact S.ag8 h5;rfl;exact⟨h4.1,w!⟩;simp only [S.al,S.len];omega
 simp_all[df,nt,nf,dt,S.JC,S.Ă]
theorem anU(r1:B8)(r2 r3:Int)(hp:r1.length<=140737488355328)(hf:Vg.dL J.lr ())(hg:Vg.bT.ok J.yy ((r1,r2,r3),())):q36 r1/\(S.af r1 r2 r3).2=(S.af r1 r2 r3).2/\(S.af r1 r2 r3).1.1=r1/\(S.af r1 r2 r3).1.2.1=(S.af r1 r2 r3).1.2.1/\(S.af r1 r2 r3).1.2.2=(S.af r1 r2 r3).1.2.2:=by
 refine aP ?_;grind[S.JB]
theorem anV(r1:B8)(r2 r3:Int)(hp:r1.length<=140737488355328)(hf:Vg.dL J.lr ())(hg:Vg.bT.ok J.yy ((r1,r2,r3),())):q36 r1/\(S.an r1 r2 r3).2=(S.an r1 r2 r3).2/\(S.an r1 r2 r3).1.1=r1/\(S.an r1 r2 r3).1.2.1=(S.an r1 r2 r3).1.2.1/\(S.an r1 r2 r3).1.2.2=(S.an r1 r2 r3).1.2.2:=by
 refine aP ?_;simp_all[S.JB]
theorem anW(a:Int)(r1:B8)(r2 r3:Int)(hp:r1.length<=140737488355328)(hf:Vg.dL J.atw ())(hg:Vg.bT.ok [.cells [.c9 (.int .i64)], .cells [.fn (.func 199) [] [.ref 50003 0]], .cells [.fn (.func 200) [] [.ref 50003 0]], .cells [.c9 (.slice [.int .u8]), .c9 (.int .i64), .c9 (.int .i64)]] (a,((),((),((r1,r2,r3),()))))):q36 r1/\q36 r1/\q36 r1/\a=a/\(S.af r1 r2 r3).2=(S.rV r1 r2 r3 a).2.2.1/\(S.af r1 (S.af r1 r2 r3).1.2.1 (S.af r1 r2 r3).1.2.2).2=(S.rV r1 r2 r3 a).2.2.2.1/\(S.an r1 (S.af r1 (S.af r1 r2 r3).1.2.1 (S.af r1 r2 r3).1.2.2).1.2.1 (S.af r1 (S.af r1 r2 r3).1.2.1 (S.af r1 r2 r3).1.2.2).1.2.2).2=(S.rV r1 r2 r3 a).2.2.2.2/\(S.af r1 r2 r3).2=(S.rV r1 r2 r3 a).2.2.1/\0=0/\0=0/\r1=r1/\(S.an r1 (S.af r1 (S.af r1 r2 r3).1.2.1 (S.af r1 r2 r3).1.2.2).1.2.1 (S.af r1 (S.af r1 r2 r3).1.2.1 (S.af r1 r2 r3).1.2.2).1.2.2).1.2.1=(S.rV r1 r2 r3 a).1.1/\(S.an r1 (S.af r1 (S.af r1 r2 r3).1.2.1 (S.af r1 r2 r3).1.2.2).1.2.1 (S.af r1 (S.af r1 r2 r3).1.2.1 (S.af r1 r2 r3).1.2.2).1.2.2).1.2.2=(S.rV r1 r2 r3 a).1.2:=by
 refine aP ?_;with_reducible and_intros
 iterate 3 omega
 iterate 10 rfl
theorem anX(b:B8)(hp:b.length<=140737488355328)(hf:Vg.bo J.fv b):q36 b/\q36 b/\q36 b/\eP (decide (64<(S.af b (Aw b).1.2.1 (Aw b).1.2.2).2)) (0=(S.hR b).1.1) ([]=(S.hR b).1.2.1/\ []=(S.hR b).1.2.2/\2=(S.hR b).2) (∃(x1:Nat),((0:Int)=x1/\b=b/\(S.af b (Aw b).1.2.1 (Aw b).1.2.2).1.2.1=(S.iL b x1).1.1/\(S.af b (Aw b).1.2.1 (Aw b).1.2.2).1.2.2=(S.iL b x1).1.2/\0=(S.iL b x1).2.1/\0=0/\0=0/\(S.af b 0 0).2=(afD b).1/\(Aw b).2=(afD b).2.1/\ []=(S.iL b x1).2.2)/\x1<=S.pN b/\(afD b).2.2<=64) (∀(x2:Nat),x2<=S.pN b/\(afD b).2.2<=64->eP (decide (x2<(S.af b (Aw b).1.2.1 (Aw b).1.2.2).2)) (q36 b) (List.length (S.iL b x2).2.2+List.length [((S.iL b x2).2.1,(awG b x2).2.2.1,(awG b x2).2.2.2.1,(awG b x2).2.2.2.2)]<=3518437208883/\abK x2 (∃(x3:Nat),((x2:Int)+1=x3/\b=b/\(awG b x2).1.1=(S.iL b x3).1.1/\(awG b x2).1.2=(S.iL b x3).1.2/\(awG b x2).2.2.1=(S.iL b x3).2.1/\0=0/\0=0/\(afD b).1=(afD b).1/\(afD b).2.1=(afD b).2.1/\(S.iL b x2).2.2++ [((S.iL b x2).2.1,(awG b x2).2.2.1,(awG b x2).2.2.2.1,(awG b x2).2.2.2.2)]=(S.iL b x3).2.2)/\(x3<=S.pN b/\(afD b).2.2<=64)/\q53 (S.pN b) x3 x2)) True (q98 (abF (S.done b (S.iL b x2).1.1 (S.iL b x2).1.2)) (0=(S.hR b).1.1) ([]=(S.hR b).1.2.1/\ []=(S.hR b).1.2.2/\S.done b (S.iL b x2).1.1 (S.iL b x2).1.2=(S.hR b).2) True (Bool.not (S.dO (afD b).1 (afD b).2.1 (S.iL b x2).2.2)) ([]=(S.hR b).1.2.1/\ []=(S.hR b).1.2.2/\2=(S.hR b).2) ((afD b).1=(S.hR b).1.1) ((afD b).2.1=(S.hR b).1.2.1) ((S.iL b x2).2.2=(S.hR b).1.2.2/\0=(S.hR b).2))):=by
 refine aP ?_;with_reducible and_intros
 iterate 3 omega
 . intro h1;simp at h1;with_reducible and_intros
   iterate 3 (rw [S.Vu h1])
   rw [S.Vu h1]
 intro h2;simp only [df] at h2;refine⟨?_,?_⟩
 . refine⟨(nat_lit 0:Nat),?_⟩;dsimp only;with_reducible and_intros
   omega;iterate 9 rfl
   omega;exact Int.not_lt.1 h2
 intro x3 h4;refine V.dI (fun h5=> ?_) fun h6=> ?_
 . with_reducible and_intros
   omega
   . have q:=S.avq b x3;have q2:=h4.2;have q3:(x3:Int)<(S.gn b).1.2.2:=h5;simp only [W!];omega
   omega
   . have q2:=h4.2;have q3:(x3:Int)<(S.gn b).1.2.2:=h5;omega
   refine⟨(x3+nat_lit 1),?_⟩;try dsimp only
   with_reducible and_intros
   omega;iterate 9 rfl
   exact S.ag9 h5;omega;have q:=S.ag9 h5;simp only [S.al];omega
 with_reducible and_intros
 trivial
 . intro h7;simp at h7;with_reducible and_intros
   iterate 3 (rw [S.asX h2 h4.1 h6 h7])
   rw [S.asX h2 h4.1 h6 h7]
 intro h8;simp at h8;with_reducible and_intros
 trivial
 . intro h9;simp at h9;with_reducible and_intros
   iterate 3 (rw [S.asY h2 h4.1 h6 h8 h9])
   rw [S.asY h2 h4.1 h6 h8 h9]
 intro e6;simp at e6;with_reducible and_intros
 iterate 3 (rw [S.asZ h2 h4.1 h6 h8 e6])
 rw [S.asZ h2 h4.1 h6 h8 e6]
theorem anY(d:List (B8×List Int))(t:B8)(hp:S.bh d/\S.small t)(hf:Vg.bo J.Qc (d,t)):S.bh d/\afu (abF (S.dE d)) (S.small t)/\eP (akm (abF (S.dE d)) (S.isTerm t)) (0=(S.gj d t).1.1) ([]=(S.gj d t).1.2.1/\ []=(S.gj d t).1.2.2.1/\ []=(S.gj d t).1.2.2.2.1/\ []=(S.gj d t).1.2.2.2.2.1/\ []=(S.gj d t).1.2.2.2.2.2/\1=(S.gj d t).2) (S.bh d) (q89 (S.bp d t+1) 0 (List.length (S.bP d)) (Int.toNat (S.bp d t+1)<List.length (S.bP d)/\q36 (q68 (S.bP d) (Int.toNat (S.bp d t+1)))/\S.kQ (S.bP d)/\S.dz (S.leaves (S.bP d))/\q64 (S.jN d t) (S.bh d) (fw (S.bp d t+1=(S.gj d t).1.1/\(S.bf (q68 (S.bP d) (Int.toNat (S.bp d t+1)))).1.1=(S.gj d t).1.2.1/\(S.bf (q68 (S.bP d) (Int.toNat (S.bp d t+1)))).1.2.1=(S.gj d t).1.2.2.1/\(S.bf (q68 (S.bP d) (Int.toNat (S.bp d t+1)))).1.2.2=(S.gj d t).1.2.2.2.1/\S.qh (S.leaves (S.bP d)) (S.bp d t+1)=(S.gj d t).1.2.2.2.2.1/\S.pa (S.pc d t)=(S.gj d t).1.2.2.2.2.2/\0=(S.gj d t).2)) (S.bp d t+1=(S.gj d t).1.1) ((S.bf (q68 (S.bP d) (Int.toNat (S.bp d t+1)))).1.1=(S.gj d t).1.2.1) ((S.bf (q68 (S.bP d) (Int.toNat (S.bp d t+1)))).1.2.1=(S.gj d t).1.2.2.1/\(S.bf (q68 (S.bP d) (Int.toNat (S.bp d t+1)))).1.2.2=(S.gj d t).1.2.2.2.1/\S.qh (S.leaves (S.bP d)) (S.bp d t+1)=(S.gj d t).1.2.2.2.2.1/\ []=(S.gj d t).1.2.2.2.2.2/\0=(S.gj d t).2))):=by
 refine aP ?_;have atW:Vg.hlen d:=hf.1.1;have Qn:Vg.hlen t:=hf.2.1;clear hf;have fV:=hp.1;have oA:t.length<=1099511627776:=hp.2;with_reducible and_intros
 exact fV
 . intro h1;try simp only [nt,df] at h1
   trivial
 . intro h2;try simp only [nf,dt] at h2
   exact oA
 . intro h3;try simp only [V.xq,nt,df] at h3
   with_reducible and_intros
   iterate 6
    . rw [S.Ć (by first|assumption|simp_all)];try rfl
   rw [S.Ć (by first|assumption|simp_all)];try rfl
 intro h4;try simp only [V.jz,nf,dt] at h4
 with_reducible and_intros
 exact fV
 iterate 6
  . (have q:=S.ć fV (S.sX (And.left (by assumption))) t;omega)
 . (have q:=S.ć fV (S.sX (And.left (by assumption))) t;exact q.2.2.1)
 . (have q:=S.ć fV (S.sX (And.left (by assumption))) t;exact q.2.2.2.1)
 . intro h5;with_reducible and_intros
   exact fV;trivial
   iterate 6
    . have r:S.dE d=0/\S.isTerm t=true :=by assumption
      (rw [S.wy (S.sX r.1) r.2,S.Sh fV (S.sX r.1)])<;>(simp only;try first|rw [R! (by assumption)]|rw [Q! (by simp_all)])
   have r:S.dE d=0/\S.isTerm t=true :=by assumption
   (rw [S.wy (S.sX r.1) r.2,S.Sh fV (S.sX r.1)])<;>(simp only;try first|rw [R! (by assumption)]|rw [Q! (by simp_all)])
 intro h6;with_reducible and_intros
 iterate 6
  . have r:S.dE d=0/\S.isTerm t=true :=by assumption
    (rw [S.wy (S.sX r.1) r.2,S.Sh fV (S.sX r.1)])<;>(simp only;try first|rw [R! (by assumption)]|rw [Q! (by simp_all)])
 have r:S.dE d=0/\S.isTerm t=true :=by assumption
 (rw [S.wy (S.sX r.1) r.2,S.Sh fV (S.sX r.1)])<;>(simp only;try first|rw [R! (by assumption)]|rw [Q! (by simp_all)])
theorem anZ(l:List B8)(hp:S.small l)(hf:Vg.dL J.Qb ())(hg:Vg.bT.ok J.Yr (l,())):fO (decide ((aeW l:Int)<2)) (l=S.bR l) ((∃(x1:Nat),(1:Int)=x1/\S.mR l x1)/\(∀(x2:Nat),S.mR l x2->q90 (decide ((x2:Int)<aeW l)) 0 x2 (aeW l) (auu x2<aeW l/\q89 (x2-1) 0 (aeW l) (Int.toNat (x2-1)<aeW l/\VW (decide (q68 l (auu x2)=q68 l (Int.toNat (x2-1)))) ((0:Int)<=x2/\(x2:Int)<=aeW l) ((∃(x3:Nat×Nat×List B8×Nat),((x2:Int)=x3.1/\(1:Int)=x3.2.1/\l=x3.2.2.1)/\S.iG l x3.2.2.2 x3.1 x3.2.1 x3.2.2.1/\(x2:Int)=x3.2.2.2)/\(∀(x4:Nat×Nat×List B8×Nat),S.iG l x4.2.2.2 x4.1 x4.2.1 x4.2.2.1/\(x2:Int)=x4.2.2.2->q64 (decide ((x4.2.1:Int)<((aeW l-auu x2:Nat):Int))) (dQ 0 x4.2.1 ((aeW l-auu x2:Nat):Int)) (auu x2+Int.toNat x4.2.1<aim x4/\q89 (x4.2.1-1) 0 ((aeW l-auu x2:Nat):Int) (auu x2+Int.toNat (x4.2.1-1)<aim x4/\q90 (ae6 x2 x4) 0 x4.2.1 ((aeW l-auu x2:Nat):Int) (auu x2+Int.toNat x4.2.1<aim x4/\dQ 0 x4.1 (aim x4)/\afw x4<aim x4/\q32 (x4.1+1)) True/\q32 (x4.2.1+1)/\(∃(x5:Nat×Nat×List B8×Nat),((bif ae6 x2 x4 then(x4.1:Int)+1 else(x4.1:Int))=x5.1/\(x4.2.1:Int)+1=x5.2.1/\(bif ae6 x2 x4 then List.set x4.2.2.1 (afw x4) (q68 x4.2.2.1 (auu x2+Int.toNat x4.2.1)) else x4.2.2.1)=x5.2.2.1)/\(S.iG l x5.2.2.2 x5.1 x5.2.1 x5.2.2.1/\(x2:Int)=x5.2.2.2)/\q53 (S.len l) x5.2.1 x4.2.1))) ((0:Int)<=x4.1/\(x4.1:Int)<=aim x4) (afw x4+(aim x4-afw x4)<=aim x4) (abN x4.1 (wD (auj x4)) (List.take (afw x4) (auj x4)=S.bR l)))) x2 (∃(x6:Nat),ae9 x2 x6 (S.mR l x6) (S.len l)))) (l=S.bR l))):=by
 refine aP ?_;clear hf hg;have fV:l.length<=1099511627776:=hp;refine V.dI (fun h1=> ?_) fun h2=> ?_
 . exact S.LC h1
 refine⟨?_,?_⟩
 . grind[S.agj]
 intro x3 h4;refine⟨?_,?_⟩
 . intro h5;try simp only [dt] at h5
   with_reducible and_intros
   iterate 5 omega
   . have :=h4.1;omega
   iterate 2 omega
   . intro h6;try simp only [dt,tn] at h6
     with_reducible and_intros
     iterate 2 omega
     . refine⟨((x3),((nat_lit 1:Nat),((l),(x3)))),?_⟩;grind[S.ó]
     intro x7 h8;refine⟨?_,?_⟩
     . intro h9;try simp at h9
       with_reducible and_intros
       iterate 2 omega
       . have q1:=h8.1.1;have q2:=h8.1.2.1;have q3:=h8.1.2.2.2.1;have q4:=h8.1.2.2.2.2.1;omega
       iterate 2 omega
       . have q1:=h8.1.1;omega
       omega
       . have q1:=h8.1.1;have q2:=h8.1.2.1;have q3:=h8.1.2.2.2.1;have q4:=h8.1.2.2.2.2.1;omega
       . intro e6;with_reducible and_intros
         iterate 2 omega
         . have q1:=h8.1.1;have q2:=h8.1.2.1;have q3:=h8.1.2.2.2.1;have q4:=h8.1.2.2.2.2.1;have q5:=h8.2;omega
         omega
         iterate 2
          . have q1:=h8.1.1;have q2:=h8.1.2.1;have q3:=h8.1.2.2.2.1;have q4:=h8.1.2.2.2.2.1;have q5:=h8.2;omega
         omega;have q1:=h8.1.1;have q2:=h8.1.2.1;have q3:=h8.1.2.2.2.1;have q4:=h8.1.2.2.2.2.1;have q5:=h8.2;omega
       . intro iR;trivial
       iterate 2 omega
       refine⟨((Int.toNat (bif !Decidable.decide (List.getD (Prod.fst (Prod.snd (Prod.snd x7))) (Int.toNat (↑x3:Int)+Int.toNat (↑(Prod.fst (Prod.snd x7)):Int)) []=List.getD (Prod.fst (Prod.snd (Prod.snd x7))) (Int.toNat (↑x3:Int)+Int.toNat ((↑(Prod.fst (Prod.snd x7)):Int)-(1:Int))) []) then(↑(Prod.fst x7):Int)+(1:Int) else(↑(Prod.fst x7):Int))),((Prod.fst (Prod.snd x7)+nat_lit 1),((bif !Decidable.decide (List.getD (Prod.fst (Prod.snd (Prod.snd x7))) (Int.toNat (↑x3:Int)+Int.toNat (↑(Prod.fst (Prod.snd x7)):Int)) []=List.getD (Prod.fst (Prod.snd (Prod.snd x7))) (Int.toNat (↑x3:Int)+Int.toNat ((↑(Prod.fst (Prod.snd x7)):Int)-(1:Int))) []) then List.set (Prod.fst (Prod.snd (Prod.snd x7))) (Int.toNat (↑(Prod.fst x7):Int)) (List.getD (Prod.fst (Prod.snd (Prod.snd x7))) (Int.toNat (↑x3:Int)+Int.toNat (↑(Prod.fst (Prod.snd x7)):Int)) []) else Prod.fst (Prod.snd (Prod.snd x7))),(x3)))),?_⟩;try dsimp only
       with_reducible and_intros
       . generalize (!decide (List.getD x7.2.2.1 (Int.toNat (x3:Int)+Int.toNat (x7.2.1:Int)) []=List.getD x7.2.2.1 (Int.toNat (x3:Int)+Int.toNat ((x7.2.1:Int)-1)) []))=c;cases c<;>simp<;>omega
       omega;trivial
       . have q1:=h8.1.1;have e3:x7.2.2.2=x3:=by have :=h8.2;omega
         have hi:=h8.1;rw [e3] at hi;have e1:Int.toNat (x3:Int)+Int.toNat (x7.2.1:Int)=x3+x7.2.1:=by omega
         have e2:Int.toNat (x3:Int)+Int.toNat ((x7.2.1:Int)-1)=x3+x7.2.1-1:=by omega
         rw [e1,e2];by_cases hd:List.getD x7.2.2.1 (x3+x7.2.1) []=List.getD x7.2.2.1 (x3+x7.2.1-1) []
         . rw [H? hd];exact S.LD hi w! hd
         rw [L? hd];exact S.Pw hi w! hd
       omega;simp only [S.al,S.len];omega
     intro jH;with_reducible and_intros
     omega
     iterate 2
      . have q1:=h8.1.2.1;have q2:=h8.1.2.2.2.1;have q3:=h8.1.2.2.2.2.1;omega
     omega
     . have q1:=h8.1.2.1;have q2:=h8.1.2.2.2.1;have q3:=h8.1.2.2.2.2.1;simp;omega
     have q1:=h8.1.2.1;have q2:=h8.1.2.2.2.1;have q3:=h8.1.2.2.2.2.1;grind[Int.toNat,S.Iv,S.Px]
   intro mv;try simp only [df,tn] at mv
   with_reducible and_intros
   iterate 2 omega
   refine⟨(x3+nat_lit 1),?_⟩;grind[S.Pu,S.al,S.len]
 grind[df,S.UW]
theorem an0(l:List (Int×B8))(hp:S.eR l)(hf:Vg.bo J.Qf l):(∃(x1:Nat),((0:Int)=x1/\0=S.iv l x1/\0=S.nW l x1)/\S.nh l x1)/\(∀(x2:Nat),S.nh l x2->q90 (decide ((x2:Int)<List.length l)) 0 x2 (List.length l) (hU (mr (xS l x2).1) (S.small (xS l x2).2) (q97 (Bool.not (S.isTerm (xS l x2).2)) (S.bL l) (q32 (S.iv l x2+1)/\q32 (S.nW l x2+1)/\abK x2 (∃(x3:Nat),((x2:Int)+1=x3/\S.iv l x2+1=S.iv l x3/\S.nW l x2+1=S.nW l x3)/\S.nh l x3/\q46 (S.len l) x3 (S.al (S.len l) x2)))) (fO (decide ((xS l x2).1=1)) (q97 (ru l x2) (S.bL l) (q32 (S.iv l x2-1)/\abK x2 (∃(x4:Nat),((x2:Int)+1=x4/\S.iv l x2-1=S.iv l x4/\S.nW l x2=S.nW l x4)/\S.nh l x4/\q46 (S.len l) x4 (S.al (S.len l) x2)))) (fO (decide ((xS l x2).1=2)) (q97 (ru l x2) (S.bL l) (q32 (S.iv l x2-1)/\abK x2 (∃(x5:Nat),((x2:Int)+1=x5/\S.iv l x2-1=S.iv l x5/\S.nW l x2=S.nW l x5)/\S.nh l x5/\q46 (S.len l) x5 (S.al (S.len l) x2)))) (fO (decide ((xS l x2).1=3)) (q97 (ru l x2) (S.bL l) (q32 (S.iv l x2-1)/\abK x2 (∃(x6:Nat),((x2:Int)+1=x6/\S.iv l x2-1=S.iv l x6/\S.nW l x2=S.nW l x6)/\S.nh l x6/\q46 (S.len l) x6 (S.al (S.len l) x2)))) (false=S.bL l))))) (q38 (decide (S.iv l x2=1)) (decide (S.nW l x2<=16))=S.bL l)):=by
 refine aP ?_;clear hf;have fV:l.length<=1099511627776:=hp.1;have hq:=hp;clear hp;refine⟨?_,?_⟩
 . refine⟨(nat_lit 0:Nat),?_⟩;try dsimp only
   with_reducible and_intros
   iterate 3 rfl
   exact S.aBp hq.1
 intro x1 h2;refine⟨?_,?_⟩
 . intro h3;try simp only [dt] at h3
   with_reducible and_intros
   iterate 2 omega
   . intro h4;try simp only [dt,tn] at h4
     with_reducible and_intros
     exact S.avw hq _
     . intro h5;try simp only [nt] at h5
       exact S.aho h3 h4 h5
     intro h6;try simp only [nf] at h6
     with_reducible and_intros
     iterate 6
      . have q:=S.vg l x1;have q2:S.iv l x1=2*S.nW l x1-x1:=rfl;omega
     refine⟨(x1+nat_lit 1),?_⟩;try dsimp only
     with_reducible and_intros
     . have q:=S.vg l x1;have q2:S.iv l x1=2*S.nW l x1-x1:=rfl;omega
     exact(S.VE (by assumption)).symm;exact(S.Si (by assumption)).symm;exact S.ahn h2 h3 h4 h6;grind [S.al,S.len]
   intro h7;try simp only [df,tn] at h7
   refine⟨?_,?_⟩
   . intro h8;try simp only [dt,tn] at h8
     refine⟨?_,?_⟩
     . intro h9;try simp at h9
       exact S.Fm h3 h7 (.inr (by assumption))
     intro e6;try simp only [V.jz,nf,dt,tn,df] at e6
     with_reducible and_intros
     iterate 4
      . have q:=S.vg l x1;have q2:S.iv l x1=2*S.nW l x1-x1:=rfl;omega
     refine⟨(x1+nat_lit 1),?_⟩;try dsimp only
     with_reducible and_intros
     . have q:=S.vg l x1;have q2:S.iv l x1=2*S.nW l x1-x1:=rfl;omega
     exact(S.JF (by assumption)).symm;exact(S.L8 (by assumption)).symm;exact S.Ma h2 h3 h7 w! (by assumption);grind [S.al,S.len]
   intro iR;refine⟨?_,?_⟩
   . intro jH;try simp only [dt,tn] at jH
     refine⟨?_,?_⟩
     . intro mv;try simp at mv
       exact S.Fm h3 h7 (.inr (by assumption))
     intro rY;try simp only [V.jz,nf,dt,tn,df] at rY
     with_reducible and_intros
     iterate 4
      . have q:=S.vg l x1;have q2:S.iv l x1=2*S.nW l x1-x1:=rfl;omega
     refine⟨(x1+nat_lit 1),?_⟩;try dsimp only
     with_reducible and_intros
     . have q:=S.vg l x1;have q2:S.iv l x1=2*S.nW l x1-x1:=rfl;omega
     exact(S.JF (by assumption)).symm;exact(S.L8 (by assumption)).symm;exact S.Ma h2 h3 h7 w! (by assumption);grind [S.al,S.len]
   intro Hq;refine⟨?_,?_⟩
   . intro DC;try simp only [dt,tn] at DC
     refine⟨?_,?_⟩
     . intro VY;try simp at VY
       exact S.Fm h3 h7 (.inr (by assumption))
     intro h18;try simp only [V.jz,nf,dt,tn,df] at h18
     with_reducible and_intros
     iterate 4
      . have q:=S.vg l x1;have q2:S.iv l x1=2*S.nW l x1-x1:=rfl;omega
     refine⟨(x1+nat_lit 1),?_⟩;try dsimp only
     with_reducible and_intros
     . have q:=S.vg l x1;have q2:S.iv l x1=2*S.nW l x1-x1:=rfl;omega
     exact(S.JF (by assumption)).symm;exact(S.L8 (by assumption)).symm;exact S.Ma h2 h3 h7 w! (by assumption);grind [S.al,S.len]
   grind[df,tn,S.Fm]
 grind[df,S.amx]
theorem an1(l:List (Int×B8))(hp:S.small l)(hf:Vg.bo J.Qf l):(∃(x1:Nat),((0:Int)=x1/\ []=S.bO l x1)/\S.gP l x1)/\(∀(x2:Nat),S.gP l x2->q64 (decide ((x2:Int)<List.length l)) (dQ 0 x2 (List.length l)) (VW (mr (xS l x2).1) (nH (S.bO l x2) [(xS l x2).2]) (abK x2 (∃(x3:Nat),((x2:Int)+1=x3/\S.bO l x2++ [(xS l x2).2]=S.bO l x3)/\S.gP l x3/\q46 (S.len l) x3 (S.al (S.len l) x2))) x2 (∃(x4:Nat),((x2:Int)+1=x4/\S.bO l x2=S.bO l x4)/\S.gP l x4/\q46 (S.len l) x4 (S.al (S.len l) x2))) (S.small (S.bO l x2)) (S.small (S.eD (S.bO l x2))) (S.bR (S.eD (S.bO l x2))=S.aA l)):=by
 refine aP ?_;have fV:l.length<=1099511627776:=hp;refine⟨?_,?_⟩
 . grind[S.al,S.len,S.gP,S.aBq]
 intro x1 h2;refine V.dI (fun h3=> ?_) fun h6=> ?_
 . with_reducible and_intros
   iterate 2 (grind [S.al,S.len,S.gP])
   . intro h4;try simp only [dt,tn] at h4
     with_reducible and_intros
     . (have q:=S.ahq fV h2 [];exact q.1)
     iterate 2 (grind [S.al,S.len,S.gP])
     refine⟨(x1+nat_lit 1),?_⟩;try dsimp only
     with_reducible and_intros
     grind [S.al,S.len,S.gP];exact S.ahp h3 h4;iterate 2 (grind [S.al,S.len,S.gP])
   intro h5;try simp only [df,tn] at h5
   with_reducible and_intros
   iterate 2 (grind [S.al,S.len,S.gP])
   refine⟨(x1+nat_lit 1),?_⟩;try dsimp only
   with_reducible and_intros
   grind [S.al,S.len,S.gP];exact S.ahl h3 h5;iterate 2 (grind [S.al,S.len,S.gP])
 with_reducible and_intros
 . (have q:=S.ahq fV h2 [];exact q.2.1)
 . (have q:=S.ahq fV h2 [];exact q.2.2.1)
 grind[S.amy]
theorem an2(b:B8)(hp:S.small b)(hf:Vg.bo J.fv b):S.small b/\fO (mr (List.length (S.bK b))) ([]=S.hdT (S.bK b)) (((0:Int)<=0/\(0:Int)<List.length (S.bK b))/\Int.toNat 0<List.length (S.bK b)/\Dp (S.bK b) 0=S.hdT (S.bK b)):=by
 refine aP ?_;with_reducible and_intros
 omega
 . intro h1;simp only [dt] at h1;rw [show S.bK b= [] from i?.1 w!];rfl
 intro h2;simp only [df] at h2;with_reducible and_intros
 iterate 3 omega
 rfl
theorem an3(st:Int)(bb:B8)(at_:Int)(hp:st=0/\bb=S.xK/\at_=3)(hf:Vg.dL J.atx ())(hg:Vg.bT.ok J.aty (st,((),(bb,(at_,()))))):q64 (decide (0<=st)) (0<=st/\st<=at_/\at_<=q26 bb) (S.small (adp st at_ bb)/\List.length ([(-1,st,S.hdT (S.bK (adp st at_ bb)))]:List (Int×Int×B8))<=4398046511104/\-(1:Int)=-1/\bb=bb/\at_=at_/\ [(-1,st,S.hdT (S.bK (adp st at_ bb)))]=S.kE1) (st=-1) (bb=bb) (at_=at_/\ []=S.kE1):=by
 refine aP ?_;obtain⟨q1,q2,q3⟩:=hp;subst q1;subst q2;subst q3;refine⟨?_,?_⟩
 . intro h1;with_reducible and_intros
   iterate 2 omega
   decide;exact(show(List.drop 0 (List.take 3 S.xK)).length<=1099511627776 by decide);decide;iterate 4 rfl
 grind
theorem an4(b:B8)(hp:b=S.xK)(hf:Vg.bo J.fv b):S.small b/\(∃(x1:Nat),((0:Int)=(x1:Int)/\b=b/\(0:Int)=(x1:Int)/\-(1:Int)=S.rW x1)/\S.fe x1 (3:Nat))/\(∀(x2:Nat),S.fe x2 (3:Nat)->q64 (decide ((x2:Int)<(List.length (S.decode b):Int))) (dQ (0:Int) (x2:Int) (List.length (S.decode b):Int)) (Int.toNat (x2:Int)<List.length (S.decode b)/\abS (acd (S.letter (qn b x2))) (eP (gD (S.letter (qn b x2)) (S.digit (qn b x2))) True (q32 ((x2:Int)+q26 (S.gN (qn b x2)))/\abK (x2:Int) (∃(x3:Nat),((x2:Int)+(1:Int)=(x3:Int)/\b=b/\(x2:Int)+q26 (S.gN (qn b x2))=(x3:Int)/\(bif decide (S.rW x2<(0:Int)) then(x2:Int) else S.rW x2)=S.rW x3)/\S.fe x3 (3:Nat)/\q46 (3:Nat) x3 (S.al (3:Nat) x2))) (S.rW x2=(0:Int)/\b=S.xK/\(x2:Int)=(3:Int)) (hU (decide (qn b x2=(32:Int))) (q32 ((x2:Int)+(1:Int))) (abK (x2:Int) (∃(x4:Nat),((x2:Int)+(1:Int)=(x4:Int)/\b=b/\False/\(x2:Int)+(1:Int)=(x4:Int)/\-(1:Int)=S.rW x4)/\S.fe x4 (3:Nat)/\q46 (3:Nat) x4 (S.al (3:Nat) x2))) (eP (bif decide (qn b x2=(40:Int)) then decide (qn b x2=(40:Int)) else bif decide (qn b x2=(41:Int)) then decide (qn b x2=(41:Int)) else bif decide (qn b x2=(124:Int)) then decide (qn b x2=(124:Int)) else bif decide (qn b x2=(38:Int)) then decide (qn b x2=(38:Int)) else decide (qn b x2=(33:Int))) (avW [(qn b x2,(x2:Int),([]:B8))]) (abK (x2:Int) (abK (x2:Int) (∃(x5:Nat),((x2:Int)+(1:Int)=(x5:Int)/\b=b/\False/\(x2:Int)+(1:Int)=(x5:Int)/\-(1:Int)=S.rW x5)/\S.fe x5 (3:Nat)/\q46 (3:Nat) x5 (S.al (3:Nat) x2)))) (avW [(-(3:Int),(x2:Int),([]:B8))]) (S.kE1++ [(-(3:Int),(x2:Int),([]:B8))]=S.kE))))) (S.rW x2=(0:Int)/\b=S.xK/\(x2:Int)=(3:Int)) (avW [(-(2:Int),q26 b,([]:B8))]) (S.kE1++ [(-(2:Int),q26 b,([]:B8))]=S.kE)):=by
 refine aP ?_;subst hp;with_reducible and_intros
 exact(show S.xK.length<=1099511627776 by decide)
 . refine⟨(nat_lit 0:Nat),?_⟩;with_reducible and_intros
   decide;rfl;iterate 2 decide
   exact T! _
 intro x1 h2;refine V.dI (fun h3=> ?_) fun jH=> ?_
 . with_reducible and_intros
   iterate 3 omega
   trivial
   . intro h4;trivial
   . intro h5;trivial
   . intro h6;with_reducible and_intros
     trivial;omega
     . rcases S.wz h3 with rfl|rfl|rfl<;>first|exact absurd h7.1 (by decide)|decide
     omega
     . rcases S.wz h3 with rfl|rfl|rfl<;>first|exact absurd h7.1 (by decide)|decide
     refine⟨(x1+nat_lit 1),?_⟩;try dsimp only
     with_reducible and_intros
     omega;rfl
     iterate 2
      . rcases S.wz h3 with rfl|rfl|rfl<;>first|exact absurd h7.1 (by decide)|decide
     . unfold S.fe;have :x1<3:=by have :=S.wz h3;omega
       omega
     rcases S.wz h3 with rfl|rfl|rfl<;>first|exact absurd h7.1 (by decide)|decide
   intro h7;try simp only [V.jz] at h7
   with_reducible and_intros
   . rcases S.wz h3 with rfl|rfl|rfl<;>first|exact absurd h7.1 (by decide)|decide
   with_reducible rfl
   . rcases S.wz h3 with rfl|rfl|rfl<;>first|exact absurd h7.1 (by decide)|decide
   . intro h8;with_reducible and_intros
     omega
     . rcases S.wz h3 with rfl|rfl|rfl<;>first|exact absurd h7.1 (by decide)|decide
     omega
     . rcases S.wz h3 with rfl|rfl|rfl<;>first|exact absurd h7.1 (by decide)|decide
     refine⟨(x1+nat_lit 1),?_⟩;try dsimp only
     with_reducible and_intros
     omega;rfl
     . rcases S.wz h3 with rfl|rfl|rfl<;>first|exact absurd h7.1 (by decide)|decide
     omega
     iterate 2
      . rcases S.wz h3 with rfl|rfl|rfl<;>first|exact absurd h7.1 (by decide)|decide
     rcases S.wz h3 with rfl|rfl|rfl<;>first|exact absurd h7.1 (by decide)|decide
   intro h9;refine⟨?_,?_⟩
   . intro e6;with_reducible and_intros
     . rcases S.wz h3 with rfl|rfl|rfl<;>first|exact absurd h7.1 (by decide)|decide
     omega
     . rcases S.wz h3 with rfl|rfl|rfl<;>first|exact absurd h7.1 (by decide)|decide
     omega
     . rcases S.wz h3 with rfl|rfl|rfl<;>first|exact absurd h7.1 (by decide)|decide
     refine⟨(x1+nat_lit 1),?_⟩;try dsimp only
     with_reducible and_intros
     omega;rfl
     . rcases S.wz h3 with rfl|rfl|rfl<;>first|exact absurd h7.1 (by decide)|decide
     omega
     iterate 2
      . rcases S.wz h3 with rfl|rfl|rfl<;>first|exact absurd h7.1 (by decide)|decide
     rcases S.wz h3 with rfl|rfl|rfl<;>first|exact absurd h7.1 (by decide)|decide
   intro iR;refine⟨?_,?_⟩
   . rcases S.wz h3 with rfl|rfl|rfl<;>first|exact absurd h7.1 (by decide)|decide
   rcases S.wz h3 with rfl|rfl|rfl<;>first|exact absurd h7.1 (by decide)|decide
 with_reducible and_intros
 . (have hx:=S.ge3 h2 jH;subst hx;decide)
 rfl
 . (have hx:=S.ge3 h2 jH;subst hx;decide)
 iterate 2 decide
theorem an5(e:List (Int×Int×B8))(n w:Int)(hp:0<=n/\n<e.length)(hf:Vg.dL J.lr ())(hg:Vg.bT.ok J.FC ((e,n,w),())):dQ 0 n (List.length e)/\(List.getD e (Int.toNat n) (0,0,[])).1=(S.tI e n).1/\(List.getD e (Int.toNat n) (0,0,[])).2.1=(S.tI e n).2.1/\(List.getD e (Int.toNat n) (0,0,[])).2.2=(S.tI e n).2.2/\e=e/\n=n/\w=w:=by
 refine aP ?_;with_reducible and_intros
 iterate 2 omega
 iterate 6 rfl
theorem an6(e:List (Int×Int×B8))(n w:Int)(l:List (Int×B8))(hp:0<=n/\n<e.length)(hf:Vg.dL J.lr ())(hg:Vg.bT.ok [.cells [.c9 (.slice [.int .i64, .int .i64, .str]), .c9 (.int .i64), .c9 (.int .i64), .own 50001], .row 127 [.int .i64, .str]] ((e,n,w),(l,()))):dQ 0 n (List.length e)/\(List.getD e (Int.toNat n) (0,0,[])).1=(S.tI e n).1/\(List.getD e (Int.toNat n) (0,0,[])).2.1=(S.tI e n).2.1/\(List.getD e (Int.toNat n) (0,0,[])).2.2=(S.tI e n).2.2/\e=e/\n=n/\w=w/\l=l:=by
 refine aP ?_;with_reducible and_intros
 iterate 2 omega
 iterate 7 rfl
theorem an7(d:Int)(e:List (Int×Int×B8))(n w:Int)(hp:e=S.kE/\n=0/\w=0)(hf:Vg.dL J.yi d)(hg:Vg.bT.ok J.FC ((e,n,w),())):dQ (0:Int) n (List.length e:Int)/\fO (decide ((S.tI e n).1=-(1:Int))) (VW (decide ((16:Int)<=w)) ((8:Int)=(0:Int)) (e=e/\n=(1:Int)/\w=(1:Int)/\ank) w (abK n (MH (List.length [((0:Int),(S.tI e n).2.2)])/\(0:Int)=(0:Int)/\e=e/\n+(1:Int)=(1:Int)/\w+(1:Int)=(1:Int)/\ [((0:Int),(S.tI e n).2.2)]=S.eO))) (fO (decide ((S.tI e n).1=(40:Int))) (VW (decide ((8:Int)<=d)) ((8:Int)=(0:Int)) (e=e/\n=(1:Int)/\w=(1:Int)/\ank) n False) (hU (decide ((S.tI e n).1=(33:Int))) ((9:Int)=(0:Int)) (e=e/\n=(1:Int)/\w=(1:Int)/\ank) ((2:Int)=(0:Int)/\e=e/\n=(1:Int)/\w=(1:Int)/\ank))):=by
 refine aP ?_;obtain⟨q1,q2,q3⟩:=hp;subst q1;subst q2;refine⟨⟨?_,?_⟩,⟨?_,?_⟩⟩
 . omega
 . decide
 . intro h1;refine⟨?_,?_⟩
   . grind
   intro h3;with_reducible and_intros
   iterate 4 omega
   decide;iterate 2 rfl
   iterate 2 omega
   decide
 intro h4;simp at h4;refine V.dI (fun h5=> ?_) fun h8=> ?_
 . refine V.dI (fun h6=> ?_) fun h7=> ?_
   . with_reducible and_intros
     exact absurd rfl h4;rfl;iterate 3 exact absurd rfl h4
   with_reducible and_intros
   iterate 2 omega
   exact absurd rfl h4
 refine V.dI (fun h9=> ?_) fun e6=> ?_
 . with_reducible and_intros
   exact absurd rfl h4;rfl;iterate 3 exact absurd rfl h4
 with_reducible and_intros
 exact absurd rfl h4;rfl;iterate 3 exact absurd rfl h4
theorem an8(d:Int)(e:List (Int×Int×B8))(n w:Int)(hp:e=S.kE/\n=0/\w=0)(hf:Vg.dL J.yi d)(hg:Vg.bT.ok J.FC ((e,n,w),())):(e=S.kE/\n=0/\w=0)/\eP (ak5 0) ((0:Int)=0) (e=e/\(1:Int)=1/\anl 1) (∃(x1:Nat),(e=e/\(1:Int)=1/\anl 1)/\x1=0) (∀(x2:Nat),x2=0->dQ 0 1 (List.length e)/\hU (decide ((S.tI e 1).1=38)) (q32 (1+1)) False (q64 (decide ((S.tI e 1).1=33)) (q32 (1+1)) False ai5 (e=e) ((1:Int)=1/\anl 1))):=by
 refine aP ?_;obtain⟨q1,q2,q3⟩:=hp;subst q1;subst q2;subst q3;with_reducible and_intros
 iterate 3 rfl
 grind;intro h2;refine⟨?_,?_⟩
 . grind
 intro x3 h4;with_reducible and_intros
 omega;decide
 . intro h5;with_reducible and_intros
   iterate 2 omega
   exact absurd h5 (by decide)
 intro h6;refine⟨?_,?_⟩
 . intro h7;with_reducible and_intros
   iterate 2 omega
   exact absurd h7 (by decide)
 grind
theorem an9(d:Int)(e:List (Int×Int×B8))(n w:Int)(hp:e=S.kE/\n=0/\w=0)(hf:Vg.dL J.yi d)(hg:Vg.bT.ok J.FC ((e,n,w),())):(e=S.kE/\n=0/\w=0)/\eP (ak5 0) ((0:Int)=0) (e=e/\(1:Int)=1/\anl 1) (∃(x1:Nat),(e=e/\(1:Int)=1/\anl 1)/\x1=0) (∀(x2:Nat),x2=0->dQ 0 1 (List.length e)/\q64 (decide ((S.tI e 1).1=124)) (q32 (1+1)) False ai5 (e=e) ((1:Int)=1/\anl 1)):=by
 refine aP ?_;obtain⟨q1,q2,q3⟩:=hp;subst q1;subst q2;subst q3;with_reducible and_intros
 iterate 3 rfl
 grind;intro h2;refine⟨?_,?_⟩
 . grind
 intro x3 h4;with_reducible and_intros
 omega;decide
 . intro h5;with_reducible and_intros
   iterate 2 omega
   exact absurd h5 (by decide)
 grind
theorem aoa(b:B8)(hp:b=S.xK)(hf:Vg.bo J.fv b):q64 (akD 2000 b) ank ((0:Int)=0/\(8:Int)=0) (b=S.xK) (S.kE=S.kE/\(0:Int)=0/\ai5) (hU (mr 0) ((0:Int)<=1) ((1:Int)<List.length S.kE) True/\eP (abF (aB8 0 1 2)) (dQ 0 (bif mr 0 then 1 else 1) (List.length (bif mr 0 then S.kE else S.kE))) (ank/\(S.tI (bif mr 0 then S.kE else S.kE) (bif mr 0 then 1 else 1)).2.1=0/\aB8 0 1 2=0) ((bif mr 0 then S.eO else S.eO)=S.eO) ((0:Int)=0/\ai5)):=by
 refine aP ?_;subst hp;refine V.dI (fun h1=> ?_) fun h2=> ?_
 . with_reducible and_intros
   exact absurd h1 (by decide);rfl;exact absurd h1 (by decide)
 with_reducible and_intros
 iterate 4 rfl
 . intro h3;refine⟨?_,?_⟩
   . omega
   decide
 grind
 . intro h5;simp at h5;with_reducible and_intros
   iterate 2 decide
   iterate 2 (exact absurd (by decide) h5)
   decide
 grind
theorem aob(l:List (Int×B8))(hp:True)(hf:Vg.bo J.Qf l):(∃(x1:Nat),(0:Int)=x1/\S.Dc l x1)/\(∀(x2:Nat),S.Dc l x2->q90 (decide ((x2:Int)<List.length l)) 0 x2 (List.length l) (fO (akD 200 (xS l x2).2) (true=S.nO l) (abK x2 (∃(x3:Nat),ae9 x2 x3 (S.Dc l x3) (S.len l)))) (decide ((60:Int)<List.length l)=S.nO l)):=by
 refine aP ?_;have nI:Vg.hlen l:=hf.1.1;refine⟨?_,?_⟩
 . refine⟨(nat_lit 0:Nat),?_⟩;dsimp only;refine⟨?_,?_⟩
   . omega
   exact⟨T! _,z!⟩
 intro x1 h2;refine⟨?_,?_⟩
 . intro h3;simp only [dt] at h3;with_reducible and_intros
   iterate 2 omega
   . intro h4;simp at h4;exact S.amu h3 (by assumption)
   intro h5;simp only [df,tn] at h5;with_reducible and_intros
   iterate 2 omega
   refine⟨(x1+nat_lit 1),?_⟩;dsimp only;with_reducible and_intros
   omega;exact S.ahj h2 h3 (by assumption);grind [S.al,S.len]
 grind[df,S.amv]
theorem aoc(v:Int)(d:Bool)(l:B8)(hp:l.length<=35184372088832)(hf:Vg.dL J.yi v)(hg:Vg.bT.ok J.tq (d,(l,()))):q63 q70/\aeR l (S.lh q70 v)/\gD (abF (S.v7 v)) d=S.qi d (S.lp v)/\l++S.lh q70 v=ab8 l (S.lp v):=by
 refine aP ?_;with_reducible and_intros
 grind;grind[S.amD];grind[S.aBv];rw [S.aBu v];rfl
theorem aod(b:B8)(m:Int)(d:Bool)(l:B8)(hp:l.length<=35184372088832/\b.length<=1099511627776)(hf:Vg.dL J.atA (b,m))(hg:Vg.bT.ok J.tq (d,(l,()))):q64 (akD m b) (true=S.qi d (S.gk b m)) (l=ab8 l (S.gk b m)) (S.nB q70 b) (aeR l ([]++S.text b)) (d=S.qi d (S.gk b m)/\l++([]++S.text b)=ab8 l (S.gk b m)):=by
 refine aP ?_;refine V.dI (fun h1=> ?_) fun h2=> ?_
 . refine⟨?_,?_⟩
   . rw [S.ē h1];exact(Bool.or_true d).symm
   rw [S.ē h1];exact(F? l).symm
 with_reducible and_intros
 exact⟨T! _,w!⟩
 . have :=S.aht b;simp;omega
 . rw [S.ahy h2];exact(Bool.or_false d).symm
 rw [S.ahy h2];rfl
theorem aoe(y1:Int)(y2:B8)(y3:List (Int×Int×Int×B8))(d:Bool)(l:B8)(hp:l.length<=35184372088832)(hf:Vg.dL J.atB (y1,y2,y3))(hg:Vg.bT.ok J.tq (d,(l,()))):fw (q64 (abF (S.hW y1 y2 y3).2) (true=S.qi d (S.pg y1 y2 y3)) (l=ab8 l (S.pg y1 y2 y3)) (q63 l/\at6 (S.hW y1 y2 y3).1) (S.qi d (S.gk (S.hW y1 y2 y3).1 10000)=S.qi d (S.pg y1 y2 y3)) (ab8 l (S.gk (S.hW y1 y2 y3).1 10000)=ab8 l (S.pg y1 y2 y3))):=by
 refine aP ?_;with_reducible and_intros
 trivial
 . intro h1;simp at h1;refine⟨?_,?_⟩
   . rw [S.ahz h1];exact(Bool.or_true d).symm
   rw [S.ahz h1];exact(F? l).symm
 grind[S.amE]
theorem aof(p:List B8)(d:Bool)(l:B8)(hp:l.length<=17592186044416)(hf:Vg.dL J.atC p)(hg:Vg.bT.ok J.tq (d,(l,()))):q64 (decide (64<wD p)) (true=S.qi d (S.jB p)) (l=ab8 l (S.jB p)) (q63 l) (∃(x1:Nat),((0:Int)=x1/\S.qi d (S.lp (wD p))=d/\ab8 l (S.lp (wD p))=l++S.gl p x1)/\S.ly p x1) (∀(x2:Nat),S.ly p x2->eP (decide (x2<wD p)) (dQ 0 x2 (wD p)) (eP (py (List.length (Dp p x2)) 32) (true=S.qi d (S.jB p)) (l++S.gl p x2=ab8 l (S.jB p)) (wC (List.length (l++S.gl p x2)+List.length (Dp p x2))) (abK x2 (∃(x3:Nat),((x2:Int)+1=x3/\d=d/\l++S.gl p x2++Dp p x2=l++S.gl p x3)/\S.ly p x3/\q53 (S.len p) x3 x2))) (d=S.qi d (S.jB p)) (l++S.gl p x2=ab8 l (S.jB p))):=by
 refine aP ?_;refine V.dI (fun h1=> ?_) fun h2=> ?_
 . refine⟨?_,?_⟩
   . rw [S.ahu h1];exact(Bool.or_true d).symm
   rw [S.ahu h1];exact(F? l).symm
 with_reducible and_intros
 omega
 . refine⟨(nat_lit 0:Nat),?_⟩;dsimp only;with_reducible and_intros
   omega
   . rw [S.Sk w!];exact Bool.or_false d
   grind[S.Sk,S.gl,S.bytesOf];exact S.aBs h2
 intro x3 h4;refine V.dI (fun h5=> ?_) fun h8=> ?_
 . with_reducible and_intros
   iterate 2 omega
   . intro h6;simp at h6;refine⟨?_,?_⟩
     . rw [S.č h4 h5 h6];exact(Bool.or_true d).symm
     rw [S.č h4 h5 h6];rfl
   intro h7;simp only [nf,dt,tn] at h7;with_reducible and_intros
   . have q:=S.amB h4;rw [K!,tn];omega
   iterate 2 omega
   refine⟨(x3+nat_lit 1),?_⟩;dsimp only;with_reducible and_intros
   omega;rfl;rw [tn,Y!,(S.VL h4 h5 h7).2];exact(S.VL h4 h5 h7).1;simp [S.al,S.len];omega
 refine⟨?_,?_⟩
 . rw [S.Ď h4 h8];exact(Bool.or_false d).symm
 rw [S.Ď h4 h8];rfl
theorem aog(p1:Int)(p2 p3 p4:B8)(p5:List B8)(p6:B8)(d:Bool)(l:B8)(hp:l.length<=8796093022208/\p6.length<=1099511627776)(hf:Vg.dL J.atD (p1,p2,p3,p4,p5,p6))(hg:Vg.bT.ok J.tq (d,(l,()))):q63 l/\fw (q64 (abF (S.rb p2 p3 p4)) (true=S.qi d (S.jP (p1,p2,p3,p4,p5,p6))) (ab8 l (S.lp p1)=ab8 l (S.jP (p1,p2,p3,p4,p5,p6))) (q63 (ab8 l (S.lp p1))/\at6 (S.ke p2 p3 p4)) (List.length (ab8 (ab8 l (S.lp p1)) (S.gk (S.ke p2 p3 p4) 200))<=17592186044416) ((q63 (ab8 (ab8 (ab8 l (S.lp p1)) (S.gk (S.ke p2 p3 p4) 200)) (S.jB p5))/\at6 p6)/\S.qi (S.qi (S.qi (S.qi d (S.lp p1)) (S.gk (S.ke p2 p3 p4) 200)) (S.jB p5)) (S.gk p6 4000)=S.qi d (S.jP (p1,p2,p3,p4,p5,p6))/\ab8 (ab8 (ab8 (ab8 l (S.lp p1)) (S.gk (S.ke p2 p3 p4) 200)) (S.jB p5)) (S.gk p6 4000)=ab8 l (S.jP (p1,p2,p3,p4,p5,p6)))):=by
 refine aP ?_;have a1:=S.VJ p1;have a2:=S.Bi (S.ke p2 p3 p4) (m:=200) (by decide);have a3:=S.Mc p5;have a4:=S.amF p2 p3 p4;with_reducible and_intros
 omega;trivial
 . intro h1;simp at h1;refine⟨?_,?_⟩
   . rw [S.Ĕ h1];exact(Bool.or_true d).symm
   rw [S.Ĕ h1];rfl
 grind[S.bytesOf,List.length_append,S.ahA,S.qi,S.cat,Bool.or_assoc,List.append_assoc]
theorem aoh(d:Bool)(l:B8)(hp:True)(hf:Vg.dL J.lr ())(hg:Vg.bT.ok J.tq (d,(l,()))):hU d ([]=S.Fo (l,d)) (1=S.Fp (l,d)) (eP (akD 1048576 l) ([]=S.Fo (l,d)) (3=S.Fp (l,d)) (l=S.Fo (l,d)) (0=S.Fp (l,d))):=by
 refine aP ?_;simp_all[dt,S.Fo,Q!,R!,S.Fp,df]
theorem aoi(a1:Int)(a2:B8)(a3:List (Int×Int×Int×B8))(a4:List (List (Int×B8×B8×B8×List B8×B8)))(hp:S.ti a4)(hf:Vg.bo J.aiE (a1,a2,a3,a4)):q63 [1]/\eP (py (List.length a4) (List.length a3)) ([]=(S.nG a1 a2 a3 a4).1) (1=(S.nG a1 a2 a3 a4).2) (∃(x1:Nat),anm 0 x1 false (S.pg a1 a2 a3) (S.eS a1 a2 a3 a4 x1) [1]/\S.mo a3 a4 x1) (∀(x2:Nat),S.mo a3 a4 x2->q64 (decide ((x2:Int)<List.length a4)) (dQ 0 x2 (List.length a4)) (q64 (decide ((16:Int)<List.length (List.getD a4 (Int.toNat x2) []))) ([]=(S.nG a1 a2 a3 a4).1) (1=(S.nG a1 a2 a3 a4).2) (q63 (S.bytesOf (S.eS a1 a2 a3 a4 x2))) (∃(x3:Nat×Nat),anm 0 x3.1 (S.lS (S.eS a1 a2 a3 a4 x2)) (S.lp (List.length (List.getD a4 (Int.toNat x2) []))) (S.fq a1 a2 a3 a4 x3.2 x3.1) (S.bytesOf (S.eS a1 a2 a3 a4 x2))/\S.kn a3 a4 x3.2 x3.1/\(x2:Int)=x3.2) (∀(x4:Nat×Nat),S.kn a3 a4 x4.2 x4.1/\(x2:Int)=x4.2->VW (decide ((x4.1:Int)<List.length (List.getD a4 (Int.toNat x2) []))) (dQ 0 x4.1 (List.length (List.getD a4 (Int.toNat x2) []))) ((List.length (S.bytesOf (S.fq a1 a2 a3 a4 x4.2 x4.1))<=8796093022208/\at6 (YE a4 x2 x4).2.2.2.2.2)/\q32 (x4.1+1)/\(∃(x5:Nat×Nat),anm (x4.1+1) x5.1 (S.lS (S.fq a1 a2 a3 a4 x4.2 x4.1)) (S.jP ((YE a4 x2 x4).1,(YE a4 x2 x4).2.1,(YE a4 x2 x4).2.2.1,(YE a4 x2 x4).2.2.2.1,(YE a4 x2 x4).2.2.2.2.1,(YE a4 x2 x4).2.2.2.2.2)) (S.fq a1 a2 a3 a4 x5.2 x5.1) (S.bytesOf (S.fq a1 a2 a3 a4 x4.2 x4.1))/\(S.kn a3 a4 x5.2 x5.1/\(x2:Int)=x5.2)/\q46 (S.len (S.iO a4 x5.2)) x5.1 (S.al (S.len (S.iO a4 x4.2)) x4.1))) x2 (∃(x6:Nat),((x2:Int)+1=x6/\S.lS (S.fq a1 a2 a3 a4 x4.2 x4.1)=S.lS (S.eS a1 a2 a3 a4 x6)/\S.bytesOf (S.fq a1 a2 a3 a4 x4.2 x4.1)=S.bytesOf (S.eS a1 a2 a3 a4 x6))/\S.mo a3 a4 x6/\q53 (S.len a4) x6 x2))) True (S.Fo (S.bytesOf (S.eS a1 a2 a3 a4 x2),S.lS (S.eS a1 a2 a3 a4 x2))=(S.nG a1 a2 a3 a4).1) (S.Fp (S.bytesOf (S.eS a1 a2 a3 a4 x2),S.lS (S.eS a1 a2 a3 a4 x2))=(S.nG a1 a2 a3 a4).2)):=by
 refine aP ?_;have axY:Vg.hlen a3:=hf.2.2.1.1;with_reducible and_intros
 decide;grind[nt,df,S.avy];intro h2;simp at h2;refine⟨?_,?_⟩
 . refine⟨(nat_lit 0:Nat),?_⟩;dsimp only;with_reducible and_intros
   omega;iterate 2 rfl
   grind[S.aBt]
 intro x3 h4;refine V.dI (fun h5=> ?_) fun jH=> ?_
 . with_reducible and_intros
   iterate 2 omega
   . intro h6;try simp at h6
     refine⟨?_,?_⟩
     . rw [S.Đ h5 h6]
     rw [S.Đ h5 h6]
   intro h7;try simp only [df,tn] at h7
   with_reducible and_intros
   exact h? (S.Ē (n:=a1) (g:=a2) h4) (by decide)
   . refine⟨((nat_lit 0:Nat),(x3)),?_⟩;try dsimp only
     with_reducible and_intros
     omega
     iterate 2
      . rw [tn,S.Sk w!];rfl
     exact S.avx h4 h5 h7;with_reducible rfl
   intro x8 h9;refine⟨?_,?_⟩
   . intro e6;try simp only [dt,tn] at e6
     with_reducible and_intros
     omega;assumption;exact h? (S.ahx (n:=a1) (g:=a2) h9.1) (by decide)
     . obtain⟨q,e⟩:=h9;have e':x8.2=x3:=by omega
       rw [e'] at q;exact S.ahw q e6
     iterate 2 omega
     refine⟨((Prod.fst x8+nat_lit 1),(x3)),?_⟩;try dsimp only
     with_reducible and_intros
     omega
     . obtain⟨q,e⟩:=h9;have e':x8.2=x3:=by omega
       rw [e',tn,tn];exact(S.as3 _ rfl _ _ rfl rfl).1
     . obtain⟨q,e⟩:=h9;have e':x8.2=x3:=by omega
       rw [e',tn,tn];exact(S.as3 _ rfl _ _ rfl rfl).2
     . obtain⟨q,e⟩:=h9;have e':x8.2=x3:=by omega
       rw [e'] at q;exact S.ahv q e6
     with_reducible rfl
     obtain⟨q,e⟩:=h9;have e':x8.2=x3:=by omega
     rw [e'];have hh:(x8.1:Int)<((S.iO a4 x3).length:Int):=e6;simp only [S.al,S.len];omega
   intro iR;try simp only [df,tn] at iR
   with_reducible and_intros
   iterate 2 omega
   refine⟨(x3+nat_lit 1),?_⟩;try dsimp only
   with_reducible and_intros
   omega
   iterate 2
    . obtain⟨q,e⟩:=h9;have e':x8.2=x3:=by omega
      rw [e'] at q |-;rw [(S.ď (n:=a1) (g:=a2) q iR).2]
   . obtain⟨q,e⟩:=h9;have e':x8.2=x3:=by omega
     rw [e'] at q;exact(S.ď (n:=a1) (g:=a2) q iR).1
   simp only [S.al,S.len];omega
 with_reducible and_intros
 trivial
 . rw [S.đ h4 jH];rfl
 rw [S.đ h4 jH];rfl
theorem aoj(b:B8)(c:UInt8)(hp:S.eZ b c=0)(hf:Vg.dL J.yj (b,c))(hg:Vg.bT.ok J.ql ()):hU (decide (1048576<q26 b)) False ((3:Int)=0/\False) (q98 (mr (q26 b)) False ((4:Int)=0/\False) ((0:Int)<=0/\0<q26 b) (py (VV b 0 0) (q73 c)) ((2:Int)=0/\False) (0=0) ai5 (b=b/\(1:Int)=1/\ai5)):=by
 refine aP ?_;refine⟨?_,?_⟩
 . intro h1;simp_all[dt,S.ĕ]
 intro h2;refine⟨?_,?_⟩
 . intro h3;simp_all[dt,S.Ė]
 grind[df,nt,S.ahB]
theorem aok(b:B8)(c:UInt8)(hp:¬S.eZ b c=0)(hf:Vg.dL J.yj (b,c))(hg:Vg.bT.ok J.ql ()):fO (decide (1048576<q26 b)) (3=S.eZ b c) (fO (mr (q26 b)) (4=S.eZ b c) (((0:Int)<=0/\0<q26 b)/\fO (py (VV b 0 0) (q73 c)) (2=S.eZ b c) (False/\0=S.eZ b c))):=by
 refine aP ?_;refine⟨?_,?_⟩
 . simp_all[dt,S.ĕ]
 intro h2;refine⟨?_,?_⟩
 . simp_all[dt,S.Ė]
 intro h4;simp only [df] at h4;with_reducible and_intros
 iterate 2 omega
 grind[nt,df,S.ahB];intro h6;simp_all[nf,dt,S.avA]
theorem aol(r1:B8)(r2 r3:Int)(hp:r1.length<=140737488355328)(hf:Vg.dL J.lr ())(hg:Vg.bT.ok J.yy ((r1,r2,r3),())):q36 r1/\(S.af r1 r2 r3).2=(S.af r1 r2 r3).2/\(S.af r1 r2 r3).1.1=r1/\(S.af r1 r2 r3).1.2.1=(S.af r1 r2 r3).1.2.1/\(S.af r1 r2 r3).1.2.2=(S.af r1 r2 r3).1.2.2:=by
 refine aP ?_;grind[S.JB]
theorem aom(m:Int)(r1:B8)(r2 r3:Int)(hp:r1.length<=140737488355328)(hf:Vg.dL J.yi m)(hg:Vg.bT.ok J.yy ((r1,r2,r3),())):q36 r1/\(S.ai r1 r2 r3 m).2=(S.ai r1 r2 r3 m).2/\(S.ai r1 r2 r3 m).1.1=r1/\(S.ai r1 r2 r3 m).1.2.1=(S.ai r1 r2 r3 m).1.2.1/\(S.ai r1 r2 r3 m).1.2.2=(S.ai r1 r2 r3 m).1.2.2:=by
 refine aP ?_;grind[S.zU]
theorem aon(m:Int)(r1:B8)(r2 r3:Int)(hp:r1.length<=140737488355328)(hf:Vg.dL J.yi m)(hg:Vg.bT.ok J.yy ((r1,r2,r3),())):q36 r1/\q64 (decide (m<(S.af r1 r2 r3).2)) (0=(S.dP r1 r2 r3 m).2) (r1=r1/\(S.af r1 r2 r3).1.2.1=(S.dP r1 r2 r3 m).1.1/\2=(S.dP r1 r2 r3 m).1.2) ((S.af r1 r2 r3).2=(S.dP r1 r2 r3 m).2) (r1=r1) ((S.af r1 r2 r3).1.2.1=(S.dP r1 r2 r3 m).1.1/\(S.af r1 r2 r3).1.2.2=(S.dP r1 r2 r3 m).1.2):=by
 refine aP ?_;simp_all[dt,S.amH,df,S.avB]
theorem aoo(r1:B8)(r2 r3:Int)(hp:r1.length<=140737488355328)(hf:Vg.dL J.lr ())(hg:Vg.bT.ok J.yy ((r1,r2,r3),())):q36 r1/\eP (abF (S.ai r1 r2 r3 10000).1.2.2) (0=(S.cC r1 r2 r3).2.1) ([]=(S.cC r1 r2 r3).2.2.1/\ []=(S.cC r1 r2 r3).2.2.2/\r1=r1/\(S.ai r1 r2 r3 10000).1.2.1=(S.cC r1 r2 r3).1.1/\(S.ai r1 r2 r3 10000).1.2.2=(S.cC r1 r2 r3).1.2) (q36 (S.ai r1 r2 r3 10000).2) ((S.hR (S.ai r1 r2 r3 10000).2).1.1=(S.cC r1 r2 r3).2.1/\(S.hR (S.ai r1 r2 r3 10000).2).1.2.1=(S.cC r1 r2 r3).2.2.1/\(S.hR (S.ai r1 r2 r3 10000).2).1.2.2=(S.cC r1 r2 r3).2.2.2/\r1=r1/\(S.ai r1 r2 r3 10000).1.2.1=(S.cC r1 r2 r3).1.1/\(S.hR (S.ai r1 r2 r3 10000).2).2=(S.cC r1 r2 r3).1.2):=by
 refine aP ?_;with_reducible and_intros
 omega;grind[nt,df,S.avC];grind[S.JG,S.amI]
theorem aop(r1:B8)(r2 r3:Int)(hp:r1.length<=140737488355328)(hf:Vg.dL J.lr ())(hg:Vg.bT.ok J.yy ((r1,r2,r3),())):q36 r1/\q64 (abF (S.ai r1 r2 r3 200).1.2.2) ([]=(S.jC r1 r2 r3).2.1) ([]=(S.jC r1 r2 r3).2.2.1/\ []=(S.jC r1 r2 r3).2.2.2/\r1=r1/\(S.ai r1 r2 r3 200).1.2.1=(S.jC r1 r2 r3).1.1/\(S.ai r1 r2 r3 200).1.2.2=(S.jC r1 r2 r3).1.2) (q36 (S.ai r1 r2 r3 200).2) ((S.bf (S.ai r1 r2 r3 200).2).1.1=(S.jC r1 r2 r3).2.1) ((S.bf (S.ai r1 r2 r3 200).2).1.2.1=(S.jC r1 r2 r3).2.2.1/\(S.bf (S.ai r1 r2 r3 200).2).1.2.2=(S.jC r1 r2 r3).2.2.2/\r1=r1/\(S.ai r1 r2 r3 200).1.2.1=(S.jC r1 r2 r3).1.1/\(S.bf (S.ai r1 r2 r3 200).2).2=(S.jC r1 r2 r3).1.2):=by
 refine aP ?_;with_reducible and_intros
 omega;grind[nt,df,S.avD];grind[S.JG,S.amJ]
theorem aoq(r1:B8)(r2 r3:Int)(hp:r1.length<=140737488355328)(hf:Vg.dL J.lr ())(hg:Vg.bT.ok J.yy ((r1,r2,r3),())):q36 r1/\(∃(x1:Nat),((0:Int)=x1/\ []=(S.dh r1 r2 r3 x1).2/\r1=r1/\(S.dP r1 r2 r3 64).1.1=(S.dh r1 r2 r3 x1).1.1/\(S.dP r1 r2 r3 64).1.2=(S.dh r1 r2 r3 x1).1.2)/\S.fe x1 (S.ph r1 r2 r3))/\(∀(x2:Nat),S.fe x2 (S.ph r1 r2 r3)->q64 (decide (x2<(S.dP r1 r2 r3 64).2)) (q36 r1) (nH (S.dh r1 r2 r3 x2).2 [(S.an r1 (S.dh r1 r2 r3 x2).1.1 (S.dh r1 r2 r3 x2).1.2).2]/\abK x2 (∃(x3:Nat),((x2:Int)+1=x3/\(S.dh r1 r2 r3 x2).2++ [(S.an r1 (S.dh r1 r2 r3 x2).1.1 (S.dh r1 r2 r3 x2).1.2).2]=(S.dh r1 r2 r3 x3).2/\(S.an r1 (S.dh r1 r2 r3 x2).1.1 (S.dh r1 r2 r3 x2).1.2).1.1=r1/\(S.an r1 (S.dh r1 r2 r3 x2).1.1 (S.dh r1 r2 r3 x2).1.2).1.2.1=(S.dh r1 r2 r3 x3).1.1/\(S.an r1 (S.dh r1 r2 r3 x2).1.1 (S.dh r1 r2 r3 x2).1.2).1.2.2=(S.dh r1 r2 r3 x3).1.2)/\anj x3 (S.ph r1 r2 r3) x2)) ((S.dh r1 r2 r3 x2).2=(S.jD r1 r2 r3).2) (r1=r1) ((S.dh r1 r2 r3 x2).1.1=(S.jD r1 r2 r3).1.1/\(S.dh r1 r2 r3 x2).1.2=(S.jD r1 r2 r3).1.2)):=by
 refine aP ?_;with_reducible and_intros
 omega
 . refine⟨(nat_lit 0:Nat),?_⟩;dsimp only;with_reducible and_intros
   omega;iterate 4 rfl
   exact T! _
 intro x1 h2;refine V.dI (fun h3=> ?_) fun h4=> ?_
 . with_reducible and_intros
   omega
   . have :=S.JH r1 r2 r3 x1;have :=S.Md r1 r2 r3;have q:x1<=S.ph r1 r2 r3:=h2
     rw [W!];omega
   omega
   . have :=S.Md r1 r2 r3;have q:x1<=S.ph r1 r2 r3:=h2
     omega
   refine⟨(x1+nat_lit 1),?_⟩;dsimp only;with_reducible and_intros
   omega;exact rfl;exact(S.JB _ _ _).2;iterate 2 exact rfl
   exact S.Ye h3;have e:S.ph r1 r2 r3=(S.dP r1 r2 r3 64).2.toNat:=rfl;simp [S.al];omega
 with_reducible and_intros
 . have e:=S.Me h2 h4;rw [e];rfl
 rfl
 . have e:=S.Me h2 h4;rw [e];rfl
 have e:=S.Me h2 h4;rw [e];rfl
theorem aor(r1:B8)(r2 r3:Int)(hp:r1.length<=140737488355328)(hf:Vg.dL J.lr ())(hg:Vg.bT.ok J.yy ((r1,r2,r3),())):q36 r1/\q36 r1/\q36 r1/\q36 r1/\(S.af r1 r2 r3).2=(S.gw r1 r2 r3).2.1/\(Dv r1 r2 r3).2.1=(S.gw r1 r2 r3).2.2.1/\(Dv r1 r2 r3).2.2.1=(S.gw r1 r2 r3).2.2.2.1/\(Dv r1 r2 r3).2.2.2=(S.gw r1 r2 r3).2.2.2.2.1/\(S.jD r1 (Dv r1 r2 r3).1.1 (Dv r1 r2 r3).1.2).2=(S.gw r1 r2 r3).2.2.2.2.2.1/\(S.ai r1 (S.jD r1 (Dv r1 r2 r3).1.1 (Dv r1 r2 r3).1.2).1.1 (S.jD r1 (Dv r1 r2 r3).1.1 (Dv r1 r2 r3).1.2).1.2 4000).2=(S.gw r1 r2 r3).2.2.2.2.2.2/\r1=r1/\(S.ai r1 (S.jD r1 (Dv r1 r2 r3).1.1 (Dv r1 r2 r3).1.2).1.1 (S.jD r1 (Dv r1 r2 r3).1.1 (Dv r1 r2 r3).1.2).1.2 4000).1.2.1=(S.gw r1 r2 r3).1.1/\(S.ai r1 (S.jD r1 (Dv r1 r2 r3).1.1 (Dv r1 r2 r3).1.2).1.1 (S.jD r1 (Dv r1 r2 r3).1.1 (Dv r1 r2 r3).1.2).1.2 4000).1.2.2=(S.gw r1 r2 r3).1.2:=by
 refine aP ?_;with_reducible and_intros
 iterate 4 omega
 iterate 9 rfl
theorem aos(b:B8)(hp:b.length<=140737488355328/\S.eZ b 1=0)(hf:Vg.bo J.fv b):S.eZ b 1=0/\q64 (ak5 0) (0=(S.ba b).1.1) ([]=(S.ba b).1.2.1/\ []=(S.ba b).1.2.2.1/\ []=(S.ba b).1.2.2.2/\0=(S.ba b).2) (q36 b) (∃(x1:Nat),((0:Int)=x1/\b=b/\(S.cC b 1 0).1.1=(S.gR b x1).1.1/\(S.cC b 1 0).1.2=(S.gR b x1).1.2/\(S.cC b 1 0).2.1=(vB b).1/\(S.cC b 1 0).2.2.1=(vB b).2.1/\(S.cC b 1 0).2.2.2=(vB b).2.2/\ []=(S.gR b x1).2)/\S.fe x1 (S.aN b)) (∀(x2:Nat),S.fe x2 (S.aN b)->eP (decide ((x2:Int)<List.length (S.cC b 1 0).2.2.2)) (q36 b) ((∃(x3:Nat×Nat),((0:Int)=x3.1/\ []=(S.Af b x3.2 x3.1).2/\b=b/\(S.dP b (S.gR b x2).1.1 (S.gR b x2).1.2 16).1.1=(S.Af b x3.2 x3.1).1.1/\(S.dP b (S.gR b x2).1.1 (S.gR b x2).1.2 16).1.2=(S.Af b x3.2 x3.1).1.2/\(vB b).1=(vB b).1/\(vB b).2.1=(vB b).2.1/\(vB b).2.2=(vB b).2.2/\(S.gR b x2).2=(S.gR b x3.2).2)/\(S.fe x3.1 (S.pj b x3.2)/\x3.2+1<=S.aN b)/\(x2:Int)=x3.2)/\(∀(x4:Nat×Nat),(S.fe x4.1 (S.pj b x4.2)/\x4.2+1<=S.aN b)/\(x2:Int)=x4.2->eP (decide (x4.1<(S.dP b (S.gR b x2).1.1 (S.gR b x2).1.2 16).2)) (q36 b) (List.length (SH b x4).2+List.length [((tA b x4).2.1,(tA b x4).2.2.1,(tA b x4).2.2.2.1,(tA b x4).2.2.2.2.1,(tA b x4).2.2.2.2.2.1,(tA b x4).2.2.2.2.2.2)]<=1353245080339/\q32 (x4.1+1)/\(∃(x5:Nat×Nat),((x4.1:Int)+1=x5.1/\(SH b x4).2++ [((tA b x4).2.1,(tA b x4).2.2.1,(tA b x4).2.2.2.1,(tA b x4).2.2.2.2.1,(tA b x4).2.2.2.2.2.1,(tA b x4).2.2.2.2.2.2)]=(S.Af b x5.2 x5.1).2/\b=b/\(tA b x4).1.1=(S.Af b x5.2 x5.1).1.1/\(tA b x4).1.2=(S.Af b x5.2 x5.1).1.2/\(vB b).1=(vB b).1/\(vB b).2.1=(vB b).2.1/\(vB b).2.2=(vB b).2.2/\(S.gR b x4.2).2=(S.gR b x5.2).2)/\((S.fe x5.1 (S.pj b x5.2)/\x5.2+1<=S.aN b)/\(x2:Int)=x5.2)/\q46 (S.pj b x5.2) x5.1 (S.al (S.pj b x4.2) x4.1))) (MH (List.length (S.gR b x4.2).2+List.length [(SH b x4).2])) (abK x2 (∃(x6:Nat),((x2:Int)+1=x6/\b=b/\(SH b x4).1.1=(S.gR b x6).1.1/\(SH b x4).1.2=(S.gR b x6).1.2/\(vB b).1=(vB b).1/\(vB b).2.1=(vB b).2.1/\(vB b).2.2=(vB b).2.2/\(S.gR b x4.2).2++ [(SH b x4).2]=(S.gR b x6).2)/\anj x6 (S.aN b) x2)))) True (q64 (abF (S.done b (S.gR b x2).1.1 (S.gR b x2).1.2)) (0=(S.ba b).1.1) ([]=(S.ba b).1.2.1/\ []=(S.ba b).1.2.2.1/\ []=(S.ba b).1.2.2.2/\S.done b (S.gR b x2).1.1 (S.gR b x2).1.2=(S.ba b).2) ((vB b).1=(S.ba b).1.1) ((vB b).2.1=(S.ba b).1.2.1) ((vB b).2.2=(S.ba b).1.2.2.1/\(S.gR b x2).2=(S.ba b).1.2.2.2/\0=(S.ba b).2))):=by
 refine aP ?_;have oA:=hp.2;with_reducible and_intros
 omega;grind;intro h2;with_reducible and_intros
 omega
 . refine⟨(nat_lit 0:Nat),?_⟩;dsimp only;with_reducible and_intros
   omega;iterate 7 rfl
   exact T! _
 intro x3 h4;refine V.dI (fun h5=> ?_) fun e6=> ?_
 . with_reducible and_intros
   omega
   . refine⟨((nat_lit 0:Nat),(x3)),?_⟩;try dsimp only
     with_reducible and_intros
     omega;exact rfl;rfl;iterate 2 exact rfl
     iterate 3 rfl
     with_reducible rfl
     exact T! _;exact S.Sl h5;with_reducible rfl
   intro x6 h7;refine V.dI (fun h8=> ?_) fun h9=> ?_
   . with_reducible and_intros
     omega
     . rw [S.amK,W!];have :=S.ahD b x6.2;have :x6.1<=S.pj b x6.2:=h7.1.1
       omega
     omega
     . have :=S.ahD b x6.2;have :x6.1<=S.pj b x6.2:=h7.1.1
       omega
     refine⟨((Prod.fst x6+nat_lit 1),(x3)),?_⟩;try dsimp only
     with_reducible and_intros
     omega
     . have e':x6.2=x3:=by have :=h7.2;omega
       rw [e'];exact rfl
     rfl
     iterate 2
      . have e':x6.2=x3:=by have :=h7.2;omega
        rw [e'];exact rfl
     iterate 3 rfl
     . have e':x6.2=x3:=by have :=h7.2;omega
       rw [e']
     exact S.Ye (by assumption);omega;with_reducible rfl
     have e':x6.2=x3:=by have :=h7.2;omega
     rw [e'];have q:=S.Ye (by assumption);have w:S.pj b x3=(S.dP b (S.gR b x3).1.1 (S.gR b x3).1.2 16).2.toNat:=rfl
     simp only [S.al];omega
   with_reducible and_intros
   . rw [S.amL,W!];have :=S.Yf b;have :=h7.1.2;omega
   omega
   . have :=S.Yf b;have :=S.Sl h5;omega
   refine⟨(x3+nat_lit 1),?_⟩;try dsimp only
   with_reducible and_intros
   omega;rfl
   iterate 2
    . have e':x6.2=x3:=by have :=h7.2;omega
      rw [e'];have q:x6.1=S.pj b x3:=S.Me (e'▸h7.1.1) (by assumption)
      rw [q];exact rfl
   iterate 3 rfl
   . have e':x6.2=x3:=by have :=h7.2;omega
     rw [e'];have q:x6.1=S.pj b x3:=S.Me (e'▸h7.1.1) (by assumption)
     rw [q];exact rfl
   exact S.Sl h5;have :=S.Sl h5;simp only [S.al];omega
 with_reducible and_intros
 trivial
 . intro iR;simp at iR;with_reducible and_intros
   iterate 4 (rw [S.ahE oA (S.Yg h4 (by assumption)) (by assumption)])
   rw [S.ahE oA (S.Yg h4 (by assumption)) (by assumption)]
 grind[S.as5,S.Yg]
theorem aot(b:B8)(hp:¬S.eZ b 1=0)(hf:Vg.bo J.fv b):(S.eZ b 1=0->False)/\hU (abF (S.eZ b 1)) (0=(S.ba b).1.1) ([]=(S.ba b).1.2.1/\ []=(S.ba b).1.2.2.1/\ []=(S.ba b).1.2.2.2/\S.eZ b 1=(S.ba b).2) False:=by
 refine aP ?_;simp_all[nt,df,S.as4,nf,dt]
theorem aou(b:B8)(hp:b.length<=140737488355328/\S.eZ b 2=0)(hf:Vg.bo J.fv b):S.eZ b 2=0/\eP (ak5 0) (0=(S.aM b).1.1) ([]=(S.aM b).1.2.1/\ []=(S.aM b).1.2.2.1/\0=(S.aM b).1.2.2.2.1/\ []=(S.aM b).1.2.2.2.2.1/\ []=(S.aM b).1.2.2.2.2.2/\0=(S.aM b).2) (q36 b) (q36 b/\q36 b/\q36 b/\fw (q64 (abF (S.done b (M5 b).1.1 (M5 b).1.2)) (0=(S.aM b).1.1) ([]=(S.aM b).1.2.1/\ []=(S.aM b).1.2.2.1/\0=(S.aM b).1.2.2.2.1/\ []=(S.aM b).1.2.2.2.2.1/\ []=(S.aM b).1.2.2.2.2.2/\S.done b (M5 b).1.1 (M5 b).1.2=(S.aM b).2) ((S.cC b 1 0).2.1=(S.aM b).1.1) ((S.cC b 1 0).2.2.1=(S.aM b).1.2.1) ((S.cC b 1 0).2.2.2=(S.aM b).1.2.2.1/\(alq b).2=(S.aM b).1.2.2.2.1/\(S.ai b (alq b).1.2.1 (alq b).1.2.2 2000).2=(S.aM b).1.2.2.2.2.1/\(M5 b).2=(S.aM b).1.2.2.2.2.2/\0=(S.aM b).2))):=by
 refine aP ?_;have oA:=hp.2;with_reducible and_intros
 omega;grind;intro h2;with_reducible and_intros
 iterate 4 omega
 trivial
 . intro h3;simp at h3;with_reducible and_intros
   iterate 6 (rw [S.ahF oA h3])
   rw [S.ahF oA h3];rfl
 intro h4;simp at h4;with_reducible and_intros
 iterate 6
  . rw [S.ahG oA h4];rfl
 rw [S.ahG oA h4]
theorem aov(b:B8)(hp:¬S.eZ b 2=0)(hf:Vg.bo J.fv b):(S.eZ b 2=0->False)/\hU (abF (S.eZ b 2)) (0=(S.aM b).1.1) ([]=(S.aM b).1.2.1/\ []=(S.aM b).1.2.2.1/\0=(S.aM b).1.2.2.2.1/\ []=(S.aM b).1.2.2.2.2.1/\ []=(S.aM b).1.2.2.2.2.2/\S.eZ b 2=(S.aM b).2) False:=by
 refine aP ?_;simp_all[nt,df,S.avE,nf,dt]
theorem aow(b:B8)(hp:b.length<=140737488355328/\S.eZ b 3=0)(hf:Vg.bo J.fv b):S.eZ b 3=0/\eP (ak5 0) (0=(S.aC b).1.1) ([]=(S.aC b).1.2.1/\ []=(S.aC b).1.2.2.1/\0=(S.aC b).1.2.2.2.1/\ []=(S.aC b).1.2.2.2.2.1/\ []=(S.aC b).1.2.2.2.2.2.1/\ []=(S.aC b).1.2.2.2.2.2.2/\0=(S.aC b).2) (q36 b) (q36 b/\q36 b/\fw (q64 (abF (S.done b (YD b).1.1 (YD b).1.2)) (0=(S.aC b).1.1) ([]=(S.aC b).1.2.1/\ []=(S.aC b).1.2.2.1/\0=(S.aC b).1.2.2.2.1/\ []=(S.aC b).1.2.2.2.2.1/\ []=(S.aC b).1.2.2.2.2.2.1/\ []=(S.aC b).1.2.2.2.2.2.2/\S.done b (YD b).1.1 (YD b).1.2=(S.aC b).2) ((S.cC b 1 0).2.1=(S.aC b).1.1) ((S.cC b 1 0).2.2.1=(S.aC b).1.2.1) ((S.cC b 1 0).2.2.2=(S.aC b).1.2.2.1/\(jE b).2.1=(S.aC b).1.2.2.2.1/\(jE b).2.2.1=(S.aC b).1.2.2.2.2.1/\(jE b).2.2.2=(S.aC b).1.2.2.2.2.2.1/\(YD b).2=(S.aC b).1.2.2.2.2.2.2/\0=(S.aC b).2))):=by
 refine aP ?_;have oA:=hp.2;with_reducible and_intros
 omega;grind;intro h2;with_reducible and_intros
 iterate 3 omega
 trivial
 . intro h3;simp at h3;with_reducible and_intros
   iterate 7 (rw [S.str_1 oA h3])
   rw [S.str_1 oA h3];rfl
 intro h4;simp at h4;with_reducible and_intros
 iterate 7
  . rw [S.ahH oA h4];rfl
 rw [S.ahH oA h4]
theorem aox(b:B8)(hp:¬S.eZ b 3=0)(hf:Vg.bo J.fv b):(S.eZ b 3=0->False)/\hU (abF (S.eZ b 3)) (0=(S.aC b).1.1) ([]=(S.aC b).1.2.1/\ []=(S.aC b).1.2.2.1/\0=(S.aC b).1.2.2.2.1/\ []=(S.aC b).1.2.2.2.2.1/\ []=(S.aC b).1.2.2.2.2.2.1/\ []=(S.aC b).1.2.2.2.2.2.2/\S.eZ b 3=(S.aC b).2) False:=by
 refine aP ?_;simp_all[nt,df,S.avF,nf,dt]
theorem aoy(y1:Int)(y2:B8)(y3:List (Int×Int×Int×B8))(hp:True)(hf:Vg.bo J.Qd (y1,y2,y3)):fw (q64 (abF (S.hW y1 y2 y3).2) ([]=(S.ik y1 y2 y3).1) ((S.hW y1 y2 y3).2=(S.ik y1 y2 y3).2) (S.bQ (S.hW y1 y2 y3).1) (S.lB 3 (S.hW y1 y2 y3).1=(S.ik y1 y2 y3).1) (0=(S.ik y1 y2 y3).2)):=by
 refine aP ?_;simp_all[nt,df,S.avH,nf,dt,S.amO]
theorem aoz(y1:List B8)(y2:List (Int×Int×List (B8×List Int)))(hp:True)(hf:Vg.bo J.pO (y1,y2)):fw (q64 (abF (S.iK y1 y2).2) ([]=(S.lC y1 y2).1) (7=(S.lC y1 y2).2) True ((S.ik (S.iK y1 y2).1.1 (S.iK y1 y2).1.2.1 (S.iK y1 y2).1.2.2).1=(S.lC y1 y2).1) ((S.ik (S.iK y1 y2).1.1 (S.iK y1 y2).1.2.1 (S.iK y1 y2).1.2.2).2=(S.lC y1 y2).2)):=by
 refine aP ?_;simp_all[nt,df,S.avI,nf,dt,S.amP]
theorem aoA(t:B8)(dd:List (B8×List Int))(er:Int)(hp:S.bh dd/\S.aY dd=true/\S.isTerm t=true/\er=0)(hf:Vg.dL J.Qg t)(hg:Vg.bT.ok J.aiH (dd,(er,((),())))):(S.bh dd/\S.small t)/\List.length [((S.gj dd t).1.1,(S.gj dd t).1.2.1,(S.gj dd t).1.2.2.1,(S.gj dd t).1.2.2.2.1,(S.gj dd t).1.2.2.2.2.1,(S.gj dd t).1.2.2.2.2.2)]<=1353245080339/\dd=dd/\(bif mr er then(S.gj dd t).2 else er)=0/\ [((S.gj dd t).1.1,(S.gj dd t).1.2.1,(S.gj dd t).1.2.2.1,(S.gj dd t).1.2.2.2.1,(S.gj dd t).1.2.2.2.2.1,(S.gj dd t).1.2.2.2.2.2)]= [S.jO dd t]:=by
 refine aP ?_;grind[S.ID,List.length_singleton,S.wy]
theorem aoB(t:B8)(dd:List (B8×List Int))(er:Int)(l:List (Int×B8×B8×B8×List B8×B8))(hp:S.bh dd/\S.aY dd=true/\S.isTerm t=true/\er=0/\l.length<=100000)(hf:Vg.dL J.Qg t)(hg:Vg.bT.ok [.cells [.c9 (.slice [.str, .slice [.int .i64]])], .cells [.c9 (.int .i64)], .cells [.own 50003], .row 111 [.int .i64, .str, .str, .str, .slice [.str], .slice [.int .u8]]] (dd,(er,((),(l,()))))):(S.bh dd/\S.small t)/\List.length l+List.length [((S.gj dd t).1.1,(S.gj dd t).1.2.1,(S.gj dd t).1.2.2.1,(S.gj dd t).1.2.2.2.1,(S.gj dd t).1.2.2.2.2.1,(S.gj dd t).1.2.2.2.2.2)]<=1353245080339/\dd=dd/\(bif mr er then(S.gj dd t).2 else er)=0/\l++ [((S.gj dd t).1.1,(S.gj dd t).1.2.1,(S.gj dd t).1.2.2.1,(S.gj dd t).1.2.2.2.1,(S.gj dd t).1.2.2.2.2.1,(S.gj dd t).1.2.2.2.2.2)]=l++ [S.jO dd t]:=by
 refine aP ?_;grind[S.ID,List.length_singleton,S.wy]
theorem aoC(d:List (B8×List Int))(er:Int)(ts:List B8)(hp:S.Mf d ts/\er=0)(hf:Vg.dL J.atF d)(hg:Vg.bT.ok J.atG (er,(ts,()))):(∃(x1:Nat),((0:Int)=x1/\d=d/\ []=S.qj d ts x1/\er=0/\ts=ts)/\S.gP ts x1)/\(∀(x2:Nat),S.gP ts x2->q64 (decide (x2<wD ts)) (dQ 0 x2 (wD ts)) ((S.bh d/\S.aY d/\S.isTerm (Dp ts x2)/\(0:Int)=0/\List.length (S.qj d ts x2)<=100000)/\abK x2 (∃(x3:Nat),((x2:Int)+1=x3/\d=d/\S.qj d ts x2++ [S.jO d (Dp ts x2)]=S.qj d ts x3/\(0:Int)=0/\ts=ts)/\S.gP ts x3/\q53 (S.len ts) x3 x2)) (S.qj d ts x2=S.Od d ts) ai5 (ts=ts)):=by
 refine aP ?_;have atW:Vg.hlen d:=hf.1.1;have aEk:Vg.hint er:=hg.1.1;have aEl:Vg.hlen ts:=hg.2.1.1.1;clear hf hg;obtain⟨oA,q4⟩:=hp;subst q4;refine⟨?_,?_⟩
 . refine⟨(nat_lit 0:Nat),?_⟩;try dsimp only
   with_reducible and_intros
   omega;iterate 4 rfl
   exact T! _
 intro x1 h2;refine⟨?_,?_⟩
 . intro h3;try simp only [dt] at h3
   with_reducible and_intros
   iterate 2 omega
   exact oA.1;exact oA.2.1;exact S.avJ oA h3;rfl
   . have :=S.amQ d ts x1;have :=oA.2.2.1;omega
   iterate 2 omega
   refine⟨(x1+nat_lit 1),?_⟩;try dsimp only
   with_reducible and_intros
   omega;rfl;exact S.ahN h3;iterate 2 rfl
   . unfold S.gP;omega
   simp only [S.al,S.len];omega
 grind[df,S.amR]
theorem aoD(y1:List B8)(y2:List (Int×Int×List (B8×List Int)))(l:List (Int×B8))(hp:S.eR l)(hf:Vg.bo J.aiK (y1,y2,l)):fw (q98 (abF (S.iK y1 y2).2) ([]=(S.gx y1 y2 l).1) (7=(S.gx y1 y2 l).2) (S.eR l) (Bool.not (S.bL l)) (1=(S.gx y1 y2 l).2) (S.small l) (∃(x1:Nat),((0:Int)=x1/\(S.iK y1 y2).2=0/\S.aA l=S.aA l/\(S.iK y1 y2).1.1=S.len y1/\(S.iK y1 y2).1.2.1=rq y1/\(S.iK y1 y2).1.2.2=S.cL y1 y2/\ []=S.lD y2 (S.aA l) x1)/\S.gP y2 x1/\S.gC y1 y2/\S.bL l) (∀(x2:Nat),S.gP y2 x2/\S.gC y1 y2/\S.bL l->q90 (decide ((x2:Int)<List.length y2)) 0 x2 (List.length y2) ((S.Mf (List.getD y2 (Int.toNat x2) (0,0,[])).2.2 (S.aA l)/\(0:Int)=0)/\MH (List.length (S.lD y2 (S.aA l) x2)+List.length [S.Od (List.getD y2 (Int.toNat x2) (0,0,[])).2.2 (S.aA l)])/\abK x2 (∃(x3:Nat),((x2:Int)+1=x3/\ai5/\S.aA l=S.aA l/\(S.len y1:Int)=S.len y1/\rq y1=rq y1/\S.cL y1 y2=S.cL y1 y2/\S.lD y2 (S.aA l) x2++ [S.Od (List.getD y2 (Int.toNat x2) (0,0,[])).2.2 (S.aA l)]=S.lD y2 (S.aA l) x3)/\(S.gP y2 x3/\S.gC y1 y2/\S.bL l)/\q53 (S.len y2) x3 x2)) (q64 (ak5 0) ([]=(S.gx y1 y2 l).1) (0=(S.gx y1 y2 l).2) (S.ti (S.lD y2 (S.aA l) x2)) ((S.nG (S.len y1) (rq y1) (S.cL y1 y2) (S.lD y2 (S.aA l) x2)).1=(S.gx y1 y2 l).1) ((S.nG (S.len y1) (rq y1) (S.cL y1 y2) (S.lD y2 (S.aA l) x2)).2=(S.gx y1 y2 l).2)))):=by
 refine aP ?_;have YF:Vg.hlen y2:=hf.2.1.1;with_reducible and_intros
 trivial;grind[nt,df,S.avK];intro h2;simp at h2;with_reducible and_intros
 omega;grind[nt,S.amV];intro h4;simp at h4;with_reducible and_intros
 exact hp.1
 . refine⟨(nat_lit 0:Nat),?_⟩;dsimp only;with_reducible and_intros
   iterate 2 omega
   rfl;exact(S.Fq h2).2.1;iterate 2 (simp_all[S.Fq])
   rfl;exact Nat.zero_le _;grind[S.Fq];omega
 intro x5 h6;refine V.dI (fun h7=> ?_) fun h8=> ?_
 . with_reducible and_intros
   iterate 2 omega
   exact S.amU h6.2.1 h6.2.2 h7;rfl
   . have :=S.amS y2 (S.aA l) x5;have :=S.PZ h6.2.1;rw [W!];omega
   iterate 2 omega
   refine⟨(x5+nat_lit 1),?_⟩;try dsimp only
   with_reducible and_intros
   omega;iterate 5 rfl
   exact S.ahO h7
   . unfold S.gP;omega
   exact h6.2.1;omega;simp only [S.al,S.len];omega
 refine⟨?_,?_⟩
 . intro h9;refine⟨?_,?_⟩
   . grind
   grind
 grind[S.amW]
theorem aoE(i n:Int)(hp:S.mW i n)(hf:Vg.bo J.atH (i,n)):(∃(x1:Int×Int×List Bool),(i=x1.1/\n=x1.2.1/\ []=x1.2.2)/\S.jf i n x1)/\(∀(x2:Int×Int×List Bool),S.jf i n x2->hU (decide (1<x2.2.1)) True (eP (decide (x2.1<S.split x2.2.1)) (wC (List.length x2.2.2+List.length [false])) (∃(x3:Int×Int×List Bool),(x2.1=x3.1/\S.split x2.2.1=x3.2.1/\x2.2.2++ [false]=x3.2.2)/\S.jf i n x3/\Int.toNat x3.2.1<Int.toNat x2.2.1) (wC (List.length x2.2.2+List.length [true])) (q32 (x2.1-S.split x2.2.1)/\q32 (x2.2.1-S.split x2.2.1)/\(∃(x4:Int×Int×List Bool),(x2.1-S.split x2.2.1=x4.1/\x2.2.1-S.split x2.2.1=x4.2.1/\x2.2.2++ [true]=x4.2.2)/\S.jf i n x4/\Int.toNat x4.2.1<Int.toNat x2.2.1))) (x2.2.2=S.bl i n)):=by
 refine aP ?_;have IV:Vg.hint i:=hf.1;have IU:Vg.hint n:=hf.2.1;clear hf;refine⟨?_,?_⟩
 . refine⟨((i),((n),([]))),?_⟩;try dsimp only
   with_reducible and_intros
   iterate 3 with_reducible rfl
   exact S.aBw hp
 intro x1 h2;refine⟨?_,?_⟩
 . intro h3;try simp only [dt] at h3
   with_reducible and_intros
   trivial
   . intro h4;try simp only [dt] at h4
     refine⟨?_,?_⟩
     . (have q:=S.Mg hp h2 h3;simp only [lc,ln];omega)
     refine⟨((Prod.fst x1),((S.split (Prod.fst (Prod.snd x1))),(Prod.snd (Prod.snd x1)++ [Bool.false]))),?_⟩;try dsimp only
     with_reducible and_intros
     iterate 3 with_reducible rfl
     exact S.aBx hp h2 h3 h4
     . (have q:=S.Mg hp h2 h3;omega)
   intro h5;try simp only [df] at h5
   with_reducible and_intros
   . (have q:=S.Mg hp h2 h3;simp only [lc,ln];omega)
   iterate 4
    . (have q:=S.Mg hp h2 h3;omega)
   refine⟨((Prod.fst x1-S.split (Prod.fst (Prod.snd x1))),((Prod.fst (Prod.snd x1)-S.split (Prod.fst (Prod.snd x1))),(Prod.snd (Prod.snd x1)++ [Bool.true]))),?_⟩;try dsimp only
   with_reducible and_intros
   iterate 3 with_reducible rfl
   exact S.aBy hp h2 h3 h5
   . (have q:=S.Mg hp h2 h3;omega)
 intro h6;try simp only [df] at h6
 exact S.sd_end h2 (by assumption)
theorem aoF(d:B8)(i n:Int)(p:List B8)(hp:S.dz p)(hf:Vg.bo J.atI (d,i,n,p)):q64 (gD (afB d) (q79 n (1:Int) (q79 (1099511627776:Int) n (q79 i (0:Int) (decide (n<=i)))))) (([]:B8)=S.mV d i n p) ((1:Int)=S.fc d i n p) (S.mW i n) (acd (py (wD p) (List.length (S.bl i n):Int))) (eP (akm (py (wD p) (List.length (S.bl i n):Int)) (S.cY p)) (([]:B8)=S.mV d i n p) ((6:Int)=S.fc d i n p) (∃(x1:Nat),((0:Int)=(x1:Int)/\d=S.gQ d i n p x1)/\S.fc d i n p=(0:Int)/\x1<=S.len p) (∀(x2:Nat),S.fc d i n p=(0:Int)/\x2<=S.len p->eP (decide ((x2:Int)<wD p)) (q32 ((List.length (S.bl i n):Int)-(1:Int))) (q89 ((List.length (S.bl i n):Int)-(1:Int)-(x2:Int)) (0:Int) (List.length (S.bl i n):Int) (Int.toNat ((List.length (S.bl i n):Int)-(1:Int)-(x2:Int))<List.length (S.bl i n)/\((List.getD (S.bl i n) (Int.toNat ((List.length (S.bl i n):Int)-(1:Int)-(x2:Int))) false=true->dQ (0:Int) (x2:Int) (wD p)/\True)/\(List.getD (S.bl i n) (Int.toNat ((List.length (S.bl i n):Int)-(1:Int)-(x2:Int))) false=false->dQ (0:Int) (x2:Int) (wD p)/\True))/\abK (x2:Int) (∃(x3:Nat),((x2:Int)+(1:Int)=(x3:Int)/\(bif List.getD (S.bl i n) (Int.toNat ((List.length (S.bl i n):Int)-(1:Int)-(x2:Int))) false then S.bc (Dp p (x2:Int)) (S.gQ d i n p x2) else S.bc (S.gQ d i n p x2) (Dp p (x2:Int)))=S.gQ d i n p x3)/\(S.fc d i n p=(0:Int)/\x3<=S.len p)/\q53 (S.len p) x3 x2))) (S.gQ d i n p x2=S.mV d i n p) ((0:Int)=S.fc d i n p))):=by
 refine aP ?_;have atW:Vg.hlen d:=hf.1;have IV:Vg.hint i:=hf.2.1;have IU:Vg.hint n:=hf.2.2.1;have Ĺ:Vg.hlen p:=hf.2.2.2.1.1;clear hf;refine⟨?_,?_⟩
 . intro h1;try simp only [V.xq,nt,df,dt] at h1
   refine⟨?_,?_⟩
   . exact(S.ahQ w!).1
   exact(S.ahQ w!).2
 intro h2;try simp only [V.jz,nf,dt,df] at h2
 with_reducible and_intros
 exact S.Sm (d:=d) w!
 . intro h3;try simp only [nt,df] at h3
   trivial
 . intro h4;try simp only [nf,dt] at h4
   trivial
 . intro h5;try simp only [V.xq,nt,df] at h5
   refine⟨?_,?_⟩
   . exact(S.Ě w! x!).1
   exact(S.Ě w! x!).2
 intro h6;try simp only [V.jz,nf,dt] at h6
 refine⟨?_,?_⟩
 . refine⟨(nat_lit 0:Nat),?_⟩;try dsimp only
   with_reducible and_intros
   omega;exact S.aBz _ _ _ _;exact S.avL w! (by assumption);omega
 intro x7 h8;refine⟨?_,?_⟩
 . intro h9;try simp only [dt] at h9
   with_reducible and_intros
   iterate 7 omega
   . intro e6;with_reducible and_intros
     iterate 2 omega
     trivial
   . intro iR;with_reducible and_intros
     iterate 2 omega
     trivial
   iterate 2 omega
   refine⟨(x7+nat_lit 1),?_⟩;try dsimp only
   with_reducible and_intros
   omega
   . (have q:=S.Mh (S.Sm (d:=d) (i:=i) (n:=n) w!);(have q2:=S.Bj (d:=d) (i:=i) (n:=n) (p:=p) x!;exact S.ahR x! w!))
   omega;iterate 2 (grind [S.al,S.len])
 intro jH;try simp only [df] at jH
 refine⟨?_,?_⟩
 . (have q:=S.Mh (S.Sm (d:=d) (i:=i) (n:=n) w!);(have q2:=S.Bj (d:=d) (i:=i) (n:=n) (p:=p) x!;exact S.amY x! w!))
 omega
theorem aDu(b:B8)(hp:b.length<=140737488355328)(hf:Vg.bo J.fv b):q36 b/\hU (abF (S.af b 0 0).1.2.2) ([]=(S.JI b).1) ((S.af b 0 0).1.2.2=(S.JI b).2) (eP (decide (1000<(S.af b 0 0).2)) ([]=(S.JI b).1) (2=(S.JI b).2) (∃(x1:Nat×Int×Int×Int×List Int),((0:Int)=x1.1/\-1=x1.2.2.2.1/\ []=x1.2.2.2.2/\(S.af b 0 0).1.1=b/\(S.af b 0 0).1.2.1=x1.2.1/\(S.af b 0 0).1.2.2=x1.2.2.1)/\S.afq b x1.1 x1.2) (∀(x2:Nat×Int×Int×Int×List Int),S.afq b x2.1 x2.2->eP (decide (x2.1<(S.af b 0 0).2)) (q36 b) (eP (abF (S.af b x2.2.1 x2.2.2.1).1.2.2) ([]=(S.JI b).1) ((S.af b x2.2.1 x2.2.2.1).1.2.2=(S.JI b).2) (q32 (999-x2.2.2.2.1)) (q32 (999-x2.2.2.2.1-1)/\eP (decide (999-x2.2.2.2.1-1<(S.af b x2.2.1 x2.2.2.1).2)) ([]=(S.JI b).1) (2=(S.JI b).2) (q32 ((S.af b x2.2.1 x2.2.2.1).2+1)) (q32 (x2.2.2.2.1+((S.af b x2.2.1 x2.2.2.1).2+1))/\ale x2.2.2.2.2 [x2.2.2.2.1+((S.af b x2.2.1 x2.2.2.1).2+1)]/\q32 (x2.1+1)/\(∃(x3:Nat×Int×Int×Int×List Int),((x2.1:Int)+1=x3.1/\x2.2.2.2.1+((S.af b x2.2.1 x2.2.2.1).2+1)=x3.2.2.2.1/\x2.2.2.2.2++ [x2.2.2.2.1+((S.af b x2.2.1 x2.2.2.1).2+1)]=x3.2.2.2.2/\(S.af b x2.2.1 x2.2.2.1).1.1=b/\(S.af b x2.2.1 x2.2.2.1).1.2.1=x3.2.1/\(S.af b x2.2.1 x2.2.2.1).1.2.2=x3.2.2.1)/\S.afq b x3.1 x3.2/\q53 1000 x3.1 x2.1)))) True (eP (abF (S.done b x2.2.1 x2.2.2.1)) ([]=(S.JI b).1) (S.done b x2.2.1 x2.2.2.1=(S.JI b).2) (x2.2.2.2.2=(S.JI b).1) (0=(S.JI b).2)))):=by
 refine aP ?_;have ko:Vg.hlen b:=hf.1.1;clear hf;with_reducible and_intros
 grind
 . intro h1;try simp only [nt,df] at h1
   refine⟨?_,?_⟩
   . exact(S.auN h1).1
   exact(S.auN h1).2
 intro h2;try simp only [nf,dt] at h2
 refine⟨?_,?_⟩
 . intro h3;try simp only [dt] at h3
   refine⟨?_,?_⟩
   . exact(S.aul h2 h3).1
   exact(S.aul h2 h3).2
 intro h4;try simp only [df] at h4
 refine⟨?_,?_⟩
 . refine⟨((nat_lit 0:Nat),((Prod.fst (Prod.snd (Prod.fst (S.af b (0:Int) (0:Int))))),((Prod.snd (Prod.snd (Prod.fst (S.af b (0:Int) (0:Int))))),(((-1:Int)),([]))))),?_⟩;try dsimp only
   with_reducible and_intros
   grind;iterate 2 with_reducible rfl
   exact(S.JB b 0 0).1;iterate 2 with_reducible rfl
   exact S.aFZ h2 h4
 intro x5 h6;refine⟨?_,?_⟩
 . intro h7;try simp only [dt] at h7
   with_reducible and_intros
   . (have q1:=h6.2.2.2.2.1;have q2:=h6.2.2.2.2.2.1;have q3:=h6.2.2.2.2.2.2;have q4:=h6.2.2.1;have q5:=S.adB b x5.2.1 x5.2.2.1;have q6:=h6.1;have q7:(S.Sq b).2=(S.af b 0 0).2:=rfl;omega)
   . intro h8;try simp only [nt,df] at h8
     refine⟨?_,?_⟩
     . exact(S.auO h6 h7 h8).1
     exact(S.auO h6 h7 h8).2
   intro h9;try simp only [nf,dt] at h9
   with_reducible and_intros
   iterate 4
    . (have q1:=h6.2.2.2.2.1;have q2:=h6.2.2.2.2.2.1;have q3:=h6.2.2.2.2.2.2;have q4:=h6.2.2.1;have q5:=S.adB b x5.2.1 x5.2.2.1;have q6:=h6.1;have q7:(S.Sq b).2=(S.af b 0 0).2:=rfl;omega)
   . intro e6;try simp only [dt] at e6
     refine⟨?_,?_⟩
     . exact(S.auP h6 h7 h9 w!).1
     exact(S.auP h6 h7 h9 w!).2
   intro iR;try simp only [df] at iR
   with_reducible and_intros
   iterate 4
    . (have q1:=h6.2.2.2.2.1;have q2:=h6.2.2.2.2.2.1;have q3:=h6.2.2.2.2.2.2;have q4:=h6.2.2.1;have q5:=S.adB b x5.2.1 x5.2.2.1;have q6:=h6.1;have q7:(S.Sq b).2=(S.af b 0 0).2:=rfl;omega)
   . (have q1:=h6.2.2.2.2.1;have q2:=h6.2.2.2.2.2.1;have q3:=h6.2.2.2.2.2.2;have q4:=h6.2.2.1;have q5:=S.adB b x5.2.1 x5.2.2.1;have q6:=h6.1;have q7:(S.Sq b).2=(S.af b 0 0).2:=rfl;rw [W!];omega)
   iterate 2
    . (have q1:=h6.2.2.2.2.1;have q2:=h6.2.2.2.2.2.1;have q3:=h6.2.2.2.2.2.2;have q4:=h6.2.2.1;have q5:=S.adB b x5.2.1 x5.2.2.1;have q6:=h6.1;have q7:(S.Sq b).2=(S.af b 0 0).2:=rfl;omega)
   refine⟨((Prod.fst x5+nat_lit 1),((Prod.fst (Prod.snd (Prod.fst (S.af b (Prod.fst (Prod.snd x5)) (Prod.fst (Prod.snd (Prod.snd x5))))))),((Prod.snd (Prod.snd (Prod.fst (S.af b (Prod.fst (Prod.snd x5)) (Prod.fst (Prod.snd (Prod.snd x5))))))),((Prod.fst (Prod.snd (Prod.snd (Prod.snd x5)))+(Prod.snd (S.af b (Prod.fst (Prod.snd x5)) (Prod.fst (Prod.snd (Prod.snd x5))))+(1:Int))),(Prod.snd (Prod.snd (Prod.snd (Prod.snd x5)))++ [Prod.fst (Prod.snd (Prod.snd (Prod.snd x5)))+(Prod.snd (S.af b (Prod.fst (Prod.snd x5)) (Prod.fst (Prod.snd (Prod.snd x5))))+(1:Int))]))))),?_⟩;try dsimp only
   with_reducible and_intros
   . (have q1:=h6.2.2.2.2.1;have q2:=h6.2.2.2.2.2.1;have q3:=h6.2.2.2.2.2.2;have q4:=h6.2.2.1;have q5:=S.adB b x5.2.1 x5.2.2.1;have q6:=h6.1;have q7:(S.Sq b).2=(S.af b 0 0).2:=rfl;omega)
   iterate 2 with_reducible rfl
   exact(S.JB b _ _).1;iterate 2 with_reducible rfl
   exact S.aBR h6 h7 h9 w!
   . (have q1:=h6.2.2.2.2.1;have q2:=h6.2.2.2.2.2.1;have q3:=h6.2.2.2.2.2.2;have q4:=h6.2.2.1;have q5:=S.adB b x5.2.1 x5.2.2.1;have q6:=h6.1;have q7:(S.Sq b).2=(S.af b 0 0).2:=rfl;simp only [S.al];omega)
 intro jH;try simp only [df] at jH
 with_reducible and_intros
 trivial
 . intro mv;try simp only [nt,df] at mv
   refine⟨?_,?_⟩
   . rw [S.ak3 h6 jH,Q! mv]
   rw [S.ak3 h6 jH,Q! mv]
 intro rY;try simp only [nf,dt] at rY
 refine⟨?_,?_⟩
 . rw [S.ak3 h6 jH,R! rY]
 rw [S.ak3 h6 jH,R! rY]
theorem aoG(n:Int)(p q:Bool)(hp:True)(hf:Vg.bo J.Qh (n,p,q)):q38 p q=S.Cd p q:=by
 refine aP ?_;have IU:Vg.hint n:=hf.1;clear hf;grind [S.Cd]
theorem aoH(n:Int)(p q:Bool)(hp:True)(hf:Vg.bo J.Qh (n,p,q)):gD p q=S.Oe p q:=by
 refine aP ?_;have IU:Vg.hint n:=hf.1;clear hf;grind [S.Oe]
theorem aoI(n:Int)(p q:Bool)(hp:True)(hf:Vg.bo J.Qh (n,p,q)):q38 p (Bool.not q)=S.Ce p q:=by
 refine aP ?_;have IU:Vg.hint n:=hf.1;clear hf;grind [S.Ce]
theorem aoJ(a b:List Int)(hp:True)(hf:Vg.dL J.aiN (a,b))(hg:Vg.bT.ok J.ql ()):fw (abS (∃(x1:List Int×List Int×List Int),(alc a x1.1/\alc b x1.2.1/\ []=x1.2.2)/\S.kp S.Cd a b x1) (∀(x2:List Int×List Int×List Int),S.kp S.Cd a b x2->hU (gD (abO (q48 x2.1)) (abO (q48 x2.2.1))) (ali (abO (q48 x2.1)) (mr (q48 x2.2.1)) 0 (q48 x2.1) (q48 x2.2.1)) (ali (abO (q48 x2.2.1)) (mr (q48 x2.1)) 0 (q48 x2.2.1) (q48 x2.1)/\FH (Ax x2) 0 (q48 x2.1) 1/\FH (pt x2) 0 (q48 x2.2.1) 1/\fw (hU (S.Cd (Ax x2) (pt x2)) (ale x2.2.2 [As (pt x2) (Yz x2) (Ax x2) (og x2) 0]) (∃(x3:List Int×List Int×List Int),(aeY (Ax x2) 1 x2.1=x3.1/\aeY (pt x2) 1 x2.2.1=x3.2.1/\x2.2.2++ [As (pt x2) (Yz x2) (Ax x2) (og x2) 0]=x3.2.2)/\S.kp S.Cd a b x3/\S.gZ x3<S.gZ x2) (∃(x4:List Int×List Int×List Int),(aeY (Ax x2) 1 x2.1=x4.1/\aeY (pt x2) 1 x2.2.1=x4.2.1/\x2.2.2=x4.2.2)/\S.kp S.Cd a b x4/\S.gZ x4<S.gZ x2))) (x2.2.2=S.Dg a b))):=by
 refine aP ?_;refine⟨trivial,trivial,⟨(S.tH a,S.tH b,[]),⟨S.Bl a,S.Bl b,rfl⟩,S.ahW ..⟩,fun x h=>⟨fun hc=> ?_,fun hc=>S.Sr rfl h hc⟩⟩;have q:=S.Yl rfl h hc;refine⟨⟨fun h1=>⟨fun _=>trivial,fun h2=>⟨⟨P? _,V? h1⟩,P? _,by have :=z? h2;omega⟩⟩,fun _=>trivial⟩,⟨fun h1=>⟨fun _=>trivial,fun h2=>⟨⟨P? _,V? h1⟩,P? _,by have :=z? h2;omega⟩⟩,fun _=>trivial⟩,⟨fun hA=>⟨⟨P? _,(S.lq hA).1⟩,by decide,(S.lq hA).2⟩,fun _=>trivial⟩,⟨fun hA=>⟨⟨P? _,(S.lq hA).1⟩,by decide,(S.lq hA).2⟩,fun _=>trivial⟩,trivial,fun hk=>⟨by have :=q.1;rw [W!];omega,(S.oc (S.iw x.1 x.2.1) x.1,S.oc (S.iw x.2.1 x.1) x.2.1,x.2.2++ [S.Fw x.1 x.2.1]),⟨rfl,rfl,rfl⟩,q.2.1 hk,q.2.2.2.1⟩,fun hk=>⟨(S.oc (S.iw x.1 x.2.1) x.1,S.oc (S.iw x.2.1 x.1) x.2.1,x.2.2),⟨rfl,rfl,rfl⟩,q.2.2.1 hk,q.2.2.2.2⟩⟩
theorem aoK(a b:List Int)(hp:True)(hf:Vg.dL J.aiP (a,b))(hg:Vg.bT.ok J.ql ()):fw (abS (∃(x1:List Int×List Int×List Int),(alc a x1.1/\alc b x1.2.1/\ []=x1.2.2)/\S.kp S.Oe a b x1) (∀(x2:List Int×List Int×List Int),S.kp S.Oe a b x2->hU (gD (abO (q48 x2.1)) (abO (q48 x2.2.1))) (ali (abO (q48 x2.1)) (mr (q48 x2.2.1)) 0 (q48 x2.1) (q48 x2.2.1)) (ali (abO (q48 x2.2.1)) (mr (q48 x2.1)) 0 (q48 x2.2.1) (q48 x2.1)/\FH (ak1 x2) 0 (q48 x2.1) 1/\FH (bI x2) 0 (q48 x2.2.1) 1/\fw (hU (S.Oe (ak1 x2) (bI x2)) (ale x2.2.2 [As (bI x2) (Hn x2) (ak1 x2) (vz x2) 0]) (∃(x3:List Int×List Int×List Int),(aeY (ak1 x2) 1 x2.1=x3.1/\aeY (bI x2) 1 x2.2.1=x3.2.1/\x2.2.2++ [As (bI x2) (Hn x2) (ak1 x2) (vz x2) 0]=x3.2.2)/\S.kp S.Oe a b x3/\S.gZ x3<S.gZ x2) (∃(x4:List Int×List Int×List Int),(aeY (ak1 x2) 1 x2.1=x4.1/\aeY (bI x2) 1 x2.2.1=x4.2.1/\x2.2.2=x4.2.2)/\S.kp S.Oe a b x4/\S.gZ x4<S.gZ x2))) (x2.2.2=S.tm a b))):=by
 refine aP ?_;refine⟨trivial,trivial,⟨(S.tH a,S.tH b,[]),⟨S.Bl a,S.Bl b,rfl⟩,S.ahW ..⟩,fun x h=>⟨fun hc=> ?_,fun hc=>S.Sr rfl h hc⟩⟩;have q:=S.Yl rfl h hc;refine⟨⟨fun h1=>⟨fun _=>trivial,fun h2=>⟨⟨P? _,V? h1⟩,P? _,by have :=z? h2;omega⟩⟩,fun _=>trivial⟩,⟨fun h1=>⟨fun _=>trivial,fun h2=>⟨⟨P? _,V? h1⟩,P? _,by have :=z? h2;omega⟩⟩,fun _=>trivial⟩,⟨fun hA=>⟨⟨P? _,(S.lq hA).1⟩,by decide,(S.lq hA).2⟩,fun _=>trivial⟩,⟨fun hA=>⟨⟨P? _,(S.lq hA).1⟩,by decide,(S.lq hA).2⟩,fun _=>trivial⟩,trivial,fun hk=>⟨by have :=q.1;rw [W!];omega,(S.oc (S.iw x.1 x.2.1) x.1,S.oc (S.iw x.2.1 x.1) x.2.1,x.2.2++ [S.Fw x.1 x.2.1]),⟨rfl,rfl,rfl⟩,q.2.1 hk,q.2.2.2.1⟩,fun hk=>⟨(S.oc (S.iw x.1 x.2.1) x.1,S.oc (S.iw x.2.1 x.1) x.2.1,x.2.2),⟨rfl,rfl,rfl⟩,q.2.2.1 hk,q.2.2.2.2⟩⟩
theorem aoL(a b:List Int)(hp:True)(hf:Vg.dL J.aiR (a,b))(hg:Vg.bT.ok J.ql ()):fw (abS (∃(x1:List Int×List Int×List Int),(alc a x1.1/\alc b x1.2.1/\ []=x1.2.2)/\S.kp S.Ce a b x1) (∀(x2:List Int×List Int×List Int),S.kp S.Ce a b x2->hU (gD (abO (q48 x2.1)) (abO (q48 x2.2.1))) (ali (abO (q48 x2.1)) (mr (q48 x2.2.1)) 0 (q48 x2.1) (q48 x2.2.1)) (ali (abO (q48 x2.2.1)) (mr (q48 x2.1)) 0 (q48 x2.2.1) (q48 x2.1)/\FH (YA x2) 0 (q48 x2.1) 1/\FH (ak0 x2) 0 (q48 x2.2.1) 1/\fw (hU (S.Ce (YA x2) (ak0 x2)) (ale x2.2.2 [As (ak0 x2) (Hm x2) (YA x2) (xW x2) 0]) (∃(x3:List Int×List Int×List Int),(aeY (YA x2) 1 x2.1=x3.1/\aeY (ak0 x2) 1 x2.2.1=x3.2.1/\x2.2.2++ [As (ak0 x2) (Hm x2) (YA x2) (xW x2) 0]=x3.2.2)/\S.kp S.Ce a b x3/\S.gZ x3<S.gZ x2) (∃(x4:List Int×List Int×List Int),(aeY (YA x2) 1 x2.1=x4.1/\aeY (ak0 x2) 1 x2.2.1=x4.2.1/\x2.2.2=x4.2.2)/\S.kp S.Ce a b x4/\S.gZ x4<S.gZ x2))) (x2.2.2=S.Mi a b))):=by
 refine aP ?_;refine⟨trivial,trivial,⟨(S.tH a,S.tH b,[]),⟨S.Bl a,S.Bl b,rfl⟩,S.ahW ..⟩,fun x h=>⟨fun hc=> ?_,fun hc=>S.Sr rfl h hc⟩⟩;have q:=S.Yl rfl h hc;refine⟨⟨fun h1=>⟨fun _=>trivial,fun h2=>⟨⟨P? _,V? h1⟩,P? _,by have :=z? h2;omega⟩⟩,fun _=>trivial⟩,⟨fun h1=>⟨fun _=>trivial,fun h2=>⟨⟨P? _,V? h1⟩,P? _,by have :=z? h2;omega⟩⟩,fun _=>trivial⟩,⟨fun hA=>⟨⟨P? _,(S.lq hA).1⟩,by decide,(S.lq hA).2⟩,fun _=>trivial⟩,⟨fun hA=>⟨⟨P? _,(S.lq hA).1⟩,by decide,(S.lq hA).2⟩,fun _=>trivial⟩,trivial,fun hk=>⟨by have :=q.1;rw [W!];omega,(S.oc (S.iw x.1 x.2.1) x.1,S.oc (S.iw x.2.1 x.1) x.2.1,x.2.2++ [S.Fw x.1 x.2.1]),⟨rfl,rfl,rfl⟩,q.2.1 hk,q.2.2.2.1⟩,fun hk=>⟨(S.oc (S.iw x.1 x.2.1) x.1,S.oc (S.iw x.2.1 x.1) x.2.1,x.2.2),⟨rfl,rfl,rfl⟩,q.2.2.1 hk,q.2.2.2.2⟩⟩
theorem aoM(a b:List Int)(hp:True)(hf:Vg.bo J.Ch (a,b)):fw (S.Dg a b=S.Dg a b):=by
 refine aP ?_;have FL:Vg.hlen a:=hf.1.1;have ko:Vg.hlen b:=hf.2.1.1;clear hf;refine⟨?_,?_⟩
 . trivial
 rfl
theorem aoN(a b:List Int)(hp:True)(hf:Vg.bo J.Ch (a,b)):fw (S.tm a b=S.tm a b):=by
 refine aP ?_;have FL:Vg.hlen a:=hf.1.1;have ko:Vg.hlen b:=hf.2.1.1;clear hf;refine⟨?_,?_⟩
 . trivial
 rfl
theorem aoO(a b:List Int)(hp:True)(hf:Vg.bo J.Ch (a,b)):fw (S.Mi a b=S.Mi a b):=by
 refine aP ?_;have FL:Vg.hlen a:=hf.1.1;have ko:Vg.hlen b:=hf.2.1.1;clear hf;refine⟨?_,?_⟩
 . trivial
 rfl
theorem aoP(s:B8)(hp:True)(hf:Vg.bo J.P9 s):Bool.not (decide (s=s))=false :=by
 have IT:Vg.hlen s:=hf.1;clear hf;grind
theorem aoQ(a b:B8)(hp:True)(hf:Vg.bo J.yh (a,b)):abS (acd false) ((bif false then gD (Bool.not false) (Op.bytesLess a b) else Op.bytesLess a b)=Op.bytesLess a b):=by
 refine aP ?_;have FL:Vg.hlen a:=hf.1;have ko:Vg.hlen b:=hf.2.1;clear hf;with_reducible and_intros
 trivial
 . intro h1;trivial
 . intro h2;trivial
 grind
theorem aoR(x:List B8)(t:B8)(hp:S.vj x)(hf:Vg.bo J.atJ (x,t)):(∃(x1:Int×Int),(0=x1.1/\wD x=x1.2)/\S.qk x t x1.1 x1.2)/\(∀(x2:Int×Int),S.qk x t x2.1 x2.2->eP (decide (x2.1<x2.2)) (q32 (x2.1+x2.2)) (abN 1 64 (q89 (ajf x2) 0 (wD x) (abS (hU (Op.bytesLess (Dp x (ajf x2)) t) (-9223372036854775808<=ajf x2+1) (ajf x2+1<=9223372036854775807) True) (∃(x3:Int×Int),((bif Op.bytesLess (Dp x (ajf x2)) t then ajf x2+1 else x2.1)=x3.1/\(bif Op.bytesLess (Dp x (ajf x2)) t then x2.2 else ajf x2)=x3.2)/\S.qk x t x3.1 x3.2/\Qj (x3.2-x3.1) (x2.2-x2.1))))) (q90 (decide (x2.1<wD x)) 0 x2.1 (wD x) (afu (decide (Dp x x2.1=t)) (dQ 0 x2.1 (wD x)/\fw (acd false))) True) ((bif decide (x2.1<wD x) then bif decide (Dp x x2.1=t) then x2.1 else bif false then x2.1 else x2.1 else x2.1)=S.ni x t/\q38 (decide (x2.1<wD x)) (gD (decide (Dp x x2.1=t)) (bif false then false else false))=S.Ag x t)):=by
 refine aP ?_;have aCc:Vg.hlen x:=hf.1.1;have Qn:Vg.hlen t:=hf.2.1;clear hf;refine⟨?_,?_⟩
 . refine⟨(((0:Int)),((↑(List.length x):Int))),?_⟩;try dsimp only
   with_reducible and_intros
   iterate 2 with_reducible rfl
   exact⟨P? _,w!,P? _,fun k hk=>by omega,fun k hk hk2=>by omega⟩
 intro x1 h2;refine⟨?_,?_⟩
 . intro h3;try simp only [dt] at h3
   with_reducible and_intros
   iterate 2
    . obtain⟨e,q1,q2,q3,q4,q5⟩:=S.Bm hp h2 h3;omega
   iterate 2 omega
   grind
   iterate 3
    . obtain⟨e,q1,q2,q3,q4,q5⟩:=S.Bm hp h2 h3;omega
   trivial
   . intro h4;refine⟨?_,?_⟩
     . obtain⟨e,q1,q2,q3,q4,q5⟩:=S.Bm hp h2 h3;omega
     obtain⟨e,q1,q2,q3,q4,q5⟩:=S.Bm hp h2 h3;omega
   . intro h5;trivial
   refine⟨((bif Op.bytesLess (List.getD x (Int.toNat ((Prod.fst x1+Prod.snd x1)%(18446744073709551616:Int)/(2:Int)^Int.toNat (1:Int))) []) t then(Prod.fst x1+Prod.snd x1)%(18446744073709551616:Int)/(2:Int)^Int.toNat (1:Int)+(1:Int) else Prod.fst x1),(bif Op.bytesLess (List.getD x (Int.toNat ((Prod.fst x1+Prod.snd x1)%(18446744073709551616:Int)/(2:Int)^Int.toNat (1:Int))) []) t then Prod.snd x1 else(Prod.fst x1+Prod.snd x1)%(18446744073709551616:Int)/(2:Int)^Int.toNat (1:Int))),?_⟩;try dsimp only
   with_reducible and_intros
   iterate 2 with_reducible rfl
   . obtain⟨e,q1,q2,q3,q4,q5⟩:=S.Bm hp h2 h3;rw [e];exact(S.ahX hp h2 q2 q3).1
   obtain⟨e,q1,q2,q3,q4,q5⟩:=S.Bm hp h2 h3;rw [e];exact(S.ahX hp h2 q2 q3).2
 intro h6;try simp only [df] at h6
 with_reducible and_intros
 . intro h7;try simp only [dt] at h7
   with_reducible and_intros
   . have q:=h2.1;omega
   omega
   . intro h8;try simp only [dt] at h8
     trivial
   intro h9;try simp only [df] at h9
   with_reducible and_intros
   . have q:=h2.1;omega
   omega;trivial
   . intro e6;trivial
   intro iR;trivial
 . intro jH;try simp only [df] at jH
   trivial
 . have q:=S.am1 h2 h6;rw [<-q];cases decide (x1.1<(x.length:Int))<;>cases decide (x.getD (Int.toNat x1.1) []=t)<;>rfl
 exact S.am2 hp h2 h6
theorem aoS(s:B8)(t:List B8)(f:List (List Int))(hp:S.Ah t f)(hf:Vg.bo J.atK (s,t,f)):S.vj t/\fO (Bool.not (S.Ag t s)) ([]=S.lE t f s) (dQ 0 (S.ni t s) (List.length f)/\S.small (Ar f (Int.toNat (S.ni t s)))/\Ar f (Int.toNat (S.ni t s))=S.lE t f s):=by
 refine aP ?_;have IT:Vg.hlen s:=hf.1;have Qn:Vg.hlen t:=hf.2.1.1;have ajg:Vg.hlen f:=hf.2.2.1.1;clear hf;with_reducible and_intros
 exact hp.1
 . intro h1;try simp only [nt] at h1
   exact S.am5 (by rw [h1];rfl)
 intro h2;try simp only [nf] at h2
 with_reducible and_intros
 iterate 2
  . have q:=(S.Yn hp (s:=s) (by rw [h2];rfl)).1;omega
 . exact(S.Yn hp (by rw [h2];rfl)).2.1
 . exact(S.Yn hp (by rw [h2];rfl)).2.2
theorem aoT(s:B8)(l:List (List Int))(hp:S.qD l)(hf:Vg.dL J.Aq s)(hg:Vg.bT.ok J.aiU ((),((),(l,())))):awd (Av l-1) (Av l-1-1) 0 (Av l) (Int.toNat (Av l-1-1)) (Av l) (Int.toNat (Av l-1)) [S.Dg (Ar l (Int.toNat (Av l-1-1))) (Ar l (Int.toNat (Av l-1)))] l 1:=by
 refine aP ?_;have IT:Vg.hlen s:=hf.1;have nI:Vg.hlen l:=hg.2.2.1.1;clear hf hg;obtain⟨p1,p2⟩:=hp;have p3:l.length<=1099511627776:=p2;have e1:Int.toNat ((l.length:Int)-1-1)=l.length-2:=by omega
 have e2:Int.toNat ((l.length:Int)-1)=l.length-1:=by omega
 with_reducible and_intros
 iterate 14 omega
 trivial
 . rw [W!,e1];omega
 rw [e1,e2];rfl
theorem aoU(s:B8)(l:List (List Int))(hp:S.qD l)(hf:Vg.dL J.Aq s)(hg:Vg.bT.ok J.aiV ((),((),(l,())))):awd (Hl l-1) (Hl l-1-1) 0 (Hl l) (Int.toNat (Hl l-1-1)) (Hl l) (Int.toNat (Hl l-1)) [S.tm (Ar l (Int.toNat (Hl l-1-1))) (Ar l (Int.toNat (Hl l-1)))] l 2:=by
 refine aP ?_;have IT:Vg.hlen s:=hf.1;have nI:Vg.hlen l:=hg.2.2.1.1;clear hf hg;obtain⟨p1,p2⟩:=hp;have p3:l.length<=1099511627776:=p2;have e1:Int.toNat ((l.length:Int)-1-1)=l.length-2:=by omega
 have e2:Int.toNat ((l.length:Int)-1)=l.length-1:=by omega
 with_reducible and_intros
 iterate 14 omega
 trivial
 . rw [W!,e1];omega
 rw [e1,e2];rfl
theorem aoV(s:B8)(l:List (List Int))(hp:S.qD l)(hf:Vg.dL J.Aq s)(hg:Vg.bT.ok J.aiW ((),((),(l,())))):awd (Hk l-1) (Hk l-1-1) 0 (Hk l) (Int.toNat (Hk l-1-1)) (Hk l) (Int.toNat (Hk l-1)) [S.Mi (Ar l (Int.toNat (Hk l-1-1))) (Ar l (Int.toNat (Hk l-1)))] l 3:=by
 refine aP ?_;have IT:Vg.hlen s:=hf.1;have nI:Vg.hlen l:=hg.2.2.1.1;clear hf hg;obtain⟨p1,p2⟩:=hp;have p3:l.length<=1099511627776:=p2;have e1:Int.toNat ((l.length:Int)-1-1)=l.length-2:=by omega
 have e2:Int.toNat ((l.length:Int)-1)=l.length-1:=by omega
 with_reducible and_intros
 iterate 14 omega
 trivial
 . rw [W!,e1];omega
 rw [e1,e2];rfl
theorem aoW(s:B8)(t:List B8)(f l:List (List Int))(hp:S.Ah t f/\S.small l)(hf:Vg.dL J.Aq s)(hg:Vg.bT.ok J.atL ((),((t,f),(l,())))):S.Ah t f/\MH (List.length l+List.length [S.lE t f s])/\ [t]= [t]/\0=0/\ [f]= [f]/\0=0/\l++ [S.lE t f s]=S.Fv l (S.lE t f s):=by
 refine aP ?_;have IT:Vg.hlen s:=hf.1;have Qn:Vg.hlen t:=hg.2.1.1.1;have ajg:Vg.hlen f:=hg.2.1.2.1.1;have nI:Vg.hlen l:=hg.2.2.1.1;clear hf hg;with_reducible and_intros
 exact hp.1
 . have :=hp.2;unfold S.small at this;rw [List.length_singleton];omega
 iterate 5 rfl
theorem aoX(l:List (Int×B8))(t:List B8)(f:List (List Int))(hp:S.Dh l t f)(hf:Vg.dL J.atM (l,t,f))(hg:Vg.bT.ok J.ql ()):(∃(x1:Nat),((0:Int)=x1/\ []=S.fy (S.lE t f) l x1/\ [t]= [t]/\0=0/\ [f]= [f]/\0=0)/\S.ob l (S.fy (S.lE t f) l x1) x1)/\(∀(x2:Nat),S.ob l (S.fy (S.lE t f) l x2) x2->q64 (decide ((x2:Int)<List.length l)) (dQ 0 x2 (List.length l)) (((xS l x2).1=0->(xS l x2).1=0/\(S.Ah t f/\S.small (S.fy (S.lE t f) l x2))/\abK x2 (∃(x3:Nat),((x2:Int)+1=x3/\S.Fv (S.fy (S.lE t f) l x2) (S.lE t f (xS l x2).2)=S.fy (S.lE t f) l x3/\ [t]= [t]/\0=0/\ [f]= [f]/\0=0)/\S.ob l (S.fy (S.lE t f) l x3) x3/\q46 (S.len l) x3 (S.al (S.len l) x2)))/\((xS l x2).1=1->(xS l x2).1=1/\S.qD (S.fy (S.lE t f) l x2)/\abK x2 (∃(x4:Nat),((x2:Int)+1=x4/\S.vk 1 (S.fy (S.lE t f) l x2)=S.fy (S.lE t f) l x4/\ [t]= [t]/\0=0/\ [f]= [f]/\0=0)/\S.ob l (S.fy (S.lE t f) l x4) x4/\q46 (S.len l) x4 (S.al (S.len l) x2)))/\((xS l x2).1=2->(xS l x2).1=2/\S.qD (S.fy (S.lE t f) l x2)/\abK x2 (∃(x5:Nat),((x2:Int)+1=x5/\S.vk 2 (S.fy (S.lE t f) l x2)=S.fy (S.lE t f) l x5/\ [t]= [t]/\0=0/\ [f]= [f]/\0=0)/\S.ob l (S.fy (S.lE t f) l x5) x5/\q46 (S.len l) x5 (S.al (S.len l) x2)))/\((xS l x2).1=3->(xS l x2).1=3/\S.qD (S.fy (S.lE t f) l x2)/\abK x2 (∃(x6:Nat),((x2:Int)+1=x6/\S.vk 3 (S.fy (S.lE t f) l x2)=S.fy (S.lE t f) l x6/\ [t]= [t]/\0=0/\ [f]= [f]/\0=0)/\S.ob l (S.fy (S.lE t f) l x6) x6/\q46 (S.len l) x6 (S.al (S.len l) x2)))/\(((xS l x2).1=0->False)/\((xS l x2).1=1->False)/\((xS l x2).1=2->False)/\((xS l x2).1=3->False)/\True->False)) ((0:Int)<=0/\(0:Int)<List.length (S.fy (S.lE t f) l x2)) (Int.toNat 0<List.length (S.fy (S.lE t f) l x2)) (Ar (S.fy (S.lE t f) l x2) (Int.toNat 0)=S.Mj l t f)):=by
 refine aP ?_;have nI:Vg.hlen l:=hf.1.1;have Qn:Vg.hlen t:=hf.2.1.1;have ajg:Vg.hlen f:=hf.2.2.1.1;clear hf hg;refine⟨?_,?_⟩
 . refine⟨(nat_lit 0:Nat),?_⟩;try dsimp only
   with_reducible and_intros
   omega;exact S.ě ..;iterate 4 rfl
   rw [<-S.ě];exact S.aBG l
 intro x1 h2;refine⟨?_,?_⟩
 . intro h3;try simp only [dt] at h3
   with_reducible and_intros
   iterate 2 omega
   . intro h4;with_reducible and_intros
     omega;exact hp.2.2;exact S.ads hp h2;iterate 2 omega
     refine⟨(x1+nat_lit 1),?_⟩;try dsimp only
     with_reducible and_intros
     omega;exact S.VQ h3 h4;iterate 4 rfl
     exact S.ahZ h2 h3 h4;simp only [S.al,S.len];omega
   . intro h5;with_reducible and_intros
     omega
     . exact S.JK hp h2 h3 (by rw [show(S.iM l x1).1=1 from h5];decide)
     iterate 2 omega
     refine⟨(x1+nat_lit 1),?_⟩;try dsimp only
     with_reducible and_intros
     omega;exact S.JJ h3 h5 (by decide);iterate 4 rfl
     exact S.Mn hp h2 h3 h5 (by decide);simp only [S.al,S.len];omega
   . intro h6;with_reducible and_intros
     omega
     . exact S.JK hp h2 h3 (by rw [show(S.iM l x1).1=2 from h6];decide)
     iterate 2 omega
     refine⟨(x1+nat_lit 1),?_⟩;try dsimp only
     with_reducible and_intros
     omega;exact S.JJ h3 h6 (by decide);iterate 4 rfl
     exact S.Mn hp h2 h3 h6 (by decide);simp only [S.al,S.len];omega
   . intro h7;with_reducible and_intros
     omega
     . exact S.JK hp h2 h3 (by rw [show(S.iM l x1).1=3 from h7];decide)
     iterate 2 omega
     refine⟨(x1+nat_lit 1),?_⟩;try dsimp only
     with_reducible and_intros
     omega;exact S.JJ h3 h7 (by decide);iterate 4 rfl
     exact S.Mn hp h2 h3 h7 (by decide);simp only [S.al,S.len];omega
   intro h8;have q:0<=(List.getD l (Int.toNat (x1:Int)) (0,[])).1/\(List.getD l (Int.toNat (x1:Int)) (0,[])).1<=3:=⟨(S.Ss hp.1 h3).1,(S.Ss hp.1 h3).2.1⟩;obtain⟨g0,g1,g2,g3,_⟩:=h8;generalize (List.getD l (Int.toNat (x1:Int)) (0,[])).1=y at *;have e:y=0\/y=1\/y=2\/y=3:=by omega
   rcases e with e|e|e|e
   . exact g0 e
   . exact g1 e
   . exact g2 e
   exact g3 e
 intro h9;try simp only [df] at h9
 with_reducible and_intros
 omega
 iterate 2
  . have :=S.ĝ hp h2 h9;omega
 rw [(S.ĝ hp h2 h9).2];rfl
theorem aoY(l:List (Int×B8))(f:List (List Int))(hp:S.eR l)(hf:Vg.bo J.atN (l,f)):S.eR l/\eP (Bool.not (S.bL l)) ([]=(S.kZ l f).1) (1=(S.kZ l f).2) (S.small l) (eP (py (List.length f) (wD (S.aA l))) ([]=(S.kZ l f).1) (1=(S.kZ l f).2) (∃(x1:Nat),(0:Int)=x1/\S.Di f x1) (∀(x2:Nat),S.Di f x2->q64 (decide ((x2:Int)<List.length f)) (dQ 0 x2 (List.length f)) (fw (VW (Bool.not (S.bF (Ar f (Int.toNat x2)))) ([]=(S.kZ l f).1) (1=(S.kZ l f).2) x2 (∃(x3:Nat),ae9 x2 x3 (S.Di f x3) (S.len f)))) (S.Dh l (S.aA l) f) (S.Mj l (S.aA l) f=(S.kZ l f).1) (0=(S.kZ l f).2))):=by
 refine aP ?_;have nI:Vg.hlen l:=hf.1.1;have ajg:Vg.hlen f:=hf.2.1.1;clear hf;with_reducible and_intros
 omega
 . intro h1;try simp only [nt] at h1
   refine⟨?_,?_⟩
   . exact(S.G1 (by simp only [S.lN,h1,Bool.false_and])).1
   exact(S.G1 (by simp only [S.lN,h1,Bool.false_and])).2
 intro h2;try simp only [nf] at h2
 with_reducible and_intros
 exact hp.1
 . intro h3;try simp only [nt,df] at h3
   refine⟨?_,?_⟩
   . exact(S.G1 (by simp only [S.lN,h2,Bool.true_and];rw [L? w!];rfl)).1
   exact(S.G1 (by simp only [S.lN,h2,Bool.true_and];rw [L? w!];rfl)).2
 intro h4;try simp only [nf,dt] at h4
 refine⟨?_,?_⟩
 . refine⟨(nat_lit 0:Nat),?_⟩;try dsimp only
   refine⟨?_,?_⟩
   . omega
   exact⟨T! _,fun x hx=>by simp at hx⟩
 intro x5 h6;refine⟨?_,?_⟩
 . intro h7;try simp only [dt] at h7
   with_reducible and_intros
   iterate 2 omega
   trivial
   . intro h8;try simp only [nt] at h8
     refine⟨?_,?_⟩
     . exact(S.G1 (by simp only [S.lN,S.ğ h7 h8,Bool.and_false])).1
     exact(S.G1 (by simp only [S.lN,S.ğ h7 h8,Bool.and_false])).2
   intro h9;try simp only [nf] at h9
   with_reducible and_intros
   iterate 2 omega
   refine⟨(x5+nat_lit 1),?_⟩;try dsimp only
   with_reducible and_intros
   omega;exact S.ah0 h6 h7 h9;simp only [S.al,S.len];omega
 intro e6;try simp only [df] at e6
 with_reducible and_intros
 exact⟨h2,hp.1,S.P2 hp.1,w!,X!.1 (S.Su h6 (by assumption))⟩
 . exact(S.Ğ (by simp only [S.lN,h2,S.Su h6 (by assumption),Bool.true_and,Bool.and_true];exact H? w!)).1
 . exact(S.Ğ (by simp only [S.lN,h2,S.Su h6 (by assumption),Bool.true_and,Bool.and_true];exact H? w!)).2
theorem aDv(p1:Int)(p2 p3 p4:B8)(p5:List B8)(p6 t:B8)(e:Int)(hp:S.bQ p6)(hf:Vg.bo J.Qi (p1,p2,p3,p4,p5,p6,t,e)):fO (decide (p2=t)) (fO (mr e) (S.bQ p6) True) True/\q38 (decide (p2=t)) (ala (mr e) (S.lB 2 p6) p4)=S.aBB t e p2 p4 p6:=by
 refine aP ?_;have ax2:Vg.hint p1:=hf.1;have ax3:Vg.hlen p2:=hf.2.1;have ax4:Vg.hlen p3:=hf.2.2.1;have ax5:Vg.hlen p4:=hf.2.2.2.1;have ax6:Vg.hlen p5:=hf.2.2.2.2.1.1;have ax7:Vg.hlen p6:=hf.2.2.2.2.2.1.1;have Qn:Vg.hlen t:=hf.2.2.2.2.2.2.1;have aH3:Vg.hint e:=hf.2.2.2.2.2.2.2.1;clear hf;with_reducible and_intros
 . intro h1;try simp only [dt] at h1
   refine⟨?_,?_⟩
   . intro h2;try simp only [dt] at h2
     omega
   intro h3;try simp only [df] at h3
   trivial
 . intro h4;try simp only [df] at h4
   trivial
 grind [S.aBB]
theorem aDw(p1:Int)(p2 p3 p4:B8)(p5:List B8)(p6 t:B8)(hp:True)(hf:Vg.bo J.atO (p1,p2,p3,p4,p5,p6,t)):q38 (Op.bytesLess p2 t) (bif Bool.not (avP p3 t) then mr (q26 p6) else q38 (decide (p3= [])) (mr (q26 p6)))=S.aBC t p2 p3 p6:=by
 refine aP ?_;have ax2:Vg.hint p1:=hf.1;have ax3:Vg.hlen p2:=hf.2.1;have ax4:Vg.hlen p3:=hf.2.2.1;have ax5:Vg.hlen p4:=hf.2.2.2.1;have ax6:Vg.hlen p5:=hf.2.2.2.2.1.1;have ax7:Vg.hlen p6:=hf.2.2.2.2.2.1.1;have Qn:Vg.hlen t:=hf.2.2.2.2.2.2.1;clear hf;rw [S.aEF,S.aBC];cases Op.bytesLess p2 t<;>cases Op.bytesLess t p3<;>simp<;>cases decide (p3= [])<;>simp<;>omega
theorem aDx(t:B8)(p1:Int)(p2 p3 p4:B8)(p5:List B8)(p6:B8)(hp:p6.length<=140737488355328)(hf:Vg.dL J.atP (t,p1,p2,p3,p4,p5,p6))(hg:Vg.bT.ok J.ql ()):q36 p6/\ [t]= [t]/\0=0/\ [(S.JI p6).2]= [(S.JI p6).2]/\0=0/\(S.JI p6).1=(S.JI p6).1/\ [t]= [t]/\0=0:=by
 refine aP ?_;have Qn:Vg.hlen t:=hf.1;have ax2:Vg.hint p1:=hf.2.1;have ax3:Vg.hlen p2:=hf.2.2.1;have ax4:Vg.hlen p3:=hf.2.2.2.1;have ax5:Vg.hlen p4:=hf.2.2.2.2.1;have ax6:Vg.hlen p5:=hf.2.2.2.2.2.1.1;have ax7:Vg.hlen p6:=hf.2.2.2.2.2.2.1.1;clear hf hg;with_reducible and_intros
 omega;iterate 7 rfl
theorem aDy(root:B8)(n:Int)(t:B8)(p1:Int)(p2 p3 p4:B8)(p5:List B8)(p6:B8)(hp:S.Mk t p5 p6)(hf:Vg.bo J.atQ (root,n,t,p1,p2,p3,p4,p5,p6)):fO (afB root) True (fO (decide (n<1)) True (afu (decide (1099511627776<n)) (S.small t)))/\q98 (gD (afB root) (gD (decide (n<1)) (akm (decide (1099511627776<n)) (S.isTerm t)))) ([]=(S.IG root n t (p1,p2,p3,p4,p5,p6)).1) (1=(S.IG root n t (p1,p2,p3,p4,p5,p6)).2) True (abF (S.rb p2 p3 p4)) (6=(S.IG root n t (p1,p2,p3,p4,p5,p6)).2) (S.bQ (S.ke p2 p3 p4)) (S.dz p5) (q64 (akm (abF (S.fc (S.leaf (S.ke p2 p3 p4)) p1 n p5)) (decide (S.mV (S.leaf (S.ke p2 p3 p4)) p1 n p5=root))) ([]=(S.IG root n t (p1,p2,p3,p4,p5,p6)).1) (6=(S.IG root n t (p1,p2,p3,p4,p5,p6)).2) (q36 p6) (∃(x1:Nat),(0:Int)=x1/\S.acr root n t (p1,p2,p3,p4,p5,p6) x1) (∀(x2:Nat),S.acr root n t (p1,p2,p3,p4,p5,p6) x2->fO (decide ((x2:Int)<((2:Nat):Int))) (((x2:Int)=((0:Nat):Int)->(x2:Int)=((0:Nat):Int)/\S.bQ p6/\VW (S.aBB t (S.JI p6).2 p2 p4 p6) ((S.JI p6).1=(S.IG root n t (p1,p2,p3,p4,p5,p6)).1) (0=(S.IG root n t (p1,p2,p3,p4,p5,p6)).2) x2 (∃(x3:Nat),(x2:Int)+1=x3/\S.acr root n t (p1,p2,p3,p4,p5,p6) x3/\q46 2 x3 (S.al 2 x2)))/\(x2=alm->x2=alm/\fw (VW (S.aBC t p2 p3 p6) ([]=(S.IG root n t (p1,p2,p3,p4,p5,p6)).1) (0=(S.IG root n t (p1,p2,p3,p4,p5,p6)).2) x2 (∃(x4:Nat),(x2:Int)+1=x4/\S.acr root n t (p1,p2,p3,p4,p5,p6) x4/\q46 2 x4 (S.al 2 x2))))/\(((x2:Int)=((0:Nat):Int)->False)/\(x2=alm->False)/\True->False)) ([]=(S.IG root n t (p1,p2,p3,p4,p5,p6)).1/\6=(S.IG root n t (p1,p2,p3,p4,p5,p6)).2))):=by
 refine aP ?_;have wF:Vg.hlen root:=hf.1;have IU:Vg.hint n:=hf.2.1;have Qn:Vg.hlen t:=hf.2.2.1;have ax2:Vg.hint p1:=hf.2.2.2.1;have ax3:Vg.hlen p2:=hf.2.2.2.2.1;have ax4:Vg.hlen p3:=hf.2.2.2.2.2.1;have ax5:Vg.hlen p4:=hf.2.2.2.2.2.2.1;have ax6:Vg.hlen p5:=hf.2.2.2.2.2.2.2.1.1;have ax7:Vg.hlen p6:=hf.2.2.2.2.2.2.2.2.1.1;clear hf;with_reducible and_intros
 . intro h1;try simp only [nt,df] at h1
   trivial
 . intro h2;try simp only [nf,dt] at h2
   refine⟨?_,?_⟩
   . intro h3;try simp only [dt] at h3
     trivial
   intro h4;try simp only [df] at h4
   refine⟨?_,?_⟩
   . intro h5;try simp only [dt] at h5
     trivial
   intro h6;try simp only [df] at h6
   exact hp.1
 . intro h7;try simp only [V.xq,nt,df,dt] at h7
   refine⟨?_,?_⟩
   . exact(S.auR _ (S.auS h7)).1
   exact(S.auR _ (S.auS h7)).2
 intro h8;try simp only [V.jz,nf,dt,df] at h8
 with_reducible and_intros
 trivial
 . intro h9;try simp only [nt,df] at h9
   refine⟨?_,?_⟩
   . exact(S.aue (p:=(p1,p2,p3,p4,p5,p6)) (S.ak4 h8) (S.auU h9)).1
   exact(S.aue (p:=(p1,p2,p3,p4,p5,p6)) (S.ak4 h8) (S.auU h9)).2
 intro e6;try simp only [nf,dt] at e6
 with_reducible and_intros
 exact S.aup e6;exact hp.2.1
 . intro iR;try simp only [V.xq,nt,df] at iR
   refine⟨?_,?_⟩
   . exact(S.aue (p:=(p1,p2,p3,p4,p5,p6)) (S.ak4 h8) (S.auW e6 iR)).1
   exact(S.aue (p:=(p1,p2,p3,p4,p5,p6)) (S.ak4 h8) (S.auW e6 iR)).2
 intro jH;try simp only [V.jz,nf,dt] at jH
 with_reducible and_intros
 . have :=hp.2.2.2;unfold S.small at this;omega
 . refine⟨(nat_lit 0:Nat),?_⟩;try dsimp only
   refine⟨?_,?_⟩
   . omega
   exact S.aEH (S.ak4 h8) (S.aEG (p:=(p1,p2,p3,p4,p5,p6)) e6 jH)
 intro x13 rY;refine⟨?_,?_⟩
 . intro Hq;try simp only [dt] at Hq
   with_reducible and_intros
   . intro DC;with_reducible and_intros
     exact(by assumption);exact hp.2.2.1
     . intro VY;refine⟨?_,?_⟩
       . exact(S.auX rY VY).1
       exact(S.auX rY VY).2
     intro h18;with_reducible and_intros
     iterate 2 omega
     refine⟨(x13+nat_lit 1),?_⟩;try dsimp only
     with_reducible and_intros
     omega;exact S.aEI rY DC h18;simp only [S.al];omega
   . intro h19;with_reducible and_intros
     exact(by assumption);trivial
     . intro h20;refine⟨?_,?_⟩
       . exact(S.auZ rY h19 h20).1
       exact(S.auZ rY h19 h20).2
     intro vC;with_reducible and_intros
     iterate 2 omega
     refine⟨(x13+nat_lit 1),?_⟩;try dsimp only
     with_reducible and_intros
     omega;exact S.aEJ rY h19 vC;simp only [S.al];omega
   intro h22;have q:(x13:Int)=((0:Nat):Int)\/(x13:Int)=((1:Nat):Int):=by omega
   exact q.elim h22.1 h22.2.1
 intro h23;try simp only [df] at h23
 refine⟨?_,?_⟩
 . exact(S.au0 rY h23).1
 exact(S.au0 rY h23).2
theorem aoZ(u v:B8)(hp:True)(hf:Vg.bo J.yh (u,v)):fw (S.bc u v=S.bc u v):=by
 refine aP ?_;have Ļ:Vg.hlen u:=hf.1;have ĺ:Vg.hlen v:=hf.2.1;clear hf;refine⟨?_,?_⟩
 . trivial
 rfl
theorem ao0(i j:Int)(u v:B8)(p:List B8)(hp:S.mn i j p)(hf:Vg.bo J.Į (i,j,u,v,p)):(∃(x1:Int×Int),(i=x1.1/\j=x1.2)/\S.uy i j x1)/\(∀(x2:Int×Int),S.uy i j x2->0<=x2.1/\(0:Int)<=1/\eP (decide (Vg.aK x2.1 1=1)) ((0:Int)<=1/\(1:Int)<=64) (abN 1 64 (∃(x3:Int×Int),(x2.1/ix 2 1=x3.1/\x2.2/ix 2 1=x3.2)/\S.uy i j x3/\Qj x3.1 x2.1)) ((0:Int)<=0/\0<wD p) (((0:Int)<=0/\0<wD p)/\abN 1 (wD p) ((∃(x4:Nat×Int×Int×B8×B8),((0:Int)=x4.1/\x2.1=x4.2.1/\x2.2=x4.2.2.1/\Dp p 0=x4.2.2.2.1/\Dp p 0=x4.2.2.2.2)/\S.mX i j p x4)/\(∀(x5:Nat×Int×Int×B8×B8),S.mX i j p x5->q90 (decide (x5.1<wD (SF p))) 0 x5.1 (wD (SF p)) (q97 (mr x5.2.2.1) (S.lR i j u v p) (0<=x5.2.1/\(0:Int)<=1/\hU (q38 (mr (Vg.aK x5.2.1 1)) (py x5.2.1 x5.2.2.1)) True (abN 1 64 (abN 1 64 (q32 (x5.1+1)/\(∃(x6:Nat×Int×Int×B8×B8),((x5.1:Int)+1=x6.1/\x5.2.1/ix 2 1=x6.2.1/\x5.2.2.1/ix 2 1=x6.2.2.1/\x5.2.2.2.1=x6.2.2.2.1/\S.bc x5.2.2.2.2 (Dp (SF p) x5.1)=x6.2.2.2.2)/\S.mX i j p x6/\q46 (S.len p) x6.1 (S.al (S.len p) x5.1))))) (fw (abS (∃(x7:Int×Int×Nat),(x5.2.1=x7.1/\x5.2.2.1=x7.2.1)/\S.uz i j x7/\(x5.1:Int)=x7.2.2) (∀(x8:Int×Int×Nat),S.uz i j x8/\(x5.1:Int)=x8.2.2->0<=x8.1/\(0:Int)<=1/\hU (q38 (mr (Vg.aK x8.1 1)) (abF x8.1)) ((0:Int)<=1/\(1:Int)<=64) (abN 1 64 (∃(x9:Int×Int×Nat),(x8.1/ix 2 1=x9.1/\x8.2.1/ix 2 1=x9.2.1)/\(S.uz i j x9/\(x5.1:Int)=x9.2.2)/\Qj x9.1 x8.1)) (abN 1 64 (abN 1 64 (q32 (x5.1+1)/\(∃(DD:Nat×Int×Int×B8×B8),((x5.1:Int)+1=DD.1/\x8.1/ix 2 1=DD.2.1/\x8.2.1/ix 2 1=DD.2.2.1/\S.bc (Dp (SF p) x5.1) x5.2.2.2.1=DD.2.2.2.1/\S.bc (Dp (SF p) x5.1) x5.2.2.2.2=DD.2.2.2.2)/\S.mX i j p DD/\q46 (S.len p) DD.1 (S.al (S.len p) x5.1)))))))))) (q38 (mr x5.2.2.1) (ala (decide (x5.2.2.2.1=u)) x5.2.2.2.2 v)=S.lR i j u v p))))):=by
 refine aP ?_;have IV:Vg.hint i:=hf.1;have aEX:Vg.hint j:=hf.2.1;have Ļ:Vg.hlen u:=hf.2.2.1;have ĺ:Vg.hlen v:=hf.2.2.2.1;have Ĺ:Vg.hlen p:=hf.2.2.2.2.1.1;clear hf;refine⟨?_,?_⟩
 . refine⟨((i),(j)),?_⟩;try dsimp only
   with_reducible and_intros
   iterate 2 omega
   exact S.avQ hp
 intro x1 h2;with_reducible and_intros
 exact h2.1;omega
 . intro h3;try simp only [dt] at h3
   with_reducible and_intros
   iterate 4 omega
   refine⟨((Prod.fst x1/(2:Int)^Int.toNat (1:Int)),(Prod.snd x1/(2:Int)^Int.toNat (1:Int))),?_⟩;try dsimp only
   with_reducible and_intros
   iterate 2 omega
   . rw [S.qE,S.qE];exact S.adx h2 (by rw [<-S.Dm h2.1];exact h3)
   have q:=S.Dm h2.1;rw [S.qE];have :=h2.1;omega
 intro h4;try simp only [df] at h4
 with_reducible and_intros
 omega
 . have :=hp.2.2.1;omega
 omega
 . have :=hp.2.2.1;omega
 omega
 . have :=hp.2.2.1;omega
 . refine⟨((nat_lit 0:Nat),((Prod.fst x1),((Prod.snd x1),((List.getD p (Int.toNat (0:Int)) []),(List.getD p (Int.toNat (0:Int)) []))))),?_⟩;try dsimp only
   with_reducible and_intros
   iterate 3 omega
   iterate 2 with_reducible rfl
   . exact S.ah8 hp h2 (by rw [<-S.Dm h2.1];exact h4)
 intro x5 h6;refine⟨?_,?_⟩
 . intro h7;try simp only [dt] at h7
   with_reducible and_intros
   iterate 2 omega
   . intro h8;try simp only [dt] at h8
     exact S.ady h6 (S.dl h7) h8
   intro h9;try simp only [df] at h9
   with_reducible and_intros
   exact h6.1.1;omega
   . intro e6;try simp only [V.afK,dt,nt,df] at e6
     with_reducible and_intros
     trivial;iterate 5 omega
     . have :=S.dl h7;omega
     refine⟨((Prod.fst x5+nat_lit 1),((Prod.fst (Prod.snd x5)/(2:Int)^Int.toNat (1:Int)),((Prod.fst (Prod.snd (Prod.snd x5))/(2:Int)^Int.toNat (1:Int)),((Prod.fst (Prod.snd (Prod.snd (Prod.snd x5)))),(S.bc (Prod.snd (Prod.snd (Prod.snd (Prod.snd x5)))) (List.getD (List.drop (Int.toNat (1:Int)) p) (Int.toNat (↑(Prod.fst x5):Int)) [])))))),?_⟩;try dsimp only
     with_reducible and_intros
     iterate 3 omega
     iterate 2 with_reducible rfl
     . rw [S.qE,S.qE,S.dgD];exact S.adz h6 (S.dl h7) (by have :=e6.1;rw [S.Dm h6.1.1] at this;omega) e6.2
     simp only [S.al,S.len];have :=S.dl h7;omega
   intro iR;try simp only [V.EP,df,nf,dt] at iR
   with_reducible and_intros
   iterate 2 trivial
   . refine⟨((Prod.fst (Prod.snd x5)),((Prod.fst (Prod.snd (Prod.snd x5))),(Prod.fst x5))),?_⟩;try dsimp only
     with_reducible and_intros
     iterate 2 omega
     . have q:=S.Dm h6.1.1;have q2:=Int.emod_two_eq x5.2.1;exact S.avR h6 h9 x!
     omega
   intro x12 mv;with_reducible and_intros
   exact mv.1.1.1;omega
   . intro rY;try simp only [V.afK,dt,nt,df] at rY
     with_reducible and_intros
     iterate 4 omega
     refine⟨((Prod.fst x12/(2:Int)^Int.toNat (1:Int)),((Prod.fst (Prod.snd x12)/(2:Int)^Int.toNat (1:Int)),(Prod.fst x5))),?_⟩;try dsimp only
     with_reducible and_intros
     iterate 2 omega
     . have e:x12.2.2=x5.1:=by have :=mv.2;omega
       rw [S.qE,S.qE,<-e];exact S.adA mv.1 (by rw [<-S.Dm mv.1.1.1];exact rY.1) rY.2
     omega;rw [S.qE];have q:=mv.1.1.1;have :=rY.2;omega
   intro Hq;try simp only [V.EP,df,nf,dt] at Hq
   with_reducible and_intros
   iterate 5 omega
   . have :=S.dl h7;omega
   refine⟨((Prod.fst x5+nat_lit 1),((Prod.fst x12/(2:Int)^Int.toNat (1:Int)),((Prod.fst (Prod.snd x12)/(2:Int)^Int.toNat (1:Int)),((S.bc (List.getD (List.drop (Int.toNat (1:Int)) p) (Int.toNat (↑(Prod.fst x5):Int)) []) (Prod.fst (Prod.snd (Prod.snd (Prod.snd x5))))),(S.bc (List.getD (List.drop (Int.toNat (1:Int)) p) (Int.toNat (↑(Prod.fst x5):Int)) []) (Prod.snd (Prod.snd (Prod.snd (Prod.snd x5))))))))),?_⟩;try dsimp only
   with_reducible and_intros
   iterate 3 omega
   iterate 2 with_reducible rfl
   . have q:=S.Dm mv.1.1.1;have q2:=Int.emod_two_eq x12.1;rw [S.qE,S.qE,S.dgD];exact S.ah9 h6 (S.dl h7) mv.1 (by have :=mv.2;omega) x!
   simp only [S.al,S.len];have :=S.dl h7;omega
 intro DC;try simp only [df] at DC
 rw [<-S.am8 hp h6 (S.dl' DC)];cases decide (x5.2.2.1=0)<;>cases decide (x5.2.2.2.1=u)<;>rfl
theorem ao1(m n:Int)(u v:B8)(p:List B8)(hp:S.Ak m n p)(hf:Vg.bo J.Į (m,n,u,v,p)):hU (mr m) (fO (mr (List.length p)) (S.small q70) True) (ala (mr (List.length p)) u (S.sum q70)=S.accepted m n u v p) (fO (decide (m=n)) (ala (mr (List.length p)) u v=S.accepted m n u v p) (q32 (m-1)/\0<=m/\0<=m-1/\hU (mr (Vg.aK m (m-1))) (List.length [u]+List.length p<=8796093022208) (q97 (mr (wD ([u]++p))) (S.accepted m n u v p) (q32 (m-1)/\q32 (n-1)/\S.mn (m-1) (n-1) ([u]++p)/\S.lR (m-1) (n-1) u v ([u]++p)=S.accepted m n u v p)) (q97 (mr (List.length p)) (S.accepted m n u v p) (q32 (m-1)/\q32 (n-1)/\S.mn (m-1) (n-1) p/\S.lR (m-1) (n-1) u v p=S.accepted m n u v p)))):=by
 refine aP ?_;have aCk:Vg.hint m:=hf.1;have IU:Vg.hint n:=hf.2.1;have Ļ:Vg.hlen u:=hf.2.2.1;have ĺ:Vg.hlen v:=hf.2.2.2.1;have Ĺ:Vg.hlen p:=hf.2.2.2.2.1.1;clear hf;refine⟨?_,?_⟩
 . intro h1;try simp only [dt] at h1
   with_reducible and_intros
   . intro h2;try simp only [dt] at h2
     exact T! _
   . intro h3;try simp only [df] at h3
     trivial
   exact S.aBH h1
 intro h4;try simp only [df] at h4
 refine⟨?_,?_⟩
 . intro h5;try simp only [dt] at h5
   exact S.avS h4 h5
 intro h6;try simp only [df] at h6
 with_reducible and_intros
 iterate 4
  . have q1:=hp.1;have q2:=hp.2.1;have q3:=hp.2.2.1;omega
 . intro h7;try simp only [dt] at h7
   with_reducible and_intros
   . have :=hp.2.2.2;unfold S.dz at this;rw [List.length_singleton];omega
   . intro h8;try simp only [dt] at h8
     exfalso;have q:=h8;rw [K!,W!] at q;omega
   intro h9;try simp only [df] at h9
   with_reducible and_intros
   iterate 4
    . have q1:=hp.1;have q2:=hp.2.1;have q3:=hp.2.2.1;omega
   exact S.Ĩ hp h4 h6 h9;exact S.aBI hp h4 h6 h7
 intro e6;try simp only [df] at e6
 refine⟨?_,?_⟩
 . intro iR;try simp only [dt] at iR
   exact S.am9 hp h4 h6 e6 iR
 intro jH;try simp only [df] at jH
 with_reducible and_intros
 iterate 4
  . have q1:=hp.1;have q2:=hp.2.1;have q3:=hp.2.2.1;omega
 exact S.Ĩ hp h4 h6 jH;exact S.as9 hp h4 h6 e6
theorem ao2(m n:Int)(u v:B8)(p:List B8)(hp:S.dz p)(hf:Vg.bo J.Į (m,n,u,v,p)):fO (q79 m 0 (q79 n m (q79 1099511627776 n (gD (afB u) (afB v))))) (1=S.jc m n u v p) ((∃(x1:Nat),(0:Int)=x1/\S.iH p x1)/\(∀(x2:Nat),S.iH p x2->eP (decide (x2<wD p)) (dQ 0 x2 (wD p)) (fO (afB (Dp p x2)) (6=S.jc m n u v p) (abK x2 (∃(x3:Nat),ae9 x2 x3 (S.iH p x3) (S.len p)))) (S.Ak m n p) (fO (Bool.not (S.accepted m n u v p)) (6=S.jc m n u v p) (0=S.jc m n u v p)))):=by
 refine aP ?_;have aCk:Vg.hint m:=hf.1;have IU:Vg.hint n:=hf.2.1;have Ļ:Vg.hlen u:=hf.2.2.1;have ĺ:Vg.hlen v:=hf.2.2.2.1;have Ĺ:Vg.hlen p:=hf.2.2.2.2.1.1;clear hf;refine⟨?_,?_⟩
 . intro h1;try simp only [V.xq,dt,nt,df] at h1
   exact S.ana h1
 intro h2;try simp only [V.jz,df,nf,dt] at h2
 refine⟨?_,?_⟩
 . refine⟨(nat_lit 0:Nat),?_⟩;try dsimp only
   refine⟨?_,?_⟩
   . omega
   exact S.ô p
 intro x3 h4;refine⟨?_,?_⟩
 . intro h5;try simp only [dt] at h5
   with_reducible and_intros
   iterate 2 omega
   . intro h6;try simp only [nt,df,tn] at h6
     rw [S.Yp h2,Q!];rw [S.anb h5 h6];simp
   intro h7;try simp only [nf,dt,tn] at h7
   with_reducible and_intros
   iterate 2 omega
   refine⟨(x3+nat_lit 1),?_⟩;try dsimp only
   with_reducible and_intros
   omega;exact S.aib h4 h5 h7;simp only [S.al,S.len];omega
 intro h8;try simp only [df] at h8
 with_reducible and_intros
 exact⟨w!,w!,w!,hp⟩
 . intro h9;try simp only [nt] at h9
   rw [S.Yp h2,Q!];rw [h9];simp
 intro e6;try simp only [nf] at e6
 rw [S.Yp h2,R! ⟨S.anc h4 h8,e6⟩]
theorem ao3(h1:Int)(h2:B8)(h3:List (Int×Int×Int×B8))(root:B8)(hp:True)(hf:Vg.bo J.atS (h1,h2,h3,root)):fw (ala (mr (S.ik h1 h2 h3).2) (S.ik h1 h2 h3).1 root=S.tj h1 h2 h3 root):=by
 refine aP ?_;have axZ:Vg.hint h1:=hf.1;have ax0:Vg.hlen h2:=hf.2.1;have ax1:Vg.hlen h3:=hf.2.2.1.1;have wF:Vg.hlen root:=hf.2.2.2.1;clear hf;refine⟨?_,?_⟩
 . trivial
 grind [S.amX]
theorem ao4(h1:Int)(h2:B8)(h3:List (Int×Int×Int×B8))(root:B8)(hp:True)(hf:Vg.bo J.MF (h1,h2,h3,root)): [(h1,h2,h3)]= [(h1,h2,h3)]/\0=0/\ [root]= [root]/\0=0:=by
 have axZ:Vg.hint h1:=hf.1;have ax0:Vg.hlen h2:=hf.2.1;have ax1:Vg.hlen h3:=hf.2.2.1.1;have wF:Vg.hlen root:=hf.2.2.2.1;clear hf;with_reducible and_intros
 iterate 4 rfl
theorem ao5(a1:Int)(a2:B8)(a3:List (Int×Int×Int×B8))(a4:List (List (Int×B8×B8×B8×List B8×B8)))(i:Int)(t:List B8)(hp:0<=i/\i<(S.len a4:Nat))(hf:Vg.bo J.atU (a1,a2,a3,a4,i,t)):dQ 0 i (List.length a4)/\decide (List.length (List.getD a4 (Int.toNat i) [])=wD t)=S.pn a4 i t:=by
 refine aP ?_;have aEm:Vg.hint a1:=hf.1;have aEn:Vg.hlen a2:=hf.2.1;have axY:Vg.hlen a3:=hf.2.2.1.1;have aEo:Vg.hlen a4:=hf.2.2.2.1.1;have IV:Vg.hint i:=hf.2.2.2.2.1;have Qn:Vg.hlen t:=hf.2.2.2.2.2.1.1;clear hf;with_reducible and_intros
 omega;iterate 2 (grind [S.pn,S.len])
theorem ao6(p1:Int)(p2:B8)(p3:List (Int×Int×Int×B8))(p4:Int)(p5:B8)(p6:List B8)(i:Int)(hp:True)(hf:Vg.bo J.atV (p1,p2,p3,p4,p5,p6,i)):decide (p4=i)=decide (p4=i):=by
 have ax2:Vg.hint p1:=hf.1;have ax3:Vg.hlen p2:=hf.2.1;have ax4:Vg.hlen p3:=hf.2.2.1.1;have ax5:Vg.hint p4:=hf.2.2.2.1;have ax6:Vg.hlen p5:=hf.2.2.2.2.1.1;have ax7:Vg.hlen p6:=hf.2.2.2.2.2.1.1;have IV:Vg.hint i:=hf.2.2.2.2.2.2.1;clear hf;with_reducible rfl
theorem aDB(l:List Int)(s1 s2:Int)(hp:True)(hf:Vg.bo J.atn (l,s1,s2)):(∃(x1:Nat),(0:Int)=x1/\S.afc l s1 s2 x1/\x1<=S.len l)/\(∀(x2:Nat),S.afc l s1 s2 x2/\x2<=S.len l->q90 (decide (x2<q48 l)) 0 x2 (q48 l) (dB (q79 (aeS l x2) s1 (decide (s2<=aeS l x2))) (S.IE l s1 s2) x2 1 (∃(x3:Nat),ae9 x2 x3 (S.afc l s1 s2 x3/\x3<=S.len l) (S.len l))) (true=S.IE l s1 s2)):=by
 refine aP ?_;have nI:Vg.hlen l:=hf.1.1;have Ho:Vg.hint s1:=hf.2.1;have Hp:Vg.hint s2:=hf.2.2.1;clear hf;refine⟨?_,?_⟩
 . refine⟨(nat_lit 0:Nat),?_⟩;try dsimp only
   with_reducible and_intros
   omega;grind [S.afc,S.ajc,S.akY,S.ak2,S.al,S.len];omega
 intro x1 h2;refine⟨?_,?_⟩
 . intro h3;try simp only [dt] at h3
   with_reducible and_intros
   iterate 2 omega
   . intro h4;try simp only [V.xq,dt,tn] at h4
     grind [S.afc,S.ajc,S.akY,S.ak2,S.al,S.len]
   intro h5;try simp only [V.jz,df,tn] at h5
   with_reducible and_intros
   iterate 2 omega
   refine⟨(x1+nat_lit 1),?_⟩;try dsimp only
   with_reducible and_intros
   omega;iterate 3 (grind [S.afc,S.ajc,S.akY,S.ak2,S.al,S.len])
 intro h6;try simp only [df] at h6
 grind [S.afc,S.ajc,S.akY,S.ak2,S.al,S.len]
theorem ao7(p1:Int)(p2:B8)(p3:List (Int×Int×Int×B8))(p4:Int)(p5:B8)(p6:List B8)(i:Int)(hp:S.dz p6/\S.bQ p5)(hf:Vg.bo J.atV (p1,p2,p3,p4,p5,p6,i)):S.bQ p5/\S.dz p6/\ala (mr (S.fc (S.leaf p5) i p1 p6)) (S.mV (S.leaf p5) i p1 p6) p2=S.Df p1 p2 p5 p6 i:=by
 refine aP ?_;have ax2:Vg.hint p1:=hf.1;have ax3:Vg.hlen p2:=hf.2.1;have ax4:Vg.hlen p3:=hf.2.2.1.1;have ax5:Vg.hint p4:=hf.2.2.2.1;have ax6:Vg.hlen p5:=hf.2.2.2.2.1.1;have ax7:Vg.hlen p6:=hf.2.2.2.2.2.1.1;have IV:Vg.hint i:=hf.2.2.2.2.2.2.1;clear hf;with_reducible and_intros
 exact hp.2;exact hp.1;grind [S.Df]
theorem ao8(root:B8)(i:Int)(b:B8)(hp:b.length<1099511627776)(hf:Vg.bo J.ai1 (root,i,b)):q98 (afB root) ([]=(S.gm root i b).1) (1=(S.gm root i b).2) (q36 b) (abF (S.aM b).2) ((S.aM b).2=(S.gm root i b).2) True (abS pP (S.tj (S.aM b).1.1 (S.aM b).1.2.1 (S.aM b).1.2.2.1 root->abS pP (decide ((S.aM b).1.2.2.2.1=i)->(S.dz (S.aM b).1.2.2.2.2.2/\S.bQ (S.aM b).1.2.2.2.2.1)/\pP/\(S.Df (S.aM b).1.1 (S.aM b).1.2.1 (S.aM b).1.2.2.2.2.1 (S.aM b).1.2.2.2.2.2 i->True)))) (eP (abF (bif q38 (S.tj (S.aM b).1.1 (S.aM b).1.2.1 (S.aM b).1.2.2.1 root) (q38 (decide ((S.aM b).1.2.2.2.1=i)) (gD (S.Df (S.aM b).1.1 (S.aM b).1.2.1 (S.aM b).1.2.2.2.2.1 (S.aM b).1.2.2.2.2.2 i) false)) then 0 else 6)) ([]=(S.gm root i b).1) ((bif q38 (S.tj (S.aM b).1.1 (S.aM b).1.2.1 (S.aM b).1.2.2.1 root) (q38 (decide ((S.aM b).1.2.2.2.1=i)) (gD (S.Df (S.aM b).1.1 (S.aM b).1.2.1 (S.aM b).1.2.2.2.2.1 (S.aM b).1.2.2.2.2.2 i) false)) then 0 else 6)=(S.gm root i b).2) ((S.aM b).1.2.2.2.2.1=(S.gm root i b).1) (0=(S.gm root i b).2)):=by
 refine aP ?_;have wF:Vg.hlen root:=hf.1;have IV:Vg.hint i:=hf.2.1;have ko:Vg.hlen b:=hf.2.2.1.1;clear hf;refine⟨?_,?_⟩
 . intro h1;try simp only [nt,df] at h1
   refine⟨?_,?_⟩
   . rw [S.ahT w!]
   rw [S.ahT w!]
 intro h2;try simp only [nf,dt] at h2
 with_reducible and_intros
 omega
 . intro h3;try simp only [nt,df] at h3
   refine⟨?_,?_⟩
   . rw [S.ahU w! w!]
   rw [S.ahU w! w!]
 intro h4;try simp only [nf,dt] at h4
 with_reducible and_intros
 iterate 2 trivial
 rfl
 . intro h5;with_reducible and_intros
   trivial;rfl;intro h6;try simp only [dt] at h6
   with_reducible and_intros
   exact(S.VO hp).1;exact(S.VO hp).2;rfl;intro h7;trivial
 . intro h8;try simp only [nt,df] at h8
   refine⟨?_,?_⟩
   . rw [S.Sn w! w!,S.IF];grind
   rw [S.Sn w! w!,S.IF];grind
 intro h9;try simp only [nf,dt] at h9
 refine⟨?_,?_⟩
 . rw [S.Sn w! w!,S.IF];grind
 rw [S.Sn w! w!,S.IF];grind
theorem ao9(g1 g2 g3:Int)(g4 w:B8)(a1:Int)(a2:B8)(a3:List (Int×Int×Int×B8))(a4:List (List (Int×B8×B8×B8×List B8×B8)))(i j:Int)(xs:List Value)(q:Nat)(l:List Int)(hp:S.Mo w a4 i j/\S.P4 j q xs.length l/\S.rC (g1,g2,g3,g4) w a4 i j=true)(hf:Vg.dL J.į (g1,g2,g3,g4,w,a1,a2,a3,a4,i,j))(hg:Vg.bT.ok J.MG ((),((xs,q),(l,())))):dQ 0 i (List.length a4)/\dQ 0 j (List.length (List.getD a4 (Int.toNat i) []))/\S.Mk w (ajd a4 i j).2.2.2.2.1 (ajd a4 i j).2.2.2.2.2/\acd (abF (Dz a4 g3 g4 i j w).2)/\q64 (akm (abF (Dz a4 g3 g4 i j w).2) (S.IE (Dz a4 g3 g4 i j w).1 g1 g2)) (false=true) (xs=xs/\q=q/\l=S.P5 l (S.wA (g1,g2,g3,g4) w a4 i j).1) (dQ 0 j (Vg.aW.zg xs)) (Int.toNat j<Vg.aW.zg xs) (Int.toNat j=q/\ale l (Dz a4 g3 g4 i j w).1/\dQ 0 j (Vg.aW.zg xs)/\Int.toNat j<Vg.aW.zg xs/\Int.toNat j=q/\pP/\xs=xs/\q=q/\l++(Dz a4 g3 g4 i j w).1=S.P5 l (S.wA (g1,g2,g3,g4) w a4 i j).1):=by
 refine aP ?_;obtain⟨⟨p1,p2,p3⟩,⟨p4,p5,p6⟩,p7⟩:=hp;have p8:(S.wA (g1,g2,g3,g4) w a4 i j).2=0/\S.IE (S.wA (g1,g2,g3,g4) w a4 i j).1 g1 g2=true :=by simpa [S.rC] using p7
 have g1':0<=j/\j<(xs.length:Int):=⟨p2.1,w!⟩;have WL:Int.toNat j<xs.length:=by omega
 have g3':(S.wA (g1,g2,g3,g4) w a4 i j).1.length<=1000:=S.P6 _ _ _ _;have g4':l.length<=1099511627776:=p6;have g5':l.length+(S.wA (g1,g2,g3,g4) w a4 i j).1.length<=17592186044416:=by omega
 refine⟨p1,p2,p3,⟨fun _=>trivial,fun _=>trivial⟩,fun h3=> ?_,fun h4=>⟨g1',WL,p4.symm,g5',g1',WL,p4.symm,rfl,rfl,rfl,rfl⟩⟩;exfalso;change (bif !decide ((S.wA (g1,g2,g3,g4) w a4 i j).2=0) then true else !S.IE (S.wA (g1,g2,g3,g4) w a4 i j).1 g1 g2)=true at h3;rw [H? p8.1,p8.2] at h3;cases h3
theorem apa(g1 g2 g3:Int)(g4 w:B8)(a1:Int)(a2:B8)(a3:List (Int×Int×Int×B8))(a4:List (List (Int×B8×B8×B8×List B8×B8)))(i j:Int)(xs:List Value)(q:Nat)(l:List Int)(hp:S.Mo w a4 i j/\S.P4 j q xs.length l/\S.rC (g1,g2,g3,g4) w a4 i j=false)(hf:Vg.dL J.į (g1,g2,g3,g4,w,a1,a2,a3,a4,i,j))(hg:Vg.bT.ok J.MG ((),((xs,q),(l,())))):dQ 0 i (List.length a4)/\dQ 0 j (List.length (List.getD a4 (Int.toNat i) []))/\S.Mk w (Dy a4 i j).2.2.2.2.1 (Dy a4 i j).2.2.2.2.2/\acd (abF (S.IG g4 g3 w ((Dy a4 i j).1,(Dy a4 i j).2.1,(Dy a4 i j).2.2.1,(Dy a4 i j).2.2.2.1,(Dy a4 i j).2.2.2.2.1,(Dy a4 i j).2.2.2.2.2)).2)/\q64 (akm (abF (S.IG g4 g3 w ((Dy a4 i j).1,(Dy a4 i j).2.1,(Dy a4 i j).2.2.1,(Dy a4 i j).2.2.2.1,(Dy a4 i j).2.2.2.2.1,(Dy a4 i j).2.2.2.2.2)).2) (S.IE (S.IG g4 g3 w ((Dy a4 i j).1,(Dy a4 i j).2.1,(Dy a4 i j).2.2.1,(Dy a4 i j).2.2.2.1,(Dy a4 i j).2.2.2.2.1,(Dy a4 i j).2.2.2.2.2)).1 g1 g2)) (false=false) (xs=xs/\q=q/\l=l) (dQ 0 j (Vg.aW.zg xs)) (Int.toNat j<Vg.aW.zg xs) (Int.toNat j=q/\ale l (S.IG g4 g3 w ((Dy a4 i j).1,(Dy a4 i j).2.1,(Dy a4 i j).2.2.1,(Dy a4 i j).2.2.2.1,(Dy a4 i j).2.2.2.2.1,(Dy a4 i j).2.2.2.2.2)).1/\dQ 0 j (Vg.aW.zg xs)/\Int.toNat j<Vg.aW.zg xs/\Int.toNat j=q/\true=false/\False/\False):=by
 refine aP ?_;obtain⟨⟨p1,p2,p3⟩,⟨p4,p5,p6⟩,p7⟩:=hp;refine⟨p1,p2,p3,⟨fun _=>trivial,fun _=>trivial⟩,fun h3=>⟨rfl,rfl,rfl,rfl⟩,fun h4=> ?_⟩;exfalso;change (bif !decide ((S.wA (g1,g2,g3,g4) w a4 i j).2=0) then true else !S.IE (S.wA (g1,g2,g3,g4) w a4 i j).1 g1 g2)=false at h4;change (decide ((S.wA (g1,g2,g3,g4) w a4 i j).2=0)&&S.IE (S.wA (g1,g2,g3,g4) w a4 i j).1 g1 g2)=false at p7;cases q1:decide ((S.wA (g1,g2,g3,g4) w a4 i j).2=0)<;>cases q2:S.IE (S.wA (g1,g2,g3,g4) w a4 i j).1 g1 g2<;>rw [q1,q2] at h4 p7<;>first|exact absurd p7 (by decide)|exact absurd h4 (by decide)
theorem apb(root:B8)(l:List (Int×B8))(b:B8)(hp:b.length<1099511627776/\S.eR l)(hf:Vg.bo J.ı (root,l,b)):afu (afB root) (S.eR l)/\q98 (akm (afB root) (S.bL l)) ([]=(S.ep root l b).1) (1=(S.ep root l b).2) (q36 b) (abF (M3 b).2) ((M3 b).2=(S.ep root l b).2) (S.small l) (0<=wD (S.aA l)/\wD (S.aA l)<=wD (S.aA l)/\wD (S.aA l)<=ani ((24:Nat):Int)) (abS (∃(x1:Nat),((0:Int)=x1/\ [fun(x2:Vg.Z)=>(True,Vg.AV.bool (S.tj (M3 b).1.1 (M3 b).1.2.1 (M3 b).1.2.2.1 root),x2)]=S.conds 27 3 root (M3 b).1.1 (M3 b).1.2.1 (M3 b).1.2.2.1 (M3 b).1.2.2.2 (S.aA l) x1)/\S.ġ b x1) (∀(x3:Nat),S.ġ b x3->eP (decide ((x3:Int)<List.length (M3 b).1.2.2.1)) (dQ 0 x3 (List.length (M3 b).1.2.2.1)) (q84 (Nat.succ (Vg.aW.len (S.conds 27 3 root (M3 b).1.1 (M3 b).1.2.1 (M3 b).1.2.2.1 (M3 b).1.2.2.2 (S.aA l) x3)))/\(∃(x4:Nat×Nat),((0:Int)=x4.2/\Vg.aW.cat (S.conds 27 3 root (M3 b).1.1 (M3 b).1.2.1 (M3 b).1.2.2.1 (M3 b).1.2.2.2 (S.aA l) x3) [fun(x5:Vg.Z)=>(dQ 0 x3 (S.len (M3 b).1.2.2.2),Vg.AV.bool (S.pn (M3 b).1.2.2.2 x3 (S.aA l)),x5)]=S.mq 27 3 root (M3 b).1.1 (M3 b).1.2.1 (M3 b).1.2.2.1 (M3 b).1.2.2.2 (S.aA l) x4.1 x4.2)/\S.Sv b (S.aA l) x4.1 x4.2/\(x3:Int)=x4.1)/\(∀(x6:Nat×Nat),S.Sv b (S.aA l) x6.1 x6.2/\(x3:Int)=x6.1->VW (decide (x6.2<wD (S.aA l))) (dQ 0 x6.2 (wD (S.aA l))) (q84 (Nat.succ (Vg.aW.len (S.mq 27 3 root (M3 b).1.1 (M3 b).1.2.1 (M3 b).1.2.2.1 (M3 b).1.2.2.2 (S.aA l) x6.1 x6.2)))/\q32 (x6.2+1)/\(∃(x7:Nat×Nat),((x6.2:Int)+1=x7.2/\Vg.aW.cat (S.mq 27 3 root (M3 b).1.1 (M3 b).1.2.1 (M3 b).1.2.2.1 (M3 b).1.2.2.2 (S.aA l) x6.1 x6.2) [S.Aj 27 3 ((Dx b x3).1,(Dx b x3).2.1,(Dx b x3).2.2.1,(Dx b x3).2.2.2) (Dp (S.aA l) x6.2) (M3 b).1.2.2.2 x3 x6.2]=S.mq 27 3 root (M3 b).1.1 (M3 b).1.2.1 (M3 b).1.2.2.1 (M3 b).1.2.2.2 (S.aA l) x7.1 x7.2)/\(S.Sv b (S.aA l) x7.1 x7.2/\(x3:Int)=x7.1)/\q53 (S.len (S.aA l)) x7.2 x6.2)) x3 (∃(x8:Nat),alj x3 x8 (S.mq 27 3 root (M3 b).1.1 (M3 b).1.2.1 (M3 b).1.2.2.1 (M3 b).1.2.2.2 (S.aA l) x6.1 x6.2=S.conds 27 3 root (M3 b).1.1 (M3 b).1.2.1 (M3 b).1.2.2.1 (M3 b).1.2.2.2 (S.aA l) x8) (S.ġ b x8) (S.len (M3 b).1.2.2.1)))) (Vg.aW.Ku (Int.toNat (wD (S.aA l)))=Vg.aW.Ku (Int.toNat (wD (S.aA l)))/\(Hh b l root x3).1) (q64 (abF (bif (Hh b l root x3).2.1 then 0 else 6)) ([]=(S.ep root l b).1) ((bif (Hh b l root x3).2.1 then 0 else 6)=(S.ep root l b).2) (S.eR l) ((S.kZ l (Vg.aW.rows (Hh b l root x3).2.2)).1=(S.ep root l b).1) ((S.kZ l (Vg.aW.rows (Hh b l root x3).2.2)).2=(S.ep root l b).2)))):=by
 refine aP ?_;have wF:Vg.hlen root:=hf.1;have nI:Vg.hlen l:=hf.2.1.1;have ko:Vg.hlen b:=hf.2.2.1.1;clear hf;with_reducible and_intros
 . intro h1;try simp only [nt,df] at h1
   trivial
 . intro h2;try simp only [nf,dt] at h2
   exact hp.2
 . intro h3;try simp only [V.xq,nt,df] at h3
   refine⟨?_,?_⟩
   . exact(S.ĥ (S.ah3 (by assumption))).1
   exact(S.ĥ (S.ah3 (by assumption))).2
 intro h4;try simp only [V.jz,nf,dt] at h4
 with_reducible and_intros
 omega
 . intro h5;try simp only [nt,df] at h5
   refine⟨?_,?_⟩
   . exact(S.Ħ (S.G3 h4) h5).1
   exact(S.Ħ (S.G3 h4) h5).2
 intro h6;try simp only [nf,dt] at h6
 with_reducible and_intros
 exact hp.2.1;iterate 2 omega
 . have :=S.ow h4.2;omega
 trivial
 . refine⟨(nat_lit 0:Nat),?_⟩;try dsimp only
   with_reducible and_intros
   omega;rfl;exact⟨T! _,h6⟩
 intro x7 h8;refine⟨?_,?_⟩
 . intro h9;try simp only [dt] at h9
   with_reducible and_intros
   iterate 2 omega
   . have e:=S.Dl (e0:=27) (ei0:=3) (root:=root) (n:=(S.ba b).1.1) (g:=(S.ba b).1.2.1) (s:=(S.ba b).1.2.2.1) (a:=(S.ba b).1.2.2.2) (t:=S.aA l) x7;have q:=S.Ĥ hp.1 hp.2 h6 h4.2 h8.1;show List.length _+1<=_;omega
   . refine⟨((x7),(nat_lit 0:Nat)),?_⟩;try dsimp only
     with_reducible and_intros
     omega;rfl;exact⟨w!,T! _,h6⟩;omega
   intro DD iR;refine⟨?_,?_⟩
   . intro jH;try simp only [dt] at jH
     with_reducible and_intros
     iterate 2 omega
     . have e:=S.Sx (e0:=27) (ei0:=3) (root:=root) (n:=(S.ba b).1.1) (g:=(S.ba b).1.2.1) (s:=(S.ba b).1.2.2.1) (a:=(S.ba b).1.2.2.2) (t:=S.aA l) DD.1 DD.2;have q:=S.Ĥ hp.1 hp.2 h6 h4.2 (Nat.le_of_lt iR.1.1);have q2:=iR.1.2.1;have q3:=S.ow h4.2;show List.length _+1<=_;omega
     omega
     . have q:=S.ow h4.2;omega
     refine⟨((x7),(Prod.snd DD+nat_lit 1)),?_⟩;try dsimp only
     with_reducible and_intros
     omega
     . have e:x7=DD.1:=by have :=iR.2;omega
       rw [<-e];exact S.Of x7 DD.2
     . have :=iR.1.1;exact⟨w!,w!,h6⟩
     omega;simp only [S.al,S.len];omega
   intro mv;try simp only [df] at mv
   with_reducible and_intros
   omega
   . have q:=S.ģ hp.1 hp.2 h6;omega
   refine⟨(x7+nat_lit 1),?_⟩;try dsimp only
   with_reducible and_intros
   omega
   . have e:x7=DD.1:=by have :=iR.2;omega
     have e2:DD.2=(S.aA l).length:=by have :=iR.1.2.1;omega
     rw [<-e,e2];rfl
   exact⟨w!,h6⟩;simp only [S.al,S.len];omega
 intro rY;try simp only [df] at rY
 with_reducible and_intros
 rfl
 . exact(S.Fx hp.1 hp.2 h6 (by have :=h8.1;omega)).pre
 . intro Hq;try simp only [nt,df,tn] at Hq
   refine⟨?_,?_⟩
   . exact(S.ah4 (S.G3 h4) h6 (S.Fx hp.1 hp.2 h6 (by have :=h8.1;omega)) Hq).1
   exact(S.ah4 (S.G3 h4) h6 (S.Fx hp.1 hp.2 h6 (by have :=h8.1;omega)) Hq).2
 intro DC;try simp only [nf,dt,tn] at DC
 with_reducible and_intros
 exact hp.2
 . rw [S.ħ (S.G3 h4) h6 (S.Fx hp.1 hp.2 h6 (by have :=h8.1;omega)) DC]
 rw [S.ħ (S.G3 h4) h6 (S.Fx hp.1 hp.2 h6 (by have :=h8.1;omega)) DC]
theorem apc(s1:Int)(s2:B8)(s3:List (Int×Int×Int×B8))(s4:Int)(s5:B8)(s6:List (Int×Int×Int×B8))(s7:List B8)(t:B8)(hp:True)(hf:Vg.dL J.aBX (s1,s2,s3,s4,s5,s6,s7))(hg:Vg.bT.ok J.ai2 (t,())):abS (mr (S.ik s4 s5 s6).2=mr (S.ik s4 s5 s6).2) ((S.ik s4 s5 s6).1=(S.ik s4 s5 s6).1):=by
 refine aP ?_;have Ho:Vg.hint s1:=hf.1;have Hp:Vg.hlen s2:=hf.2.1;have M6:Vg.hlen s3:=hf.2.2.1.1;have SJ:Vg.hint s4:=hf.2.2.2.1;have SK:Vg.hlen s5:=hf.2.2.2.2.1;have SL:Vg.hlen s6:=hf.2.2.2.2.2.1.1;have SM:Vg.hlen s7:=hf.2.2.2.2.2.2.1.1;have Qn:Vg.hlen t:=hg.1.1;clear hf hg;with_reducible and_intros
 trivial;iterate 2 rfl
theorem apd(s1:Int)(s2:B8)(s3:List (Int×Int×Int×B8))(s4:Int)(s5:B8)(s6:List (Int×Int×Int×B8))(s7:List B8)(hp:S.dz s7)(hf:Vg.bo J.avh (s1,s2,s3,s4,s5,s6,s7)):S.dz s7/\mr (S.jc s1 s4 s2 s5 s7)=mr (S.jc s1 s4 s2 s5 s7):=by
 refine aP ?_;have Ho:Vg.hint s1:=hf.1;have Hp:Vg.hlen s2:=hf.2.1;have M6:Vg.hlen s3:=hf.2.2.1.1;have SJ:Vg.hint s4:=hf.2.2.2.1;have SK:Vg.hlen s5:=hf.2.2.2.2.1;have SL:Vg.hlen s6:=hf.2.2.2.2.2.1.1;have SM:Vg.hlen s7:=hf.2.2.2.2.2.2.1.1;clear hf;refine⟨?_,?_⟩
 . omega
 with_reducible rfl
theorem ape(root b:B8)(hp:b.length<1099511627776)(hf:Vg.bo J.avp (root,b)):q98 (afB root) ([]=(S.il root b).1) (0=(S.il root b).2.1/\1=(S.il root b).2.2) (q36 b) (abF (S.aC b).2) (0=(S.il root b).2.1/\(S.aC b).2=(S.il root b).2.2) True (abS pP (S.tj (S.aC b).1.1 (S.aC b).1.2.1 (S.aC b).1.2.2.1 root->S.dz (S.aC b).1.2.2.2.2.2.2/\pP/\(M1 b->abS pP (mr (Dw b).2->True)))) (eP (abF (bif q38 (S.tj (S.aC b).1.1 (S.aC b).1.2.1 (S.aC b).1.2.2.1 root) (q38 (M1 b) (gD (mr (Dw b).2) false)) then 0 else 6)) ([]=(S.il root b).1) (0=(S.il root b).2.1/\(bif q38 (S.tj (S.aC b).1.1 (S.aC b).1.2.1 (S.aC b).1.2.2.1 root) (q38 (M1 b) (gD (mr (Dw b).2) false)) then 0 else 6)=(S.il root b).2.2) ((bif S.tj (S.aC b).1.1 (S.aC b).1.2.1 (S.aC b).1.2.2.1 root then bif M1 b then bif mr (Dw b).2 then(Dw b).1 else(Dw b).1 else([]:B8) else([]:B8))=(S.il root b).1) ((S.aC b).1.2.2.2.1=(S.il root b).2.1/\0=(S.il root b).2.2)):=by
 refine aP ?_;have wF:Vg.hlen root:=hf.1;have ko:Vg.hlen b:=hf.2.1.1;clear hf;refine⟨?_,?_⟩
 . intro h1;try simp only [nt,df] at h1
   with_reducible and_intros
   iterate 2 (rw [S.aic h1])
   rw [S.aic h1]
 intro h2;try simp only [nf,dt] at h2
 with_reducible and_intros
 omega
 . intro h3;try simp only [nt,df] at h3
   with_reducible and_intros
   iterate 2 (rw [S.aid h2 h3])
   rw [S.aid h2 h3]
 intro h4;try simp only [nf,dt] at h4
 with_reducible and_intros
 iterate 2 trivial
 rfl
 . intro h5;with_reducible and_intros
   exact S.aie b;rfl;intro h6;try simp only [dt] at h6
   with_reducible and_intros
   trivial;rfl;intro h7;try simp only [dt] at h7
   trivial
 . intro h8;try simp only [nt,df] at h8
   with_reducible and_intros
   iterate 2
    . have e:S.Al root (S.aC b).1=false :=by
       cases q:S.Al root (S.aC b).1 with
       |false=>rfl
       |true=>exact absurd ((S.ĩ _ _ _).trans (R! q)) h8
      rw [S.Mu h2 h4,e];rfl
   have e:S.Al root (S.aC b).1=false :=by
    cases q:S.Al root (S.aC b).1 with
    |false=>rfl
    |true=>exact absurd ((S.ĩ _ _ _).trans (R! q)) h8
   rw [S.Mu h2 h4,e,S.ĩ];exact Q! fun q=>absurd (q.symm.trans e) (by decide)
 intro h9;try simp only [nf,dt] at h9
 with_reducible and_intros
 . have e:S.Al root (S.aC b).1=true :=S.Sy h9;have e2:=S.Sy h9;rw [B!,B!] at e2;rw [S.Mu h2 h4,R! e,e2.1,e2.2.1,e2.2.2];rfl
 . have e:S.Al root (S.aC b).1=true :=S.Sy h9;rw [S.Mu h2 h4,R! e]
 have e:S.Al root (S.aC b).1=true :=S.Sy h9;rw [S.Mu h2 h4,R! e]
theorem aD7(d:Bool)(l:B8)(hp:True)(hf:Vg.dL J.lr ())(hg:Vg.bT.ok J.tq (d,(l,()))):hU d (1=S.Fp (l,d)) ([]=S.Fo (l,d)) (eP (akD 1048576 l) (3=S.Fp (l,d)) ([]=S.Fo (l,d)) (0=S.Fp (l,d)) (l=S.Fo (l,d))):=by
 refine aP ?_;have nI:Vg.hlen l:=hg.2.1.1;clear hf hg;refine⟨?_,?_⟩
 . intro h1;refine⟨?_,?_⟩
   . rw [h1];rfl
   rw [h1];rfl
 intro h2;refine⟨?_,?_⟩
 . intro h3;try simp only [dt] at h3
   refine⟨?_,?_⟩
   . rw [h2];unfold S.Fp;rw [if_neg z!,if_pos h3]
   rw [h2];unfold S.Fo;rw [if_neg z!,if_pos h3]
 intro h4;try simp only [df] at h4
 refine⟨?_,?_⟩
 . rw [h2];unfold S.Fp;rw [if_neg z!,if_neg h4]
 rw [h2];unfold S.Fo;rw [if_neg z!,if_neg h4]
theorem aD8(a1:Int)(a2:B8)(a3:List (Int×Int×Int×B8))(a4:List (List (Int×B8×B8×B8×List B8×B8)))(hp:S.ti a4)(hf:Vg.bo J.aiE (a1,a2,a3,a4)):q63 [1]/\eP (py (List.length a4) (List.length a3)) (1=(S.nG a1 a2 a3 a4).2) ([]=(S.nG a1 a2 a3 a4).1) (∃(x1:Nat),anm 0 x1 false (S.pg a1 a2 a3) (S.eS a1 a2 a3 a4 x1) [1]/\S.mo a3 a4 x1) (∀(x2:Nat),S.mo a3 a4 x2->eP (decide ((x2:Int)<List.length a4)) (dQ 0 x2 (List.length a4)) (q64 (decide ((16:Int)<List.length (List.getD a4 (Int.toNat x2) []))) (1=(S.nG a1 a2 a3 a4).2) ([]=(S.nG a1 a2 a3 a4).1) (q63 (S.bytesOf (S.eS a1 a2 a3 a4 x2))) (∃(x3:Nat×Nat),anm 0 x3.1 (S.lS (S.eS a1 a2 a3 a4 x2)) (S.lp (List.length (List.getD a4 (Int.toNat x2) []))) (S.fq a1 a2 a3 a4 x3.2 x3.1) (S.bytesOf (S.eS a1 a2 a3 a4 x2))/\S.kn a3 a4 x3.2 x3.1/\(x2:Int)=x3.2) (∀(x4:Nat×Nat),S.kn a3 a4 x4.2 x4.1/\(x2:Int)=x4.2->VW (decide ((x4.1:Int)<List.length (List.getD a4 (Int.toNat x2) []))) (dQ 0 x4.1 (List.length (List.getD a4 (Int.toNat x2) []))) ((List.length (S.bytesOf (S.fq a1 a2 a3 a4 x4.2 x4.1))<=8796093022208/\at6 (am3 a4 x2 x4).2.2.2.2.2)/\q32 (x4.1+1)/\(∃(x5:Nat×Nat),anm (x4.1+1) x5.1 (S.lS (S.fq a1 a2 a3 a4 x4.2 x4.1)) (S.jP ((am3 a4 x2 x4).1,(am3 a4 x2 x4).2.1,(am3 a4 x2 x4).2.2.1,(am3 a4 x2 x4).2.2.2.1,(am3 a4 x2 x4).2.2.2.2.1,(am3 a4 x2 x4).2.2.2.2.2)) (S.fq a1 a2 a3 a4 x5.2 x5.1) (S.bytesOf (S.fq a1 a2 a3 a4 x4.2 x4.1))/\(S.kn a3 a4 x5.2 x5.1/\(x2:Int)=x5.2)/\q46 (S.len (S.iO a4 x5.2)) x5.1 (S.al (S.len (S.iO a4 x4.2)) x4.1))) x2 (∃(x6:Nat),((x2:Int)+1=x6/\S.lS (S.fq a1 a2 a3 a4 x4.2 x4.1)=S.lS (S.eS a1 a2 a3 a4 x6)/\S.bytesOf (S.fq a1 a2 a3 a4 x4.2 x4.1)=S.bytesOf (S.eS a1 a2 a3 a4 x6))/\S.mo a3 a4 x6/\q53 (S.len a4) x6 x2))) True (S.Fp (S.bytesOf (S.eS a1 a2 a3 a4 x2),S.lS (S.eS a1 a2 a3 a4 x2))=(S.nG a1 a2 a3 a4).2/\S.Fo (S.bytesOf (S.eS a1 a2 a3 a4 x2),S.lS (S.eS a1 a2 a3 a4 x2))=(S.nG a1 a2 a3 a4).1)):=by
 refine aP ?_;have aEm:Vg.hint a1:=hf.1;have aEn:Vg.hlen a2:=hf.2.1;have axY:Vg.hlen a3:=hf.2.2.1.1;have aEo:Vg.hlen a4:=hf.2.2.2.1.1;clear hf;with_reducible and_intros
 decide
 . intro h1;try simp only [nt,df] at h1
   refine⟨?_,?_⟩
   . rw [S.avy h1]
   rw [S.avy h1]
 intro h2;try simp only [nf,dt] at h2
 refine⟨?_,?_⟩
 . refine⟨(nat_lit 0:Nat),?_⟩;try dsimp only
   with_reducible and_intros
   omega;iterate 2 rfl
   exact S.aBt hp h2
 intro x3 h4;refine⟨?_,?_⟩
 . intro h5;try simp only [dt] at h5
   with_reducible and_intros
   iterate 2 omega
   . intro h6;try simp only [dt,tn] at h6
     refine⟨?_,?_⟩
     . rw [S.Đ h5 h6]
     rw [S.Đ h5 h6]
   intro h7;try simp only [df,tn] at h7
   with_reducible and_intros
   exact h? (S.Ē (n:=a1) (g:=a2) h4) (by decide)
   . refine⟨((nat_lit 0:Nat),(x3)),?_⟩;try dsimp only
     with_reducible and_intros
     omega
     iterate 2
      . rw [tn,S.Sk w!];rfl
     exact S.avx h4 h5 h7;with_reducible rfl
   intro x8 h9;refine⟨?_,?_⟩
   . intro e6;try simp only [dt,tn] at e6
     with_reducible and_intros
     omega;assumption;exact h? (S.ahx (n:=a1) (g:=a2) h9.1) (by decide)
     . obtain⟨q,e⟩:=h9;have e':x8.2=x3:=by omega
       rw [e'] at q;rw [tn,tn];exact S.ahw q e6
     iterate 2 omega
     refine⟨((Prod.fst x8+nat_lit 1),(x3)),?_⟩;try dsimp only
     with_reducible and_intros
     omega
     . obtain⟨q,e⟩:=h9;have e':x8.2=x3:=by omega
       rw [e',tn,tn];exact(S.as3 _ rfl _ _ rfl rfl).1
     . obtain⟨q,e⟩:=h9;have e':x8.2=x3:=by omega
       rw [e',tn,tn];exact(S.as3 _ rfl _ _ rfl rfl).2
     . obtain⟨q,e⟩:=h9;have e':x8.2=x3:=by omega
       rw [e'] at q;exact S.ahv q e6
     with_reducible rfl
     obtain⟨q,e⟩:=h9;have e':x8.2=x3:=by omega
     rw [e'];have hh:(x8.1:Int)<((S.iO a4 x3).length:Int):=e6;simp only [S.al,S.len];omega
   intro iR;try simp only [df,tn] at iR
   with_reducible and_intros
   iterate 2 omega
   refine⟨(x3+nat_lit 1),?_⟩;try dsimp only
   with_reducible and_intros
   omega
   iterate 2
    . obtain⟨q,e⟩:=h9;have e':x8.2=x3:=by omega
      rw [e'] at q |-;rw [(S.ď (n:=a1) (g:=a2) q iR).2]
   . obtain⟨q,e⟩:=h9;have e':x8.2=x3:=by omega
     rw [e'] at q;exact(S.ď (n:=a1) (g:=a2) q iR).1
   simp only [S.al,S.len];omega
 intro jH;try simp only [df] at jH
 with_reducible and_intros
 trivial
 . rw [S.đ h4 jH];rfl
 rw [S.đ h4 jH];rfl
theorem aD9(y1:List B8)(y2:List (Int×Int×List (B8×List Int)))(l:List (Int×B8))(hp:S.eR l)(hf:Vg.bo J.aiK (y1,y2,l)):fw (eP (abF (S.iK y1 y2).2) (7=(S.gx y1 y2 l).2) ([]=(S.gx y1 y2 l).1) (S.eR l) (q64 (Bool.not (S.bL l)) (1=(S.gx y1 y2 l).2) ([]=(S.gx y1 y2 l).1) (S.small l) (∃(x1:Nat),((0:Int)=x1/\(S.iK y1 y2).2=0/\S.aA l=S.aA l/\(S.iK y1 y2).1.1=S.len y1/\(S.iK y1 y2).1.2.1=vA y1/\(S.iK y1 y2).1.2.2=S.cL y1 y2/\ []=S.lD y2 (S.aA l) x1)/\S.gP y2 x1/\S.gC y1 y2/\S.bL l) (∀(x2:Nat),S.gP y2 x2/\S.gC y1 y2/\S.bL l->q90 (decide ((x2:Int)<List.length y2)) 0 x2 (List.length y2) ((S.Mf (List.getD y2 (Int.toNat x2) (0,0,[])).2.2 (S.aA l)/\(0:Int)=0)/\MH (List.length (S.lD y2 (S.aA l) x2)+List.length [S.Od (List.getD y2 (Int.toNat x2) (0,0,[])).2.2 (S.aA l)])/\abK x2 (∃(x3:Nat),((x2:Int)+1=x3/\ai5/\S.aA l=S.aA l/\(S.len y1:Int)=S.len y1/\vA y1=vA y1/\S.cL y1 y2=S.cL y1 y2/\S.lD y2 (S.aA l) x2++ [S.Od (List.getD y2 (Int.toNat x2) (0,0,[])).2.2 (S.aA l)]=S.lD y2 (S.aA l) x3)/\(S.gP y2 x3/\S.gC y1 y2/\S.bL l)/\q53 (S.len y2) x3 x2)) (eP (ak5 0) (0=(S.gx y1 y2 l).2) ([]=(S.gx y1 y2 l).1) (S.ti (S.lD y2 (S.aA l) x2)) ((S.nG (S.len y1) (vA y1) (S.cL y1 y2) (S.lD y2 (S.aA l) x2)).2=(S.gx y1 y2 l).2/\(S.nG (S.len y1) (vA y1) (S.cL y1 y2) (S.lD y2 (S.aA l) x2)).1=(S.gx y1 y2 l).1))))):=by
 refine aP ?_;have axX:Vg.hlen y1:=hf.1.1;have YF:Vg.hlen y2:=hf.2.1.1;have nI:Vg.hlen l:=hf.2.2.1.1;clear hf;with_reducible and_intros
 trivial
 . intro h1;try simp only [nt,df] at h1
   refine⟨?_,?_⟩
   . rw [S.avK h1]
   rw [S.avK h1]
 intro h2;try simp only [nf,dt] at h2
 with_reducible and_intros
 omega
 . intro h3;try simp only [nt] at h3
   refine⟨?_,?_⟩
   . rw [S.amV h2 h3]
   rw [S.amV h2 h3]
 intro h4;try simp only [nf] at h4
 with_reducible and_intros
 exact hp.1
 . refine⟨(nat_lit 0:Nat),?_⟩;try dsimp only
   with_reducible and_intros
   iterate 2 omega
   rfl;exact(S.Fq h2).2.1;exact(S.Fq h2).2.2.1;exact(S.Fq h2).2.2.2;exact S.aFX y2 _;exact T! _;exact(S.Fq h2).1;omega
 intro x5 h6;refine⟨?_,?_⟩
 . intro h7;try simp only [dt] at h7
   with_reducible and_intros
   iterate 2 omega
   exact S.amU h6.2.1 h6.2.2 h7;rfl
   . have :=S.amS y2 (S.aA l) x5;have :=S.PZ h6.2.1;rw [W!];omega
   iterate 2 omega
   refine⟨(x5+nat_lit 1),?_⟩;try dsimp only
   with_reducible and_intros
   omega;iterate 5 rfl
   exact S.ahO h7
   . unfold S.gP;omega
   exact h6.2.1;omega;simp only [S.al,S.len];omega
 intro h8;try simp only [df] at h8
 refine⟨?_,?_⟩
 . intro h9;try simp only [nt,df] at h9
   refine⟨?_,?_⟩
   . grind
   grind
 intro e6;try simp only [nf,dt] at e6
 with_reducible and_intros
 exact(S.amW h6.2.1 h6.2.2 h6.1 h8).2;rw [(S.amW h6.2.1 h6.2.2 h6.1 h8).1];rw [(S.amW h6.2.1 h6.2.2 h6.1 h8).1]
theorem aEa(root b:B8)(hp:True)(hf:Vg.bo J.avp (root,b)):q79 200 (q26 root) (akD 20000 b)=S.G4 root b:=by
 refine aP ?_;have wF:Vg.hlen root:=hf.1;have ko:Vg.hlen b:=hf.2.1.1;clear hf;rfl
theorem aEb(hp:True)(hf:Vg.bo J.q1p ()):0<List.length ([104,97,121]:B8)/\abS (0<List.length ([119,97,105,110,32,104,97,121]:B8)) (fw (fw (abS (0<List.length ([104,97,121]:B8)) ([104,97,121]=S.xK/\S.eR S.eO/\(ak7 (List.length (aiu 97 32))/\S.eR S.eO)/\fO (mr (q26 (aiu 97 32))) (false=true) (q32 (q26 (aiu 97 32)-1)/\(0<=aub/\q26 (aiu 97 32)-1<q26 (aiu 97 32))/\auq/\(0<=aub/\q26 (aiu 97 32)-1<q26 (aiu 97 32))/\auq/\(∀(x1:B8),x1=List.set (aiu 97 32) (Int.toNat aub) (rX ((VV (aiu 97 32) aub 0+1)%256))->(ak7 (List.length x1)/\S.eR S.eO)/\fw (q38 (S.q9 aur.1 [0,1]) (q38 (mr aur.2) (abF (S.ep (S.lC (MK 97 32).1 (MK 97 32).2).1 S.eO x1).2))=true))))))):=by
 refine aP ?_;clear hf;with_reducible and_intros
 decide;trivial;decide;iterate 3 trivial
 decide;exact rfl;exact S.ahP
 . rw [S.Mv];exact S.JL.1
 exact S.ahP
 . intro h1;try simp only [dt] at h1
   rw [S.Mv] at h1;have :=S.JL.2;omega
 intro h2;try simp only [df] at h2
 with_reducible and_intros
 iterate 8
  . rw [S.Mv];have :=S.JL;omega
 intro x3 h4;with_reducible and_intros
 . rw [S.Mv] at h4;exact(S.ata h4).1
 exact S.ahP;trivial;rw [S.Mv] at h4 |-;exact S.ang (S.ata h4).2
theorem aEc(root other:B8)(l:List (Int×B8))(i:Int)(b:B8)(hp:True)(hf:Vg.bo J.avO (root,other,l,i,b)):abS (afu (S.G4 root b) (acd (akD 200 other))) (q64 (gD (S.G4 root b) (gD (akD 200 other) (gD (S.nO l) (decide (root=other))))) True pP (aeR q70 b) (ak7 (afQ b)/\S.eR l) (aeR q70 b/\(ak7 (afQ b)/\S.eR l)/\aeR q70 b/\ak7 (afQ b)/\aeR q70 b/\ak7 (afQ b)/\aeR q70 b/\ak7 (afQ b)/\aeR q70 b/\ak7 (afQ b)/\aeR q70 b/\wC (afQ b)/\aeR q70 b/\wC (afQ b)/\aeR q70 b/\wC (afQ b)/\fO (bif abF (S.ba ([]++b)).2 then gD (mr (S.ep root l ([]++b)).2) (gD (mr (S.ep other l ([]++b)).2) (bif abF (S.aM ([]++b)).2 then gD (mr (S.gm root i ([]++b)).2) (gD (mr (S.gm other i ([]++b)).2) (afP b other root)) else afP b other root)) else bif abF (S.aM ([]++b)).2 then gD (mr (S.gm root i ([]++b)).2) (gD (mr (S.gm other i ([]++b)).2) (afP b other root)) else afP b other root) (false=true) (fO (Bool.not (mr (S.ep root l ([]++b)).2)) (fO (Bool.not (mr (S.gm root i ([]++b)).2)) (afu (Bool.not (ar8 b root)) (acd (Bool.not (akE b other)))) (fO (Bool.not (mr (S.gm other i ([]++b)).2)) (afu (Bool.not (ar8 b root)) (acd (Bool.not (akE b other)))) True)) (fO (Bool.not (mr (S.ep other l ([]++b)).2)) (fO (Bool.not (mr (S.gm root i ([]++b)).2)) (afu (Bool.not (ar8 b root)) (acd (Bool.not (akE b other)))) (fO (Bool.not (mr (S.gm other i ([]++b)).2)) (afu (Bool.not (ar8 b root)) (acd (Bool.not (akE b other)))) True)) True)/\(bif Bool.not (mr (S.ep root l ([]++b)).2) then bif Bool.not (mr (S.gm root i ([]++b)).2) then gD (Bool.not (ar8 b root)) (gD (Bool.not (akE b other)) false) else q38 (Bool.not (mr (S.gm other i ([]++b)).2)) (gD (Bool.not (ar8 b root)) (gD (Bool.not (akE b other)) false)) else q38 (Bool.not (mr (S.ep other l ([]++b)).2)) (bif Bool.not (mr (S.gm root i ([]++b)).2) then gD (Bool.not (ar8 b root)) (gD (Bool.not (akE b other)) false) else q38 (Bool.not (mr (S.gm other i ([]++b)).2)) (gD (Bool.not (ar8 b root)) (gD (Bool.not (akE b other)) false))))))):=by
 refine aP ?_;have wF:Vg.hlen root:=hf.1;have azQ:Vg.hlen other:=hf.2.1;have nI:Vg.hlen l:=hf.2.2.1.1;have IV:Vg.hint i:=hf.2.2.2.1;have ko:Vg.hlen b:=hf.2.2.2.2.1.1;clear hf;with_reducible and_intros
 trivial
 . intro h1;trivial
 . intro h2;refine⟨?_,?_⟩
   . intro h3;try simp only [dt] at h3
     trivial
   intro h4;try simp only [df] at h4
   trivial
 . intro h5;try simp only [V.xq,dt] at h5
   refine⟨?_,?_⟩
   . trivial
   rfl
 intro h6;try simp only [V.jz,df] at h6
 with_reducible and_intros
 . have :=S.pM h6.1;simp [Vg.me];omega
 . have :=S.pM h6.1;simp;omega
 exact S.ahs h6.2.2.1
 . have :=S.pM h6.1;simp [Vg.me];omega
 . have :=S.pM h6.1;simp;omega
 exact S.ahs h6.2.2.1
 . have :=S.pM h6.1;simp [Vg.me];omega
 . have :=S.pM h6.1;simp;omega
 . have :=S.pM h6.1;simp [Vg.me];omega
 . have :=S.pM h6.1;simp;omega
 . have :=S.pM h6.1;simp [Vg.me];omega
 . have :=S.pM h6.1;simp;omega
 . have :=S.pM h6.1;simp [Vg.me];omega
 . have :=S.pM h6.1;simp;omega
 . have :=S.pM h6.1;simp [Vg.me];omega
 . have :=S.pM h6.1;simp;omega
 . have :=S.pM h6.1;simp [Vg.me];omega
 . have :=S.pM h6.1;simp;omega
 . have :=S.pM h6.1;simp [Vg.me];omega
 . have :=S.pM h6.1;simp;omega
 . intro h7;exfalso;simp only [d?] at h7
   by_cases p:(S.ba b).2=0<;>by_cases q:(S.aM b).2=0<;>by_cases s:(S.aC b).2=0<;>simp_all [S.avT,S.avU,S.avV]
 intro h8;with_reducible and_intros
 . intro h9;try simp only [nt,df] at h9
   refine⟨?_,?_⟩
   . intro e6;try simp only [nt,df] at e6
     refine⟨?_,?_⟩
     . intro iR;try simp only [nt,df] at iR
       trivial
     intro jH;try simp only [nf,dt] at jH
     refine⟨?_,?_⟩
     . intro mv;try simp only [nt,df] at mv
       trivial
     intro rY;try simp only [nf,dt] at rY
     trivial
   intro Hq;try simp only [nf,dt] at Hq
   refine⟨?_,?_⟩
   . intro DC;try simp only [nt,df] at DC
     refine⟨?_,?_⟩
     . intro VY;try simp only [nt,df] at VY
       trivial
     intro h18;try simp only [nf,dt] at h18
     refine⟨?_,?_⟩
     . intro h19;try simp only [nt,df] at h19
       trivial
     intro h20;try simp only [nf,dt] at h20
     trivial
   intro vC;try simp only [nf,dt] at vC
   trivial
 . intro h22;try simp only [nf,dt] at h22
   refine⟨?_,?_⟩
   . intro h23;try simp only [nt,df] at h23
     refine⟨?_,?_⟩
     . intro WC;try simp only [nt,df] at WC
       refine⟨?_,?_⟩
       . intro h25;try simp only [nt,df] at h25
         trivial
       intro h26;try simp only [nf,dt] at h26
       refine⟨?_,?_⟩
       . intro h27;try simp only [nt,df] at h27
         trivial
       intro h28;try simp only [nf,dt] at h28
       trivial
     intro h29;try simp only [nf,dt] at h29
     refine⟨?_,?_⟩
     . intro h30;try simp only [nt,df] at h30
       refine⟨?_,?_⟩
       . intro h31;try simp only [nt,df] at h31
         trivial
       intro h32;try simp only [nf,dt] at h32
       refine⟨?_,?_⟩
       . intro h33;try simp only [nt,df] at h33
         trivial
       intro h34;try simp only [nf,dt] at h34
       trivial
     intro vD;try simp only [nf,dt] at vD
     trivial
   intro h36;try simp only [nf,dt] at h36
   trivial
 simp only [d?];have hn:=h6.2.2.2;have k1:¬((S.ep root l b).2=0/\(S.ep other l b).2=0):=fun h=>hn (S.aih h.1 h.2);have k2:¬((S.gm root i b).2=0/\(S.gm other i b).2=0):=fun h=>hn (S.aij h.1 h.2);have k3:¬((S.il root b).2.2=0/\(S.il other b).2.2=0):=fun h=>hn (S.ail h.1 h.2);clear h8 h6 hn;by_cases c1:(S.ep root l b).2=0<;>by_cases c2:(S.ep other l b).2=0<;>by_cases c3:(S.gm root i b).2=0<;>by_cases c4:(S.gm other i b).2=0<;>by_cases c5:(S.il root b).2.2=0<;>by_cases c6:(S.il other b).2.2=0<;>simp_all
end Go

end
