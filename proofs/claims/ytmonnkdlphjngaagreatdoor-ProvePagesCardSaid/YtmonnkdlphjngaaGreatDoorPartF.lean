import Derived.Test.YtmonnkdlphjngaaGreatDoorPartE
import Derived.Shelf.SlicesG.Clone
import Derived.Shelf.SlSortCmp.NoneTotal
import Derived.Shelf.SortM.Plain
import Derived.Shelf.SortM.SortNone
import Derived.Shelf.SlicesG.ReverseS
import Derived.Shelf.SlIter.Nil
import Derived.Test.YtmonnkdlphjngaaGreatDoorProg
import Derived.Lib.Small
import Derived.Lib.Walk
import Derived.Sort.Walk0
import Derived.Laws.Cover1
set_option linter.unusedVariables false
set_option linter.unusedSimpArgs false
section
set_option linter.unusedVariables false
namespace Go
theorem df {p:Prop} [Decidable p]:decide p=false↔¬p:=e?
theorem dt {p:Prop} [Decidable p]:(decide p=true)=p:=I!
theorem lc {α:Type} {a:α} {l:List α}:(a::l).length=l.length+1:=D?
theorem ln {α:Type}:([]:List α).length=0:=x?
theorem tn(n:Nat):(n:Int).toNat=n:=Q! n
theorem nf {b:Bool}:((!b)=false)=(b=true):=Bool.not_eq_false' b
theorem nt {b:Bool}:((!b)=true)=(b=false):=L? b
theorem aIi(hp:True)(hf:Vg.kO J.q0p ()):ayg:=by
 unfold ayg;clear hf;rfl
theorem aIj(x:Int)(n:Int)(hp:S.ej n)(hf:Vg.kO J.q1p (x,n)):ayh x n:=by
 delta ayh ay z0;have aIk:0<=x/\x<=4294967295:=hf.1;have zk:Vg.hint n:=hf.2.1;clear hf;with_reducible and_intros
 iterate 6
  . simp only [S.ej] at hp;omega
 rfl
theorem aIl(b:List UInt8)(hp:b.length=64)(hf:Vg.kO J.n4 b):ayi b:=by
 delta ayi q0 q1 q2 q3 q4 q5 ay z0 z1 al;have dV:Vg.hlen b:=hf.1.1;clear hf;refine⟨?_,?_⟩
 . refine⟨0,?_⟩;try dsimp only
   with_reducible and_intros
   omega;rfl;simp only [S.abp,S.bN,S.ag,lc,ln] at *;omega
 intro x1 h2;refine⟨?_,?_⟩
 . intro h3;try simp only [dt] at h3
   with_reducible and_intros
   iterate 14 omega
   . simp only [S.abp,S.bN,S.ag,lc,ln] at *;omega
   iterate 2 omega
   refine⟨(x1+1),?_⟩;try dsimp only
   with_reducible and_intros
   omega;exact S.abO b x1 (by omega)
   . simp only [S.abp,S.bN,S.ag,lc,ln] at *;omega
   simp only [S.abp,S.bN,S.ag,lc,ln] at *;omega
 intro h4;try simp only [df] at h4
 refine⟨?_,?_⟩
 . refine⟨(nat_lit 16:Nat),?_⟩;try dsimp only
   with_reducible and_intros
   omega
   . rw [show x1=16 by(simp only [S.bN] at *;omega)]
   iterate 2 omega
 intro x5 h6;refine⟨?_,?_⟩
 . intro h7;try simp only [dt] at h7
   with_reducible and_intros
   iterate 3 omega
   iterate 2
    . simp only [S.abp,S.bN,S.ag,lc,ln] at *;omega
   . simp only [S.ej];omega
   iterate 3 omega
   iterate 2
    . simp only [S.abp,S.bN,S.ag,lc,ln] at *;omega
   . simp only [S.ej];omega
   iterate 3 omega
   iterate 2
    . simp only [S.abp,S.bN,S.ag,lc,ln] at *;omega
   iterate 5 omega
   iterate 2
    . simp only [S.abp,S.bN,S.ag,lc,ln] at *;omega
   . simp only [S.ej];omega
   iterate 3 omega
   iterate 2
    . simp only [S.abp,S.bN,S.ag,lc,ln] at *;omega
   . simp only [S.ej];omega
   iterate 3 omega
   iterate 2
    . simp only [S.abp,S.bN,S.ag,lc,ln] at *;omega
   iterate 5 omega
   iterate 2
    . simp only [S.abp,S.bN,S.ag,lc,ln] at *;omega
   iterate 3 omega
   iterate 3
    . simp only [S.abp,S.bN,S.ag,lc,ln] at *;omega
   iterate 2 omega
   refine⟨(x5+nat_lit 1),?_⟩;try dsimp only
   with_reducible and_intros
   omega;exact S.abP b x5 (by omega);iterate 2 omega
   simp only [S.abp,S.bN,S.ag,lc,ln] at *;omega
 intro h8;try simp only [df] at h8
 rw [show x5=64 by omega]
theorem aIm(l:List Int)(p:List UInt8)(hp:S.GF l p)(hf:Vg.kO J.q3p (l,p)):ayj l p:=by
 delta ayj q6 q7 q8 q9 ay z0 z1 al;have eX:Vg.hlen l:=hf.1.1;have RP:Vg.hlen p:=hf.2.1.1;clear hf;obtain⟨hp1,Ey,hp3⟩:=hp;have Kf:=S.an7 hp1;with_reducible and_intros
 with_reducible assumption
 trivial;iterate 16 omega
 . refine⟨(nat_lit 0:Nat),?_⟩;try dsimp only
   with_reducible and_intros
   omega;iterate 8 rfl
   simp only [S.abp,S.bN,S.ag] at *;omega
 intro x1 h2;refine⟨?_,?_⟩
 . intro h3;try simp only [dt] at h3
   with_reducible and_intros
   iterate 3
    . simp only [S.ej];omega
   omega
   iterate 2
    . rw [<-S.CE];simp only [S.bN] at *;omega
   omega
   iterate 2
    . simp only [S.abp,S.bN,S.ag] at *;omega
   iterate 3
    . simp only [S.ej];omega
   iterate 2 omega
   refine⟨(x1+nat_lit 1),?_⟩;try dsimp only
   with_reducible and_intros
   omega
   . have hk:=S.wQ (S.sched p 64) (S.sY l) Kf x1;have hx:=S.xor_not (hk (S.eA (S.sched p 64) (S.sY l) x1).2.2.2.2.1 (by simp [S.ek]));simp only [S.eA,hx,tn];rfl
   iterate 3 rfl
   . have hk:=S.wQ (S.sched p 64) (S.sY l) Kf x1;have hx:=S.xor_not (hk (S.eA (S.sched p 64) (S.sY l) x1).2.2.2.2.1 (by simp [S.ek]));simp only [S.eA,hx,tn];rfl
   iterate 3 rfl
   . simp only [S.abp,S.bN,S.ag] at *;omega
   simp only [S.abp,S.bN,S.ag] at *;omega
 intro h4;try simp only [df] at h4
 with_reducible and_intros
 iterate 16 omega
 simp only [S.bN] at h2;rw [show x1=64 by omega];simp only [S.block,S.Qj,S.ek,S.sY,show Int.toNat 0=0 by rfl,show Int.toNat 1=1 by rfl,show Int.toNat 2=2 by rfl,show Int.toNat 3=3 by rfl,show Int.toNat 4=4 by rfl,show Int.toNat 5=5 by rfl,show Int.toNat 6=6 by rfl,show Int.toNat 7=7 by rfl]
theorem aIn(b:List UInt8)(hp:S.small b)(hf:Vg.kO J.n4 b):ayk b:=by
 delta ayk ay bH z0 z1 al;have dV:Vg.hlen b:=hf.1.1;clear hf;simp only [S.small] at hp;with_reducible and_intros
 iterate 2
  . simp only [S.cC,S.cr,S.fc,S.bN,S.ag,S.len,lc,ln,C!] at *;omega
 . refine⟨0,?_⟩;try dsimp only
   refine⟨?_,?_⟩
   . exact S.Qn _
   simp only [S.cC,S.cr,S.fc,S.bN,S.ag,S.len,lc,ln,C!] at *;omega
 intro x1 h2;with_reducible and_intros
 iterate 2 omega
 . intro h3;try simp only [nt,df] at h3
   refine⟨?_,?_⟩
   . simp only [S.cC,S.cr,S.fc,S.bN,S.ag,S.len,lc,ln,C!] at *;omega
   refine⟨(x1+1),?_⟩;try dsimp only
   with_reducible and_intros
   exact S.DJ _ _;exact S.GI h2 h3;simp only [S.cC,S.cr,S.fc,S.bN,S.ag,S.len,lc,ln,C!] at *;omega
 intro h4;try simp only [nf,dt] at h4
 refine⟨?_,?_⟩
 . refine⟨(nat_lit 0:Nat),?_⟩;try dsimp only
   with_reducible and_intros
   omega;exact S.abQ b hp;rfl;simp only [S.cC,S.cr,S.fc,S.bN,S.ag,S.len,lc,ln,C!] at *;omega
 intro x5 h6;refine⟨?_,?_⟩
 . intro h7;try simp only [dt] at h7
   with_reducible and_intros
   omega
   . have hx:x5<=8:=by(simp only [S.bN] at *;omega)
     simp only [S.Bt _ _ hx,S.cC,S.cr,lc,ln] at *;have :=S.GH b.length;omega
   iterate 3 omega
   refine⟨(x5+nat_lit 1),?_⟩;try dsimp only
   with_reducible and_intros
   omega;exact S.NZ b x5;exact S.Kk b x5 (by omega)
   . simp only [S.cC,S.cr,S.fc,S.bN,S.ag,S.len,lc,ln,C!] at *;omega
   simp only [S.cC,S.cr,S.fc,S.bN,S.ag,S.len,lc,ln,C!] at *;omega
 intro h8;try simp only [df] at h8
 refine⟨?_,?_⟩
 . have hx:x5<=8:=by(simp only [S.bN] at *;omega)
   simp only [S.Bt _ _ hx,S.cC,S.cr,lc,ln] at *;have :=S.GH b.length;omega
 rw [S.KQ h2 h4,show x5=8 by(simp only [S.bN] at *;omega),S.Te];rfl
theorem aIo(b:List UInt8)(hp:S.small b)(hf:Vg.kO J.n4 b):ayl b:=by
 delta ayl Ez C8 q12 q13 q14 q15 HT q17 q18 q19 ay bH z0 z1;have dV:Vg.hlen b:=hf.1.1;clear hf;have hsm:=hp;simp only [S.small] at hp;have ht:=S.aep b (S.lr b);have ht2:=S.KR b (S.lr b);have ht3:=S.GH b.length;with_reducible and_intros
 exact hsm
 . refine⟨0,?_⟩;try dsimp only
   with_reducible and_intros
   omega;rfl;omega
 intro x1 h2;refine⟨?_,?_⟩
 . intro h3;try simp only [dt] at h3
   with_reducible and_intros
   iterate 5 omega
   . exact⟨S.GG _ _ S.Tc _,rfl,by rw [S.aeq,X!,V!];omega⟩
   iterate 2 omega
   refine⟨(x1+1),?_⟩;try dsimp only
   with_reducible and_intros
   omega
   . rw [S.aeq];rfl
   omega;simp only [S.bN,S.ag] at *;omega
 intro h4;try simp only [df] at h4
 refine⟨?_,?_⟩
 . refine⟨(nat_lit 0:Nat),?_⟩;try dsimp only
   with_reducible and_intros
   omega;rfl;simp only [S.bN,S.ag] at *;omega
 intro x5 h6;refine⟨?_,?_⟩
 . intro h7;try simp only [dt] at h7
   with_reducible and_intros
   omega
   iterate 2
    . simp only [S.ek,lc,ln];omega
   iterate 2 omega
   iterate 2
    . simp only [S.ek,lc,ln];omega
   iterate 3 omega
   iterate 2
    . simp only [S.ek,lc,ln];omega
   iterate 3 omega
   iterate 2
    . simp only [S.ek,lc,ln];omega
   omega
   . rw [S.CG _ _ (by simp only [S.bN] at *;omega)];simp;omega
   iterate 2 omega
   refine⟨(x5+nat_lit 1),?_⟩;try dsimp only
   with_reducible and_intros
   omega
   . rw [show x1=S.blocks (S.tail b (S.lr b)) by omega];exact S.an8 _ x5 (by omega)
   . simp only [S.bN,S.ag] at *;omega
   simp only [S.bN,S.ag] at *;omega
 intro h8;try simp only [df] at h8
 rw [show x5=8 by(simp only [S.bN] at *;omega)];rfl
theorem aIp(x:Int)(k:Int)(hp:S.hU x k)(hf:Vg.kO J.q1p (x,k)):aym x k:=by
 delta aym q20 q21 z0;have aIk:0<=x/\x<=4294967295:=hf.1;have aLo:Vg.hint k:=hf.2.1;clear hf;have hb:=S.an4 hp;have Ey:=hp;simp only [S.hU] at Ey;with_reducible and_intros
 iterate 4 omega
 exact S.an3 hp
theorem aIq(hp:True)(hf:Vg.kO J.q0p ()):ayn:=by
 delta ayn z0;clear hf;with_reducible and_intros
 iterate 9 rfl
theorem aIr(s1:Int)(s2:Int)(s3:Int)(s4:Int)(s5:Int)(s6:Int)(s7:Int)(s8:Int)(s9:List UInt8)(aQ:Int)(hp:True)(hf:Vg.kO J.q4p (s1,s2,s3,s4,s5,s6,s7,s8,s9,aQ)):ayo s1 s2 s3 s4 s5 s6 s7 s8 s9 aQ:=by
 delta ayo z0 al;have mr:0<=s1/\s1<=4294967295:=hf.1;have mu:0<=s2/\s2<=4294967295:=hf.2.1;have Ap:0<=s3/\s3<=4294967295:=hf.2.2.1;have Us:0<=s4/\s4<=4294967295:=hf.2.2.2.1;have ah7:0<=s5/\s5<=4294967295:=hf.2.2.2.2.1;have ah8:0<=s6/\s6<=4294967295:=hf.2.2.2.2.2.1;have ah9:0<=s7/\s7<=4294967295:=hf.2.2.2.2.2.2.1;have aia:0<=s8/\s8<=4294967295:=hf.2.2.2.2.2.2.2.1;have aib:Vg.hlen s9:=hf.2.2.2.2.2.2.2.2.1.1;have XW:Vg.hint aQ:=hf.2.2.2.2.2.2.2.2.2.1;clear hf;with_reducible and_intros
 . intro h1;try simp only [dt] at h1
   refine⟨?_,?_⟩
   . intro h2;try simp only [dt] at h2
     refine⟨?_,?_⟩
     . omega
     omega
   intro h3;try simp only [df] at h3
   trivial
 . intro h4;try simp only [df] at h4
   trivial
 simp only [S.bo];grind
theorem aIs(u1:Int)(u2:Int)(u3:Int)(u4:Int)(u5:Int)(u6:Int)(u7:Int)(u8:Int)(p:List UInt8)(hp:S.NY (u1,u2,u3,u4,u5,u6,u7,u8) p)(hf:Vg.kO J.q5p (u1,u2,u3,u4,u5,u6,u7,u8,p)):ayp u1 u2 u3 u4 u5 u6 u7 u8 p:=by
 delta ayp jL q23 q24 q25 xw q27 q28 q29 q30 q31 q32 q33 ay z0 z1 al;have aA3:0<=u1/\u1<=4294967295:=hf.1;have aA4:0<=u2/\u2<=4294967295:=hf.2.1;have aA5:0<=u3/\u3<=4294967295:=hf.2.2.1;have aA6:0<=u4/\u4<=4294967295:=hf.2.2.2.1;have aA7:0<=u5/\u5<=4294967295:=hf.2.2.2.2.1;have aA8:0<=u6/\u6<=4294967295:=hf.2.2.2.2.2.1;have aA9:0<=u7/\u7<=4294967295:=hf.2.2.2.2.2.2.1;have aBa:0<=u8/\u8<=4294967295:=hf.2.2.2.2.2.2.2.1;have RP:Vg.hlen p:=hf.2.2.2.2.2.2.2.2.1.1;clear hf;obtain⟨hp1,Ey⟩:=hp;refine⟨?_,?_⟩
 . refine⟨(nat_lit 0:Nat),?_⟩;try dsimp only
   with_reducible and_intros
   omega;rfl;simp only [S.bN,S.ag] at *;omega
 intro x1 h2;refine⟨?_,?_⟩
 . intro h3;try simp only [dt] at h3
   with_reducible and_intros
   iterate 30 omega
   . rw [S.qF _ _ (by omega)];omega
   iterate 2 omega
   refine⟨(x1+nat_lit 1),?_⟩;try dsimp only
   with_reducible and_intros
   omega;exact S.an0 _ _ (by omega)
   . simp only [S.bN,S.ag] at *;omega
   simp only [S.bN,S.ag] at *;omega
 intro h4;try simp only [df] at h4
 refine⟨?_,?_⟩
 . refine⟨(nat_lit 16:Nat),?_⟩;try dsimp only
   with_reducible and_intros
   omega
   . simp only [S.bN] at h2;rw [show x1=16 by omega]
   iterate 2 omega
 intro x5 h6;refine⟨?_,?_⟩
 . intro h7;try simp only [dt] at h7
   with_reducible and_intros
   iterate 4 omega
   . rw [S.qF _ _ (by omega)];omega
   iterate 4 omega
   . rw [S.qF _ _ (by omega)];omega
   iterate 2 (with_reducible exact S.Ql _ _ _ _ (by omega))
   iterate 2 omega
   iterate 2 (with_reducible exact S.Ql _ _ _ _ (by omega))
   iterate 6 omega
   . rw [S.qF _ _ (by omega)];omega
   iterate 4 omega
   . rw [S.qF _ _ (by omega)];omega
   iterate 2 omega
   . rw [S.qF _ _ (by omega)];omega
   iterate 2 omega
   refine⟨(x5+nat_lit 1),?_⟩;try dsimp only
   with_reducible and_intros
   omega;exact S.an1 _ _ (by omega) (by omega);iterate 2 omega
   simp only [S.bN,S.ag] at *;omega
 intro h8;try simp only [df] at h8
 with_reducible and_intros
 iterate 16 omega
 . refine⟨(nat_lit 0:Nat),?_⟩;try dsimp only
   with_reducible and_intros
   omega;iterate 8 rfl
   simp only [S.bN,S.ag] at *;omega
 intro x9 db;refine⟨?_,?_⟩
 . intro gz;try simp only [dt] at gz
   with_reducible and_intros
   iterate 3 (with_reducible exact S.azS (S.wQ _ _ hp1 _) _ (by omega))
   with_reducible exact S.CE
   omega
   . rw [<-S.CE];simp only [S.bN] at *;omega
   iterate 2 omega
   . rw [S.qF _ _ (by omega)];omega
   iterate 3 (with_reducible exact S.azR (S.wQ _ _ hp1 _) _ (by omega))
   iterate 2 omega
   refine⟨(x9+nat_lit 1),?_⟩;try dsimp only
   with_reducible and_intros
   omega
   . rw [show x5=64 by omega,S.U0];simp only [S.eA,tn,r?,Nat.mul_one];rfl
   iterate 3 rfl
   . rw [show x5=64 by omega,S.U0];simp only [S.eA,tn,r?,Nat.mul_one];rfl
   iterate 3 rfl
   . simp only [S.bN,S.ag] at *;omega
   simp only [S.bN,S.ag] at *;omega
 intro gA;try simp only [df] at gA
 with_reducible and_intros
 iterate 16 omega
 iterate 7
  . simp only [S.bN] at db;rw [show x9=64 by omega];simp only [S.block,S.Qj]
 simp only [S.bN] at db;rw [show x9=64 by omega];simp only [S.block,S.Qj]
theorem aBb(u1:Int)(u2:Int)(u3:Int)(u4:Int)(u5:Int)(u6:Int)(u7:Int)(u8:Int)(b:List UInt8)(hp:S.sD (u1,u2,u3,u4,u5,u6,u7,u8))(hf:Vg.kO J.q5p (u1,u2,u3,u4,u5,u6,u7,u8,b)):agk u1 u2 u3 u4 u5 u6 u7 u8 b:=by
 delta agk OQ yB z0 al;have aA3:0<=u1/\u1<=4294967295:=hf.1;have aA4:0<=u2/\u2<=4294967295:=hf.2.1;have aA5:0<=u3/\u3<=4294967295:=hf.2.2.1;have aA6:0<=u4/\u4<=4294967295:=hf.2.2.2.1;have aA7:0<=u5/\u5<=4294967295:=hf.2.2.2.2.1;have aA8:0<=u6/\u6<=4294967295:=hf.2.2.2.2.2.1;have aA9:0<=u7/\u7<=4294967295:=hf.2.2.2.2.2.2.1;have aBa:0<=u8/\u8<=4294967295:=hf.2.2.2.2.2.2.2.1;have dV:Vg.hlen b:=hf.2.2.2.2.2.2.2.2.1.1;clear hf;refine⟨?_,?_⟩
 . refine⟨0,?_⟩;try dsimp only
   with_reducible and_intros
   . simp only [S.fe,S?];congr 1
   iterate 8 rfl
   omega
 intro x1 h2;refine⟨?_,?_⟩
 . intro h3;try simp only [dt] at h3
   with_reducible and_intros
   iterate 2 omega
   . exact⟨S.GG _ _ hp _,by simp only [S.fe,X!,V!] at *;omega⟩
   iterate 2 omega
   refine⟨(x1+1),?_⟩;try dsimp only
   with_reducible and_intros
   . simp only [S.fe,S?];congr 1
   iterate 8 (simp only [S.an6])
   . simp only [S.fe,V!,S.ag,S.blocks] at *;omega
   simp only [S.fe,V!,S.ag,S.blocks] at *;omega
 intro h4;try simp only [df] at h4
 with_reducible and_intros
 iterate 8
  . rw [show x1=S.blocks b by(simp only [S.fe,V!,S.blocks] at *;omega)];rfl
 rw [show x1=S.blocks b by(simp only [S.fe,V!,S.blocks] at *;omega)];rfl
theorem aBc(s1:Int)(s2:Int)(s3:Int)(s4:Int)(s5:Int)(s6:Int)(s7:Int)(s8:Int)(s9:List UInt8)(aQ:Int)(b:List UInt8)(hp:S.NX (s1,s2,s3,s4,s5,s6,s7,s8) s9 aQ b)(hf:Vg.kO J.q6p (s1,s2,s3,s4,s5,s6,s7,s8,s9,aQ,b)):agm s1 s2 s3 s4 s5 s6 s7 s8 s9 aQ b:=by
 delta agm OR q37 q38 q39 ay bH OP z0 al;have mr:0<=s1/\s1<=4294967295:=hf.1;have mu:0<=s2/\s2<=4294967295:=hf.2.1;have Ap:0<=s3/\s3<=4294967295:=hf.2.2.1;have Us:0<=s4/\s4<=4294967295:=hf.2.2.2.1;have ah7:0<=s5/\s5<=4294967295:=hf.2.2.2.2.1;have ah8:0<=s6/\s6<=4294967295:=hf.2.2.2.2.2.1;have ah9:0<=s7/\s7<=4294967295:=hf.2.2.2.2.2.2.1;have aia:0<=s8/\s8<=4294967295:=hf.2.2.2.2.2.2.2.1;have aib:Vg.hlen s9:=hf.2.2.2.2.2.2.2.2.1.1;have XW:Vg.hint aQ:=hf.2.2.2.2.2.2.2.2.2.1;have dV:Vg.hlen b:=hf.2.2.2.2.2.2.2.2.2.2.1.1;clear hf;obtain⟨Kf,rfl,rfl,hs⟩:=hp;simp only [S.small] at hs;have hv:S.bo [] 0=true :=by decide
 have hd:decide ((1099511627776:Int)-0<(b.length:Int))=false :=by simp;omega
 simp only [hv,hd,Bool.not_true,P!,K!,ln,Int.toNat_zero];with_reducible and_intros
 trivial
 . intro h1;try simp only [nt] at h1
   trivial
 . intro h2;try simp only [nf] at h2
   refine⟨?_,?_⟩
   . omega
   omega
 . intro h3;try simp only [V.mM,nt,dt] at h3
   trivial
 . intro h4;try simp only [V.eT,nf,df] at h4
   trivial
 iterate 5 omega
 iterate 2
  . simp only [List.replicate_zero,t?,C?,S.oR,S.lr,ln,C!] at *;omega
 omega
 . simp only [List.replicate_zero,t?,C?,S.oR,S.lr,ln,C!] at *;omega
 iterate 2 omega
 iterate 9 rfl
 simp only [List.replicate_zero,t?,C?,S.oR,S.lr,ln,C!] at *;omega
theorem aBd(s1:Int)(s2:Int)(s3:Int)(s4:Int)(s5:Int)(s6:Int)(s7:Int)(s8:Int)(s9:List UInt8)(aQ:Int)(hp:S.ES (s1,s2,s3,s4,s5,s6,s7,s8) s9 aQ)(hf:Vg.kO J.q4p (s1,s2,s3,s4,s5,s6,s7,s8,s9,aQ)):agn s1 s2 s3 s4 s5 s6 s7 s8 s9 aQ:=by
 delta agn lD q41 q42 q43 q44 q45 ay bH OP z0 z1 al;have mr:0<=s1/\s1<=4294967295:=hf.1;have mu:0<=s2/\s2<=4294967295:=hf.2.1;have Ap:0<=s3/\s3<=4294967295:=hf.2.2.1;have Us:0<=s4/\s4<=4294967295:=hf.2.2.2.1;have ah7:0<=s5/\s5<=4294967295:=hf.2.2.2.2.1;have ah8:0<=s6/\s6<=4294967295:=hf.2.2.2.2.2.1;have ah9:0<=s7/\s7<=4294967295:=hf.2.2.2.2.2.2.1;have aia:0<=s8/\s8<=4294967295:=hf.2.2.2.2.2.2.2.1;have aib:Vg.hlen s9:=hf.2.2.2.2.2.2.2.2.1.1;have XW:Vg.hint aQ:=hf.2.2.2.2.2.2.2.2.2.1;clear hf;have hv:=S.abM hp;obtain⟨Kf,h01,h02,h03⟩:=hp;simp only [hv,Bool.not_true,cond_false];with_reducible and_intros
 trivial
 . intro h1;try simp only [nt] at h1
   trivial
 . intro h2;try simp only [nf] at h2
   trivial
 omega
 . simp only [S.cC,S.gl,S.cr,S.fc,S.bN,S.ag,S.len,lc,ln] at *;omega
 . refine⟨0,?_⟩;try dsimp only
   refine⟨?_,?_⟩
   . exact S.Qn _
   simp only [S.cC,S.gl,S.cr,S.fc,S.bN,S.ag,S.len,lc,ln] at *;omega
 intro x3 h4;with_reducible and_intros
 iterate 2 omega
 . intro h5;try simp only [nt,df] at h5
   refine⟨?_,?_⟩
   . simp only [S.cC,S.gl,S.cr,S.fc,S.bN,S.ag,S.len,lc,ln] at *;omega
   refine⟨(x3+1),?_⟩;try dsimp only
   with_reducible and_intros
   exact S.DJ _ _;exact S.GI h4 h5;simp only [S.cC,S.gl,S.cr,S.fc,S.bN,S.ag,S.len,lc,ln] at *;omega
 intro h6;try simp only [nf,dt] at h6
 refine⟨?_,?_⟩
 . refine⟨(nat_lit 0:Nat),?_⟩;try dsimp only
   with_reducible and_intros
   omega;rw [S.aen,<-S.KQ h4 h6];simp only [S.cC,S.gl,S.cr,S.fc,S.bN,S.ag,S.len,lc,ln] at *;omega
 intro x7 h8;refine⟨?_,?_⟩
 . intro h9;try simp only [dt] at h9
   with_reducible and_intros
   iterate 6 omega
   . simp only [S.cC,S.gl,S.cr,S.fc,S.bN,S.ag,S.len,lc,ln] at *;omega
   iterate 2 omega
   refine⟨(x7+nat_lit 1),?_⟩;try dsimp only
   with_reducible and_intros
   omega;exact S.Qo s9 aQ x7 h01 h02 (by omega)
   . simp only [S.cC,S.gl,S.cr,S.fc,S.bN,S.ag,S.len,lc,ln] at *;omega
   simp only [S.cC,S.gl,S.cr,S.fc,S.bN,S.ag,S.len,lc,ln] at *;omega
 intro db;try simp only [df] at db
 with_reducible and_intros
 iterate 4 omega
 . refine⟨(nat_lit 0:Nat),?_⟩;try dsimp only
   with_reducible and_intros
   omega;rfl;simp only [S.cC,S.gl,S.cr,S.fc,S.bN,S.ag,S.len,lc,ln] at *;omega
 intro x11 gA;refine⟨?_,?_⟩
 . intro lp;try simp only [dt] at lp
   with_reducible and_intros
   iterate 8 omega
   . rw [S.CG _ _ (by simp only [S.bN] at *;omega)];simp;omega
   iterate 2 omega
   refine⟨(x11+nat_lit 1),?_⟩;try dsimp only
   with_reducible and_intros
   omega
   . rw [show x7=8 by(simp only [S.bN] at *;omega)];exact S.an5 _ x11 (by omega)
   . simp only [S.cC,S.gl,S.cr,S.fc,S.bN,S.ag,S.len,lc,ln] at *;omega
   simp only [S.cC,S.gl,S.cr,S.fc,S.bN,S.ag,S.len,lc,ln] at *;omega
 intro lE;try simp only [df] at lE
 rw [show x11=8 by(simp only [S.bN] at *;omega)];rfl
theorem aBe(b:List UInt8)(hp:S.small b)(hf:Vg.kO J.n4 b):ago b:=by
 delta ago Ko OS z0;have dV:Vg.hlen b:=hf.1.1;clear hf;with_reducible and_intros
 trivial;exact⟨S.Tc,rfl,rfl,hp⟩
 . simp only [S.small] at hp;exact⟨S.GG _ _ S.Tc _,by simp only [S.lr];omega,by simp only [S.lr];omega,by rw [S.oR];simp [S.lr]⟩
 exact congrArg S.dig (S.Td b _)
theorem aBf(m:Nat)(v:Int)(hm:v.toNat<m+1)(hp:0<=v)(hf:Vg.kO J.q7p v):agp m v:=by
 delta agp q48 ay bH z0;have RQ:Vg.hint v:=hf.1;clear hf;refine⟨?_,?_⟩
 . intro h1;try simp only [dt] at h1
   rw [S.Bw _ (by omega)];congr 2;omega
 intro h2;try simp only [df] at h2
 with_reducible and_intros
 iterate 8 omega
 . have :=S.bG (v/128);simp;omega
 rw [S.U1 v (by omega) (by omega)];simp only [List.singleton_append];congr 2;omega
theorem aBg(s:List UInt8)(hp:S.small s)(hf:Vg.kO J.q8p s):agq s:=by
 delta agq bH z0 al;have RR:Vg.hlen s:=hf.1;clear hf;with_reducible and_intros
 omega
 . have :=S.bG s.length;simp only [S.small] at hp;omega
 rfl
theorem aBh(b:List UInt8)(hp:b.length<=140737488355328)(hf:Vg.kO J.n4 b):agr b:=by
 delta agr bH;have dV:Vg.hlen b:=hf.1.1;clear hf;refine⟨?_,?_⟩
 . omega
 rfl
theorem aBi(v:Int)(l:List UInt8)(hp:S.Bu l v)(hf:Vg.abq J.q9p v)(hg:Vg.dh.ok J.q0q (l,())):ags v l:=by
 delta ags q49 bH z0;have RQ:Vg.hint v:=hf.1;have eX:Vg.hlen l:=hg.1.1;clear hf hg;obtain⟨hp1,Ey⟩:=hp;refine⟨?_,?_⟩
 . refine⟨((l),(v)),?_⟩;try dsimp only
   with_reducible and_intros
   omega;rfl;exact⟨hp1,f? _,rfl⟩
 intro x1 h2;refine⟨?_,?_⟩
 . intro h3;try simp only [dt] at h3
   with_reducible and_intros
   iterate 2 omega
   . (have hl:=S.wR h2;have hu:=S.Bx h2;simp;omega)
   iterate 2 omega
   refine⟨((Prod.fst x1++ [UInt8.ofNat (Int.toNat (Vg.cn (Vg.aM (Prod.snd x1) (127:Int)%(256:Int)) (128:Int)))]),(Prod.snd x1/(2:Int)^Int.toNat (7:Int))),?_⟩;try dsimp only
   with_reducible and_intros
   omega;rfl
   . (have hl:=S.wR h2;have hu:=S.Bx h2;exact S.abT h2 h3 (by omega))
   . (have hl:=S.wR h2;have hu:=S.Bx h2;simp;omega)
 intro h4;try simp only [df] at h4
 refine⟨?_,?_⟩
 . (have hl:=S.wR h2;have hu:=S.Bx h2;simp;omega)
 (have hl:=S.wR h2;have hu:=S.Bx h2;exact S.aex h2 h4)
theorem aBj(s:List UInt8)(l:List UInt8)(hp:S.lQ l s)(hf:Vg.abq J.aHS s)(hg:Vg.dh.ok J.q0q (l,())):agt s l:=by
 delta agt bH al;have RR:Vg.hlen s:=hf.1;have eX:Vg.hlen l:=hg.1.1;clear hf hg;obtain⟨hp1,Ey⟩:=hp;have :=S.bG s.length;with_reducible and_intros
 . simp only [S.Bu];omega
 . simp only [C!];omega
 simp [S.text]
theorem aBk(b:List UInt8)(v:Int)(hp:b.length<=35184372088832)(hf:Vg.kO J.ahf (b,v)):agu b v:=by
 delta agu q50 bH z0 z1;have dV:Vg.hlen b:=hf.1.1;have RQ:Vg.hint v:=hf.2.1;clear hf;refine⟨?_,?_⟩
 . intro h1;try simp only [V.mM,dt] at h1
   refine⟨?_,?_⟩
   . grind [S.jd,S.rS,S.c5]
   grind [S.jd,S.rS,S.c5]
 intro h2;try simp only [V.eT,df] at h2
 with_reducible and_intros
 omega;exact⟨by omega,by omega⟩;iterate 2 (grind [S.jd,S.rS,S.c5])
theorem aBl(b:List UInt8)(s:List UInt8)(hp:S.lQ b s)(hf:Vg.kO J.ahB (b,s)):agv b s:=by
 delta agv bH;have dV:Vg.hlen b:=hf.1.1;have RR:Vg.hlen s:=hf.2.1;clear hf;with_reducible and_intros
 . simp only [S.lQ] at *;omega
 omega;rfl
theorem aBm(r1:List UInt8)(r2:Int)(r3:Int)(hp:True)(hf:Vg.kO J.adK (r1,r2,r3)):agw r1 r2 r3:=by
 delta agw z0 al;have mv:Vg.hlen r1:=hf.1.1;have mw:Vg.hint r2:=hf.2.1;have my:Vg.hint r3:=hf.2.2.1;clear hf;simp only [S.inside];cases decide (0<=r2)<;>rfl
theorem aBn(r1:List UInt8)(r2:Int)(r3:Int)(hp:r1.length<=140737488355328)(hf:Vg.kO J.adK (r1,r2,r3)):agx r1 r2 r3:=by
 delta agx bH z0 z1;have mv:Vg.hlen r1:=hf.1.1;have mw:Vg.hint r2:=hf.2.1;have my:Vg.hint r3:=hf.2.2.1;clear hf;with_reducible and_intros
 omega
 . intro h1;try simp only [dt] at h1
   trivial
 . intro h2;try simp only [df] at h2
   trivial
 rfl
 . cases decide (r3=0)<;>cases S.inside r1 r2<;>rfl
 simp only [S.bI];by_cases h:r3=0<;>cases S.inside r1 r2<;>simp [h]
theorem aBo(b:List UInt8)(p:Int)(hp:S.dp b p)(hf:Vg.kO J.ahf (b,p)):agy b p:=by
 delta agy q51 q52 q53 ay z0 z1 al;have dV:Vg.hlen b:=hf.1.1;have RP:Vg.hint p:=hf.2.1;clear hf;have sX:=hp;simp only [S.dp] at sX;refine⟨?_,?_⟩
 . refine⟨(nat_lit 0:Nat),?_⟩;try dsimp only
   with_reducible and_intros
   exact(S.aHA b p).symm;omega;exact S.aHz hp
 intro x1 h2;refine⟨?_,?_⟩
 . intro h3;try simp only [dt] at h3
   with_reducible and_intros
   iterate 3 (grind [S.aeu,S.Qq])
 intro h4;try simp only [df] at h4
 with_reducible and_intros
 iterate 2 omega
 . intro h5;try simp only [dt] at h5
   with_reducible and_intros
   iterate 3 (grind [S.aeu,S.Qq])
 intro h6;try simp only [df] at h6
 with_reducible and_intros
 omega
 . (have hg:=S.fK h2;omega)
 omega
 . (have hg:=S.fK h2;omega)
 omega
 . (have hg:=S.fK h2;omega)
 omega
 . (have hg:=S.fK h2;omega)
 iterate 2
  . have hg:=S.fK h2;have hn:=S.ix ((b.getD (p+(x1:Int)).toNat 0).toNat:Int) (by omega);have hs:=S.uB (Vg.aM ((b.getD (p+(x1:Int)).toNat 0).toNat:Int) 127) x1 (by omega) (by omega) (by omega);try clear h8
    try clear h9
    clear hn;generalize Vg.aM ((b.getD (p+(x1:Int)).toNat 0).toNat:Int) 127*2^(7*(x1:Int)).toNat=z at *;omega
 . (have hg:=S.fK h2;have hv:=S.ya (b:=b) (p:=p) hg.1;have hw:=S.ya (b:=b) (p:=p) (x:=x1+1) (by omega);have hn:=S.ix ((b.getD (p+(x1:Int)).toNat 0).toNat:Int) (by omega);have hs:=S.uB (Vg.aM ((b.getD (p+(x1:Int)).toNat 0).toNat:Int) 127) x1 (by omega) (by omega) (by omega);exact hv.1)
 . (have hg:=S.fK h2;have hv:=S.ya (b:=b) (p:=p) hg.1;have hw:=S.ya (b:=b) (p:=p) (x:=x1+1) (by omega);have hn:=S.ix ((b.getD (p+(x1:Int)).toNat 0).toNat:Int) (by omega);have hs:=S.uB (Vg.aM ((b.getD (p+(x1:Int)).toNat 0).toNat:Int) 127) x1 (by omega) (by omega) (by omega);exact hs.1)
 omega
 . (have hg:=S.fK h2;omega)
 . intro h7;try simp only [dt] at h7
   with_reducible and_intros
   . intro h8;try simp only [dt] at h8
     with_reducible and_intros
     omega
     . have hg:=S.fK h2;have hn:=S.ix ((b.getD (p+(x1:Int)).toNat 0).toNat:Int) (by omega);have hs:=S.uB (Vg.aM ((b.getD (p+(x1:Int)).toNat 0).toNat:Int) 127) x1 (by omega) (by omega) (by omega);try clear h8
       try clear h9
       clear hn;generalize Vg.aM ((b.getD (p+(x1:Int)).toNat 0).toNat:Int) 127*2^(7*(x1:Int)).toNat=z at *;omega
     omega
     . have hg:=S.fK h2;have hn:=S.ix ((b.getD (p+(x1:Int)).toNat 0).toNat:Int) (by omega);have hs:=S.uB (Vg.aM ((b.getD (p+(x1:Int)).toNat 0).toNat:Int) 127) x1 (by omega) (by omega) (by omega);try clear h8
       try clear h9
       clear hn;generalize Vg.aM ((b.getD (p+(x1:Int)).toNat 0).toNat:Int) 127*2^(7*(x1:Int)).toNat=z at *;omega
     omega;have hg:=S.fK h2;have hn:=S.ix ((b.getD (p+(x1:Int)).toNat 0).toNat:Int) (by omega);have hs:=S.uB (Vg.aM ((b.getD (p+(x1:Int)).toNat 0).toNat:Int) 127) x1 (by omega) (by omega) (by omega);try clear h8
     try clear h9
     clear hn;generalize Vg.aM ((b.getD (p+(x1:Int)).toNat 0).toNat:Int) 127*2^(7*(x1:Int)).toNat=z at *;omega
   . intro h9;try simp only [df] at h9
     trivial
   . intro db;with_reducible and_intros
     . exact(S.CK hp h2 (by have hg:=S.fK h2;omega) (by omega) (by omega) db).1
     . exact(S.CK hp h2 (by have hg:=S.fK h2;omega) (by omega) (by omega) db).2.1
     . exact(S.CK hp h2 (by have hg:=S.fK h2;omega) (by omega) (by omega) db).2.2
   intro gz;with_reducible and_intros
   omega
   . clear gz;have hg:=S.fK h2;omega
   . exact(S.CL hp h2 (by have hg:=S.fK h2;omega) (by omega) (by omega) gz).1
   . exact(S.CL hp h2 (by have hg:=S.fK h2;omega) (by omega) (by omega) gz).2.1
   . exact(S.CL hp h2 (by have hg:=S.fK h2;omega) (by omega) (by omega) gz).2.2
 intro gA;try simp only [df] at gA
 refine⟨(x1+nat_lit 1),?_⟩;try dsimp only
 with_reducible and_intros
 . (have hg:=S.fK h2;have hv:=S.ya (b:=b) (p:=p) hg.1;have hw:=S.ya (b:=b) (p:=p) (x:=x1+1) (by omega);have hn:=S.ix ((b.getD (p+(x1:Int)).toNat 0).toNat:Int) (by omega);have hs:=S.uB (Vg.aM ((b.getD (p+(x1:Int)).toNat 0).toNat:Int) 127) x1 (by omega) (by omega) (by omega);exact S.U2 hp h2 (by omega))
 omega
 . (have hg:=S.fK h2;exact S.abS hp h2 (by omega) (by omega) (by omega))
 . (have hg:=S.fK h2;simp only [S.ag];omega)
theorem aBp(b:List UInt8)(p:Int)(cd:Int)(hp:S.dp b p)(hf:Vg.kO J.aHT (b,p,cd)):agz b p cd:=by
 delta agz yC ay z0 al;have dV:Vg.hlen b:=hf.1.1;have RP:Vg.hint p:=hf.2.1;have aid:Vg.hint cd:=hf.2.2.1;clear hf;have hb:=S.Th hp;with_reducible and_intros
 omega
 . intro h1;try simp only [nt,df] at h1
   with_reducible and_intros
   iterate 3 (grind [S.cz])
 intro h2;try simp only [nf,dt] at h2
 refine⟨?_,?_⟩
 . intro h3;try simp only [dt] at h3
   with_reducible and_intros
   iterate 3 (grind [S.cz])
 intro h4;try simp only [df] at h4
 with_reducible and_intros
 iterate 2 omega
 . intro h5;try simp only [dt] at h5
   with_reducible and_intros
   iterate 3 (grind [S.cz])
 intro h6;try simp only [df] at h6
 with_reducible and_intros
 iterate 7 omega
 iterate 3 (grind [S.cz])
theorem aBq(r1:List UInt8)(r2:Int)(r3:Int)(cd:Int)(hp:r1.length<=140737488355328)(hf:Vg.kO J.aHZ (r1,r2,r3,cd)):agA r1 r2 r3 cd:=by
 delta agA bH z0;have mv:Vg.hlen r1:=hf.1.1;have mw:Vg.hint r2:=hf.2.1;have my:Vg.hint r3:=hf.2.2.1;have aid:Vg.hint cd:=hf.2.2.2.1;clear hf;with_reducible and_intros
 omega
 . intro h1;try simp only [nt,df] at h1
   with_reducible and_intros
   iterate 4 (grind [S.ax,S.dp,S.bI,S.inside])
 intro h2;try simp only [nf,dt] at h2
 with_reducible and_intros
 grind [S.ax,S.dp,S.bI,S.inside]
 . intro h3;try simp only [nt,df] at h3
   with_reducible and_intros
   iterate 4 (grind [S.ax,S.dp,S.bI,S.inside])
 intro h4;try simp only [nf,dt] at h4
 with_reducible and_intros
 iterate 4 (grind [S.ax,S.dp,S.bI,S.inside])
theorem aBr(r1:List UInt8)(r2:Int)(r3:Int)(hp:r1.length<=140737488355328)(hf:Vg.kO J.adK (r1,r2,r3)):agB r1 r2 r3:=by
 delta agB bH z0;have mv:Vg.hlen r1:=hf.1.1;have mw:Vg.hint r2:=hf.2.1;have my:Vg.hint r3:=hf.2.2.1;clear hf;with_reducible and_intros
 omega
 . intro h1;try simp only [nt,df] at h1
   with_reducible and_intros
   iterate 4 (grind [S.an,S.dp,S.bI,S.inside])
 intro h2;try simp only [nf,dt] at h2
 with_reducible and_intros
 grind [S.an,S.dp,S.bI,S.inside]
 . intro h3;try simp only [nt,df] at h3
   with_reducible and_intros
   iterate 4 (grind [S.an,S.dp,S.bI,S.inside])
 intro h4;try simp only [nf,dt] at h4
 with_reducible and_intros
 iterate 4 (grind [S.an,S.dp,S.bI,S.inside])
theorem aBs(r1:List UInt8)(r2:Int)(r3:Int)(hp:r1.length<=140737488355328)(hf:Vg.kO J.adK (r1,r2,r3)):agC r1 r2 r3:=by
 delta agC Kp ay bH z0 al;have mv:Vg.hlen r1:=hf.1.1;have mw:Vg.hint r2:=hf.2.1;have my:Vg.hint r3:=hf.2.2.1;clear hf;with_reducible and_intros
 omega
 . intro h1;try simp only [nt,df] at h1
   with_reducible and_intros
   iterate 4 (grind [S.aC,S.dp,S.bI,S.inside])
 intro h2;try simp only [nf,dt] at h2
 with_reducible and_intros
 omega;grind [S.aC,S.dp,S.bI,S.inside]
 . intro h3;try simp only [dt] at h3
   with_reducible and_intros
   iterate 4 (grind [S.aC,S.dp,S.bI,S.inside])
 intro h4;try simp only [df] at h4
 with_reducible and_intros
 iterate 2 omega
 grind [S.aC,S.dp,S.bI,S.inside];iterate 4 omega
 iterate 3 (grind [S.aC,S.dp,S.bI,S.inside])
 have h0:=S.abU h2;simp only [S.aC,List.drop_take,show(r2+32).toNat-r2.toNat=32 by omega]
 (repeat' split)<;>first|rfl|omega|contradiction
theorem aBt(r1:List UInt8)(r2:Int)(r3:Int)(hp:True)(hf:Vg.kO J.adK (r1,r2,r3)):agD r1 r2 r3:=by
 delta agD z0 z1 al;have mv:Vg.hlen r1:=hf.1.1;have mw:Vg.hint r2:=hf.2.1;have my:Vg.hint r3:=hf.2.2.1;clear hf;refine⟨?_,?_⟩
 . intro h1;try simp only [nt,df] at h1
   grind [S.done]
 intro h2;try simp only [nf,dt] at h2
 with_reducible and_intros
 trivial
 . intro h3;try simp only [nt] at h3
   grind [S.done]
 intro h4;try simp only [nf] at h4
 refine⟨?_,?_⟩
 . intro h5;try simp only [dt] at h5
   grind [S.done]
 intro h6;try simp only [df] at h6
 grind [S.done]
theorem aBu(kind:Int)(b:List UInt8)(hp:S.bz b)(hf:Vg.kO J.anE (kind,b)):agE kind b:=by
 delta agE q56 ay bH z0 z1 al;have aie:Vg.hint kind:=hf.1;have dV:Vg.hlen b:=hf.2.1.1;clear hf;refine⟨?_,?_⟩
 . refine⟨(nat_lit 0:Nat),?_⟩;try dsimp only
   with_reducible and_intros
   omega
   . simp only [S.hX,S.fy] at *;grind [List.take_add_one]
   simp only [S.fy,S.ag,S.len,S.bz,S.hX,lc,X!,ln] at *;omega
 intro x1 h2;refine⟨?_,?_⟩
 . intro h3;try simp only [dt] at h3
   with_reducible and_intros
   iterate 2 omega
   . simp only [S.fy,S.ag,S.len,S.bz,S.hX,lc,X!,ln] at *;omega
   iterate 2 omega
   refine⟨(x1+nat_lit 1),?_⟩;try dsimp only
   with_reducible and_intros
   omega;simp only [S.hX,c?,S.aei b x1 (by omega)]
   . simp only [S.fy,S.ag,S.len,S.bz,S.hX,lc,X!,ln] at *;omega
   simp only [S.fy,S.ag,S.len,S.bz,S.hX,lc,X!,ln] at *;omega
 intro h4;try simp only [df] at h4
 simp only [S.hX,S.fy] at *;grind [List.take_add_one]
theorem aBv(kind:Int)(b:List UInt8)(hp:S.bz b)(hf:Vg.kO J.anE (kind,b)):agF kind b:=by
 unfold agF;have aie:Vg.hint kind:=hf.1;have dV:Vg.hlen b:=hf.2.1.1;clear hf;with_reducible and_intros
 iterate 2 exact hp
 rfl
theorem aBw(b:List UInt8)(hp:S.bz b)(hf:Vg.kO J.n4 b):agG b:=by
 delta agG z0;have dV:Vg.hlen b:=hf.1.1;clear hf;refine⟨?_,?_⟩
 . exact hp
 rfl
theorem aBx(l:List UInt8)(r:List UInt8)(hp:S.bz (l++r))(hf:Vg.kO J.adL (l,r)):agH l r:=by
 delta agH z1;have eX:Vg.hlen l:=hf.1;have ayq:Vg.hlen r:=hf.2.1;clear hf;with_reducible and_intros
 . simp only [S.bz,C!] at *;omega
 exact hp;rfl
theorem aBy(kind:UInt8)(parts:List (List UInt8))(hp:S.abC parts)(hf:Vg.kO J.aH0 (kind,parts)):agI kind parts:=by
 delta agI ay bH z0 z1 al;have aGH:Vg.hlen parts:=hf.2.1.1;clear hf;refine⟨?_,?_⟩
 . refine⟨(nat_lit 0:Nat),?_⟩;try dsimp only
   with_reducible and_intros
   omega;exact S.abW _ _;simp only [S.fy,S.ag,S.len] at *;omega
 intro x1 h2;refine⟨?_,?_⟩
 . intro h3;try simp only [dt] at h3
   with_reducible and_intros
   iterate 2 omega
   exact S.Ti kind hp (by omega);iterate 2 omega
   refine⟨(x1+nat_lit 1),?_⟩;try dsimp only
   with_reducible and_intros
   omega;exact S.N1 _ _ _ (by omega)
   . simp only [S.fy,S.ag,S.len] at *;omega
   simp only [S.fy,S.ag,S.len] at *;omega
 intro h4;try simp only [df] at h4
 exact S.Qs _ _ _ (by omega)
theorem aBz(b:List UInt8)(hp:S.bz b)(hf:Vg.kO J.n4 b):agJ b:=by
 unfold agJ;have dV:Vg.hlen b:=hf.1.1;clear hf;refine⟨?_,?_⟩
 . simp only [S.abC,S.bz] at *;simp;omega
 simp [S.fo,S.kI]
theorem aBA(l:List UInt8)(r:List UInt8)(hp:S.bz (l++r))(hf:Vg.kO J.adL (l,r)):agK l r:=by
 unfold agK;have eX:Vg.hlen l:=hf.1;have ayq:Vg.hlen r:=hf.2.1;clear hf;refine⟨?_,?_⟩
 . simp only [S.abC,S.bz,C!] at *;simp;omega
 simp [S.fo,S.kI]
theorem aBB(b:List UInt8)(hp:S.bz b)(hf:Vg.kO J.n4 b):agL b:=by
 unfold agL;have dV:Vg.hlen b:=hf.1.1;clear hf;refine⟨?_,?_⟩
 . simp only [S.abC,S.bz] at *;simp;omega
 simp [S.fo,S.kI]
theorem aBC(b:List UInt8)(hp:S.bz b)(hf:Vg.kO J.n4 b):agM b:=by
 unfold agM;have dV:Vg.hlen b:=hf.1.1;clear hf;with_reducible and_intros
 iterate 2 exact hp
 rfl
theorem aBD(l:List UInt8)(r:List UInt8)(hp:True)(hf:Vg.kO J.adL (l,r)):agN l r:=by
 delta agN z0 z1 al;have eX:Vg.hlen l:=hf.1;have ayq:Vg.hlen r:=hf.2.1;clear hf;refine⟨?_,?_⟩
 . intro h1;try simp only [V.mM,nt,df] at h1
   refine⟨?_,?_⟩
   . grind [S.dF,S.mj,S.GN,S.N0,S.qG]
   grind [S.dF,S.mj,S.GN,S.N0,S.qG]
 intro h2;try simp only [V.eT,nf,dt] at h2
 with_reducible and_intros
 iterate 2
  . simp only [S.small,S.kI,S.bz,lc,C!] at *;omega
 iterate 2 (grind [S.dF,S.mj,S.GN,S.N0,S.qG])
theorem aBE(b:List UInt8)(hp:S.bz b)(hf:Vg.kO J.n4 b):agO b:=by
 unfold agO;have dV:Vg.hlen b:=hf.1.1;clear hf;with_reducible and_intros
 iterate 2 exact hp
 rfl
theorem aBF(c:Int)(hp:True)(hf:Vg.kO J.q7p c):agP c:=by
 delta agP z0;have vz:Vg.hint c:=hf.1;clear hf;simp only [S.bD];grind
theorem aBG(c:Int)(hp:True)(hf:Vg.kO J.q7p c):agQ c:=by
 delta agQ z1;have vz:Vg.hint c:=hf.1;clear hf;refine⟨?_,?_⟩
 . intro h1;try simp only [dt] at h1
   grind [S.dB]
 intro h2;try simp only [df] at h2
 refine⟨?_,?_⟩
 . intro h3;try simp only [dt] at h3
   grind [S.dB]
 intro h4;try simp only [df] at h4
 refine⟨?_,?_⟩
 . intro h5;try simp only [dt] at h5
   grind [S.dB]
 intro h6;try simp only [df] at h6
 grind [S.dB]
theorem aBH(c:Int)(hp:0<=c)(hf:Vg.kO J.q7p c):agR c:=by
 delta agR z0;have vz:Vg.hint c:=hf.1;clear hf;have e:Vg.aM c 63%256=c%64:=by rw [S.GB _ hp];omega
 with_reducible and_intros
 iterate 2 omega
 rw [e,S.wP];exact S.aoa c
theorem aBI(c:Int)(hp:True)(hf:Vg.kO J.q7p c):agS c:=by
 delta agS q57 q58 q59 q60 z0 z1;have vz:Vg.hint c:=hf.1;clear hf;with_reducible and_intros
 trivial
 . intro h1;try simp only [nt] at h1
   refine⟨?_,?_⟩
   . simp only [S.vr,nt] at *;grind
   simp only [S.fh,nt] at *;grind
 intro h2;try simp only [nf] at h2
 with_reducible and_intros
 trivial
 . intro h3;try simp only [dt] at h3
   refine⟨?_,?_⟩
   . (have hc:=S.ec h2;simp only [S.vr,h2];rfl)
   (have hc:=S.ec h2;(simp only [S.fh,h2,if_true];exact S.U3 c hc.1 (by simp only [S.dB] at *;grind)))
 intro h4;try simp only [df] at h4
 refine⟨?_,?_⟩
 . intro h5;try simp only [dt] at h5
   with_reducible and_intros
   iterate 2 omega
   . (have hc:=S.ec h2;omega)
   . (have hc:=S.ec h2;simp only [S.vr,h2];rfl)
   . (have hc:=S.ec h2;(simp only [S.fh,h2,if_true];exact S.aoe c hc.1 (by simp only [S.dB] at *;grind)))
 intro h6;try simp only [df] at h6
 refine⟨?_,?_⟩
 . intro h7;try simp only [dt] at h7
   with_reducible and_intros
   iterate 4 omega
   . (have hc:=S.ec h2;simp only [show Int.toNat 6=6 by rfl,show Int.toNat 12=12 by rfl,show Int.toNat 18=18 by rfl];omega)
   . (have hc:=S.ec h2;omega)
   . (have hc:=S.ec h2;simp only [S.vr,h2];rfl)
   . (have hc:=S.ec h2;(simp only [S.fh,h2,if_true];exact S.aof c hc.1 (by simp only [S.dB] at *;grind)))
 intro h8;try simp only [df] at h8
 with_reducible and_intros
 iterate 4 omega
 . (have hc:=S.ec h2;simp only [show Int.toNat 6=6 by rfl,show Int.toNat 12=12 by rfl,show Int.toNat 18=18 by rfl];omega)
 iterate 2 omega
 . (have hc:=S.ec h2;simp only [show Int.toNat 6=6 by rfl,show Int.toNat 12=12 by rfl,show Int.toNat 18=18 by rfl];omega)
 . (have hc:=S.ec h2;omega)
 . (have hc:=S.ec h2;simp only [S.vr,h2];rfl)
 . (have hc:=S.ec h2;(simp only [S.fh,h2,if_true];exact S.aog c hc.1 hc.2 (by simp only [S.dB] at *;grind)))
theorem aBJ(b:List UInt8)(hp:0<b.length)(hf:Vg.kO J.n4 b):agW b:=by
 delta agW yD q62 q63 q64 q65 Up q67 q68 q69 q70 q71 q72 q73 q74 ay z0 z1 al;have dV:Vg.hlen b:=hf.1.1;clear hf;have sX:(0:Int)<b.length:=by omega
 with_reducible and_intros
 iterate 2 omega
 . intro h1;try simp only [dt] at h1
   refine⟨?_,?_⟩
   . rw [S.uf1 (b:=b) (by with_reducible assumption)]
   rw [S.uf1 (b:=b) (by with_reducible assumption)]
 intro h2;try simp only [df] at h2
 with_reducible and_intros
 iterate 2 omega
 . intro h3;try simp only [dt] at h3
   with_reducible and_intros
   iterate 2 omega
   . intro h4;try simp only [dt] at h4
     refine⟨?_,?_⟩
     . (have hn:=S.qI (b:=b) (by with_reducible assumption) (by with_reducible assumption);rw [S.p8 hn (by omega) (by omega)])
     (have hn:=S.qI (b:=b) (by with_reducible assumption) (by with_reducible assumption);rw [S.p8 hn (by omega) (by omega)])
   intro h5;try simp only [df] at h5
   with_reducible and_intros
   iterate 3 omega
   . refine⟨(nat_lit 0:Nat),?_⟩;try dsimp only
     with_reducible and_intros
     omega
     . (have hn:=S.qI (b:=b) (by with_reducible assumption) (by with_reducible assumption);exact S.aHD (by with_reducible assumption))
     . (have hn:=S.qI (b:=b) (by with_reducible assumption) (by with_reducible assumption);exact S.Tj hn (by omega) (by omega))
   intro x6 h7;refine⟨?_,?_⟩
   . intro h8;try simp only [dt] at h8
     with_reducible and_intros
     iterate 4 omega
     . intro h9;try simp only [nt,df,tn] at h9
       refine⟨?_,?_⟩
       . have hn:=S.qI (b:=b) (by with_reducible assumption) (by with_reducible assumption);have hb:=S.bR h7;have hx:(x6:Int)+1<2:=by(have hc:=S.ct b 2 (by omega) (by omega);simp only [hc,show Int.toNat 2=2 by rfl] at *;omega)
         simp only [S.je b 2 x6 hx,S.lb b 2 x6 hx] at *;rw [S.sZ hn h7 (by omega) (by with_reducible assumption)]
       have hn:=S.qI (b:=b) (by with_reducible assumption) (by with_reducible assumption);have hb:=S.bR h7;have hx:(x6:Int)+1<2:=by(have hc:=S.ct b 2 (by omega) (by omega);simp only [hc,show Int.toNat 2=2 by rfl] at *;omega)
       simp only [S.je b 2 x6 hx,S.lb b 2 x6 hx] at *;rw [S.sZ hn h7 (by omega) (by with_reducible assumption)]
     intro db;try simp only [nf,dt,tn] at db
     with_reducible and_intros
     iterate 2 omega
     iterate 3
      . (have hn:=S.qI (b:=b) (by with_reducible assumption) (by with_reducible assumption);(have hb:=S.bR h7;(try simp only [S.ct b 2 (by omega) (by omega),show Int.toNat 2=2 by rfl] at *);simp only [show Int.toNat 6=6 by rfl,S.ag] at *;omega))
     exact Int.natCast_nonneg _;omega
     . (have hn:=S.qI (b:=b) (by with_reducible assumption) (by with_reducible assumption);(have hb:=S.bR h7;(try simp only [S.ct b 2 (by omega) (by omega),show Int.toNat 2=2 by rfl] at *);omega))
     refine⟨(x6+nat_lit 1),?_⟩;try dsimp only
     with_reducible and_intros
     omega
     . have hn:=S.qI (b:=b) (by with_reducible assumption) (by with_reducible assumption);have hb:=S.bR h7;have hx:(x6:Int)+1<2:=by(have hc:=S.ct b 2 (by omega) (by omega);simp only [hc,show Int.toNat 2=2 by rfl] at *;omega)
       rw [S.je b 2 x6 hx];exact S.Tl h7 (by omega)
     . have hn:=S.qI (b:=b) (by with_reducible assumption) (by with_reducible assumption);have hb:=S.bR h7;have hx:(x6:Int)+1<2:=by(have hc:=S.ct b 2 (by omega) (by omega);simp only [hc,show Int.toNat 2=2 by rfl] at *;omega)
       simp only [S.je b 2 x6 hx,S.lb b 2 x6 hx] at *;exact S.N3 h7 (by with_reducible assumption) (by omega)
     . (have hn:=S.qI (b:=b) (by with_reducible assumption) (by with_reducible assumption);(have hb:=S.bR h7;(try simp only [S.ct b 2 (by omega) (by omega),show Int.toNat 2=2 by rfl] at *);simp only [show Int.toNat 6=6 by rfl,S.ag] at *;omega))
   intro gz;try simp only [df] at gz
   with_reducible and_intros
   trivial
   . intro gA;try simp only [nt] at gA
     trivial
   . intro lp;try simp only [nf] at lp
     trivial
   . intro lE;try simp only [V.mM,nt,df] at lE
     refine⟨?_,?_⟩
     . have hn:=S.qI (b:=b) (by with_reducible assumption) (by with_reducible assumption);have hb:=S.bR h7;have hc:=S.ct b 2 (by omega) (by omega);rw [hc] at gz;have hx:x6+1=2:=by omega
       rw [S.ta hn h7 hx lE rfl]
     have hn:=S.qI (b:=b) (by with_reducible assumption) (by with_reducible assumption);have hb:=S.bR h7;have hc:=S.ct b 2 (by omega) (by omega);rw [hc] at gz;have hx:x6+1=2:=by omega
     rw [S.ta hn h7 hx lE rfl]
   intro EB;try simp only [V.eT,nf,dt] at EB
   refine⟨?_,?_⟩
   . have hn:=S.qI (b:=b) (by with_reducible assumption) (by with_reducible assumption);have hb:=S.bR h7;have hc:=S.ct b 2 (by omega) (by omega);rw [hc] at gz;have hx:x6+1=2:=by omega
     rw [S.tc hn h7 hx EB rfl]
   have hn:=S.qI (b:=b) (by with_reducible assumption) (by with_reducible assumption);have hb:=S.bR h7;have hc:=S.ct b 2 (by omega) (by omega);rw [hc] at gz;have hx:x6+1=2:=by omega
   rw [S.tc hn h7 hx EB rfl]
 intro H3;try simp only [df] at H3
 with_reducible and_intros
 iterate 2 omega
 . intro Kq;try simp only [dt] at Kq
   with_reducible and_intros
   iterate 2 omega
   . intro Kr;try simp only [dt] at Kr
     refine⟨?_,?_⟩
     . (have hn:=S.qJ (b:=b) (by with_reducible assumption) (by with_reducible assumption) (by with_reducible assumption);rw [S.p8 hn (by omega) (by omega)])
     (have hn:=S.qJ (b:=b) (by with_reducible assumption) (by with_reducible assumption) (by with_reducible assumption);rw [S.p8 hn (by omega) (by omega)])
   intro h19;try simp only [df] at h19
   with_reducible and_intros
   iterate 3 omega
   . refine⟨(nat_lit 0:Nat),?_⟩;try dsimp only
     with_reducible and_intros
     omega
     . (have hn:=S.qJ (b:=b) (by with_reducible assumption) (by with_reducible assumption) (by with_reducible assumption);exact S.aHE (by with_reducible assumption) (by with_reducible assumption))
     . (have hn:=S.qJ (b:=b) (by with_reducible assumption) (by with_reducible assumption) (by with_reducible assumption);exact S.Tj hn (by omega) (by omega))
   intro yE rm;refine⟨?_,?_⟩
   . intro h22;try simp only [dt] at h22
     with_reducible and_intros
     iterate 4 omega
     . intro h23;try simp only [nt,df,tn] at h23
       refine⟨?_,?_⟩
       . have hn:=S.qJ (b:=b) (by with_reducible assumption) (by with_reducible assumption) (by with_reducible assumption);have hb:=S.bR rm;have hx:(yE:Int)+1<3:=by(have hc:=S.ct b 3 (by omega) (by omega);simp only [hc,show Int.toNat 3=3 by rfl] at *;omega)
         simp only [S.je b 3 yE hx,S.lb b 3 yE hx] at *;rw [S.sZ hn rm (by omega) (by with_reducible assumption)]
       have hn:=S.qJ (b:=b) (by with_reducible assumption) (by with_reducible assumption) (by with_reducible assumption);have hb:=S.bR rm;have hx:(yE:Int)+1<3:=by(have hc:=S.ct b 3 (by omega) (by omega);simp only [hc,show Int.toNat 3=3 by rfl] at *;omega)
       simp only [S.je b 3 yE hx,S.lb b 3 yE hx] at *;rw [S.sZ hn rm (by omega) (by with_reducible assumption)]
     intro h24;try simp only [nf,dt,tn] at h24
     with_reducible and_intros
     iterate 2 omega
     iterate 3
      . (have hn:=S.qJ (b:=b) (by with_reducible assumption) (by with_reducible assumption) (by with_reducible assumption);(have hb:=S.bR rm;(try simp only [S.ct b 3 (by omega) (by omega),show Int.toNat 3=3 by rfl] at *);simp only [show Int.toNat 6=6 by rfl,S.ag] at *;omega))
     exact Int.natCast_nonneg _;omega
     . (have hn:=S.qJ (b:=b) (by with_reducible assumption) (by with_reducible assumption) (by with_reducible assumption);(have hb:=S.bR rm;(try simp only [S.ct b 3 (by omega) (by omega),show Int.toNat 3=3 by rfl] at *);omega))
     refine⟨(yE+nat_lit 1),?_⟩;try dsimp only
     with_reducible and_intros
     omega
     . have hn:=S.qJ (b:=b) (by with_reducible assumption) (by with_reducible assumption) (by with_reducible assumption);have hb:=S.bR rm;have hx:(yE:Int)+1<3:=by(have hc:=S.ct b 3 (by omega) (by omega);simp only [hc,show Int.toNat 3=3 by rfl] at *;omega)
       rw [S.je b 3 yE hx];exact S.Tl rm (by omega)
     . have hn:=S.qJ (b:=b) (by with_reducible assumption) (by with_reducible assumption) (by with_reducible assumption);have hb:=S.bR rm;have hx:(yE:Int)+1<3:=by(have hc:=S.ct b 3 (by omega) (by omega);simp only [hc,show Int.toNat 3=3 by rfl] at *;omega)
       simp only [S.je b 3 yE hx,S.lb b 3 yE hx] at *;exact S.N3 rm (by with_reducible assumption) (by omega)
     . (have hn:=S.qJ (b:=b) (by with_reducible assumption) (by with_reducible assumption) (by with_reducible assumption);(have hb:=S.bR rm;(try simp only [S.ct b 3 (by omega) (by omega),show Int.toNat 3=3 by rfl] at *);simp only [show Int.toNat 6=6 by rfl,S.ag] at *;omega))
   intro h25;try simp only [df] at h25
   with_reducible and_intros
   trivial
   . intro h26;try simp only [nt] at h26
     trivial
   . intro h27;try simp only [nf] at h27
     trivial
   . intro h28;try simp only [V.mM,nt,df] at h28
     refine⟨?_,?_⟩
     . have hn:=S.qJ (b:=b) (by with_reducible assumption) (by with_reducible assumption) (by with_reducible assumption);have hb:=S.bR rm;have hc:=S.ct b 3 (by omega) (by omega);rw [hc] at h25;have hx:yE+1=3:=by omega
       rw [S.ta hn rm hx h28 rfl]
     have hn:=S.qJ (b:=b) (by with_reducible assumption) (by with_reducible assumption) (by with_reducible assumption);have hb:=S.bR rm;have hc:=S.ct b 3 (by omega) (by omega);rw [hc] at h25;have hx:yE+1=3:=by omega
     rw [S.ta hn rm hx h28 rfl]
   intro h29;try simp only [V.eT,nf,dt] at h29
   refine⟨?_,?_⟩
   . have hn:=S.qJ (b:=b) (by with_reducible assumption) (by with_reducible assumption) (by with_reducible assumption);have hb:=S.bR rm;have hc:=S.ct b 3 (by omega) (by omega);rw [hc] at h25;have hx:yE+1=3:=by omega
     rw [S.tc hn rm hx h29 rfl]
   have hn:=S.qJ (b:=b) (by with_reducible assumption) (by with_reducible assumption) (by with_reducible assumption);have hb:=S.bR rm;have hc:=S.ct b 3 (by omega) (by omega);rw [hc] at h25;have hx:yE+1=3:=by omega
   rw [S.tc hn rm hx h29 rfl]
 intro h30;try simp only [df] at h30
 with_reducible and_intros
 iterate 2 omega
 . intro h31;try simp only [dt] at h31
   with_reducible and_intros
   iterate 2 omega
   . intro h32;try simp only [dt] at h32
     refine⟨?_,?_⟩
     . (have hn:=S.qK (b:=b) (by with_reducible assumption) (by with_reducible assumption) (by with_reducible assumption) (by with_reducible assumption);rw [S.p8 hn (by omega) (by omega)])
     (have hn:=S.qK (b:=b) (by with_reducible assumption) (by with_reducible assumption) (by with_reducible assumption) (by with_reducible assumption);rw [S.p8 hn (by omega) (by omega)])
   intro h33;try simp only [df] at h33
   with_reducible and_intros
   iterate 3 omega
   . refine⟨(nat_lit 0:Nat),?_⟩;try dsimp only
     with_reducible and_intros
     omega
     . (have hn:=S.qK (b:=b) (by with_reducible assumption) (by with_reducible assumption) (by with_reducible assumption) (by with_reducible assumption);exact S.aHF (by with_reducible assumption) (by with_reducible assumption))
     . (have hn:=S.qK (b:=b) (by with_reducible assumption) (by with_reducible assumption) (by with_reducible assumption) (by with_reducible assumption);exact S.Tj hn (by omega) (by omega))
   intro yF u0;refine⟨?_,?_⟩
   . intro h36;try simp only [dt] at h36
     with_reducible and_intros
     iterate 4 omega
     . intro h37;try simp only [nt,df,tn] at h37
       refine⟨?_,?_⟩
       . have hn:=S.qK (b:=b) (by with_reducible assumption) (by with_reducible assumption) (by with_reducible assumption) (by with_reducible assumption);have hb:=S.bR u0;have hx:(yF:Int)+1<4:=by(have hc:=S.ct b 4 (by omega) (by omega);simp only [hc,show Int.toNat 4=4 by rfl] at *;omega)
         simp only [S.je b 4 yF hx,S.lb b 4 yF hx] at *;rw [S.sZ hn u0 (by omega) (by with_reducible assumption)]
       have hn:=S.qK (b:=b) (by with_reducible assumption) (by with_reducible assumption) (by with_reducible assumption) (by with_reducible assumption);have hb:=S.bR u0;have hx:(yF:Int)+1<4:=by(have hc:=S.ct b 4 (by omega) (by omega);simp only [hc,show Int.toNat 4=4 by rfl] at *;omega)
       simp only [S.je b 4 yF hx,S.lb b 4 yF hx] at *;rw [S.sZ hn u0 (by omega) (by with_reducible assumption)]
     intro h38;try simp only [nf,dt,tn] at h38
     with_reducible and_intros
     iterate 2 omega
     iterate 3
      . (have hn:=S.qK (b:=b) (by with_reducible assumption) (by with_reducible assumption) (by with_reducible assumption) (by with_reducible assumption);(have hb:=S.bR u0;(try simp only [S.ct b 4 (by omega) (by omega),show Int.toNat 4=4 by rfl] at *);simp only [show Int.toNat 6=6 by rfl,S.ag] at *;omega))
     exact Int.natCast_nonneg _;omega
     . (have hn:=S.qK (b:=b) (by with_reducible assumption) (by with_reducible assumption) (by with_reducible assumption) (by with_reducible assumption);(have hb:=S.bR u0;(try simp only [S.ct b 4 (by omega) (by omega),show Int.toNat 4=4 by rfl] at *);omega))
     refine⟨(yF+nat_lit 1),?_⟩;try dsimp only
     with_reducible and_intros
     omega
     . have hn:=S.qK (b:=b) (by with_reducible assumption) (by with_reducible assumption) (by with_reducible assumption) (by with_reducible assumption);have hb:=S.bR u0;have hx:(yF:Int)+1<4:=by(have hc:=S.ct b 4 (by omega) (by omega);simp only [hc,show Int.toNat 4=4 by rfl] at *;omega)
       rw [S.je b 4 yF hx];exact S.Tl u0 (by omega)
     . have hn:=S.qK (b:=b) (by with_reducible assumption) (by with_reducible assumption) (by with_reducible assumption) (by with_reducible assumption);have hb:=S.bR u0;have hx:(yF:Int)+1<4:=by(have hc:=S.ct b 4 (by omega) (by omega);simp only [hc,show Int.toNat 4=4 by rfl] at *;omega)
       simp only [S.je b 4 yF hx,S.lb b 4 yF hx] at *;exact S.N3 u0 (by with_reducible assumption) (by omega)
     . (have hn:=S.qK (b:=b) (by with_reducible assumption) (by with_reducible assumption) (by with_reducible assumption) (by with_reducible assumption);(have hb:=S.bR u0;(try simp only [S.ct b 4 (by omega) (by omega),show Int.toNat 4=4 by rfl] at *);simp only [show Int.toNat 6=6 by rfl,S.ag] at *;omega))
   intro h39;try simp only [df] at h39
   with_reducible and_intros
   trivial
   . intro h40;try simp only [nt] at h40
     trivial
   . intro h41;try simp only [nf] at h41
     trivial
   . intro h42;try simp only [V.mM,nt,df] at h42
     refine⟨?_,?_⟩
     . have hn:=S.qK (b:=b) (by with_reducible assumption) (by with_reducible assumption) (by with_reducible assumption) (by with_reducible assumption);have hb:=S.bR u0;have hc:=S.ct b 4 (by omega) (by omega);rw [hc] at h39;have hx:yF+1=4:=by omega
       rw [S.ta hn u0 hx h42 rfl]
     have hn:=S.qK (b:=b) (by with_reducible assumption) (by with_reducible assumption) (by with_reducible assumption) (by with_reducible assumption);have hb:=S.bR u0;have hc:=S.ct b 4 (by omega) (by omega);rw [hc] at h39;have hx:yF+1=4:=by omega
     rw [S.ta hn u0 hx h42 rfl]
   intro h43;try simp only [V.eT,nf,dt] at h43
   refine⟨?_,?_⟩
   . have hn:=S.qK (b:=b) (by with_reducible assumption) (by with_reducible assumption) (by with_reducible assumption) (by with_reducible assumption);have hb:=S.bR u0;have hc:=S.ct b 4 (by omega) (by omega);rw [hc] at h39;have hx:yF+1=4:=by omega
     rw [S.tc hn u0 hx h43 rfl]
   have hn:=S.qK (b:=b) (by with_reducible assumption) (by with_reducible assumption) (by with_reducible assumption) (by with_reducible assumption);have hb:=S.bR u0;have hc:=S.ct b 4 (by omega) (by omega);rw [hc] at h39;have hx:yF+1=4:=by omega
   rw [S.tc hn u0 hx h43 rfl]
 intro h44;try simp only [df] at h44
 refine⟨?_,?_⟩
 . rw [S.uf0 (b:=b) (by with_reducible assumption) (by with_reducible assumption) (by with_reducible assumption) (by with_reducible assumption)]
 rw [S.uf0 (b:=b) (by with_reducible assumption) (by with_reducible assumption) (by with_reducible assumption) (by with_reducible assumption)]
theorem aBO(b:List UInt8)(hp:S.small b)(hf:Vg.kO J.n4 b):agX b:=by
 delta agX z0;have dV:Vg.hlen b:=hf.1.1;clear hf;simp only [S.small] at hp;refine⟨?_,?_⟩
 . refine⟨((b),([])),?_⟩;try dsimp only
   with_reducible and_intros
   iterate 2 with_reducible rfl
   exact S.azW b
 intro x1 h2;refine⟨?_,?_⟩
 . intro h3;try simp only [dt] at h3
   with_reducible and_intros
   omega
   . (have hd:=S.N4 h2 (by with_reducible assumption);simp only [S.len,V!,lc,ln] at *;omega)
   iterate 2
    . (have hd:=S.N4 h2 (by with_reducible assumption);omega)
   refine⟨((List.drop (Int.toNat (Prod.snd (S.aS (Prod.fst x1)))) (Prod.fst x1)),(Prod.snd x1++ [Prod.fst (S.aS (Prod.fst x1))])),?_⟩;try dsimp only
   with_reducible and_intros
   iterate 2 with_reducible rfl
   exact S.KW h2 h3
   . (have hd:=S.N4 h2 (by with_reducible assumption);simp only [S.len,V!,lc,ln] at *;omega)
 intro h4;try simp only [df] at h4
 exact(S.Qw h2 (by with_reducible assumption))
theorem aBP(c:Int)(hp:True)(hf:Vg.kO J.q7p c):agY c:=by
 delta agY q75 ay z0 z1;have vz:Vg.hint c:=hf.1;clear hf;refine⟨?_,?_⟩
 . refine⟨(nat_lit 0:Nat),?_⟩;try dsimp only
   refine⟨?_,?_⟩
   . omega
   simp [S.mD]
 intro x1 h2;refine⟨?_,?_⟩
 . intro h3;try simp only [dt] at h3
   with_reducible and_intros
   iterate 2 omega
   . intro h4;try simp only [V.UY,dt,tn] at h4
     exact S.Tn (x:=x1) (by omega) (S.Tq h4)
   intro h5;try simp only [V.ER,df,tn] at h5
   with_reducible and_intros
   iterate 2 omega
   refine⟨(x1+nat_lit 1),?_⟩;try dsimp only
   with_reducible and_intros
   omega;exact S.To (x:=x1) h2 (by omega) (S.aey h5);simp only [S.ag];omega
 intro h6;try simp only [df] at h6
 exact S.Tp h2 (by omega)
theorem aBQ(c:Int)(hp:True)(hf:Vg.kO J.q7p c):agZ c:=by
 unfold agZ;have vz:Vg.hint c:=hf.1;clear hf;simp only [S.digit];grind
theorem aBR(c:Int)(hp:True)(hf:Vg.kO J.q7p c):ag0 c:=by
 delta ag0 q76 ay z0 z1;have vz:Vg.hint c:=hf.1;clear hf;refine⟨?_,?_⟩
 . refine⟨(nat_lit 0:Nat),?_⟩;try dsimp only
   refine⟨?_,?_⟩
   . omega
   simp [S.nb]
 intro x1 h2;refine⟨?_,?_⟩
 . intro h3;try simp only [dt] at h3
   with_reducible and_intros
   iterate 2 omega
   . intro h4;try simp only [V.UY,dt,tn] at h4
     with_reducible and_intros
     iterate 2
      . have hs:=(S.KY (c:=c) (x:=x1) h2 h3 (S.Tq h4)).2;clear h4;generalize List.getD [32,32,32,32,32,80,32] (Int.toNat (x1:Int)) (0:Int)=X at *;omega
     exact(S.KY (x:=x1) h2 (by omega) (S.Tq h4)).1
   intro h5;try simp only [V.ER,df,tn] at h5
   with_reducible and_intros
   iterate 2 omega
   refine⟨(x1+nat_lit 1),?_⟩;try dsimp only
   with_reducible and_intros
   omega;exact S.abY (x:=x1) h2 (by omega) (S.aey h5);simp only [S.ag];omega
 intro h6;try simp only [df] at h6
 exact S.abZ h2 (by omega)
theorem aBS(c:Int)(a:Int)(b:Int)(hp:True)(hf:Vg.kO J.aH9 (c,a,b)):ag1 c a b:=by
 unfold ag1;have vz:Vg.hint c:=hf.1;have zl:Vg.hint a:=hf.2.1;have dV:Vg.hint b:=hf.2.2.1;clear hf;simp only [S.b8];grind
theorem aBT(c:Int)(hp:True)(hf:Vg.kO J.q7p c):ag2 c:=by
 delta ag2 z0;have vz:Vg.hint c:=hf.1;clear hf;simp only [S.jD];grind
theorem aBU(c:Int)(hp:0<=c/\c<=1114111)(hf:Vg.kO J.q7p c):ag4 c:=by
 delta ag4 q77 q78 q79 ay z0;have vz:Vg.hint c:=hf.1;clear hf;refine⟨?_,?_⟩
 . intro h1;try simp only [dt] at h1
   exact S.aoh c (by omega) (by omega)
 intro h2;try simp only [df] at h2
 refine⟨?_,?_⟩
 . intro h3;try simp only [dt] at h3
   with_reducible and_intros
   iterate 8 omega
   exact S.aoi c (by omega) (by omega)
 intro h4;try simp only [df] at h4
 refine⟨?_,?_⟩
 . intro h5;try simp only [dt] at h5
   with_reducible and_intros
   iterate 14 omega
   exact S.aoj c (by omega) (by omega)
 intro h6;try simp only [df] at h6
 with_reducible and_intros
 iterate 20 omega
 exact S.aok c (by omega) (by omega) (by omega)
theorem aBV(a:Int)(b:Int)(hp:True)(hf:Vg.kO J.aIb (a,b)):ag5 a b:=by
 unfold ag5;have zl:Vg.hint a:=hf.1;have dV:Vg.hint b:=hf.2.1;clear hf;refine⟨?_,?_⟩
 . intro h1;try simp only [dt] at h1
   simp only [S.kj];grind
 intro h2;try simp only [df] at h2
 simp only [S.kj];grind
theorem aBW(c:Int)(hp:True)(hf:Vg.kO J.q7p c):ag6 c:=by
 unfold ag6;have vz:Vg.hint c:=hf.1;clear hf;with_reducible and_intros
 trivial
 . intro h1;trivial
 . intro h2;with_reducible and_intros
   trivial
   . intro h3;trivial
   intro h4;with_reducible and_intros
   trivial
   . intro h5;trivial
   intro h6;with_reducible and_intros
   trivial
   . intro h7;trivial
   intro h8;with_reducible and_intros
   trivial
   . intro h9;trivial
   intro db;with_reducible and_intros
   trivial
   . intro gz;trivial
   intro gA;with_reducible and_intros
   trivial
   . intro lp;trivial
   intro lE;with_reducible and_intros
   trivial
   . intro EB;trivial
   intro H3;trivial
 rw [S.GS];grind
theorem aBX(c:Int)(hp:True)(hf:Vg.kO J.q7p c):ag7 c:=by
 delta ag7 q80 ay;have vz:Vg.hint c:=hf.1;clear hf;with_reducible and_intros
 trivial
 . intro h1;with_reducible and_intros
   iterate 2
    . have :=S.tg (by with_reducible assumption);omega
   have :=S.tg (by with_reducible assumption);omega
 intro h2;with_reducible and_intros
 trivial
 . intro h3;trivial
 . intro h4;with_reducible and_intros
   trivial
   . intro h5;trivial
   intro h6;with_reducible and_intros
   trivial
   . intro h7;trivial
   intro h8;with_reducible and_intros
   trivial
   . intro h9;trivial
   intro db;with_reducible and_intros
   trivial
   . intro gz;trivial
   intro gA;trivial
 . intro lp;try simp only [V.mM] at lp
   with_reducible and_intros
   iterate 2
    . have :=S.th (by with_reducible assumption) (by grind);omega
   have :=S.th (by with_reducible assumption) (by grind);omega
 intro lE;try simp only [V.eT] at lE
 exact S.ti (by with_reducible assumption) (by grind)
theorem aBY(b:List UInt8)(n:Int)(hp:S.yc b n)(hf:Vg.kO J.ahf (b,n)):ag8 b n:=by
 delta ag8 q81 ay z0 z1 al;have dV:Vg.hlen b:=hf.1.1;have zk:Vg.hint n:=hf.2.1;clear hf;have eB:=hp;simp only [S.yc] at eB;refine⟨?_,?_⟩
 . intro h1;try simp only [dt] at h1
   exact S.QB (by omega)
 intro h2;try simp only [df] at h2
 with_reducible and_intros
 iterate 3 omega
 iterate 2
  . simp only [lc,ln];omega
 iterate 2
  . have h1:=S.GU b n 0 (by omega);have h2:=S.K1 (b:=b) (n:=n);rw [h2];omega
 . refine⟨(nat_lit 1:Nat),?_⟩;try dsimp only
   with_reducible and_intros
   omega;exact S.K1;simp only [S.oA,S.ag] at *;omega
 intro x3 h4;refine⟨?_,?_⟩
 . intro h5;try simp only [dt] at h5
   with_reducible and_intros
   iterate 2
    . have hq:=S.U4 (by with_reducible assumption) hp;have :=(List.getD b (Int.toNat (x3:Int)) 0).toNat_lt;omega
   iterate 2 omega
   iterate 4
    . have hq:=S.U4 (by with_reducible assumption) hp;have :=(List.getD b (Int.toNat (x3:Int)) 0).toNat_lt;omega
   iterate 2 omega
   refine⟨(x3+nat_lit 1),?_⟩;try dsimp only
   with_reducible and_intros
   omega;exact S.ab4 (by with_reducible assumption)
   . simp only [S.oA,S.ag] at *;omega
   simp only [S.oA,S.ag] at *;omega
 intro h6;try simp only [df] at h6
 exact S.aeG (by with_reducible assumption) (by omega)
theorem aBZ(b:List UInt8)(hp:S.small b)(hf:Vg.kO J.n4 b):ag9 b:=by
 delta ag9 Uq OT EA q85 ay z0 z1 al;have dV:Vg.hlen b:=hf.1.1;clear hf;have eB:b.length<=1099511627776:=by have :=hp;simp only [S.small] at this;omega
 refine⟨?_,?_⟩
 . refine⟨((nat_lit 0:Nat),([])),?_⟩;try dsimp only
   with_reducible and_intros
   omega;rfl;exact S.aol b;omega
 intro x1 h2;refine⟨?_,?_⟩
 . intro h3;try simp only [dt] at h3
   refine⟨?_,?_⟩
   . refine⟨(0,x1.1),?_⟩;try dsimp only
     with_reducible and_intros
     omega;iterate 2 rfl
     iterate 2 omega
   intro x4 h5;refine⟨?_,?_⟩
   . intro h6;try simp only [dt] at h6
     with_reducible and_intros
     iterate 2 omega
     . simp only [S.yc,V!];omega
     trivial
     . intro h7;with_reducible and_intros
       iterate 2
        . have :=S.Tt h7;omega
       iterate 2 omega
       trivial;omega
       . simp only [S.kj];split<;>omega
       simp only [S.kj];split<;>omega
     . intro h8;trivial
     iterate 2 omega
     refine⟨(x4.1+1,x1.1),?_⟩;try dsimp only
     with_reducible and_intros
     omega;rw [S.K2 (x4:=x4) h3 h5,S.ab6];rw [S.K2 (x4:=x4) h3 h5,S.ab7];iterate 2 omega
     simp only [S.ag];omega
   intro h9;try simp only [df] at h9
   with_reducible and_intros
   . have hq:=S.nX h2 h3 h5 h9;simp only [lc,ln];omega
   iterate 2
    . have hq:=S.nX h2 h3 h5 h9;omega
   refine⟨((Int.toNat ((↑(Prod.fst x1):Int)+Prod.snd (S.fX (List.drop (Prod.snd x4) b) (Prod.fst x4)))),(Prod.snd x1++ [Prod.fst (S.fX (List.drop (Prod.snd x4) b) (Prod.fst x4))])),?_⟩;try dsimp only
   with_reducible and_intros
   . have hq:=S.nX h2 h3 h5 h9;omega
   rfl
   . have hq:=S.nX h2 h3 h5 h9;exact hq.2.2.1
   . have hq:=S.nX h2 h3 h5 h9;omega
   have hq:=S.nX h2 h3 h5 h9;simp only [S.ag,S.len];omega
 intro db;try simp only [df] at db
 have hq:=S.Qw h2.1 (by rw [V!];omega);exact hq
theorem aB0(u:List Int)(hp:S.Kl u)(hf:Vg.kO J.adq u):aha u:=by
 delta aha q86 ay bH z0 z1 al;have aIt:Vg.hlen u:=hf.1.1;clear hf;have hq:=hp.1;refine⟨?_,?_⟩
 . refine⟨((nat_lit 0:Nat),([])),?_⟩;try dsimp only
   with_reducible and_intros
   omega;rfl;exact S.U5 u
 intro x1 h2;refine⟨?_,?_⟩
 . intro h3;try simp only [dt] at h3
   with_reducible and_intros
   iterate 2 omega
   iterate 2 trivial
   omega
   . have :=h2.2.2;have :=S.K4 (S.bj (List.getD u (Int.toNat (x1.1:Int)) 0));omega
   . intro h4;try simp only [dt,tn] at h4
     exact S.GW h2 h3 h4
   intro h5;try simp only [df,tn] at h5
   with_reducible and_intros
   . have :=h2.2.2;have :=S.K4 (S.bj (List.getD u (Int.toNat (x1.1:Int)) 0));omega
   iterate 2 omega
   refine⟨((Prod.fst x1+nat_lit 1),(Prod.snd x1++S.fh (S.bj (List.getD u (Int.toNat (↑(Prod.fst x1):Int)) (0:Int))))),?_⟩;try dsimp only
   with_reducible and_intros
   omega;rfl;exact S.GV h2 h3 h5;simp only [S.ag,S.len];omega
 intro h6;try simp only [df] at h6
 exact S.K3 h2 (by with_reducible assumption)
theorem aB1(b:List UInt8)(hp:S.small b)(hf:Vg.kO J.n4 b):ahb b:=by
 delta ahb OU Ur ay z0 z1 al;have dV:Vg.hlen b:=hf.1.1;clear hf;have eB:b.length<=1099511627776:=hp;with_reducible and_intros
 omega
 . refine⟨((nat_lit 0:Nat),(([]),([]))),?_⟩;try dsimp only
   with_reducible and_intros
   omega;iterate 2 with_reducible rfl
   exact S.azY _
 intro x1 h2;refine⟨?_,?_⟩
 . intro h3;try simp only [dt] at h3
   with_reducible and_intros
   iterate 3 omega
   trivial
   . intro h4;trivial
   . intro h5;trivial
   . intro h6;try simp only [V.mM] at h6
     with_reducible and_intros
     . (have hq:=S.nc h2 eB;simp only [lc,ln];omega)
     omega
     . (have hq:=S.nc h2 eB;omega)
     refine⟨((Prod.fst x1+nat_lit 1),((Prod.fst (Prod.snd x1)),(Prod.snd (Prod.snd x1)++ [List.getD (S.decode b) (Int.toNat (↑(Prod.fst x1):Int)) (0:Int)]))),?_⟩;try dsimp only
     with_reducible and_intros
     omega;iterate 2 with_reducible rfl
     exact S.ab8 h2 h3 (S.aeI (by with_reducible assumption))
     . (have hq:=S.nc h2 eB;simp only [S.ag,S.len];omega)
   intro h7;try simp only [V.eT] at h7
   refine⟨?_,?_⟩
   . intro h8;try simp only [dt] at h8
     with_reducible and_intros
     . (have hq:=S.nc h2 eB;exact hq.1)
     . (have hq:=S.nc h2 eB;simp only [lc,ln];omega)
     omega
     . (have hq:=S.nc h2 eB;omega)
     refine⟨((Prod.fst x1+nat_lit 1),((Prod.fst (Prod.snd x1)++ [S.en (Prod.snd (Prod.snd x1))]),([]))),?_⟩;try dsimp only
     with_reducible and_intros
     omega;iterate 2 with_reducible rfl
     exact S.aeH h2 h3 (S.QD (by with_reducible assumption)) (by with_reducible assumption)
     . (have hq:=S.nc h2 eB;simp only [S.ag,S.len];omega)
   intro h9;try simp only [df] at h9
   with_reducible and_intros
   omega
   . (have hq:=S.nc h2 eB;omega)
   refine⟨((Prod.fst x1+nat_lit 1),((Prod.fst (Prod.snd x1)),(Prod.snd (Prod.snd x1)))),?_⟩;try dsimp only
   with_reducible and_intros
   omega;iterate 2 with_reducible rfl
   exact S.ab9 h2 h3 (S.QD (by with_reducible assumption)) (by with_reducible assumption)
   . (have hq:=S.nc h2 eB;simp only [S.ag,S.len];omega)
 intro db;try simp only [df] at db
 refine⟨?_,?_⟩
 . intro gz;try simp only [dt] at gz
   with_reducible and_intros
   . (have hq:=S.nc h2 eB;exact hq.1)
   . (have hq:=S.nc h2 eB;simp only [lc,ln];omega)
   exact S.aca h2 (by with_reducible assumption) (by with_reducible assumption)
 intro gA;try simp only [df] at gA
 exact S.acb h2 (by with_reducible assumption) (by with_reducible assumption)
theorem aB2(s:List UInt8)(hp:S.small s)(hf:Vg.kO J.q8p s):ahc s:=by
 delta ahc z0 z1 al;have RR:Vg.hlen s:=hf.1;clear hf;with_reducible and_intros
 omega
 . intro h1;try simp only [dt] at h1
   with_reducible and_intros
   iterate 3 omega
 . intro h2;try simp only [df] at h2
   trivial
 exact S.acg s
theorem aB3(c:Int)(hp:True)(hf:Vg.kO J.q7p c):ahd c:=by
 unfold ahd;have vz:Vg.hint c:=hf.1;clear hf;refine⟨?_,?_⟩
 . trivial
 exact S.ach c
theorem aB4(u:List Int)(hp:S.Kl u)(hf:Vg.kO J.adq u):ahe u:=by
 delta ahe RG ay z0 z1 al;have aIt:Vg.hlen u:=hf.1.1;clear hf;have hq:=hp.1;refine⟨?_,?_⟩
 . refine⟨((nat_lit 0:Nat),([])),?_⟩;try dsimp only
   with_reducible and_intros
   omega;with_reducible rfl
   exact S.U5 u
 intro x1 h2;refine⟨?_,?_⟩
 . intro h3;try simp only [dt] at h3
   with_reducible and_intros
   iterate 2 omega
   trivial
   . (have he:=S.qN hp h3;exact he.2.1)
   . (have he:=S.qN hp h3;exact he.2.2)
   omega
   . (have he:=S.qN hp h3;have :=h2.2.2;have :=S.GX (S.bj (List.getD u (Int.toNat (x1.1:Int)) 0));omega)
   . intro h4;try simp only [dt,tn] at h4
     have he:=(S.qN hp h3).1;simp only [tn] at *;rw [<-he] at h4;exact S.GW h2 h3 h4
   intro h5;try simp only [df,tn] at h5
   with_reducible and_intros
   . (have he:=S.qN hp h3;have :=h2.2.2;have :=S.GX (S.bj (List.getD u (Int.toNat (x1.1:Int)) 0));omega)
   iterate 2 omega
   refine⟨((Prod.fst x1+nat_lit 1),(Prod.snd x1++S.enc (S.bj (List.getD u (Int.toNat (↑(Prod.fst x1):Int)) (0:Int))))),?_⟩;try dsimp only
   with_reducible and_intros
   omega;with_reducible rfl
   . have he:=(S.qN hp h3).1;simp only [tn] at *;rw [<-he] at h5 |-;exact S.GV h2 h3 h5
   . (have he:=S.qN hp h3;simp only [S.ag,S.len];omega)
 intro h6;try simp only [df] at h6
 exact S.K3 h2 (by with_reducible assumption)
theorem aB5(b:List UInt8)(hp:S.small b)(hf:Vg.kO J.n4 b):ahg b:=by
 delta ahg q90 q91 q92 ay z0 z1 al;have dV:Vg.hlen b:=hf.1.1;clear hf;have eB:b.length<=1099511627776:=hp;have hd0:=S.oS b;with_reducible and_intros
 omega
 . refine⟨((nat_lit 0:Nat),([])),?_⟩;try dsimp only
   with_reducible and_intros
   omega;with_reducible rfl
   exact S.aom _
 intro x1 h2;refine⟨?_,?_⟩
 . intro h3;try simp only [dt] at h3
   refine⟨?_,?_⟩
   . refine⟨((Prod.fst x1),(Prod.fst x1)),?_⟩;try dsimp only
     with_reducible and_intros
     omega;exact S.azZ h3;omega
   intro x4 h5;with_reducible and_intros
   . intro h6;try simp only [dt] at h6
     with_reducible and_intros
     iterate 3 omega
     trivial
   . intro h7;try simp only [df] at h7
     trivial
   . intro h8;try simp only [V.UY,dt] at h8
     with_reducible and_intros
     iterate 2 omega
     refine⟨((Prod.fst x4+nat_lit 1),(Prod.fst x1)),?_⟩;try dsimp only
     with_reducible and_intros
     omega
     . rw [show x4.2=x1.1 by omega] at h5;exact S.acd h5.1 h8.1 h8.2
     omega
     . (have :=h2.2.1;have :=h2.2.2;simp only [S.ag,S.len];omega)
   intro h9;try simp only [V.ER,df] at h9
   refine⟨?_,?_⟩
   . intro db;try simp only [dt] at db
     with_reducible and_intros
     iterate 2 omega
     . have hr:=h5.1.1;have hr2:=h5.1.2.1;omega
     exact S.aon eB
     . (have :=h2.2.1;have :=h2.2.2;simp only [lc,ln];omega)
     omega
     . have hr:=h5.1.1;have hr2:=h5.1.2.1;omega
     refine⟨((Prod.fst x4+nat_lit 1),(Prod.snd x1++ [S.en (List.take (Int.toNat (↑(Prod.fst x4):Int)-Int.toNat (↑(Prod.fst x1):Int)) (List.drop (Int.toNat (↑(Prod.fst x1):Int)) (S.decode b)))])),?_⟩;try dsimp only
     with_reducible and_intros
     omega;with_reducible rfl
     . rw [show x4.2=x1.1 by omega] at h5;exact S.ace h2 h5.1 h9 db
     . (have :=h2.2.1;have :=h2.2.2;simp only [S.ag,S.len];omega)
   intro gz;try simp only [df] at gz
   with_reducible and_intros
   iterate 2 omega
   refine⟨((Prod.fst x4+nat_lit 1),(Prod.snd x1)),?_⟩;try dsimp only
   with_reducible and_intros
   omega;with_reducible rfl
   . rw [show x4.2=x1.1 by omega] at h5;exact S.Tu h2 h3 h5.1 h9 gz
   have hr:=h5.1.1;have hr2:=h5.1.2.1;simp only [S.ag,S.len];omega
 intro gA;try simp only [df] at gA
 exact S.acf h2 (by with_reducible assumption)
theorem aB6(l:List (List UInt8))(hp:True)(hf:Vg.kO J.adx l):ahh l:=by
 delta ahh ay z0 z1 al;have eX:Vg.hlen l:=hf.1.1;clear hf;refine⟨?_,?_⟩
 . refine⟨(nat_lit 1:Nat),?_⟩;try dsimp only
   with_reducible and_intros
   omega
   . rw [S.QC];rfl
   exact⟨N! _, .inr rfl⟩
 intro x1 h2;refine⟨?_,?_⟩
 . intro h3;try simp only [dt] at h3
   with_reducible and_intros
   iterate 3 omega
   . have :=S.wT (l:=l) x1 (by omega) (by have :=h2.2;omega);omega
   iterate 2 omega
   refine⟨(x1+nat_lit 1),?_⟩;try dsimp only
   with_reducible and_intros
   omega;exact S.QE l x1
   . simp only [S.p9] at *;omega
   simp only [S.ag,S.len];omega
 intro h4;try simp only [df] at h4
 rw [S.Tv h2 h4]
theorem aB7(l:List (List UInt8))(hp:S.small l)(hf:Vg.abq J.afI ())(hg:Vg.dh.ok J.q1q (l,())):ahi l:=by
 delta ahi OV ay z0 z1;have eX:Vg.hlen l:=hg.1.1;clear hf hg;have eB:l.length<=1099511627776:=hp;refine⟨?_,?_⟩
 . refine⟨((l),([])),?_⟩;try dsimp only
   with_reducible and_intros
   iterate 2 with_reducible rfl
   exact S.aoo l
 intro x1 h2;refine⟨?_,?_⟩
 . intro h3;try simp only [dt] at h3
   with_reducible and_intros
   trivial;omega
   iterate 2
    . have :=S.wU (l:=x1.1) (by omega);omega
   . have :=h2.2;simp only [lc,ln];omega
   . refine⟨((nat_lit 0:Nat),(([]),((Prod.fst x1),(List.getD (Prod.fst x1) (Int.toNat (↑(S.cX (Prod.fst x1)):Int)) [])))),?_⟩;try dsimp only
     with_reducible and_intros
     omega;with_reducible rfl
     exact S.aop _ _;iterate 2 with_reducible rfl
   intro x4 h5;refine⟨?_,?_⟩
   . intro h6;try simp only [dt] at h6
     with_reducible and_intros
     iterate 3 omega
     . intro h7;try simp only [nt,df,tn] at h7
       with_reducible and_intros
       iterate 3 omega
       . have hr:=S.acj h5.1;have :=h2.2;simp only [lc,ln];omega
       omega
       . have :=h2.2;omega
       refine⟨((Prod.fst x4+nat_lit 1),((Prod.fst (Prod.snd x4)++ [List.getD (Prod.fst x1) (Int.toNat (↑(Prod.fst x4):Int)) []]),((Prod.fst x1),(List.getD (Prod.fst x1) (Int.toNat (↑(S.cX (Prod.fst x1)):Int)) [])))),?_⟩;try dsimp only
       with_reducible and_intros
       omega;with_reducible rfl
       exact S.Tz (S.BB h5) h6 (by simpa using h7);iterate 2 with_reducible rfl
       have e:x1.1=x4.2.2.1:=h5.2.1;simp only [S.ag,S.len,<-e];omega
     intro h8;try simp only [nf,dt,tn] at h8
     with_reducible and_intros
     omega
     . have :=h2.2;omega
     refine⟨((Prod.fst x4+nat_lit 1),((Prod.fst (Prod.snd x4)),((Prod.fst x1),(List.getD (Prod.fst x1) (Int.toNat (↑(S.cX (Prod.fst x1)):Int)) [])))),?_⟩;try dsimp only
     with_reducible and_intros
     omega;with_reducible rfl
     exact S.TC (S.BB h5) h6 (by simpa using h8);iterate 2 with_reducible rfl
     have e:x1.1=x4.2.2.1:=h5.2.1;simp only [S.ag,S.len,<-e];omega
   intro h9;try simp only [df] at h9
   refine⟨((Prod.fst (Prod.snd x4)),(Prod.snd x1++ [List.getD (Prod.fst x1) (Int.toNat (↑(S.cX (Prod.fst x1)):Int)) []])),?_⟩;try dsimp only
   with_reducible and_intros
   iterate 2 with_reducible rfl
   exact(S.GZ h2 h3 (S.BB h5) h9).1;exact(S.GZ h2 h3 (S.BB h5) h9).2
 intro db;try simp only [df] at db
 exact S.aci h2 db
theorem aB8(b:List UInt8)(hp:S.small b)(hf:Vg.kO J.n4 b):ahj b:=by
 unfold ahj;have dV:Vg.hlen b:=hf.1.1;clear hf;with_reducible and_intros
 exact hp
 . have hq:=S.uF b;simp only [S.small] at *;omega
 rfl
theorem aB9(b:List UInt8)(t:List UInt8)(hp:S.small b)(hf:Vg.kO J.ahB (b,t)):ahk b t:=by
 delta ahk ay z0 z1 al;have dV:Vg.hlen b:=hf.1.1;have LK:Vg.hlen t:=hf.2.1;clear hf;have hq:=S.uF b;have eB:b.length<=1099511627776:=hp;with_reducible and_intros
 omega
 . refine⟨((nat_lit 0:Nat),([])),?_⟩;try dsimp only
   with_reducible and_intros
   omega;with_reducible rfl
   exact S.ack _ _
 intro x1 h2;refine⟨?_,?_⟩
 . intro h3;try simp only [dt] at h3
   with_reducible and_intros
   iterate 3 omega
   . intro h4;try simp only [dt,tn] at h4
     with_reducible and_intros
     . (have :=h2.2.2;simp only [lc,ln];omega)
     iterate 2 omega
     refine⟨((Prod.fst x1+nat_lit 1),(Prod.snd x1++ [(↑(Prod.fst x1):Int)])),?_⟩;try dsimp only
     with_reducible and_intros
     omega;with_reducible rfl
     exact S.N7 h2 h3 h4
     . (have :=h2.2.2;simp only [S.ag,S.len];omega)
   intro h5;try simp only [df,tn] at h5
   with_reducible and_intros
   iterate 2 omega
   refine⟨((Prod.fst x1+nat_lit 1),(Prod.snd x1)),?_⟩;try dsimp only
   with_reducible and_intros
   omega;with_reducible rfl
   exact S.N8 h2 h3 h5
   . (have :=h2.2.2;simp only [S.ag,S.len];omega)
 intro h6;try simp only [df] at h6
 exact S.QF h2 (by with_reducible assumption)
theorem aCa(s:List UInt8)(hp:True)(hf:Vg.kO J.q8p s):ahl s:=by
 unfold ahl;have RR:Vg.hlen s:=hf.1;clear hf;simp
theorem aCb(a:List UInt8)(b:List UInt8)(hp:True)(hf:Vg.kO J.adL (a,b)):ahm a b:=by
 delta ahm z0 z1;have zl:Vg.hlen a:=hf.1;have dV:Vg.hlen b:=hf.2.1;clear hf;with_reducible and_intros
 iterate 2 trivial
 . intro h1;refine⟨?_,?_⟩
   . intro h2;simp only [S.gY] at *;grind [S.dq,S.iO,S.jT]
   intro h3;simp only [S.gY] at *;grind [S.dq,S.iO,S.jT]
 intro h4;refine⟨?_,?_⟩
 . intro h5;simp only [S.gY] at *;grind [S.dq,S.iO,S.jT]
 intro h6;refine⟨?_,?_⟩
 . intro h7;simp only [S.gY] at *;grind [S.dq,S.iO,S.jT]
 intro h8;refine⟨?_,?_⟩
 . intro h9;try simp only [nt] at h9
   simp only [S.gY] at *;grind [S.dq,S.iO,S.jT]
 intro db;try simp only [nf] at db
 simp only [S.gY] at *;grind [S.dq,S.iO,S.jT]
theorem aCc(a:List UInt8)(b:List UInt8)(hp:True)(hf:Vg.abq J.aIe (a,b))(hg:Vg.dh.ok J.q2q ((),())):ahn a b:=by
 delta ahn z0;have zl:Vg.hlen a:=hf.1;have dV:Vg.hlen b:=hf.2.1;clear hf hg;refine⟨?_,?_⟩
 . trivial
 exact S.aoq a b
theorem aCd(l:List (List UInt8))(hp:S.small l)(hf:Vg.abq J.aIf ())(hg:Vg.dh.ok J.q3q (l,((),()))):aho l:=by
 delta aho ay z0 z1 al;have eX:Vg.hlen l:=hg.1.1;clear hf hg;have eB:l.length<=1099511627776:=hp;refine⟨?_,?_⟩
 . intro h1;try simp only [dt] at h1
   exact S.G5 h1
 intro h2;try simp only [df] at h2
 refine⟨?_,?_⟩
 . refine⟨(nat_lit 1:Nat),?_⟩;try dsimp only
   refine⟨?_,?_⟩
   . omega
   exact S.aeJ h2
 intro x3 h4;refine⟨?_,?_⟩
 . intro h5;try simp only [dt] at h5
   with_reducible and_intros
   iterate 5 omega
   . have :=h4.1;omega
   iterate 2 omega
   trivial
   . intro h6;try simp only [dt,tn] at h6
     with_reducible and_intros
     iterate 2 omega
     . refine⟨((x3),((nat_lit 1:Nat),((l),(x3)))),?_⟩;try dsimp only
       with_reducible and_intros
       iterate 2 omega
       trivial;exact S.U6 h4 h5 h6;omega
     intro x7 h8;refine⟨?_,?_⟩
     . intro h9;try simp only [dt,tn] at h9
       with_reducible and_intros
       iterate 2 omega
       . have q1:=h8.1.1;have q2:=h8.1.2.1;have q3:=h8.1.2.2.2.1;have q4:=h8.1.2.2.2.2.1;have q5:=h8.2;omega
       iterate 2 omega
       . have q1:=h8.1.1;have q2:=h8.1.2.1;have q3:=h8.1.2.2.2.1;have q4:=h8.1.2.2.2.2.1;have q5:=h8.2;omega
       omega
       . have q1:=h8.1.1;have q2:=h8.1.2.1;have q3:=h8.1.2.2.2.1;have q4:=h8.1.2.2.2.2.1;have q5:=h8.2;omega
       trivial
       . intro db;try simp only [nt,df,tn] at db
         with_reducible and_intros
         iterate 2 omega
         . have q1:=h8.1.1;have q2:=h8.1.2.1;have q3:=h8.1.2.2.2.1;have q4:=h8.1.2.2.2.2.1;have q5:=h8.2;omega
         omega
         iterate 2
          . have q1:=h8.1.1;have q2:=h8.1.2.1;have q3:=h8.1.2.2.2.1;have q4:=h8.1.2.2.2.2.1;have q5:=h8.2;omega
         omega;have q1:=h8.1.1;have q2:=h8.1.2.1;have q3:=h8.1.2.2.2.1;have q4:=h8.1.2.2.2.2.1;have q5:=h8.2;omega
       . intro gz;try simp only [nf,dt,tn] at gz
         trivial
       iterate 2 omega
       refine⟨((Int.toNat (bif !Decidable.decide (List.getD (Prod.fst (Prod.snd (Prod.snd x7))) (Int.toNat (↑x3:Int)+Int.toNat (↑(Prod.fst (Prod.snd x7)):Int)) []=List.getD (Prod.fst (Prod.snd (Prod.snd x7))) (Int.toNat (↑x3:Int)+Int.toNat ((↑(Prod.fst (Prod.snd x7)):Int)-(1:Int))) []) then(↑(Prod.fst x7):Int)+(1:Int) else(↑(Prod.fst x7):Int))),((Prod.fst (Prod.snd x7)+nat_lit 1),((bif !Decidable.decide (List.getD (Prod.fst (Prod.snd (Prod.snd x7))) (Int.toNat (↑x3:Int)+Int.toNat (↑(Prod.fst (Prod.snd x7)):Int)) []=List.getD (Prod.fst (Prod.snd (Prod.snd x7))) (Int.toNat (↑x3:Int)+Int.toNat ((↑(Prod.fst (Prod.snd x7)):Int)-(1:Int))) []) then List.set (Prod.fst (Prod.snd (Prod.snd x7))) (Int.toNat (↑(Prod.fst x7):Int)) (List.getD (Prod.fst (Prod.snd (Prod.snd x7))) (Int.toNat (↑x3:Int)+Int.toNat (↑(Prod.fst (Prod.snd x7)):Int)) []) else Prod.fst (Prod.snd (Prod.snd x7))),(x3)))),?_⟩;try dsimp only
       with_reducible and_intros
       . generalize (!decide (List.getD x7.2.2.1 (Int.toNat (x3:Int)+Int.toNat (x7.2.1:Int)) []=List.getD x7.2.2.1 (Int.toNat (x3:Int)+Int.toNat ((x7.2.1:Int)-1)) []))=c;cases c<;>simp only [K!,P!]<;>omega
       omega;trivial
       . have q1:=h8.1.1;have e3:x7.2.2.2=x3:=by have :=h8.2;omega
         have hi:=h8.1;rw [e3] at hi;have e1:Int.toNat (x3:Int)+Int.toNat (x7.2.1:Int)=x3+x7.2.1:=by omega
         have e2:Int.toNat (x3:Int)+Int.toNat ((x7.2.1:Int)-1)=x3+x7.2.1-1:=by omega
         rw [e1,e2];by_cases hd:List.getD x7.2.2.1 (x3+x7.2.1) []=List.getD x7.2.2.1 (x3+x7.2.1-1) []
         . rw [P? hd];exact S.G6 hi (by omega) hd
         rw [V? hd];exact S.K8 hi (by omega) hd
       omega;simp only [S.ag,S.len];have q2:=h8.1.2.1;omega
     intro gA;try simp only [df,tn] at gA
     with_reducible and_intros
     omega
     iterate 2
      . have q1:=h8.1.2.1;have q2:=h8.1.2.2.2.1;have q3:=h8.1.2.2.2.2.1;omega
     omega
     . have q1:=h8.1.2.1;have q2:=h8.1.2.2.2.1;have q3:=h8.1.2.2.2.2.1;simp only [C!,X!];omega
     have q1:=h8.1.2.1;have q2:=h8.1.2.2.2.1;have q3:=h8.1.2.2.2.2.1;have e1:Int.toNat (x7.1:Int)=x7.1:=by omega
     rw [e1,S.DX (by omega)];exact S.K9 h8.1 (by have :=h8.2;omega)
   intro lp;try simp only [df,tn] at lp
   with_reducible and_intros
   iterate 2 omega
   refine⟨(x3+nat_lit 1),?_⟩;try dsimp only
   with_reducible and_intros
   omega;exact S.K6 h4 h5 lp;simp only [S.ag,S.len];omega
 intro lE;try simp only [df] at lE
 exact S.QI h4 lE
theorem aCe(l:List (List UInt8))(hp:S.small l)(hf:Vg.abq J.aIu l)(hg:Vg.dh.ok J.q4q ()):ahp l:=by
 unfold ahp;have eX:Vg.hlen l:=hf.1.1;clear hf hg;with_reducible and_intros
 iterate 2 exact hp
 exact S.Oe hp;rfl
theorem aCf(b:List UInt8)(hp:S.small b)(hf:Vg.kO J.n4 b):ahq b:=by
 unfold ahq;have dV:Vg.hlen b:=hf.1.1;clear hf;with_reducible and_intros
 exact hp;exact S.Od hp;exact S.G7 _
theorem aCg(l:List (List UInt8))(hp:True)(hf:Vg.kO J.adx l):ahr l:=by
 delta ahr q94 ay z0 z1 al;have eX:Vg.hlen l:=hf.1.1;clear hf;refine⟨?_,?_⟩
 . refine⟨(nat_lit 0:Nat),?_⟩;try dsimp only
   refine⟨?_,?_⟩
   . omega
   exact S.aou l
 intro x1 h2;refine⟨?_,?_⟩
 . intro h3;try simp only [dt] at h3
   with_reducible and_intros
   iterate 2 omega
   . intro h4;try simp only [nt,df,tn] at h4
     exact S.acq h3 h4
   intro h5;try simp only [nf,dt,tn] at h5
   with_reducible and_intros
   iterate 2 omega
   refine⟨(x1+nat_lit 1),?_⟩;try dsimp only
   with_reducible and_intros
   omega;exact S.TI h2 h3 h5;simp only [S.ag,S.len];omega
 intro h6;try simp only [df] at h6
 exact S.acr h2 (by with_reducible assumption)
theorem aCh(a:List UInt8)(b:List UInt8)(hp:True)(hf:Vg.kO J.adL (a,b)):ahs a b:=by
 unfold ahs;have zl:Vg.hlen a:=hf.1;have dV:Vg.hlen b:=hf.2.1;clear hf;refine⟨?_,?_⟩
 . trivial
 rfl
theorem aCi(s:List (List UInt8))(hp:S.tp s)(hf:Vg.abq J.afI ())(hg:Vg.dh.ok J.q1q (s,())):aht s:=by
 delta aht q95 ay z0 z1 al;have RR:Vg.hlen s:=hg.1.1;clear hf hg;have h1:=hp.1;have h2:=hp.2;with_reducible and_intros
 iterate 10 omega
 trivial;iterate 6 omega
 . rw [List.length_set];omega
 exact S.aot hp
theorem aCj(l:List (List UInt8))(hp:S.c8 l)(hf:Vg.kO J.aic l):ahu l:=by
 delta ahu ay z0 z1 al;have eX:Vg.hlen l:=hf.1.1;clear hf;have h1:=hp.1;refine⟨?_,?_⟩
 . refine⟨(nat_lit 0:Nat),?_⟩;try dsimp only
   with_reducible and_intros
   omega;rfl;simp only [S.fy,S.ag,S.len] at *;omega
 intro x1 h2;refine⟨?_,?_⟩
 . intro h3;try simp only [dt] at h3
   with_reducible and_intros
   iterate 2 omega
   exact S.DQ hp (by with_reducible assumption)
   . have :=S.y7 l x1;simp only [lc,ln];omega
   iterate 2 omega
   refine⟨(x1+nat_lit 1),?_⟩;try dsimp only
   with_reducible and_intros
   omega;exact S.BG (by with_reducible assumption)
   . simp only [S.fy,S.ag,S.len] at *;omega
   simp only [S.fy,S.ag,S.len] at *;omega
 intro h4;try simp only [df] at h4
 exact S.DP (by with_reducible assumption)
theorem aCk(l:List (List UInt8))(hp:S.cO l)(hf:Vg.kO J.adx l):ahv l:=by
 delta ahv ay z0 z1 al;have eX:Vg.hlen l:=hf.1.1;clear hf;have eB:=hp.2;refine⟨?_,?_⟩
 . intro h1;try simp only [dt] at h1
   refine⟨?_,?_⟩
   . exact J! _
   exact S.Lc h1
 intro h2;try simp only [df] at h2
 refine⟨?_,?_⟩
 . refine⟨((nat_lit 0:Nat),([])),?_⟩;try dsimp only
   with_reducible and_intros
   omega;with_reducible rfl
   exact S.aor l
 intro x3 h4;refine⟨?_,?_⟩
 . intro h5;try simp only [dt] at h5
   with_reducible and_intros
   iterate 2 omega
   . have :=S.QL h4;simp only [lc,ln];omega
   . refine⟨(0,x3.1,x3.2++ [List.getD l (Int.toNat (x3.1:Int)) []],x3.1),?_⟩;try dsimp only
     with_reducible and_intros
     omega;with_reducible rfl
     exact S.az2 h4 h5;omega
   intro x6 h7;with_reducible and_intros
   iterate 2 omega
   . intro h8;try simp only [dt] at h8
     with_reducible and_intros
     exact S.aeP (S.ET h7) h8 hp;iterate 2 omega
     refine⟨(x6.1+1,x6.2.1/2,S.comb x6.2.2.1,x3.1),?_⟩;try dsimp only
     with_reducible and_intros
     . simp only [show Int.toNat 1=1 by rfl];omega
     with_reducible rfl
     exact(S.CR (S.ET h7) h8).1;omega;exact(S.CR (S.ET h7) h8).2.1
   intro h9;try simp only [df] at h9
   with_reducible and_intros
   iterate 2 omega
   refine⟨((Prod.fst x3+nat_lit 1),(Prod.fst (Prod.snd (Prod.snd x6)))),?_⟩;try dsimp only
   with_reducible and_intros
   omega;with_reducible rfl
   exact S.aeL (S.ET h7) h9;simp only [S.ag,S.len];omega
 intro db;try simp only [df] at db
 refine⟨?_,?_⟩
 . refine⟨(Prod.snd x3),?_⟩;try dsimp only
   refine⟨?_,?_⟩
   . with_reducible rfl
   exact S.az3 h4 db h2
 intro x11 gA;refine⟨?_,?_⟩
 . intro lp;try simp only [dt] at lp
   refine⟨?_,?_⟩
   . have :=S.aeO gA;exact⟨by omega,by omega⟩
   refine⟨(S.comb x11),?_⟩;try dsimp only
   with_reducible and_intros
   with_reducible rfl
   exact(S.Lb gA lp).1;exact(S.Lb gA lp).2
 intro lE;try simp only [df] at lE
 with_reducible and_intros
 omega
 iterate 2
  . have :=(S.QJ gA lE).2;omega
 exact(S.QJ gA lE).1
theorem aCl(l:List (List UInt8))(hp:S.small l)(hf:Vg.kO J.adx l):ahw l:=by
 delta ahw z0 z1;have eX:Vg.hlen l:=hf.1.1;clear hf;have eB:l.length<=1099511627776:=hp;with_reducible and_intros
 trivial
 . intro h1;try simp only [nt] at h1
   refine⟨?_,?_⟩
   . grind [S.pn,S.nd,S.cO]
   grind [S.pn,S.nd,S.cO]
 intro h2;try simp only [nf] at h2
 with_reducible and_intros
 trivial;iterate 2 (grind [S.pn,S.nd,S.cO])
theorem aCm(n:Int)(hp:True)(hf:Vg.kO J.q7p n):ahx n:=by
 delta ahx q96 ay z0 z1;have zk:Vg.hint n:=hf.1;clear hf;refine⟨?_,?_⟩
 . intro h1;try simp only [V.mM,dt] at h1
   exact S.QK (by with_reducible assumption)
 intro h2;try simp only [V.eT,df] at h2
 refine⟨?_,?_⟩
 . refine⟨(0,1),?_⟩;try dsimp only
   refine⟨?_,?_⟩
   . omega
   exact S.DO h2.1
 intro x3 h4;with_reducible and_intros
 iterate 2
  . (have :=S.fL h4;omega)
 . intro h5;try simp only [dt] at h5
   with_reducible and_intros
   . (have :=S.fL h4;omega)
   omega;refine⟨(x3.1+1,2*x3.2),?_⟩;try dsimp only
   with_reducible and_intros
   omega
   . (have :=S.fL h4;exact(S.w8 h4 h5).1)
   . (have :=S.fL h4;omega)
 intro h6;try simp only [df] at h6
 (have :=S.fL h4;exact S.y6 h4 h2.1 h2.2 h6)
theorem aCn(m:Nat)(l:List (List UInt8))(hm:S.len l<m+1)(hp:S.cO l)(hf:Vg.kO J.adx l):ahy m l:=by
 delta ahy OW z0 z1 al;have eX:Vg.hlen l:=hf.1.1;clear hf;refine⟨?_,?_⟩
 . intro h1;try simp only [dt] at h1
   refine⟨?_,?_⟩
   . exact J! _
   exact S.Lc h1
 intro h2;try simp only [df] at h2
 refine⟨?_,?_⟩
 . intro h3;try simp only [dt] at h3
   with_reducible and_intros
   iterate 2 omega
   exact(S.CQ (by omega)).symm
 intro h4;try simp only [df] at h4
 with_reducible and_intros
 trivial
 iterate 3
  . (have hq:=S.mG hp (by omega);simp only [S.len] at *;omega)
 . (have hq:=S.mG hp (by omega);exact hq.2.2.1)
 iterate 3
  . (have hq:=S.mG hp (by omega);simp only [S.len] at *;omega)
 . (have hq:=S.mG hp (by omega);exact hq.2.2.2.2.1)
 . (have hq:=S.mG hp (by omega);exact hq.2.2.2.2.2.1)
 . (have hq:=S.mG hp (by omega);exact hq.2.2.2.2.2.2)
theorem aCo(l:List (List UInt8))(hp:S.c8 l)(hf:Vg.kO J.aic l):ahz l:=by
 delta ahz ay z0 z1 al;have eX:Vg.hlen l:=hf.1.1;clear hf;have h1:=hp.1;refine⟨?_,?_⟩
 . refine⟨(nat_lit 0:Nat),?_⟩;try dsimp only
   with_reducible and_intros
   omega;rfl;simp only [S.fy,S.ag,S.len] at *;omega
 intro x1 h2;refine⟨?_,?_⟩
 . intro h3;try simp only [dt] at h3
   with_reducible and_intros
   iterate 2 omega
   exact S.DQ hp (by with_reducible assumption)
   . have :=S.y7 l x1;simp only [lc,ln];omega
   iterate 2 omega
   refine⟨(x1+nat_lit 1),?_⟩;try dsimp only
   with_reducible and_intros
   omega;exact S.BG (by with_reducible assumption)
   . simp only [S.fy,S.ag,S.len] at *;omega
   simp only [S.fy,S.ag,S.len] at *;omega
 intro h4;try simp only [df] at h4
 exact S.DP (by with_reducible assumption)
theorem aCp(n:Int)(hp:True)(hf:Vg.kO J.q7p n):ahA n:=by
 delta ahA q98 ay z0 z1;have zk:Vg.hint n:=hf.1;clear hf;refine⟨?_,?_⟩
 . intro h1;try simp only [V.mM,dt] at h1
   exact S.QK (by with_reducible assumption)
 intro h2;try simp only [V.eT,df] at h2
 refine⟨?_,?_⟩
 . refine⟨(0,1),?_⟩;try dsimp only
   refine⟨?_,?_⟩
   . omega
   exact S.DO h2.1
 intro x3 h4;with_reducible and_intros
 iterate 2
  . (have :=S.fL h4;omega)
 . intro h5;try simp only [dt] at h5
   with_reducible and_intros
   . (have :=S.fL h4;omega)
   omega;refine⟨(x3.1+1,2*x3.2),?_⟩;try dsimp only
   with_reducible and_intros
   omega
   . (have :=S.fL h4;exact(S.w8 h4 h5).1)
   . (have :=S.fL h4;omega)
 intro h6;try simp only [df] at h6
 (have :=S.fL h4;exact S.y6 h4 h2.1 h2.2 h6)
theorem aCq(l:List (List UInt8))(i:Int)(hp:S.rf l)(hf:Vg.kO J.anF (l,i)):ahD l i:=by
 delta ahD q99 B4 ahC ay z0 z1 al;have eX:Vg.hlen l:=hf.1.1;have XX:Vg.hint i:=hf.2.1;clear hf;have eB:l.length<=1099511627776:=hp;with_reducible and_intros
 trivial
 . intro h1;try simp only [V.mM,nt,dt] at h1
   refine⟨?_,?_⟩
   . exact(S.afy h1).1
   exact(S.afy h1).2
 intro h2;try simp only [V.eT,nf,df] at h2
 refine⟨?_,?_⟩
 . refine⟨((l),((i),([]))),?_⟩;try dsimp only
   with_reducible and_intros
   iterate 3 with_reducible rfl
   exact S.ac1 h2
 intro x3 h4;refine⟨?_,?_⟩
 . intro h5;try simp only [dt] at h5
   with_reducible and_intros
   trivial
   . intro h6;try simp only [dt] at h6
     with_reducible and_intros
     iterate 2
      . (have q:=S.zc eB h4 h5;omega)
     . (have q:=S.zc eB h4 h5;exact q.2.2.1)
     . (have q:=S.zc eB h4 h5;exact q.2.2.2.1 _)
     iterate 2
      . (have q:=S.zc eB h4 h5;omega)
     refine⟨((List.take (Int.toNat (S.split (↑(List.length (Prod.fst x3)):Int))) (Prod.fst x3)),((Prod.fst (Prod.snd x3)),(Prod.snd (Prod.snd x3)++ [S.root (List.drop (Int.toNat (S.split (↑(List.length (Prod.fst x3)):Int))) (Prod.fst x3))]))),?_⟩;try dsimp only
     with_reducible and_intros
     iterate 3 with_reducible rfl
     exact S.aAg eB h4 h5 h6
     . (have q:=S.zc eB h4 h5;omega)
   intro h7;try simp only [df] at h7
   with_reducible and_intros
   iterate 2
    . (have q:=S.zc eB h4 h5;omega)
   . (have q:=S.zc eB h4 h5;exact q.2.1)
   . (have q:=S.zc eB h4 h5;exact q.2.2.2.1 _)
   iterate 4
    . (have q:=S.zc eB h4 h5;omega)
   refine⟨((List.drop (Int.toNat (S.split (↑(List.length (Prod.fst x3)):Int))) (Prod.fst x3)),((Prod.fst (Prod.snd x3)-S.split (↑(List.length (Prod.fst x3)):Int)),(Prod.snd (Prod.snd x3)++ [S.root (List.take (Int.toNat (S.split (↑(List.length (Prod.fst x3)):Int))) (Prod.fst x3))]))),?_⟩;try dsimp only
   with_reducible and_intros
   iterate 3 with_reducible rfl
   exact S.aAh eB h4 h5 h7
   . (have q:=S.zc eB h4 h5;omega)
 intro h8;try simp only [df] at h8
 with_reducible and_intros
 exact S.aAi eB h4;exact(S.Vr h2 h4 (by assumption)).1;exact(S.Vr h2 h4 (by assumption)).2
theorem aCr(m:Nat)(l:List (List UInt8))(i:Int)(hm:S.len l<m+1)(hp:S.jU l i)(hf:Vg.kO J.anF (l,i)):ahF m l i:=by
 delta ahF ahE RH D9 Ea ay z0 z1 al;have eX:Vg.hlen l:=hf.1.1;have XX:Vg.hint i:=hf.2.1;clear hf;have hp1:l.length<=1099511627776:=hp.1.2;refine⟨?_,?_⟩
 . intro h1;try simp only [dt] at h1
   exact(S.BW (by omega)).symm
 intro h2;try simp only [df] at h2
 with_reducible and_intros
 trivial
 . intro h3;try simp only [dt] at h3
   with_reducible and_intros
   iterate 3
    . (have q:=S.tC hp (by assumption);omega)
   . (have q:=S.tC hp (by assumption);(have r:=q.2.2.2.2.2.2.2.1 (by assumption);exact r.1))
   iterate 2
    . (have q:=S.tC hp (by assumption);omega)
   . (have q:=S.tC hp (by assumption);exact q.2.2.1)
   . (have q:=S.tC hp (by assumption);exact q.2.2.2.1 _)
   . (have q:=S.tC hp (by assumption);(have r:=q.2.2.2.2.2.2.2.1 (by assumption);exact r.2))
 intro h4;try simp only [df] at h4
 with_reducible and_intros
 iterate 2
  . (have q:=S.tC hp (by assumption);omega)
 omega
 iterate 2
  . (have q:=S.tC hp (by assumption);omega)
 . (have q:=S.tC hp (by assumption);(have r:=q.2.2.2.2.2.2.2.2 (by assumption);exact r.1))
 iterate 2
  . (have q:=S.tC hp (by assumption);omega)
 . (have q:=S.tC hp (by assumption);exact q.2.1)
 . (have q:=S.tC hp (by assumption);(have r:=q.2.2.2.2.2.2.2.2 (by assumption);exact q.2.2.2.2.1 _ r.1.2.2 r.1.2.1))
 . (have q:=S.tC hp (by assumption);(have r:=q.2.2.2.2.2.2.2.2 (by assumption);exact r.2))
theorem aCs(l:List Int)(hp:True)(hf:Vg.kO J.adq l):ahH l:=by
 delta ahH ahG ay z0 z1 al;have eX:Vg.hlen l:=hf.1.1;clear hf;refine⟨?_,?_⟩
 . refine⟨(nat_lit 0:Nat),?_⟩;try dsimp only
   with_reducible and_intros
   omega;exact(S.w9 l).symm;exact S.aov l
 intro x1 h2;refine⟨?_,?_⟩
 . intro h3;try simp only [dt] at h3
   with_reducible and_intros
   iterate 2 omega
   . intro h4;try simp only [V.mM,dt,tn] at h4
     exact S.acu h3 h4
   intro h5;try simp only [V.eT,df,tn] at h5
   with_reducible and_intros
   iterate 2 omega
   refine⟨(x1+nat_lit 1),?_⟩;try dsimp only
   with_reducible and_intros
   omega;rw [S.mH,tn];exact S.TJ h2 h3 h5;simp only [S.ag,S.len];omega
 intro h6;try simp only [df] at h6
 exact S.acv h2 (by with_reducible assumption)
theorem apI(l:List Int)(hp:True)(hf:Vg.kO J.adq l):VW l:=by
 delta VW VV ay bH z0 z1 al;have eX:Vg.hlen l:=hf.1.1;clear hf;with_reducible and_intros
 trivial
 . intro h1;try simp only [nt] at h1
   refine⟨?_,?_⟩
   . simp only [S.lB,S.ni,h1];rfl
   simp only [S.lB,S.ni,h1];rfl
 intro h2;try simp only [nf] at h2
 with_reducible and_intros
 exact J! _
 . refine⟨(nat_lit 0:Nat),?_⟩;try dsimp only
   with_reducible and_intros
   omega;exact(S.w9 l).symm
   . have :=S.mI h2;rw [S.Ld (by omega) (by omega),S.CT]
   omega
 intro x3 h4;refine⟨?_,?_⟩
 . intro h5;try simp only [dt] at h5
   with_reducible and_intros
   iterate 2 omega
   iterate 4
    . have :=S.yg h2 h5;omega
   exact J! _
   . have :=(S.sG h2 h5 (List.getD l (Int.toNat (x3:Int)) 0-S.eU l x3-1)).1;omega
   iterate 2 omega
   refine⟨(x3+nat_lit 1),?_⟩;try dsimp only
   with_reducible and_intros
   omega;rw [S.mH,tn];exact S.Hc h2 h5;omega;simp only [S.ag,S.len];omega
 intro h6;try simp only [df] at h6
 refine⟨?_,?_⟩
 . simp only [S.lB,h2];rfl
 rw [show x3=l.length by omega];exact S.acw h2
theorem apJ(l:List Int)(hp:True)(hf:Vg.kO J.adq l):VX l:=by
 delta VX z0;have eX:Vg.hlen l:=hf.1.1;clear hf;with_reducible and_intros
 trivial
 . intro h1;try simp only [nt,df] at h1
   refine⟨?_,?_⟩
   . have hq:S.cc l=false :=by
      cases hr:S.cc l with
      |false=>rfl
      |true=>exact absurd (by simp only [S.lB,hr];rfl) h1
     simp only [S.qP,hq];rfl
   rfl
 intro h2;try simp only [nf,dt] at h2
 with_reducible and_intros
 iterate 2
  . have hq:S.cc l=true :=by
     cases hr:S.cc l with
     |true=>rfl
     |false=>simp only [S.lB,hr] at h2;exact absurd h2 (by decide)
    have hl:=S.He hq;simp only [S.ni,S.qP,hq,H?,S.bz];try (first|rfl|omega)
 omega
theorem apK(n:Int)(p:Bool)(q:Bool)(s1:Int)(s2:Int)(hp:True)(hf:Vg.abq J.aIv (n,p,q))(hg:Vg.dh.ok J.q5q ((s1,s2),())):VY n p q s1 s2:=by
 unfold VY;have zk:Vg.hint n:=hf.1;have mr:Vg.hint s1:=hg.1.1;have mu:Vg.hint s2:=hg.1.2.1;clear hf hg;with_reducible and_intros
 . simp only [S.qQ];grind
 iterate 2 rfl
theorem apL(a:List Int)(b:List Int)(s1:Int)(s2:Int)(hp:b.length=0)(hf:Vg.abq J.aIT (a,b))(hg:Vg.dh.ok J.q5q ((s1,s2),())):VZ a b s1 s2:=by
 delta VZ RJ sc ahI ahJ ahK ahL ahM z0 z1;have hb:b= []:=List.eq_nil_of_length_eq_zero hp;subst hb;have ha:Vg.hlen a:=hf.1.1;clear hf hg;refine⟨trivial,trivial,?_,?_⟩
 . refine⟨(S.okL a,[]),⟨?_,?_,rfl,rfl,rfl⟩,S.aow a s1 s2⟩
   . simp only [S.okL];cases S.cc a<;>rfl
   simp [S.gE]
 rintro⟨r,out⟩ h;have hl:=h.2;cases r with
 |nil=>simp [S.gE];exact S.acy h
 |cons n r=>
  simp [S.gE];refine⟨by omega,fun hn=>⟨?_,?_⟩,fun hn=> ?_⟩
  . simp at hl;omega
  . exact⟨r,out++ [n],⟨rfl,rfl⟩,S.acx h hn,by simp [S.len]⟩
  exact⟨r,out,⟨rfl,rfl⟩,S.aeQ h hn,by simp [S.len]⟩
theorem apM(l:List Int)(s1:Int)(s2:Int)(hp:True)(hf:Vg.kO J.aIU (l,s1,s2)):V0 l s1 s2:=by
 unfold V0;have eX:Vg.hlen l:=hf.1.1;have mr:Vg.hint s1:=hf.2.1;have mu:Vg.hint s2:=hf.2.2.1;clear hf;refine⟨?_,?_⟩
 . rfl
 rfl
theorem apN(l:List Int)(hp:S.cc l=true)(hf:Vg.kO J.adq l):V2 l:=by
 delta V2 V1 ay bH z0 z1 al;have eX:Vg.hlen l:=hf.1.1;clear hf;with_reducible and_intros
 omega
 . refine⟨(nat_lit 0:Nat),?_⟩;try dsimp only
   with_reducible and_intros
   omega;exact(S.CT l).symm;omega
 intro x1 h2;refine⟨?_,?_⟩
 . intro h3;try simp only [dt] at h3
   refine⟨?_,?_⟩
   . intro h4;try simp only [dt] at h4
     with_reducible and_intros
     iterate 2 omega
     . have :=S.yg hp h3;rw [show(x1:Int)=0 by omega] at this;exact this.2.2
     . have :=(S.sG hp h3 (List.getD l (Int.toNat 0) 0)).2;omega
     iterate 2 omega
     refine⟨(x1+nat_lit 1),?_⟩;try dsimp only
     with_reducible and_intros
     omega;exact S.Ob h4;omega;simp only [S.ag,S.len];omega
   intro h5;try simp only [df] at h5
   with_reducible and_intros
   iterate 6 omega
   iterate 5
    . have :=S.yg hp h3;have :=S.CS (S.Oa (k:=x1) hp (by omega));rw [S.Hb (by omega)];omega
   . have :=(S.sG hp h3 (List.getD l (Int.toNat (x1:Int)) 0-List.getD l (Int.toNat ((x1:Int)-1)) 0-1)).2;omega
   iterate 2 omega
   refine⟨(x1+nat_lit 1),?_⟩;try dsimp only
   with_reducible and_intros
   omega;exact S.QN h5;omega;simp only [S.ag,S.len];omega
 intro h6;try simp only [df] at h6
 rw [show x1=l.length by omega];rfl
theorem apO(l:List Int)(hp:S.cc l=true)(hf:Vg.kO J.adq l):V3 l:=by
 unfold V3;have eX:Vg.hlen l:=hf.1.1;clear hf;with_reducible and_intros
 exact hp
 . have :=S.He hp;simp only [S.bz];omega
 rfl
theorem apP(a:List Int)(b:List Int)(hp:True)(hf:Vg.kO J.anG (a,b)):V4 a b:=by
 delta V4 ay z0 z1 al;have zl:Vg.hlen a:=hf.1.1;have dV:Vg.hlen b:=hf.2.1.1;clear hf;refine⟨?_,?_⟩
 . intro h1;try simp only [nt,df] at h1
   exact S.acA h1
 intro h2;try simp only [nf,dt] at h2
 refine⟨?_,?_⟩
 . refine⟨(nat_lit 0:Nat),?_⟩;try dsimp only
   refine⟨?_,?_⟩
   . omega
   exact S.aox h2
 intro x3 h4;refine⟨?_,?_⟩
 . intro h5;try simp only [dt] at h5
   with_reducible and_intros
   iterate 4 omega
   . intro h6;try simp only [nt,df,tn] at h6
     exact S.acz h6
   intro h7;try simp only [nf,dt,tn] at h7
   with_reducible and_intros
   iterate 2 omega
   refine⟨(x3+nat_lit 1),?_⟩;try dsimp only
   with_reducible and_intros
   omega;exact S.TK h4 h5 h7;simp only [S.ag,S.len];omega
 intro h8;try simp only [df] at h8
 exact S.acB h4 h8
theorem apQ(d:List (List UInt8×List Int))(hp:S.bf d)(hf:Vg.kO J.adv d):V5 d:=by
 delta V5 xx ahN ahO ay z0 z1 al;have sf:Vg.hlen d:=hf.1.1;clear hf;have eB:=hp.1;refine⟨?_,?_⟩
 . refine⟨(nat_lit 0:Nat),?_⟩;try dsimp only
   refine⟨?_,?_⟩
   . omega
   exact S.aHH d
 intro x1 h2;refine⟨?_,?_⟩
 . intro h3;try simp only [dt] at h3
   with_reducible and_intros
   iterate 2 omega
   . intro h4;try simp only [dt] at h4
     with_reducible and_intros
     iterate 4 omega
   . intro h5;try simp only [df] at h5
     trivial
   . intro h6;try simp only [V.UY,dt] at h6
     refine S.U7 h3 ((S.Hf _ _).2 (.inl ⟨by omega,?_⟩));have e:Int.toNat ((x1:Int)-1)=x1-1:=by omega
     have h62:=h6.2;rw [e] at h62;exact h62
   intro h7;try simp only [V.ER,df] at h7
   with_reducible and_intros
   . intro h8;try simp only [dt,tn] at h8
     trivial
   . intro h9;try simp only [df,tn] at h9
     with_reducible and_intros
     trivial
     . intro db;try simp only [nt] at db
       trivial
     intro gz;try simp only [nf] at gz
     exact S.acC hp
   . intro gA;try simp only [V.mM,dt,tn,nt] at gA
     exact S.U7 h3 ((S.Hf _ _).2 (.inr (gA.imp (fun q=>by have :((S.gy d x1).length:Int)=0:=q;omega) id)))
   intro lp;try simp only [V.eT,df,tn,nf] at lp
   with_reducible and_intros
   iterate 2 omega
   refine⟨(x1+nat_lit 1),?_⟩;try dsimp only
   with_reducible and_intros
   omega
   . refine S.aeR h2 h3 ((S.qS _ _).2 ⟨?_,?_,lp.2.1,lp.2.2⟩);rotate_left
     . have :=lp.1;simp only [S.gy];omega
     rcases h7 with h7|h7
     . left;omega
     right;have e:Int.toNat ((x1:Int)-1)=x1-1:=by omega
     rw [e] at h7;exact h7
   simp only [S.ag,S.len];omega
 intro lE;try simp only [df] at lE
 exact S.aoy h2 (by with_reducible assumption)
theorem apR(l1:List UInt8)(l2:List UInt8)(l3:List UInt8)(hp:True)(hf:Vg.kO J.anH (l1,l2,l3)):V6 l1 l2 l3:=by
 delta V6 ahP bH z0 z1 al;have aCt:Vg.hlen l1:=hf.1;have aCu:Vg.hlen l2:=hf.2.1;have aCv:Vg.hlen l3:=hf.2.2.1;clear hf;refine⟨?_,?_⟩
 . intro h1;try simp only [V.mM,dt,nt,df] at h1
   refine⟨?_,?_⟩
   . have hq:=S.Hi h1;simp only [S.ig,S.mo,hq];rfl
   have hq:=S.Hi h1;simp only [S.ig,S.mo,hq];rfl
 intro h2;try simp only [V.eT,df,nf,dt] at h2
 with_reducible and_intros
 . have hq:=S.oX h2;have q:=(S.jt _ _ _).1 hq;have t1:=S.im (s:=l1);have t2:=S.im (s:=l2)
   exact S.DT (J! _) (by omega)
 . have hq:=S.oX h2;have q:=(S.jt _ _ _).1 hq;have t1:=S.im (s:=l1);have t2:=S.im (s:=l2)
   exact S.DT (by rw [t?];omega) (by omega)
 . have hq:=S.oX h2;have q:=(S.jt _ _ _).1 hq;have t1:=S.im (s:=l1);have t2:=S.im (s:=l2)
   simp only [C!,ln];omega
 . have hq:=S.oX h2;have q:=(S.jt _ _ _).1 hq;have t1:=S.im (s:=l1);have t2:=S.im (s:=l2)
   simp only [S.ig,hq,H?];rfl
 have hq:=S.oX h2;have q:=(S.jt _ _ _).1 hq;have t1:=S.im (s:=l1);have t2:=S.im (s:=l2)
 simp only [S.mo,hq,H?];done
theorem apS(b:List UInt8)(hp:b.length<=140737488355328)(hf:Vg.kO J.n4 b):V7 b:=by
 delta V7 Eb RK ahQ ahR bH z0;clear hf;refine⟨hp,?_,?_,trivial,fun h=> ?_,fun h=> ?_⟩
 . rw [S.rW];exact hp
 . rw [S.rW,S.rW];exact hp
 . have h':(!decide (S.done (S.oW b).1.1 (S.oW b).1.2.1 (S.oW b).1.2.2=0))=true :=h
   have e:S.bw b=(([],[],[]),S.done (S.oW b).1.1 (S.oW b).1.2.1 (S.oW b).1.2.2):=by
    unfold S.bw;rw [if_neg];intro hc;rw [decide_eq_true hc] at h';cases h'
   rw [e];exact⟨rfl,rfl,rfl,rfl⟩
 have h':(!decide (S.done (S.oW b).1.1 (S.oW b).1.2.1 (S.oW b).1.2.2=0))=false :=h
 have e:S.bw b=(((S.TL b).2,(S.Oc b).2,(S.oW b).2),0):=by
  unfold S.bw;rw [if_pos];by_cases hc:S.done (S.oW b).1.1 (S.oW b).1.2.1 (S.oW b).1.2.2=0;exact hc;rw [decide_eq_false hc] at h';cases h'
 rw [e];exact⟨rfl,rfl,rfl,rfl⟩
theorem apT(d:List (List UInt8×List Int))(hp:S.bf d)(hf:Vg.kO J.adv d):V8 d:=by
 delta V8 ahS ay z0 z1 al;have sf:Vg.hlen d:=hf.1.1;clear hf;have eB:=hp.1;with_reducible and_intros
 omega
 . intro h1;try simp only [nt] at h1
   refine⟨?_,?_⟩
   . simp only [S.dE,S.b6,h1];rfl
   simp only [S.dE,S.b6,h1];rfl
 intro h2;try simp only [nf] at h2
 with_reducible and_intros
 iterate 2 omega
 . refine⟨(nat_lit 0:Nat),?_⟩;try dsimp only
   with_reducible and_intros
   omega;rfl;omega
 intro x3 h4;refine⟨?_,?_⟩
 . intro h5;try simp only [dt] at h5
   with_reducible and_intros
   . intro h6;try simp only [dt] at h6
     with_reducible and_intros
     iterate 8 omega
   . intro h7;try simp only [df] at h7
     trivial
   . intro h8;try simp only [dt] at h8
     refine⟨?_,?_⟩
     . omega
     omega
   . intro h9;try simp only [df] at h9
     trivial
   iterate 2 trivial
   . rw [S.zZ];simp only [lc,ln];omega
   iterate 2 omega
   refine⟨(x3+nat_lit 1),?_⟩;try dsimp only
   with_reducible and_intros
   omega;rw [S.aoA h2 (by omega),S.DS];omega;simp only [S.ag,S.len];omega
 intro db;try simp only [df] at db
 refine⟨?_,?_⟩
 . simp only [S.dE,h2];rfl
 simp only [S.b6,h2,H?];rw [show x3=d.length+1 by omega];rfl
theorem apU(d:List (List UInt8×List Int))(hp:S.bf d)(hf:Vg.kO J.adv d):V9 d:=by
 delta V9 z0;have sf:Vg.hlen d:=hf.1.1;clear hf;with_reducible and_intros
 omega
 . intro h1;try simp only [nt,df] at h1
   refine⟨?_,?_⟩
   . simp only [S.uJ,S.aHI h1];rfl
   rfl
 intro h2;try simp only [nf,dt] at h2
 with_reducible and_intros
 . have hr:=S.qU h2;have hq:=S.jG hp hr;have e:S.b6 d=S.eh d:=by simp only [S.b6,hr,H?]
   rw [e];exact hq.1
 . have hr:=S.qU h2;have hq:=S.jG hp hr;have e:S.b6 d=S.eh d:=by simp only [S.b6,hr,H?]
   rw [e];exact hq.2.2
 . have hr:=S.qU h2;have hq:=S.jG hp hr;have e:S.b6 d=S.eh d:=by simp only [S.b6,hr,H?]
   rw [e];simp only [S.uJ,S.pn,hr,hq.2.1,H?];rfl
 have hr:=S.qU h2;have hq:=S.jG hp hr;have e:S.b6 d=S.eh d:=by simp only [S.b6,hr,H?]
 rw [e];simp only [S.dE,S.nd,hr,hq.2.1,H?]
theorem apV(d:List (List UInt8×List Int))(t:List UInt8)(hp:S.bf d)(hf:Vg.kO J.aif (d,t)):Wa d t:=by
 delta Wa ay z0 z1 al;have sf:Vg.hlen d:=hf.1.1;have LK:Vg.hlen t:=hf.2.1;clear hf;have eB:=hp.1;with_reducible and_intros
 omega
 . intro h1;try simp only [nt] at h1
   refine⟨?_,?_⟩
   . exact(S.Lg h1).1
   exact(S.Lg h1).2
 intro h2;try simp only [nf] at h2
 refine⟨?_,?_⟩
 . refine⟨(nat_lit 0:Nat),?_⟩;try dsimp only
   with_reducible and_intros
   omega;rfl;omega
 intro x3 h4;refine⟨?_,?_⟩
 . intro h5;try simp only [dt] at h5
   with_reducible and_intros
   iterate 4 omega
   refine⟨(x3+nat_lit 1),?_⟩;try dsimp only
   with_reducible and_intros
   omega;exact S.aoB d t x3;omega;simp only [S.ag,S.len];omega
 intro h6;try simp only [df] at h6
 with_reducible and_intros
 . intro h7;try simp only [dt] at h7
   refine⟨?_,?_⟩
   . omega
   have :=(S.BH (d:=d) (t:=t) x3).2;omega
 . intro h8;try simp only [df] at h8
   trivial
 . rw [show x3=d.length by omega,S.aeT h2];cases decide (0<=S.br d t)<;>rfl
 rw [show x3=d.length by omega];exact S.aeU h2
theorem apW(d:List (List UInt8×List Int))(t:List UInt8)(hp:S.bf d)(hf:Vg.kO J.aif (d,t)):Wb d t:=by
 delta Wb z0 al;have sf:Vg.hlen d:=hf.1.1;have LK:Vg.hlen t:=hf.2.1;clear hf;have eB:=hp;with_reducible and_intros
 exact hp
 . intro h1;try simp only [nt] at h1
   exact S.aoF h1
 intro h2;try simp only [nf] at h2
 with_reducible and_intros
 exact(S.apA h2).1;exact(S.apA h2).2.1;exact S.aoG h2;exact(S.apA h2).2.2
theorem apX(docs:List (List UInt8))(s1:Int)(s2:Int)(hp:True)(hf:Vg.kO J.adD (docs,s1,s2)):Wc docs s1 s2:=by
 delta Wc ay z0 z1 al;have xA:Vg.hlen docs:=hf.1.1;have mr:Vg.hint s1:=hf.2.1;have mu:Vg.hint s2:=hf.2.2.1;clear hf;refine⟨?_,?_⟩
 . refine⟨(nat_lit 0:Nat),?_⟩;try dsimp only
   refine⟨?_,?_⟩
   . omega
   exact S.U8 docs
 intro x1 h2;refine⟨?_,?_⟩
 . intro h3;try simp only [dt] at h3
   with_reducible and_intros
   iterate 2 omega
   . intro h4;try simp only [dt,tn] at h4
     exact S.Le h3 h4
   intro h5;try simp only [df,tn] at h5
   with_reducible and_intros
   iterate 2 omega
   refine⟨(x1+nat_lit 1),?_⟩;try dsimp only
   with_reducible and_intros
   omega;exact S.Hh h2 h3 (by omega);simp only [S.ag,S.len];omega
 intro h6;try simp only [df] at h6
 have q:=S.Lf h2 h6;simp only [S.cP,q,Bool.true_and,S.qL]
theorem apY(b:List UInt8)(t:List UInt8)(hp:S.small b)(hf:Vg.kO J.ahB (b,t)):Wd b t:=by
 delta Wd z0 al;have dV:Vg.hlen b:=hf.1.1;have LK:Vg.hlen t:=hf.2.1;clear hf;refine⟨?_,?_⟩
 . exact hp
 rfl
theorem apZ(l1:List UInt8)(l2:List UInt8)(l3:List UInt8)(hp:S.eI l1 l2 l3=true)(hf:Vg.kO J.anH (l1,l2,l3)):We l1 l2 l3:=by
 delta We bH;have aCt:Vg.hlen l1:=hf.1;have aCu:Vg.hlen l2:=hf.2.1;have aCv:Vg.hlen l3:=hf.2.2.1;clear hf;have q:=(S.jt _ _ _).1 hp;have t1:=S.im (s:=l1);have t2:=S.im (s:=l2);with_reducible and_intros
 iterate 2
  . simp only [S.small];omega
 omega
 . simp only [C!];omega
 rfl
theorem ap0(d:List (List UInt8×List Int))(hp:S.bf d/\S.aY d=true)(hf:Vg.kO J.adv d):Wf d:=by
 delta Wf ahT LF ay z0 z1 al;have sf:Vg.hlen d:=hf.1.1;clear hf;have eB:=hp.1.1;refine⟨?_,?_⟩
 . refine⟨0,?_⟩;try dsimp only
   with_reducible and_intros
   omega;rfl;omega
 intro x1 h2;refine⟨?_,?_⟩
 . intro h3;try simp only [dt] at h3
   with_reducible and_intros
   rfl
   . intro h4;try simp only [dt] at h4
     with_reducible and_intros
     iterate 4 omega
     have e:Int.toNat ((x1:Int)-1)=x1-1:=by omega
     rw [e];exact(S.qT hp.2 (i:=x1-1) (by omega)).2
   . intro h5;try simp only [df] at h5
     trivial
   iterate 2 omega
   . intro h6;try simp only [dt] at h6
     with_reducible and_intros
     iterate 4 omega
   . intro h7;try simp only [df] at h7
     trivial
   . obtain⟨e1,e2,e3⟩:=S.U9 d x1;rw [e1,e2,e3];rcases S.xd hp.2 (k:=x1) with q|q
     . exact q
     omega
   . rw [S.zZ];simp only [lc,ln];omega
   iterate 2 omega
   refine⟨x1+1,?_⟩;try dsimp only
   with_reducible and_intros
   omega
   . obtain⟨e1,e2,e3⟩:=S.U9 d x1;rw [e1,e2,e3];exact S.DS d x1
   omega;simp only [S.ag,S.len];omega
 intro h8;try simp only [df] at h8
 rw [show x1=d.length+1 by omega];rfl
theorem ap1(d:List (List UInt8×List Int))(hp:S.bf d/\S.aY d=true)(hf:Vg.kO J.adv d):Wg d:=by
 unfold Wg;have sf:Vg.hlen d:=hf.1.1;clear hf;with_reducible and_intros
 exact hp.1;exact hp.2;exact(S.jG hp.1 hp.2).1;exact(S.jG hp.1 hp.2).2;rfl
theorem ap2(a:List (List UInt8×List Int))(b:List (List UInt8×List Int))(hp:True)(hf:Vg.kO J.anI (a,b)):Wh a b:=by
 delta Wh ahU ay z0 z1 al;have zl:Vg.hlen a:=hf.1.1;have dV:Vg.hlen b:=hf.2.1.1;clear hf;refine⟨?_,?_⟩
 . intro h1;try simp only [nt,df] at h1
   exact S.TP h1
 intro h2;try simp only [nf,dt] at h2
 refine⟨?_,?_⟩
 . refine⟨(nat_lit 0:Nat),?_⟩;try dsimp only
   refine⟨?_,?_⟩
   . omega
   exact S.aeS h2
 intro x3 h4;refine⟨?_,?_⟩
 . intro h5;try simp only [dt] at h5
   with_reducible and_intros
   iterate 4 omega
   . intro h6;try simp only [nt,df,tn] at h6
     trivial
   . intro h7;try simp only [nf,dt,tn] at h7
     with_reducible and_intros
     iterate 4 omega
     trivial
   . intro h8;try simp only [V.mM,nt,df,tn] at h8
     refine S.TO (k:=x3) fun e=> ?_;rw [e] at h8;rcases h8 with q|q
     . exact q rfl
     simp [S.nY] at q
   intro h9;try simp only [V.eT,nf,dt,tn] at h9
   with_reducible and_intros
   iterate 2 omega
   refine⟨(x3+nat_lit 1),?_⟩;try dsimp only
   with_reducible and_intros
   omega;exact S.QO h4 h5 (Prod.ext h9.1 (by simpa [S.nY] using h9.2));simp only [S.ag,S.len];omega
 intro db;try simp only [df] at db
 exact S.TQ h4 db
theorem ap3(docs:List (List UInt8))(s1:Int)(s2:Int)(hp:S.fA docs s1 s2)(hf:Vg.kO J.adD (docs,s1,s2)):Wi docs s1 s2:=by
 delta Wi sd ay z0 z1 al;have xA:Vg.hlen docs:=hf.1.1;have mr:Vg.hint s1:=hf.2.1;have mu:Vg.hint s2:=hf.2.2.1;clear hf;have p1:=hp.1;have p2:=hp.2.1;have p3:=hp.2.2.1;have p4:=hp.2.2.2.1;refine⟨?_,?_⟩
 . refine⟨0,?_⟩;try dsimp only
   with_reducible and_intros
   omega;exact S.aeV docs s1;simp only [S.eQ];omega
 intro x1 h2;refine⟨?_,?_⟩
 . intro h3;try simp only [dt] at h3
   with_reducible and_intros
   iterate 2 omega
   exact S.Hj hp _
   . have q1:=S.qV hp x1;have q2:=S.xe hp (Int.toNat (s1+(x1:Int)));simp only [S.eQ] at h2;omega
   iterate 2 omega
   refine⟨x1+1,?_⟩;try dsimp only
   with_reducible and_intros
   omega;exact S.rX docs s1 x1
   . simp only [S.eQ];omega
   simp only [S.ag];omega
 intro h4;try simp only [df] at h4
 with_reducible and_intros
 . have q1:=S.qV hp x1;simp only [S.eQ] at h2;simp only [S.small];omega
 . refine⟨(nat_lit 0:Nat),?_⟩;try dsimp only
   with_reducible and_intros
   omega;rfl;exact J! _
 intro x5 h6;refine⟨?_,?_⟩
 . intro h7;try simp only [dt] at h7
   with_reducible and_intros
   iterate 3 omega
   . refine⟨(0,List.getD (S.sorted (S.fY docs s1 x1)) (Int.toNat (x5:Int)) []),?_⟩;try dsimp only
     with_reducible and_intros
     omega;rfl;exact S.acE _ _ _
     . simp only [S.eQ];omega
     rfl
   intro x8 h9;refine⟨?_,?_⟩
   . intro db;try simp only [dt] at db
     with_reducible and_intros
     iterate 5 omega
     exact S.Hj hp _
     . intro gz;with_reducible and_intros
       . have q:=S.DU docs s1 x8.2 x8.1;have q2:=S.Hk h9.1 p2;simp only [lc,ln];omega
       iterate 2 omega
       refine⟨(x8.1+1,x8.2),?_⟩;try dsimp only
       with_reducible and_intros
       omega;rfl
       . rw [h9.2] at gz;exact S.xf gz
       . simp only [S.eQ];omega
       exact h9.2;simp only [S.ag];omega
     intro gA;with_reducible and_intros
     iterate 2 omega
     refine⟨(x8.1+1,x8.2),?_⟩;try dsimp only
     with_reducible and_intros
     omega;rfl
     . rw [h9.2] at gA;exact S.z6 gA
     . simp only [S.eQ];omega
     exact h9.2;simp only [S.ag];omega
   intro lp;try simp only [df] at lp
   with_reducible and_intros
   . have q:=S.QR docs s1 s2 x5;have q1:=S.qV hp x1;have q2:=S.mq (S.fY docs s1 x1);have q3:=S.Hk h2 p2;simp only [lc,ln];omega
   omega
   . have q1:=S.qV hp x1;have q2:=S.mq (S.fY docs s1 x1);have q3:=S.Hk h2 p2;omega
   refine⟨(x5+nat_lit 1),?_⟩;try dsimp only
   with_reducible and_intros
   omega
   . have e:=S.tu (docs:=docs) h2 h4;have h92:=h9.2;rw [e.1] at h7 h92;exact S.BI (by omega) (S.tu (docs:=docs) h9.1 lp).2 h92
   . have e:=S.tu (docs:=docs) h2 h4;rw [e.1] at h7;simp only [S.fy,S.ag,S.len];omega
   have e:=S.tu (docs:=docs) h2 h4;rw [e.1] at h7;simp only [S.fy,S.ag,S.len];omega
 intro lE;try simp only [df] at lE
 have e:=S.tu (docs:=docs) h2 h4;rw [e.1] at lE;exact S.DV (by omega)
theorem ap4(s1:Int)(s2:Int)(hp:True)(hf:Vg.kO J.aIW (s1,s2)):Wj s1 s2:=by
 delta Wj z0;have mr:Vg.hint s1:=hf.1;have mu:Vg.hint s2:=hf.2.1;clear hf;simp only [S.iB,S.qL]
theorem ap5(s1:Int)(s2:Int)(s3:List (List UInt8×List Int))(hp:S.bf s3)(hf:Vg.kO J.afK (s1,s2,s3)):Wk s1 s2 s3:=by
 delta Wk ahV ay z0 z1 al;have mr:Vg.hint s1:=hf.1;have mu:Vg.hint s2:=hf.2.1;have Ap:Vg.hlen s3:=hf.2.2.1.1;clear hf;with_reducible and_intros
 trivial
 . intro h1;try simp only [nt] at h1
   trivial
 . intro h2;try simp only [nf] at h2
   omega
 . intro h3;try simp only [V.mM,nt] at h3
   exact S.aoD h3
 intro h4;try simp only [V.eT,nf] at h4
 refine⟨?_,?_⟩
 . refine⟨(nat_lit 0:Nat),?_⟩;try dsimp only
   refine⟨?_,?_⟩
   . omega
   exact S.az6 h4.1 h4.2
 intro x5 h6;refine⟨?_,?_⟩
 . intro h7;try simp only [dt] at h7
   with_reducible and_intros
   iterate 2 omega
   trivial
   . intro h8;try simp only [nt,df,tn] at h8
     exact S.aeY h7 (V? h8)
   intro h9;try simp only [nf,dt,tn] at h9
   with_reducible and_intros
   iterate 2 omega
   refine⟨(x5+nat_lit 1),?_⟩;try dsimp only
   with_reducible and_intros
   omega;exact S.acI h6 h7 (P? h9);simp only [S.ag,S.len];omega
 intro db;try simp only [df] at db
 exact S.aeZ h6 db
theorem ap6(s1:Int)(s2:Int)(s3:List (List UInt8×List Int))(hp:S.bf s3)(hf:Vg.kO J.afK (s1,s2,s3)):Wl s1 s2 s3:=by
 delta Wl ay z0 z1 al;have mr:Vg.hint s1:=hf.1;have mu:Vg.hint s2:=hf.2.1;have Ap:Vg.hlen s3:=hf.2.2.1.1;clear hf;have eB:=hp.1;with_reducible and_intros
 omega
 . intro h1;try simp only [nt] at h1
   with_reducible and_intros
   iterate 4 (rw [S.Hm h1])
   rw [S.Hm h1]
 intro h2;try simp only [nf] at h2
 with_reducible and_intros
 omega
 . intro h3;try simp only [nt,df] at h3
   with_reducible and_intros
   iterate 5 (exact absurd (S.oY h2).2.1 h3)
 intro h4;try simp only [nf,dt] at h4
 with_reducible and_intros
 iterate 2 omega
 iterate 3 (rw [(S.oY h2).1])
 . rw [(S.oY h2).1];exact(S.oY h2).2.2
 rw [(S.oY h2).1]
theorem ap7(s1:Int)(s2:Int)(s3:Int)(s4:List UInt8)(hp:True)(hf:Vg.kO J.aI3 (s1,s2,s3,s4)):Wm s1 s2 s3 s4:=by
 delta Wm z1 al;have mr:Vg.hint s1:=hf.1;have mu:Vg.hint s2:=hf.2.1;have Ap:Vg.hint s3:=hf.2.2.1;have Us:Vg.hlen s4:=hf.2.2.2.1;clear hf;refine⟨?_,?_⟩
 . trivial
 simp only [S.j3,S.qL]
theorem ap8(docs:List (List UInt8))(s1:Int)(s2:Int)(hp:True)(hf:Vg.kO J.adD (docs,s1,s2)):Wn docs s1 s2:=by
 delta Wn z0 z1;have xA:Vg.hlen docs:=hf.1.1;have mr:Vg.hint s1:=hf.2.1;have mu:Vg.hint s2:=hf.2.2.1;clear hf;with_reducible and_intros
 trivial
 . intro h1;try simp only [nt,df] at h1
   with_reducible and_intros
   iterate 3 (rw [(S.QU (by simpa using h1)).1])
   have q:=S.QU (docs:=docs) (a:=s1) (b:=s2) (by simpa using h1);rw [q.1,q.2]
 intro h2;try simp only [nf,dt] at h2
 refine⟨?_,?_⟩
 . intro h3;try simp only [dt] at h3
   with_reducible and_intros
   iterate 3 (rw [S.QV h3])
   rw [S.QV h3]
 intro h4;try simp only [df] at h4
 with_reducible and_intros
 iterate 3 (rw [S.QW (by simpa using h2) h4])
 rw [S.QW (by simpa using h2) h4]
theorem ap9(l:List (Int×Int×Int×List UInt8))(n:Int)(hp:True)(hf:Vg.kO J.aI4 (l,n)):Wo l n:=by
 delta Wo tJ lX RL ay z0 z1 al;have eX:Vg.hlen l:=hf.1.1;have zk:Vg.hint n:=hf.2.1;clear hf;refine⟨?_,?_⟩
 . intro h1;try simp only [dt] at h1
   exact S.ae1 h1
 intro h2;try simp only [df] at h2
 refine⟨?_,?_⟩
 . refine⟨(nat_lit 0:Nat),?_⟩;try dsimp only
   with_reducible and_intros
   omega;exact(S.Ho l).symm;exact S.aoE h2
 intro x3 h4;refine⟨?_,?_⟩
 . intro h5;try simp only [dt] at h5
   with_reducible and_intros
   iterate 2 omega
   . intro h6;try simp only [nt] at h6
     trivial
   . intro h7;try simp only [nf] at h7
     trivial
   . intro h8;try simp only [V.mM,nt] at h8
     refine S.acL h4 h5 (S.QY ?_);rw [show Int.toNat (x3:Int)=x3 by omega] at h8;simpa [S.Hn,S.sg] using h8
   intro h9;try simp only [V.eT,nf] at h9
   with_reducible and_intros
   iterate 2 omega
   refine⟨(x3+nat_lit 1),?_⟩;try dsimp only
   with_reducible and_intros
   omega;exact(S.QX l x3).symm
   . refine S.TS h4 h5 (S.TT ?_);rw [show Int.toNat (x3:Int)=x3 by omega] at h9;simpa [S.Hn,S.sg] using h9
   simp only [S.ag,S.len];omega
 intro db;try simp only [df] at db
 exact S.acM h4 db
theorem aqa(docs:List (List UInt8))(s1:Int)(s2:Int)(hp:True)(hf:Vg.kO J.adD (docs,s1,s2)):Wq docs s1 s2:=by
 unfold Wq;have xA:Vg.hlen docs:=hf.1.1;have mr:Vg.hint s1:=hf.2.1;have mu:Vg.hint s2:=hf.2.2.1;clear hf;refine⟨?_,?_⟩
 . trivial
 simp only [S.c9,S.qL]
theorem aqb(docs:List (List UInt8))(s1:Int)(s2:Int)(hp:S.fA docs s1 s2)(hf:Vg.kO J.adD (docs,s1,s2)):Wr docs s1 s2:=by
 unfold Wr;have xA:Vg.hlen docs:=hf.1.1;have mr:Vg.hint s1:=hf.2.1;have mu:Vg.hint s2:=hf.2.2.1;clear hf;with_reducible and_intros
 exact hp;iterate 3 rfl
theorem aqc(s1:Int)(s2:Int)(s3:List (List UInt8×List Int))(hp:S.bf s3/\S.aY s3=true)(hf:Vg.kO J.afK (s1,s2,s3)):Ws s1 s2 s3:=by
 delta Ws al;have mr:Vg.hint s1:=hf.1;have mu:Vg.hint s2:=hf.2.1;have Ap:Vg.hlen s3:=hf.2.2.1.1;clear hf;with_reducible and_intros
 exact hp.1;exact hp.2;exact hp.1;exact hp.2;iterate 4 rfl
theorem aqd(a1:Int)(a2:Int)(a3:List (List UInt8×List Int))(b1:Int)(b2:Int)(b3:List (List UInt8×List Int))(hp:True)(hf:Vg.kO J.aI5 (a1,a2,a3,b1,b2,b3)):Wt a1 a2 a3 b1 b2 b3:=by
 unfold Wt;have aii:Vg.hint a1:=hf.1;have aij:Vg.hint a2:=hf.2.1;have aCw:Vg.hlen a3:=hf.2.2.1.1;have aCx:Vg.hint b1:=hf.2.2.2.1;have aCy:Vg.hint b2:=hf.2.2.2.2.1;have aKT:Vg.hlen b3:=hf.2.2.2.2.2.1.1;clear hf;with_reducible and_intros
 . intro h1;trivial
 . intro h2;trivial
 simp only [S.Hn,S.uP,S.gm,S.qL,Bool.and_assoc]
theorem aqe(d:List (List UInt8×List Int))(hp:True)(hf:Vg.kO J.adv d):Wu d:=by
 delta Wu ahW ay z0 z1 al;have sf:Vg.hlen d:=hf.1.1;clear hf;refine⟨?_,?_⟩
 . refine⟨(nat_lit 0:Nat),?_⟩;try dsimp only
   refine⟨?_,?_⟩
   . omega
   exact S.aHJ d
 intro x1 h2;refine⟨?_,?_⟩
 . intro h3;try simp only [dt] at h3
   with_reducible and_intros
   iterate 2 omega
   . intro h4;try simp only [dt,tn] at h4
     trivial
   . intro h5;try simp only [df,tn] at h5
     refine⟨?_,?_⟩
     . omega
     omega
   . intro h6;try simp only [V.mM,dt,tn] at h6
     refine S.aoH h3 ?_;simp only [S.pS,X?,dt];exact h6
   intro h7;try simp only [V.eT,df,tn] at h7
   with_reducible and_intros
   iterate 2 omega
   refine⟨(x1+nat_lit 1),?_⟩;try dsimp only
   with_reducible and_intros
   omega
   . refine S.ae2 h2 h3 ?_;simp only [S.pS,R?,df];exact h7
   simp only [S.ag,S.len];omega
 intro h8;try simp only [df] at h8
 exact S.aoI h2 h8
theorem aqf(docs:List (List UInt8))(hp:True)(hf:Vg.kO J.aic docs):Wv docs:=by
 delta Wv ay z0 z1 al;have xA:Vg.hlen docs:=hf.1.1;clear hf;refine⟨?_,?_⟩
 . refine⟨(nat_lit 0:Nat),?_⟩;try dsimp only
   refine⟨?_,?_⟩
   . omega
   exact S.aHK docs
 intro x1 h2;refine⟨?_,?_⟩
 . intro h3;try simp only [dt] at h3
   with_reducible and_intros
   iterate 2 omega
   . intro h4;try simp only [dt,tn] at h4
     exact S.aoJ h3 h4
   intro h5;try simp only [df,tn] at h5
   with_reducible and_intros
   iterate 2 omega
   refine⟨(x1+nat_lit 1),?_⟩;try dsimp only
   with_reducible and_intros
   omega;exact S.ae3 h2 h3 h5;simp only [S.ag,S.len];omega
 intro h6;try simp only [df] at h6
 exact S.aoK h2 h6
theorem aqg(s1:Int)(s2:Int)(s3:List (List UInt8×List Int))(hp:True)(hf:Vg.kO J.afK (s1,s2,s3)):Ww s1 s2 s3:=by
 unfold Ww;have mr:Vg.hint s1:=hf.1;have mu:Vg.hint s2:=hf.2.1;have Ap:Vg.hlen s3:=hf.2.2.1.1;clear hf;with_reducible and_intros
 iterate 3 rfl
theorem aqh(l:List UInt8)(hp:S.small l)(hf:Vg.kO J.n4 l):Wx l:=by
 delta Wx bH;have eX:Vg.hlen l:=hf.1.1;clear hf;with_reducible and_intros
 . intro h1;exact h1.symm
 . simp only [S.small,Vg.cW,ln] at *;omega
 rfl
theorem aqi(l:List (List UInt8×List Int))(hp:S.small l)(hf:Vg.kO J.adv l):Wy l:=by
 unfold Wy;have eX:Vg.hlen l:=hf.1.1;clear hf;with_reducible and_intros
 . intro h1;exact h1.symm
 . simp only [S.small,Vg.cW,ln] at *;omega
 rfl
theorem aqj(a:List Int)(b:List Int)(hp:True)(hf:Vg.kO J.anG (a,b)):Wz a b:=by
 delta Wz ay z0 z1 al;have zl:Vg.hlen a:=hf.1.1;have dV:Vg.hlen b:=hf.2.1.1;clear hf;refine⟨?_,?_⟩
 . intro h1;try simp only [nt,df] at h1
   exact(V? (S.Re h1)).symm
 intro h2;try simp only [nf,dt] at h2
 refine⟨?_,?_⟩
 . refine⟨(nat_lit 0:Nat),?_⟩;try dsimp only
   refine⟨?_,?_⟩
   . omega
   exact S.afj h2
 intro x3 h4;refine⟨?_,?_⟩
 . intro h5;try simp only [dt] at h5
   with_reducible and_intros
   iterate 4 omega
   . intro h6;try simp only [nt,df,tn] at h6
     exact(V? (S.Rf 0 h6)).symm
   intro h7;try simp only [nf,dt,tn] at h7
   with_reducible and_intros
   iterate 2 omega
   refine⟨(x3+nat_lit 1),?_⟩;try dsimp only
   with_reducible and_intros
   omega;exact S.Ln 0 h4 h5 h7;simp only [S.ag,S.len,S.ei,S.lU] at *;omega
 intro h8;try simp only [df] at h8
 exact(P? (S.Rc h4 h8)).symm
theorem aqk(a1:List UInt8)(a2:List Int)(b1:List UInt8)(b2:List Int)(hp:True)(hf:Vg.kO J.aI9 (a1,a2,b1,b2)):WA a1 a2 b1 b2:=by
 unfold WA;have aii:Vg.hlen a1:=hf.1;have aij:Vg.hlen a2:=hf.2.1.1;have aCx:Vg.hlen b1:=hf.2.2.1;have aCy:Vg.hlen b2:=hf.2.2.2.1.1;clear hf;with_reducible and_intros
 . intro h1;try simp only [dt] at h1
   trivial
 . intro h2;try simp only [df] at h2
   trivial
 simp only [S.xm,S.C1];cases decide (a1=b1)<;>rfl
theorem aql(a:List (List UInt8×List Int))(b:List (List UInt8×List Int))(hp:True)(hf:Vg.abq J.aJr (a,b))(hg:Vg.dh.ok J.q4q ()):WB a b:=by
 delta WB ahX ay z0 z1 al;have zl:Vg.hlen a:=hf.1.1;have dV:Vg.hlen b:=hf.2.1.1;clear hf hg;refine⟨?_,?_⟩
 . intro h1;try simp only [nt,df] at h1
   exact(V? (S.Re h1)).symm
 intro h2;try simp only [nf,dt] at h2
 refine⟨?_,?_⟩
 . refine⟨(nat_lit 0:Nat),?_⟩;try dsimp only
   refine⟨?_,?_⟩
   . omega
   exact S.afj h2
 intro x3 h4;refine⟨?_,?_⟩
 . intro h5;try simp only [dt] at h5
   with_reducible and_intros
   iterate 4 omega
   trivial
   . intro h6;try simp only [nt] at h6
     exact(V? (S.Rf ([],[]) (S.aoN h6))).symm
   intro h7;try simp only [nf] at h7
   with_reducible and_intros
   iterate 2 omega
   refine⟨(x3+nat_lit 1),?_⟩;try dsimp only
   with_reducible and_intros
   omega;exact S.Ln ([],[]) h4 h5 (S.aoM h7);simp only [S.ag,S.len,S.ei,S.lU] at *;omega
 intro h8;try simp only [df] at h8
 exact(P? (S.Rc h4 h8)).symm
theorem aqm(a:List (List UInt8×List Int))(b:List (List UInt8×List Int))(hp:True)(hf:Vg.kO J.anI (a,b)):WC a b:=by
 unfold WC;have zl:Vg.hlen a:=hf.1.1;have dV:Vg.hlen b:=hf.2.1.1;clear hf;refine⟨?_,?_⟩
 . trivial
 rfl
theorem aqn(y1:List (List UInt8))(y2:List (Int×Int×List (List UInt8×List Int)))(hp:True)(hf:Vg.kO J.abv (y1,y2)):WD y1 y2:=by
 delta WD B5 HU ahY ay z0 z1 al;have gq:Vg.hlen y1:=hf.1.1;have gr:Vg.hlen y2:=hf.2.1.1;clear hf;refine⟨?_,?_⟩
 . intro h1;try simp only [V.mM,dt] at h1
   exact S.aHL h1
 intro h2;try simp only [V.eT,df] at h2
 refine⟨?_,?_⟩
 . refine⟨(nat_lit 0:Nat),?_⟩;try dsimp only
   refine⟨?_,?_⟩
   . omega
   exact⟨by omega,by omega,S.U8 _⟩
 intro x3 h4;refine⟨?_,?_⟩
 . intro h5;try simp only [dt] at h5
   with_reducible and_intros
   iterate 2 omega
   . intro h6;try simp only [dt,tn] at h6
     exact S.aHM h5 h6
   intro h7;try simp only [df,tn] at h7
   with_reducible and_intros
   iterate 2 omega
   refine⟨(x3+nat_lit 1),?_⟩;try dsimp only
   with_reducible and_intros
   omega;exact⟨h4.1,h4.2.1,S.Hh h4.2.2 h5 (by omega)⟩;simp only [S.ag,S.len,S.ei,S.lU] at *;omega
 intro h8;try simp only [df] at h8
 refine⟨?_,?_⟩
 . refine⟨(nat_lit 0:Nat),?_⟩;try dsimp only
   with_reducible and_intros
   omega;rfl;exact S.afk h4 h8
 intro x9 db;refine⟨?_,?_⟩
 . intro gz;try simp only [dt] at gz
   with_reducible and_intros
   iterate 2 omega
   . intro gA;try simp only [V.mM,nt,df,tn,dt] at gA
     exact S.EW gz (S.aHN gA)
   intro lp;try simp only [V.eT,nf,dt,tn,df] at lp
   with_reducible and_intros
   trivial
   . intro lE;try simp only [nt,df,tn] at lE
     trivial
   . intro EB;try simp only [nf,dt,tn] at EB
     trivial
   . intro H3;try simp only [V.mM,nt,df,tn] at H3
     exact S.EW gz (S.aHO db lp H3)
   intro Kq;try simp only [V.eT,nf,dt,tn] at Kq
   with_reducible and_intros
   iterate 2 omega
   refine⟨(x9+nat_lit 1),?_⟩;try dsimp only
   with_reducible and_intros
   omega;exact S.Lo _ _;exact S.Rg db gz (S.aHP db lp Kq);simp only [S.ag,S.len,S.ei,S.lU] at *;omega
 intro Kr;try simp only [df] at Kr
 exact S.Ve db Kr
theorem aqo(y1:List (List UInt8))(y2:List (Int×Int×List (List UInt8×List Int)))(hp:True)(hf:Vg.kO J.abv (y1,y2)):WE y1 y2:=by
 unfold WE;have gq:Vg.hlen y1:=hf.1.1;have gr:Vg.hlen y2:=hf.2.1.1;clear hf;with_reducible and_intros
 trivial
 . intro h1;try simp only [nt] at h1
   refine⟨?_,?_⟩
   . rw [S.BT h1]
   rw [S.BT h1]
 intro h2;try simp only [nf] at h2
 refine⟨?_,?_⟩
 . rw [S.fi h2]
 rw [S.fi h2]
theorem aqp(y1:List (List UInt8))(y2:List (Int×Int×List (List UInt8×List Int)))(hp:True)(hf:Vg.kO J.abv (y1,y2)):WG y1 y2:=by
 delta WG ay z0 z1 al;have gq:Vg.hlen y1:=hf.1.1;have gr:Vg.hlen y2:=hf.2.1.1;clear hf;refine⟨?_,?_⟩
 . intro h1;try simp only [dt] at h1
   exact S.aAa h1
 intro h2;try simp only [df] at h2
 with_reducible and_intros
 iterate 4 omega
 exact S.aAb h2
theorem aqq(y1:List (List UInt8))(y2:List (Int×Int×List (List UInt8×List Int)))(hp:S.r7 y1 y2)(hf:Vg.kO J.abv (y1,y2)):WH y1 y2:=by
 delta WH zf ay OP z0 z1 al;have gq:Vg.hlen y1:=hf.1.1;have gr:Vg.hlen y2:=hf.2.1.1;clear hf;with_reducible and_intros
 iterate 2 omega
 . have :=hp.1;omega
 iterate 2 omega
 . have :=hp.2.1;omega
 . refine⟨(nat_lit 0:Nat),?_⟩;try dsimp only
   with_reducible and_intros
   omega;exact S.Vf _ _;simp only [S.ag,S.len,S.ei,S.lU] at *;omega
 intro x1 h2;refine⟨?_,?_⟩
 . intro h3;try simp only [dt] at h3
   with_reducible and_intros
   iterate 2 omega
   exact S.Ri hp _;omega;exact(S.yl _ h3).1;exact(S.yl _ h3).2;iterate 2 omega
   refine⟨(x1+nat_lit 1),?_⟩;try dsimp only
   with_reducible and_intros
   omega;exact S.Rh _ h3
   . simp only [S.ag,S.len,S.ei,S.lU] at *;omega
   simp only [S.ag,S.len,S.ei,S.lU] at *;omega
 intro h4;try simp only [df] at h4
 refine⟨?_,?_⟩
 . refine⟨(nat_lit 0:Nat),?_⟩;try dsimp only
   with_reducible and_intros
   omega;exact S.Vf _ _;simp only [S.ag,S.len,S.ei,S.lU] at *;omega
 intro x5 h6;refine⟨?_,?_⟩
 . intro h7;try simp only [dt] at h7
   with_reducible and_intros
   iterate 2 omega
   exact(S.Ab hp _).1;omega;exact(S.yl _ h7).1;exact(S.yl _ h7).2
   . refine⟨((nat_lit 0:Nat),((Int.toNat (↑x5:Int)),(List.set (S.dx ((0:Int),(0:Int),[]) y2 x5) (Int.toNat (↑x5:Int)) (Prod.fst (List.getD y2 (Int.toNat (↑x5:Int)) ((0:Int),(0:Int),[])),Prod.fst (Prod.snd (List.getD y2 (Int.toNat (↑x5:Int)) ((0:Int),(0:Int),[]))),[])))),?_⟩;try dsimp only
     with_reducible and_intros
     omega;rfl;omega;rfl;exact S.aAc h7;omega
   intro x8 h9;refine⟨?_,?_⟩
   . intro db;try simp only [dt,tn] at db
     with_reducible and_intros
     omega;trivial;omega
     iterate 2
      . have q:=h9.1.2.2.1;have q2:=h9.1.1;have q3:=h9.2;omega
     omega;exact(S.Ab hp _).2 _;omega
     iterate 2
      . have e:x5=x8.2.1:=(by omega);subst e;first|exact db|exact Int.ofNat_lt.1 db
     omega
     . have q:=(S.Ab hp x5).1;exact S.acR q db
     refine⟨((Prod.fst x8+nat_lit 1),((Prod.fst (Prod.snd x8)),(Prod.snd (Prod.snd x8)))),?_⟩;try dsimp only
     with_reducible and_intros
     omega;rfl;omega
     . have e:x5=x8.2.1:=(by omega);subst e;exact S.xL _ _ _
     . have e:x5=x8.2.1:=(by omega);subst e;exact S.acS h9.1 db
     omega;have e:x5=x8.2.1:=(by omega);subst e;exact S.acT db
   intro gz;try simp only [df,tn] at gz
   with_reducible and_intros
   . have q:=h9.1.2.2.1;have q2:=h9.1.1;have q3:=h9.2;omega
   iterate 2 omega
   refine⟨(x5+nat_lit 1),?_⟩;try dsimp only
   with_reducible and_intros
   omega
   . have e:x5=x8.2.1:=(by omega);subst e;exact S.afl h9.1
   . simp only [S.ag,S.len,S.ei,S.lU] at *;omega
   simp only [S.ag,S.len,S.ei,S.lU] at *;omega
 intro gA;try simp only [df] at gA
 refine⟨?_,?_⟩
 . exact S.Lp _ h4
 exact S.Lp _ gA
theorem aqr(y1:List (List UInt8))(y2:List (Int×Int×List (List UInt8×List Int)))(hp:True)(hf:Vg.kO J.abv (y1,y2)):WI y1 y2:=by
 unfold WI;have gq:Vg.hlen y1:=hf.1.1;have gr:Vg.hlen y2:=hf.2.1.1;clear hf;with_reducible and_intros
 iterate 2 trivial
 rfl
theorem aqs(y1:List (List UInt8))(y2:List (Int×Int×List (List UInt8×List Int)))(d:List UInt8)(hp:True)(hf:Vg.kO J.aJs (y1,y2,d)):WJ y1 y2 d:=by
 delta WJ z0 z1 al;have gq:Vg.hlen y1:=hf.1.1;have gr:Vg.hlen y2:=hf.2.1.1;have sf:Vg.hlen d:=hf.2.2.1.1;clear hf;with_reducible and_intros
 trivial
 . intro h1;try simp only [dt] at h1
   with_reducible and_intros
   iterate 2 (rw [S.ax0 h1])
   rw [S.ax0 h1]
 intro h2;try simp only [df] at h2
 refine⟨?_,?_⟩
 . intro h3;try simp only [dt] at h3
   with_reducible and_intros
   iterate 2 (rw [S.ax1 h2 h3])
   rw [S.ax1 h2 h3]
 intro h4;try simp only [df] at h4
 with_reducible and_intros
 exact S.D3 _ _
 . simp only [S.small];omega
 . have :=(S.o9 y1 y2).1;simp only [S!];omega
 iterate 2 (rw [S.afm h2 h4])
 rw [S.afm h2 h4]
theorem aqt(y1:List (List UInt8))(y2:List (Int×Int×List (List UInt8×List Int)))(hp:True)(hf:Vg.kO J.abv (y1,y2)):WK y1 y2:=by
 delta WK zg z0;have gq:Vg.hlen y1:=hf.1.1;have gr:Vg.hlen y2:=hf.2.1.1;clear hf;with_reducible and_intros
 iterate 2 trivial
 . intro h1;try simp only [dt] at h1
   with_reducible and_intros
   iterate 2 (rw [S.ax2 h1])
   rw [S.ax2 h1]
 intro h2;try simp only [df] at h2
 refine⟨?_,?_⟩
 . intro h3;try simp only [dt] at h3
   with_reducible and_intros
   iterate 2 (rw [S.ax3 h2 h3])
   rw [S.ax3 h2 h3]
 intro h4;try simp only [df] at h4
 with_reducible and_intros
 trivial
 . intro h5;try simp only [nt,df] at h5
   with_reducible and_intros
   iterate 3 (exact absurd (by rw [S.ax4 h2]) h5)
 intro h6;try simp only [nf,dt] at h6
 with_reducible and_intros
 exact S.D3 _ _
 . have :=(S.o9 y1 y2).2.1;simp only [S!];omega
 iterate 2 (rw [S.ax5 h2 h4])
 rw [S.ax5 h2 h4]
theorem aqu(y1:List (List UInt8))(y2:List (Int×Int×List (List UInt8×List Int)))(hp:True)(hf:Vg.kO J.abv (y1,y2)):WL y1 y2:=by
 delta WL B6 ay OP z0 z1;have gq:Vg.hlen y1:=hf.1.1;have gr:Vg.hlen y2:=hf.2.1.1;clear hf;with_reducible and_intros
 trivial;iterate 2 omega
 . have :=(S.o9 y1 y2).2.1;omega
 . refine⟨(nat_lit 0:Nat),?_⟩;try dsimp only
   with_reducible and_intros
   omega;rfl;omega
 intro x1 h2;refine⟨?_,?_⟩
 . intro h3;try simp only [dt] at h3
   with_reducible and_intros
   iterate 2 omega
   exact(S.tB y1 y2 (k:=x1) (by omega)).2
   . have :=S.BU y1 y2 x1;simp only [S!];omega
   omega
   . have :=(S.o9 y1 y2).2.1;omega
   refine⟨(x1+nat_lit 1),?_⟩;try dsimp only
   with_reducible and_intros
   omega;exact S.Rj h3
   . simp only [S.gL,S.ag] at *;omega
   simp only [S.gL,S.ag] at *;omega
 intro h4;try simp only [df] at h4
 exact S.Vh h4
theorem aqv(y1:List (List UInt8))(y2:List (Int×Int×List (List UInt8×List Int)))(hp:True)(hf:Vg.kO J.abv (y1,y2)):WM y1 y2:=by
 delta WM jR ahZ ah0 ah1 ay z0 z1 al;have gq:Vg.hlen y1:=hf.1.1;have gr:Vg.hlen y2:=hf.2.1.1;clear hf;with_reducible and_intros
 trivial
 . intro h1;try simp only [V.mM,nt,dt] at h1
   exact S.aHQ h1
 intro h2;try simp only [V.eT,nf,df] at h2
 refine⟨?_,?_⟩
 . refine⟨(nat_lit 0:Nat),?_⟩;try dsimp only
   refine⟨?_,?_⟩
   . omega
   exact⟨h2.1,by omega,fun i hi=>absurd hi (Nat.not_lt_zero i),J! _⟩
 intro x3 h4;refine⟨?_,?_⟩
 . intro h5;try simp only [dt] at h5
   with_reducible and_intros
   iterate 2 omega
   . intro h6;try simp only [dt] at h6
     refine⟨?_,?_⟩
     . intro h7;try simp only [nt,df,tn] at h7
       trivial
     intro h8;try simp only [nf,dt,tn] at h8
     refine⟨?_,?_⟩
     . intro h9;try simp only [dt] at h9
       with_reducible and_intros
       iterate 4 omega
       . intro db;try simp only [nt,df,tn] at db
         trivial
       intro gz;try simp only [nf,dt,tn] at gz
       trivial
     intro gA;try simp only [df] at gA
     trivial
   . intro lp;try simp only [df] at lp
     refine⟨?_,?_⟩
     . intro lE;try simp only [dt] at lE
       with_reducible and_intros
       iterate 4 omega
       . intro EB;try simp only [nt,df,tn] at EB
         trivial
       intro H3;try simp only [nf,dt,tn] at H3
       trivial
     intro Kq;try simp only [df] at Kq
     trivial
   . intro Kr;exact S.EW h5 (S.aoP (S.afn.symm.trans Kr))
   intro h19;with_reducible and_intros
   iterate 2 omega
   exact S.n0 (S.ax6 (S.afn.symm.trans h19)).2;trivial
   . intro h20;try simp only [nt] at h20
     exact S.EW h5 (S.aAd h20)
   intro rm;try simp only [nf] at rm
   with_reducible and_intros
   iterate 2 omega
   refine⟨(x3+nat_lit 1),?_⟩;try dsimp only
   with_reducible and_intros
   omega;exact S.Rg h4 h5 (S.aoQ (S.ax6 (S.afn.symm.trans h19)) rm);simp only [S.ag,S.len,S.ei,S.lU,S.gL] at *;omega
 intro h22;try simp only [df] at h22
 exact S.Ve h4 h22
theorem aqx(y1:List (List UInt8))(y2:List (Int×Int×List (List UInt8×List Int)))(hp:True)(hf:Vg.kO J.abv (y1,y2)):WN y1 y2:=by
 unfold WN;have gq:Vg.hlen y1:=hf.1.1;have gr:Vg.hlen y2:=hf.2.1.1;clear hf;with_reducible and_intros
 trivial
 . intro h1;refine⟨?_,?_⟩
   . rw [S.fi h1]
   rw [S.fi h1]
 intro h2;refine⟨?_,?_⟩
 . rw [S.BT h2]
 rw [S.BT h2]
theorem aqy(y1:List (List UInt8))(y2:List (Int×Int×List (List UInt8×List Int)))(hp:True)(hf:Vg.kO J.abv (y1,y2)):WO y1 y2:=by
 delta WO ay z0 z1;have gq:Vg.hlen y1:=hf.1.1;have gr:Vg.hlen y2:=hf.2.1.1;clear hf;with_reducible and_intros
 trivial
 . refine⟨(nat_lit 0:Nat),?_⟩;try dsimp only
   with_reducible and_intros
   omega;rfl;omega
 intro x1 h2;refine⟨?_,?_⟩
 . intro h3;try simp only [dt] at h3
   with_reducible and_intros
   iterate 3 omega
   . have :=(S.o9 y1 y2).2.1;omega
   refine⟨(x1+nat_lit 1),?_⟩;try dsimp only
   with_reducible and_intros
   omega;exact S.Lo _ _
   . simp only [S.ag,S.len,S.ei,S.lU,S.gL] at *;omega
   simp only [S.ag,S.len,S.ei,S.lU,S.gL] at *;omega
 intro h4;try simp only [df] at h4
 exact S.acV h2 h4
theorem aqz(y1:List (List UInt8))(y2:List (Int×Int×List (List UInt8×List Int)))(hp:True)(hf:Vg.kO J.abv (y1,y2)):WQ y1 y2:=by
 delta WQ B7 ay z0 z1;have gq:Vg.hlen y1:=hf.1.1;have gr:Vg.hlen y2:=hf.2.1.1;clear hf;with_reducible and_intros
 trivial
 . refine⟨(nat_lit 0:Nat),?_⟩;try dsimp only
   with_reducible and_intros
   omega;rfl;omega
 intro x1 h2;refine⟨?_,?_⟩
 . intro h3;try simp only [dt] at h3
   with_reducible and_intros
   iterate 2 omega
   exact(S.tB y1 y2 (k:=x1) (by omega)).2;exact S.Rb (S.tB y1 y2 (k:=x1) (by omega)).1
   . have :=S.BU y1 y2 x1;simp only [S!];omega
   omega
   . have :=(S.o9 y1 y2).2.1;omega
   refine⟨(x1+nat_lit 1),?_⟩;try dsimp only
   with_reducible and_intros
   omega;exact S.acW h3
   . simp only [S.ag,S.len,S.ei,S.lU,S.gL] at *;omega
   simp only [S.ag,S.len,S.ei,S.lU,S.gL] at *;omega
 intro h4;try simp only [df] at h4
 exact S.Vh h4
theorem aqA(y1:List (List UInt8))(y2:List (Int×Int×List (List UInt8×List Int)))(hp:S.small y2)(hf:Vg.kO J.abv (y1,y2)):WR y1 y2:=by
 delta WR HV ay z0 z1 al;have gq:Vg.hlen y1:=hf.1.1;have gr:Vg.hlen y2:=hf.2.1.1;clear hf;refine⟨?_,?_⟩
 . refine⟨(nat_lit 0:Nat),?_⟩;try dsimp only
   with_reducible and_intros
   omega;iterate 2 rfl
   simp only [S.ag,S.len,S.ei,S.gL,S.pL,S.pD] at *;omega
 intro x1 h2;refine⟨?_,?_⟩
 . intro h3;try simp only [dt] at h3
   with_reducible and_intros
   iterate 2 omega
   trivial
   . simp only [X!,S!,S.small] at *;omega
   iterate 2 omega
   refine⟨(x1+nat_lit 1),?_⟩;try dsimp only
   with_reducible and_intros
   omega;rfl;exact(S.au y2 x1 (0,0,[]) (by omega)).symm
   . simp only [S.ag,S.len,S.ei,S.gL,S.pL,S.pD] at *;omega
   simp only [S.ag,S.len,S.ei,S.gL,S.pL,S.pD] at *;omega
 intro h4;try simp only [df] at h4
 refine⟨?_,?_⟩
 . rfl
 exact I? (by omega)
theorem aqB(y1:List (List UInt8))(y2:List (Int×Int×List (List UInt8×List Int)))(hp:True)(hf:Vg.kO J.abv (y1,y2)):WS y1 y2:=by
 delta WS ay z0 z1 al;have gq:Vg.hlen y1:=hf.1.1;have gr:Vg.hlen y2:=hf.2.1.1;clear hf;refine⟨?_,?_⟩
 . refine⟨(nat_lit 0:Nat),?_⟩;try dsimp only
   refine⟨?_,?_⟩
   . omega
   exact S.aHR _
 intro x1 h2;refine⟨?_,?_⟩
 . intro h3;try simp only [dt] at h3
   with_reducible and_intros
   iterate 2 omega
   trivial
   . intro h4;exact S.aoR h3 h4
   intro h5;with_reducible and_intros
   iterate 2 omega
   refine⟨(x1+nat_lit 1),?_⟩;try dsimp only
   with_reducible and_intros
   omega;exact S.afo h2 h3 h5;simp only [S.ag,S.len,S.ei,S.gL,S.pL,S.pD] at *;omega
 intro h6;try simp only [df] at h6
 refine⟨?_,?_⟩
 . trivial
 exact S.aoS h2 h6
theorem aqC(y1:Int)(y2:List UInt8)(y3:List (Int×Int×Int×List UInt8))(hp:True)(hf:Vg.kO J.agd (y1,y2,y3)):WT y1 y2 y3:=by
 delta WT z0 al;have gq:Vg.hint y1:=hf.1;have gr:Vg.hlen y2:=hf.2.1;have OX:Vg.hlen y3:=hf.2.2.1.1;clear hf;with_reducible and_intros
 . intro h1;try simp only [dt] at h1
   refine⟨?_,?_⟩
   . intro h2;try simp only [dt] at h2
     refine⟨?_,?_⟩
     . intro h3;try simp only [dt] at h3
       trivial
     intro h4;try simp only [df] at h4
     trivial
   intro h5;try simp only [df] at h5
   trivial
 . intro h6;try simp only [df] at h6
   trivial
 exact S.aoZ _ _ _
theorem aqD(y1:List (List UInt8))(y2:List (Int×Int×List (List UInt8×List Int)))(hp:True)(hf:Vg.kO J.abv (y1,y2)):WU y1 y2:=by
 delta WU z0 al;have gq:Vg.hlen y1:=hf.1.1;have gr:Vg.hlen y2:=hf.2.1.1;clear hf;with_reducible and_intros
 trivial
 . intro h1;try simp only [nt] at h1
   trivial
 . intro h2;try simp only [nf] at h2
   trivial
 . intro h3;try simp only [V.mM,nt,df] at h3
   with_reducible and_intros
   iterate 3 (rw [S.Vn h3])
   rw [S.Vn h3]
 intro h4;try simp only [V.eT,nf,dt] at h4
 with_reducible and_intros
 exact(S.Ag h4.1).1;exact(S.Ag h4.1).2
 . intro h5;try simp only [nt,df] at h5
   with_reducible and_intros
   iterate 4 (exact absurd (S.Ro y1).1 h5)
 intro h6;try simp only [nf,dt] at h6
 with_reducible and_intros
 trivial;rw [S.xp h4];rw [S.xp h4,(S.Ro y1).2];rw [S.xp h4];rw [S.xp h4]
theorem aqE(v:Int)(q:Int)(hp:S.c5 v=false/\q=0)(hf:Vg.abq J.aih v)(hg:Vg.dh.ok J.q6q (q,((),()))):WV v q:=by
 delta WV z0;have RQ:Vg.hint v:=hf.1;have aIw:Vg.hint q:=hg.1.1;clear hf hg;refine⟨?_,?_⟩
 . intro h1;try simp only [dt] at h1
   with_reducible and_intros
   trivial;exact(S.Vo hp.1 []).1;exact(S.Vo hp.1 []).2
 intro h2;try simp only [df] at h2
 refine⟨?_,?_⟩
 . omega
 omega
theorem aqF(v:Int)(q:Int)(l:List UInt8)(hp:S.c5 v=false/\q=0/\l.length<=35184372088832)(hf:Vg.abq J.aih v)(hg:Vg.dh.ok J.q7q (q,((),(l,())))):WW v q l:=by
 delta WW z0;have RQ:Vg.hint v:=hf.1;have aIw:Vg.hint q:=hg.1.1;have eX:Vg.hlen l:=hg.2.2.1.1;clear hf hg;refine⟨?_,?_⟩
 . intro h1;try simp only [dt] at h1
   with_reducible and_intros
   omega;exact(S.Vo hp.1 l).1;exact(S.Vo hp.1 l).2
 intro h2;try simp only [df] at h2
 refine⟨?_,?_⟩
 . omega
 omega
theorem aqG(d:List UInt8)(l:List UInt8)(hp:l.length<=35184372088832/\d.length<=35184372088832)(hf:Vg.abq J.aJt d)(hg:Vg.dh.ok J.q8q ((),(l,()))):WX d l:=by
 delta WX bH;have sf:Vg.hlen d:=hf.1;have eX:Vg.hlen l:=hg.2.1.1;clear hf hg;refine⟨?_,?_⟩
 . omega
 rfl
theorem aqH(y1:Int)(y2:List UInt8)(y3:List (Int×Int×Int×List UInt8))(hp:True)(hf:Vg.kO J.agd (y1,y2,y3)):WY y1 y2 y3:=by
 delta WY zh ay z0 z1 al;have gq:Vg.hint y1:=hf.1;have gr:Vg.hlen y2:=hf.2.1;have OX:Vg.hlen y3:=hf.2.2.1.1;clear hf;with_reducible and_intros
 trivial
 . intro h1;try simp only [nt] at h1
   refine⟨?_,?_⟩
   . rw [S.Ua h1]
   rw [S.Ua h1]
 intro h2;try simp only [nf] at h2
 with_reducible and_intros
 . have q:=S.ga.1 h2;exact S.xq (by omega) (by omega)
 rfl
 . have :=S.bG y1;omega
 . have q:=(S.ga.1 h2).2.2.1;omega
 . have q:=(S.mK (S.ga.1 h2).2.2.2).1;exact S.xq (by omega) (by omega)
 rfl
 . have :=S.bG y1;have q:=(S.ga.1 h2).2.2.1;rw [C!];omega
 . refine⟨(nat_lit 0:Nat),?_⟩;try dsimp only
   with_reducible and_intros
   omega;exact S.ax7 _ _ _;rfl;exact⟨h2,J! _⟩
 intro x3 h4;refine⟨?_,?_⟩
 . intro h5;try simp only [dt] at h5
   with_reducible and_intros
   iterate 2 omega
   exact(S.Ah h4 h5).1;rfl
   . have :=S.yn h4;omega
   exact(S.Ah h4 h5).2.1;rfl
   . have q:=S.yn h4;have q2:=S.bG (y3.getD (Int.toNat (x3:Int)) (0,0,0,[])).2.1;simp only [C!];omega
   . have q:=S.yn h4;have q2:=S.bG (y3.getD (Int.toNat (x3:Int)) (0,0,0,[])).2.1;have q3:=S.bG (y3.getD (Int.toNat (x3:Int)) (0,0,0,[])).2.2.1;simp only [C!];omega
   exact p? (Nat.le_of_eq (S.Ah h4 h5).2.2) (by decide);iterate 2 omega
   refine⟨(x3+nat_lit 1),?_⟩;try dsimp only
   with_reducible and_intros
   omega;exact S.Rp h5;rfl;exact⟨h4.1,by omega⟩;simp only [S.ag,S.len];omega
 intro h6;try simp only [df] at h6
 refine⟨?_,?_⟩
 . intro h7;try simp only [nt,df] at h7
   refine⟨?_,?_⟩
   . trivial
   trivial
 intro h8;try simp only [nf,dt] at h8
 refine⟨?_,?_⟩
 . rw [S.EY h2]
 rw [S.EY h2];exact S.Ov h6
theorem aqI(r1:List UInt8)(r2:Int)(r3:Int)(hp:r1.length<=140737488355328)(hf:Vg.abq J.ac3 ())(hg:Vg.dh.ok J.q9q ((r1,r2,r3),())):WZ r1 r2 r3:=by
 delta WZ bH;have mv:Vg.hlen r1:=hg.1.1.1;have mw:Vg.hint r2:=hg.1.2.1;have my:Vg.hint r3:=hg.1.2.2.1;clear hf hg;with_reducible and_intros
 omega;rfl;exact(S.EX _ _ _).1;iterate 2 rfl
theorem aqJ(r1:List UInt8)(r2:Int)(r3:Int)(hp:r1.length<=140737488355328)(hf:Vg.abq J.ac3 ())(hg:Vg.dh.ok J.q9q ((r1,r2,r3),())):W0 r1 r2 r3:=by
 delta W0 bH;have mv:Vg.hlen r1:=hg.1.1.1;have mw:Vg.hint r2:=hg.1.2.1;have my:Vg.hint r3:=hg.1.2.2.1;clear hf hg;with_reducible and_intros
 omega;rfl;exact(S.EX _ _ _).2;iterate 2 rfl
theorem aqK(a:Int)(r1:List UInt8)(r2:Int)(r3:Int)(hp:r1.length<=140737488355328)(hf:Vg.abq J.aJu ())(hg:Vg.dh.ok J.aJv (a,((),((),((r1,r2,r3),()))))):W4 a r1 r2 r3:=by
 delta W4 W2 W3 bH;have zl:Vg.hint a:=hg.1.1;have mv:Vg.hlen r1:=hg.2.2.2.1.1.1;have mw:Vg.hint r2:=hg.2.2.2.1.2.1;have my:Vg.hint r3:=hg.2.2.2.1.2.2.1;clear hf hg;with_reducible and_intros
 iterate 3 omega
 iterate 10 rfl
theorem aqL(b:List UInt8)(hp:b.length<=140737488355328)(hf:Vg.kO J.n4 b):W5 b:=by
 delta W5 HW HX ah2 zi ay bH z0 z1;have dV:Vg.hlen b:=hf.1.1;clear hf;with_reducible and_intros
 iterate 3 omega
 . intro h1;try simp only [dt] at h1
   with_reducible and_intros
   iterate 3 (rw [S.Rn h1])
   rw [S.Rn h1]
 intro h2;try simp only [df] at h2
 refine⟨?_,?_⟩
 . refine⟨(nat_lit 0:Nat),?_⟩;try dsimp only
   with_reducible and_intros
   omega;iterate 9 rfl
   omega;exact Int.not_lt.1 h2
 intro x3 h4;refine⟨?_,?_⟩
 . intro h5;try simp only [dt] at h5
   with_reducible and_intros
   omega
   . have q:=S.aAe b x3;have q2:=h4.2;have q3:(x3:Int)<(S.eZ b).1.2.2:=h5;simp only [S!];omega
   omega
   . have q2:=h4.2;have q3:(x3:Int)<(S.eZ b).1.2.2:=h5;omega
   refine⟨(x3+nat_lit 1),?_⟩;try dsimp only
   with_reducible and_intros
   omega;iterate 9 rfl
   exact S.aft h5;omega;have q:=S.aft h5;simp only [S.ag];omega
 intro h6;try simp only [df] at h6
 with_reducible and_intros
 trivial
 . intro h7;try simp only [nt,df] at h7
   with_reducible and_intros
   iterate 3 (rw [S.ax8 h2 h4.1 h6 h7])
   rw [S.ax8 h2 h4.1 h6 h7]
 intro h8;try simp only [nf,dt] at h8
 with_reducible and_intros
 trivial
 . intro h9;try simp only [nt] at h9
   with_reducible and_intros
   iterate 3 (rw [S.ax9 h2 h4.1 h6 h8 h9])
   rw [S.ax9 h2 h4.1 h6 h8 h9]
 intro db;try simp only [nf] at db
 with_reducible and_intros
 iterate 3 (rw [S.aya h2 h4.1 h6 h8 db])
 rw [S.aya h2 h4.1 h6 h8 db]
theorem aqM(y1:List (List UInt8))(y2:List (Int×Int×List (List UInt8×List Int)))(hp:True)(hf:Vg.kO J.abv (y1,y2)):W6 y1 y2:=by
 delta W6 al;have gq:Vg.hlen y1:=hf.1.1;have gr:Vg.hlen y2:=hf.2.1.1;clear hf;with_reducible and_intros
 trivial
 . intro h1;trivial
 . intro h2;trivial
 exact S.acX _ _
theorem aqN(y1:List (List UInt8))(y2:List (Int×Int×List (List UInt8×List Int)))(hp:S.c8 y1)(hf:Vg.kO J.abv (y1,y2)):W7 y1 y2:=by
 delta W7 al;have gq:Vg.hlen y1:=hf.1.1;have gr:Vg.hlen y2:=hf.2.1.1;clear hf;with_reducible and_intros
 omega;exact S.Ou hp;trivial;iterate 3 rfl
theorem aqO(d:List (List UInt8×List Int))(t:List UInt8)(hp:S.bf d/\S.small t)(hf:Vg.kO J.aif (d,t)):W8 d t:=by
 delta W8 HY tK ay bH z0 z1 al;have sf:Vg.hlen d:=hf.1.1;have LK:Vg.hlen t:=hf.2.1;clear hf;have eB:=hp.1;have hp1:t.length<=1099511627776:=hp.2;with_reducible and_intros
 exact eB
 . intro h1;try simp only [nt,df] at h1
   trivial
 . intro h2;try simp only [nf,dt] at h2
   exact hp1
 . intro h3;try simp only [V.mM,nt,df] at h3
   with_reducible and_intros
   iterate 6
    . rw [S.Vs (by first|assumption|simp_all)];try rfl
   rw [S.Vs (by first|assumption|simp_all)];try rfl
 intro h4;try simp only [V.eT,nf,dt] at h4
 with_reducible and_intros
 exact eB
 iterate 6
  . (have q:=S.Vt eB (S.qU (And.left (by assumption))) t;omega)
 . (have q:=S.Vt eB (S.qU (And.left (by assumption))) t;exact q.2.2.1)
 . (have q:=S.Vt eB (S.qU (And.left (by assumption))) t;exact q.2.2.2.1)
 . intro h5;with_reducible and_intros
   exact eB;trivial
   iterate 6
    . have r:S.dE d=0/\S.isTerm t=true :=by assumption
      (rw [S.pa (S.qU r.1) r.2,S.Ow eB (S.qU r.1)])<;>(simp only;try first|rw [W! (by assumption)]|rw [T! (by simp_all)])
   have r:S.dE d=0/\S.isTerm t=true :=by assumption
   (rw [S.pa (S.qU r.1) r.2,S.Ow eB (S.qU r.1)])<;>(simp only;try first|rw [W! (by assumption)]|rw [T! (by simp_all)])
 intro h6;with_reducible and_intros
 iterate 6
  . have r:S.dE d=0/\S.isTerm t=true :=by assumption
    (rw [S.pa (S.qU r.1) r.2,S.Ow eB (S.qU r.1)])<;>(simp only;try first|rw [W! (by assumption)]|rw [T! (by simp_all)])
 have r:S.dE d=0/\S.isTerm t=true :=by assumption
 (rw [S.pa (S.qU r.1) r.2,S.Ow eB (S.qU r.1)])<;>(simp only;try first|rw [W! (by assumption)]|rw [T! (by simp_all)])
theorem aqP(l:List (List UInt8))(hp:S.small l)(hf:Vg.abq J.afI ())(hg:Vg.dh.ok J.q1q (l,())):W9 l:=by
 delta W9 ay z0 z1 al;have eX:Vg.hlen l:=hg.1.1;clear hf hg;have eB:l.length<=1099511627776:=hp;refine⟨?_,?_⟩
 . intro h1;try simp only [dt] at h1
   exact S.G5 h1
 intro h2;try simp only [df] at h2
 refine⟨?_,?_⟩
 . refine⟨(nat_lit 1:Nat),?_⟩;try dsimp only
   refine⟨?_,?_⟩
   . omega
   exact S.aeJ h2
 intro x3 h4;refine⟨?_,?_⟩
 . intro h5;try simp only [dt] at h5
   with_reducible and_intros
   iterate 5 omega
   . have :=h4.1;omega
   iterate 2 omega
   . intro h6;try simp only [dt,tn] at h6
     with_reducible and_intros
     iterate 2 omega
     . refine⟨((x3),((nat_lit 1:Nat),((l),(x3)))),?_⟩;try dsimp only
       with_reducible and_intros
       iterate 2 omega
       trivial;exact S.U6 h4 h5 h6;omega
     intro x7 h8;refine⟨?_,?_⟩
     . intro h9;try simp only [dt,tn] at h9
       with_reducible and_intros
       iterate 2 omega
       . have q1:=h8.1.1;have q2:=h8.1.2.1;have q3:=h8.1.2.2.2.1;have q4:=h8.1.2.2.2.2.1;have q5:=h8.2;omega
       iterate 2 omega
       . have q1:=h8.1.1;have q2:=h8.1.2.1;have q3:=h8.1.2.2.2.1;have q4:=h8.1.2.2.2.2.1;have q5:=h8.2;omega
       omega
       . have q1:=h8.1.1;have q2:=h8.1.2.1;have q3:=h8.1.2.2.2.1;have q4:=h8.1.2.2.2.2.1;have q5:=h8.2;omega
       . intro db;try simp only [nt,df,tn] at db
         with_reducible and_intros
         iterate 2 omega
         . have q1:=h8.1.1;have q2:=h8.1.2.1;have q3:=h8.1.2.2.2.1;have q4:=h8.1.2.2.2.2.1;have q5:=h8.2;omega
         omega
         iterate 2
          . have q1:=h8.1.1;have q2:=h8.1.2.1;have q3:=h8.1.2.2.2.1;have q4:=h8.1.2.2.2.2.1;have q5:=h8.2;omega
         omega;have q1:=h8.1.1;have q2:=h8.1.2.1;have q3:=h8.1.2.2.2.1;have q4:=h8.1.2.2.2.2.1;have q5:=h8.2;omega
       . intro gz;try simp only [nf,dt,tn] at gz
         trivial
       iterate 2 omega
       refine⟨((Int.toNat (bif !Decidable.decide (List.getD (Prod.fst (Prod.snd (Prod.snd x7))) (Int.toNat (↑x3:Int)+Int.toNat (↑(Prod.fst (Prod.snd x7)):Int)) []=List.getD (Prod.fst (Prod.snd (Prod.snd x7))) (Int.toNat (↑x3:Int)+Int.toNat ((↑(Prod.fst (Prod.snd x7)):Int)-(1:Int))) []) then(↑(Prod.fst x7):Int)+(1:Int) else(↑(Prod.fst x7):Int))),((Prod.fst (Prod.snd x7)+nat_lit 1),((bif !Decidable.decide (List.getD (Prod.fst (Prod.snd (Prod.snd x7))) (Int.toNat (↑x3:Int)+Int.toNat (↑(Prod.fst (Prod.snd x7)):Int)) []=List.getD (Prod.fst (Prod.snd (Prod.snd x7))) (Int.toNat (↑x3:Int)+Int.toNat ((↑(Prod.fst (Prod.snd x7)):Int)-(1:Int))) []) then List.set (Prod.fst (Prod.snd (Prod.snd x7))) (Int.toNat (↑(Prod.fst x7):Int)) (List.getD (Prod.fst (Prod.snd (Prod.snd x7))) (Int.toNat (↑x3:Int)+Int.toNat (↑(Prod.fst (Prod.snd x7)):Int)) []) else Prod.fst (Prod.snd (Prod.snd x7))),(x3)))),?_⟩;try dsimp only
       with_reducible and_intros
       . generalize (!decide (List.getD x7.2.2.1 (Int.toNat (x3:Int)+Int.toNat (x7.2.1:Int)) []=List.getD x7.2.2.1 (Int.toNat (x3:Int)+Int.toNat ((x7.2.1:Int)-1)) []))=c;cases c<;>simp only [K!,P!]<;>omega
       omega;trivial
       . have q1:=h8.1.1;have e3:x7.2.2.2=x3:=by have :=h8.2;omega
         have hi:=h8.1;rw [e3] at hi;have e1:Int.toNat (x3:Int)+Int.toNat (x7.2.1:Int)=x3+x7.2.1:=by omega
         have e2:Int.toNat (x3:Int)+Int.toNat ((x7.2.1:Int)-1)=x3+x7.2.1-1:=by omega
         rw [e1,e2];by_cases hd:List.getD x7.2.2.1 (x3+x7.2.1) []=List.getD x7.2.2.1 (x3+x7.2.1-1) []
         . rw [P? hd];exact S.G6 hi (by omega) hd
         rw [V? hd];exact S.K8 hi (by omega) hd
       omega;simp only [S.ag,S.len];have q2:=h8.1.2.1;omega
     intro gA;try simp only [df,tn] at gA
     with_reducible and_intros
     omega
     iterate 2
      . have q1:=h8.1.2.1;have q2:=h8.1.2.2.2.1;have q3:=h8.1.2.2.2.2.1;omega
     omega
     . have q1:=h8.1.2.1;have q2:=h8.1.2.2.2.1;have q3:=h8.1.2.2.2.2.1;simp only [C!,X!];omega
     have q1:=h8.1.2.1;have q2:=h8.1.2.2.2.1;have q3:=h8.1.2.2.2.2.1;have e1:Int.toNat (x7.1:Int)=x7.1:=by omega
     rw [e1,S.DX (by omega)];exact S.K9 h8.1 (by have :=h8.2;omega)
   intro lp;try simp only [df,tn] at lp
   with_reducible and_intros
   iterate 2 omega
   refine⟨(x3+nat_lit 1),?_⟩;try dsimp only
   with_reducible and_intros
   omega;exact S.K6 h4 h5 lp;simp only [S.ag,S.len];omega
 intro lE;try simp only [df] at lE
 exact S.QI h4 lE
theorem aqQ(l:List (Int×List UInt8))(hp:S.sa l)(hf:Vg.kO J.anL l):Xb l:=by
 delta Xb HZ vv Xa ay z0 z1 al;have eX:Vg.hlen l:=hf.1.1;clear hf;have eB:l.length<=1099511627776:=hp.1;have hq:=hp;clear hp;refine⟨?_,?_⟩
 . refine⟨(nat_lit 0:Nat),?_⟩;try dsimp only
   with_reducible and_intros
   iterate 3 exact rfl
   exact S.aHX hq.1
 intro x1 h2;refine⟨?_,?_⟩
 . intro h3;try simp only [dt] at h3
   with_reducible and_intros
   iterate 2
    . have q:=S.sI l x1;have q2:S.jk l x1=2*S.nW l x1-x1:=rfl;omega
   . intro h4;try simp only [dt,tn] at h4
     with_reducible and_intros
     exact S.aAj hq _
     . intro h5;try simp only [nt] at h5
       exact S.afE h3 h4 h5
     intro h6;try simp only [nf] at h6
     with_reducible and_intros
     iterate 6
      . have q:=S.sI l x1;have q2:S.jk l x1=2*S.nW l x1-x1:=rfl;omega
     refine⟨(x1+nat_lit 1),?_⟩;try dsimp only
     with_reducible and_intros
     . have q:=S.sI l x1;have q2:S.jk l x1=2*S.nW l x1-x1:=rfl;omega
     exact(S.afz (by assumption)).symm;exact(S.Ox (by assumption)).symm;exact S.afD h2 h3 h4 h6;grind [S.ag,S.len]
   intro h7;try simp only [df,tn] at h7
   refine⟨?_,?_⟩
   . intro h8;try simp only [dt,tn] at h8
     refine⟨?_,?_⟩
     . intro h9;try simp only [V.mM,nt,df,tn,dt] at h9
       exact S.BZ h3 h7 (.inr (by assumption))
     intro db;try simp only [V.eT,nf,dt,tn,df] at db
     with_reducible and_intros
     iterate 4
      . have q:=S.sI l x1;have q2:S.jk l x1=2*S.nW l x1-x1:=rfl;omega
     refine⟨(x1+nat_lit 1),?_⟩;try dsimp only
     with_reducible and_intros
     . have q:=S.sI l x1;have q2:S.jk l x1=2*S.nW l x1-x1:=rfl;omega
     exact(S.Oy (by assumption)).symm;exact(S.HD (by assumption)).symm;exact S.HF h2 h3 h7 (by omega) (by assumption);grind [S.ag,S.len]
   intro gz;try simp only [df,tn] at gz
   refine⟨?_,?_⟩
   . intro gA;try simp only [dt,tn] at gA
     refine⟨?_,?_⟩
     . intro lp;try simp only [V.mM,nt,df,tn,dt] at lp
       exact S.BZ h3 h7 (.inr (by assumption))
     intro lE;try simp only [V.eT,nf,dt,tn,df] at lE
     with_reducible and_intros
     iterate 4
      . have q:=S.sI l x1;have q2:S.jk l x1=2*S.nW l x1-x1:=rfl;omega
     refine⟨(x1+nat_lit 1),?_⟩;try dsimp only
     with_reducible and_intros
     . have q:=S.sI l x1;have q2:S.jk l x1=2*S.nW l x1-x1:=rfl;omega
     exact(S.Oy (by assumption)).symm;exact(S.HD (by assumption)).symm;exact S.HF h2 h3 h7 (by omega) (by assumption);grind [S.ag,S.len]
   intro EB;try simp only [df,tn] at EB
   refine⟨?_,?_⟩
   . intro H3;try simp only [dt,tn] at H3
     refine⟨?_,?_⟩
     . intro Kq;try simp only [V.mM,nt,df,tn,dt] at Kq
       exact S.BZ h3 h7 (.inr (by assumption))
     intro Kr;try simp only [V.eT,nf,dt,tn,df] at Kr
     with_reducible and_intros
     iterate 4
      . have q:=S.sI l x1;have q2:S.jk l x1=2*S.nW l x1-x1:=rfl;omega
     refine⟨(x1+nat_lit 1),?_⟩;try dsimp only
     with_reducible and_intros
     . have q:=S.sI l x1;have q2:S.jk l x1=2*S.nW l x1-x1:=rfl;omega
     exact(S.Oy (by assumption)).symm;exact(S.HD (by assumption)).symm;exact S.HF h2 h3 h7 (by omega) (by assumption);grind [S.ag,S.len]
   intro h19;try simp only [df,tn] at h19
   exact S.BZ h3 h7 (.inl (by omega))
 intro h20;try simp only [df] at h20
 exact S.ao6 h2 (by assumption)
theorem aqR(l:List (Int×List UInt8))(hp:S.small l)(hf:Vg.kO J.anL l):Xc l:=by
 delta Xc RM ay z0 z1 al;have eX:Vg.hlen l:=hf.1.1;clear hf;have eB:l.length<=1099511627776:=hp;clear hp;refine⟨?_,?_⟩
 . refine⟨(nat_lit 0:Nat),?_⟩;try dsimp only
   with_reducible and_intros
   grind [S.ag,S.len,S.ei];exact S.aHY l;grind [S.ag,S.len,S.ei]
 intro x1 h2;refine⟨?_,?_⟩
 . intro h3;try simp only [dt] at h3
   with_reducible and_intros
   iterate 2 (grind [S.ag,S.len,S.ei])
   . intro h4;try simp only [dt,tn] at h4
     with_reducible and_intros
     . (have q:=S.afG eB h2 [];exact q.1)
     iterate 2 (grind [S.ag,S.len,S.ei])
     refine⟨(x1+nat_lit 1),?_⟩;try dsimp only
     with_reducible and_intros
     grind [S.ag,S.len,S.ei];exact S.afF h3 h4;iterate 2 (grind [S.ag,S.len,S.ei])
   intro h5;try simp only [df,tn] at h5
   with_reducible and_intros
   iterate 2 (grind [S.ag,S.len,S.ei])
   refine⟨(x1+nat_lit 1),?_⟩;try dsimp only
   with_reducible and_intros
   grind [S.ag,S.len,S.ei];exact S.afB h3 h5;iterate 2 (grind [S.ag,S.len,S.ei])
 intro h6;try simp only [df] at h6
 with_reducible and_intros
 . (have q:=S.afG eB h2 [];exact q.2.1)
 . (have q:=S.afG eB h2 [];exact q.2.2.1)
 exact(S.ao7 h2 (by assumption)).1
theorem aqS(b:List UInt8)(hp:S.small b)(hf:Vg.kO J.n4 b):Xd b:=by
 delta Xd z0 al;have dV:Vg.hlen b:=hf.1.1;clear hf;with_reducible and_intros
 omega
 . intro h1;try simp only [dt] at h1
   rw [show S.aW b= [] from M?.1 (by omega)];rfl
 intro h2;try simp only [df] at h2
 with_reducible and_intros
 iterate 3 omega
 exact rfl
theorem aqT(st:Int)(bb:List UInt8)(at_:Int)(hp:st=0/\bb=S.pc/\at_=3)(hf:Vg.abq J.aJw ())(hg:Vg.dh.ok J.aJx (st,((),(bb,(at_,()))))):Xe st bb at_:=by
 delta Xe z0 al;have aKU:Vg.hint st:=hg.1.1;have aKV:Vg.hlen bb:=hg.2.2.1.1.1;have aJq:Vg.hint at_:=hg.2.2.2.1.1;clear hf hg;obtain⟨q1,q2,q3⟩:=hp;subst q1;subst q2;subst q3;refine⟨?_,?_⟩
 . intro h1;try simp only [dt] at h1
   with_reducible and_intros
   iterate 2 omega
   decide;exact(show(List.drop 0 (List.take 3 S.pc)).length<=1099511627776 by decide);decide;iterate 3 rfl
   show [((-1:Int),(0:Int),S.hdT (S.aW S.pc))]=S.Oz;rw [S.Ud];rfl
 intro h2;try simp only [df] at h2
 with_reducible and_intros
 omega;iterate 2 rfl
 omega
theorem aqU(b:List UInt8)(hp:b=S.pc)(hf:Vg.kO J.n4 b):Xf b:=by
 delta Xf LG ay z0 z1 al;have dV:Vg.hlen b:=hf.1.1;clear hf;subst hp;rw [S.afH];with_reducible and_intros
 exact(show S.pc.length<=1099511627776 by decide)
 . refine⟨(nat_lit 0:Nat),?_⟩;try dsimp only
   with_reducible and_intros
   decide;rfl;iterate 2 decide
   exact J! _
 intro x1 h2;refine⟨?_,?_⟩
 . intro h3;try simp only [dt] at h3
   with_reducible and_intros
   iterate 3 omega
   trivial
   . intro h4;trivial
   . intro h5;trivial
   . intro h6;try simp only [V.mM] at h6
     with_reducible and_intros
     trivial;omega
     . rcases S.tE h3 with rfl|rfl|rfl<;>first|exact absurd h7.1 (by decide)|decide
     omega
     . rcases S.tE h3 with rfl|rfl|rfl<;>first|exact absurd h7.1 (by decide)|decide
     refine⟨(x1+nat_lit 1),?_⟩;try dsimp only
     with_reducible and_intros
     omega;rfl
     iterate 2
      . rcases S.tE h3 with rfl|rfl|rfl<;>first|exact absurd h7.1 (by decide)|decide
     . unfold S.bN;have :x1<3:=by have :=S.tE h3;omega
       omega
     rcases S.tE h3 with rfl|rfl|rfl<;>first|exact absurd h7.1 (by decide)|decide
   intro h7;try simp only [V.eT] at h7
   with_reducible and_intros
   . rcases S.tE h3 with rfl|rfl|rfl<;>first|exact absurd h7.1 (by decide)|decide
   with_reducible rfl
   . rcases S.tE h3 with rfl|rfl|rfl<;>first|exact absurd h7.1 (by decide)|decide
   . intro h8;try simp only [dt,tn] at h8
     with_reducible and_intros
     omega
     . rcases S.tE h3 with rfl|rfl|rfl<;>first|exact absurd h7.1 (by decide)|decide
     omega
     . rcases S.tE h3 with rfl|rfl|rfl<;>first|exact absurd h7.1 (by decide)|decide
     refine⟨(x1+nat_lit 1),?_⟩;try dsimp only
     with_reducible and_intros
     omega;rfl
     . rcases S.tE h3 with rfl|rfl|rfl<;>first|exact absurd h7.1 (by decide)|decide
     omega
     iterate 2
      . rcases S.tE h3 with rfl|rfl|rfl<;>first|exact absurd h7.1 (by decide)|decide
     rcases S.tE h3 with rfl|rfl|rfl<;>first|exact absurd h7.1 (by decide)|decide
   intro h9;try simp only [df,tn] at h9
   refine⟨?_,?_⟩
   . intro db;with_reducible and_intros
     . rcases S.tE h3 with rfl|rfl|rfl<;>first|exact absurd h7.1 (by decide)|decide
     omega
     . rcases S.tE h3 with rfl|rfl|rfl<;>first|exact absurd h7.1 (by decide)|decide
     omega
     . rcases S.tE h3 with rfl|rfl|rfl<;>first|exact absurd h7.1 (by decide)|decide
     refine⟨(x1+nat_lit 1),?_⟩;try dsimp only
     with_reducible and_intros
     omega;rfl
     . rcases S.tE h3 with rfl|rfl|rfl<;>first|exact absurd h7.1 (by decide)|decide
     omega
     iterate 2
      . rcases S.tE h3 with rfl|rfl|rfl<;>first|exact absurd h7.1 (by decide)|decide
     rcases S.tE h3 with rfl|rfl|rfl<;>first|exact absurd h7.1 (by decide)|decide
   intro gz;refine⟨?_,?_⟩
   . rcases S.tE h3 with rfl|rfl|rfl<;>first|exact absurd h7.1 (by decide)|decide
   rcases S.tE h3 with rfl|rfl|rfl<;>first|exact absurd h7.1 (by decide)|decide
 intro gA;try simp only [df] at gA
 with_reducible and_intros
 . (have hx:=S.ge3 h2 gA;subst hx;decide)
 with_reducible rfl
 . (have hx:=S.ge3 h2 gA;subst hx;decide)
 iterate 2 decide
theorem aqV(e:List (Int×Int×List UInt8))(n:Int)(w:Int)(hp:0<=n/\n<e.length)(hf:Vg.abq J.ac3 ())(hg:Vg.dh.ok J.ad1 ((e,n,w),())):Xg e n w:=by
 delta Xg z0 al;have XY:Vg.hlen e:=hg.1.1.1;have zk:Vg.hint n:=hg.1.2.1;have XZ:Vg.hint w:=hg.1.2.2.1;clear hf hg;with_reducible and_intros
 iterate 2 omega
 iterate 3 exact rfl
 iterate 3 rfl
theorem aqW(e:List (Int×Int×List UInt8))(n:Int)(w:Int)(l:List (Int×List UInt8))(hp:0<=n/\n<e.length)(hf:Vg.abq J.ac3 ())(hg:Vg.dh.ok J.azF ((e,n,w),(l,()))):Xh e n w l:=by
 delta Xh z0 al;have XY:Vg.hlen e:=hg.1.1.1;have zk:Vg.hint n:=hg.1.2.1;have XZ:Vg.hint w:=hg.1.2.2.1;have eX:Vg.hlen l:=hg.2.1.1;clear hf hg;with_reducible and_intros
 iterate 2 omega
 iterate 3 exact rfl
 iterate 4 rfl
theorem aqX(d:Int)(e:List (Int×Int×List UInt8))(n:Int)(w:Int)(hp:e=S.kE/\n=0/\w=0)(hf:Vg.abq J.adA d)(hg:Vg.dh.ok J.ad1 ((e,n,w),())):Xi d e n w:=by
 delta Xi ay z0 z1 al;have sf:Vg.hint d:=hf.1;have XY:Vg.hlen e:=hg.1.1.1;have zk:Vg.hint n:=hg.1.2.1;have XZ:Vg.hint w:=hg.1.2.2.1;clear hf hg;obtain⟨q1,q2,q3⟩:=hp;subst q1;subst q2;subst q3;with_reducible and_intros
 omega;decide
 . intro h1;try simp only [dt] at h1
   refine⟨?_,?_⟩
   . intro h2;try simp only [dt] at h2
     with_reducible and_intros
     omega;rfl;iterate 3 omega
   intro h3;try simp only [df] at h3
   with_reducible and_intros
   iterate 4 omega
   decide;iterate 2 rfl
   iterate 2 omega
   decide
 intro h4;try simp only [df] at h4
 refine⟨?_,?_⟩
 . intro h5;try simp only [dt] at h5
   refine⟨?_,?_⟩
   . intro h6;try simp only [dt] at h6
     with_reducible and_intros
     exact absurd rfl h4;rfl;iterate 3 exact absurd rfl h4
   intro h7;try simp only [df] at h7
   with_reducible and_intros
   iterate 2 omega
   exact absurd rfl h4
 intro h8;try simp only [df] at h8
 refine⟨?_,?_⟩
 . intro h9;try simp only [dt] at h9
   with_reducible and_intros
   exact absurd rfl h4;rfl;iterate 3 exact absurd rfl h4
 intro db;try simp only [df] at db
 with_reducible and_intros
 exact absurd rfl h4;rfl;iterate 3 exact absurd rfl h4
theorem aqY(d:Int)(e:List (Int×Int×List UInt8))(n:Int)(w:Int)(hp:e=S.kE/\n=0/\w=0)(hf:Vg.abq J.adA d)(hg:Vg.dh.ok J.ad1 ((e,n,w),())):Xj d e n w:=by
 delta Xj ay z0 z1 al;have sf:Vg.hint d:=hf.1;have XY:Vg.hlen e:=hg.1.1.1;have zk:Vg.hint n:=hg.1.2.1;have XZ:Vg.hint w:=hg.1.2.2.1;clear hf hg;obtain⟨q1,q2,q3⟩:=hp;subst q1;subst q2;subst q3;with_reducible and_intros
 iterate 3 with_reducible rfl
 . intro h1;try simp only [nt,df] at h1
   with_reducible and_intros
   iterate 5 rfl
 intro h2;try simp only [nf,dt] at h2
 refine⟨?_,?_⟩
 . refine⟨0,?_⟩;try dsimp only
   with_reducible and_intros
   iterate 4 rfl
   with_reducible rfl
 intro x3 h4;with_reducible and_intros
 omega;decide
 . intro h5;try simp only [dt] at h5
   with_reducible and_intros
   iterate 2 omega
   exact absurd h5 (by decide)
 intro h6;try simp only [df] at h6
 refine⟨?_,?_⟩
 . intro h7;try simp only [dt] at h7
   with_reducible and_intros
   iterate 2 omega
   exact absurd h7 (by decide)
 intro h8;try simp only [df] at h8
 with_reducible and_intros
 iterate 5 rfl
theorem aqZ(d:Int)(e:List (Int×Int×List UInt8))(n:Int)(w:Int)(hp:e=S.kE/\n=0/\w=0)(hf:Vg.abq J.adA d)(hg:Vg.dh.ok J.ad1 ((e,n,w),())):Xk d e n w:=by
 delta Xk ay z0 z1 al;have sf:Vg.hint d:=hf.1;have XY:Vg.hlen e:=hg.1.1.1;have zk:Vg.hint n:=hg.1.2.1;have XZ:Vg.hint w:=hg.1.2.2.1;clear hf hg;obtain⟨q1,q2,q3⟩:=hp;subst q1;subst q2;subst q3;with_reducible and_intros
 iterate 3 with_reducible rfl
 . intro h1;try simp only [nt,df] at h1
   with_reducible and_intros
   iterate 5 rfl
 intro h2;try simp only [nf,dt] at h2
 refine⟨?_,?_⟩
 . refine⟨0,?_⟩;try dsimp only
   with_reducible and_intros
   iterate 4 rfl
   with_reducible rfl
 intro x3 h4;with_reducible and_intros
 omega;decide
 . intro h5;try simp only [dt] at h5
   with_reducible and_intros
   iterate 2 omega
   exact absurd h5 (by decide)
 intro h6;try simp only [df] at h6
 with_reducible and_intros
 iterate 5 rfl
theorem aq0(b:List UInt8)(hp:b=S.pc)(hf:Vg.kO J.n4 b):Xm b:=by
 delta Xm Xl z0 z1 al;have dV:Vg.hlen b:=hf.1.1;clear hf;subst hp;refine⟨?_,?_⟩
 . intro h1;try simp only [dt] at h1
   with_reducible and_intros
   exact absurd h1 (by decide);rfl;exact absurd h1 (by decide)
 intro h2;try simp only [df] at h2
 with_reducible and_intros
 with_reducible rfl
 iterate 3 rfl
 . intro h3;try simp only [dt] at h3
   refine⟨?_,?_⟩
   . omega
   decide
 . intro h4;try simp only [df] at h4
   trivial
 . intro h5;try simp only [nt,df] at h5
   with_reducible and_intros
   iterate 2 decide
   iterate 2 (exact absurd (by decide) h5)
   decide
 intro h6;try simp only [nf,dt] at h6
 with_reducible and_intros
 decide;iterate 2 rfl
theorem aq1(v:Int)(d:Bool)(l:List UInt8)(hp:l.length<=35184372088832)(hf:Vg.abq J.adA v)(hg:Vg.dh.ok J.adB (d,(l,()))):Xn v d l:=by
 delta Xn bH z0;have RQ:Vg.hint v:=hf.1;have eX:Vg.hlen l:=hg.2.1.1;clear hf hg;with_reducible and_intros
 grind
 . have :(S.jd (Vg.cW UInt8) v).length<=9:=S.apb v;omega
 exact S.aH4 v d;rw [S.aH3 v];rfl
theorem aq2(b:List UInt8)(m:Int)(d:Bool)(l:List UInt8)(hp:l.length<=35184372088832/\b.length<=1099511627776)(hf:Vg.abq J.aJy (b,m))(hg:Vg.dh.ok J.adB (d,(l,()))):Xo b m d l:=by
 delta Xo bH al;have dV:Vg.hlen b:=hf.1.1;have ayr:Vg.hint m:=hf.2.1;have eX:Vg.hlen l:=hg.2.1.1;clear hf hg;have eB:=hp.1;have hp1:=hp.2;refine⟨?_,?_⟩
 . intro h1;try simp only [dt] at h1
   refine⟨?_,?_⟩
   . rw [S.VG h1];exact(Bool.or_true d).symm
   rw [S.VG h1];exact(C? l).symm
 intro h2;try simp only [df] at h2
 with_reducible and_intros
 exact⟨J! _,by omega⟩
 . have :=S.xu b;simp only [t?];omega
 . rw [S.afS h2];exact(Bool.or_false d).symm
 rw [S.afS h2];rfl
theorem aq3(y1:Int)(y2:List UInt8)(y3:List (Int×Int×Int×List UInt8))(d:Bool)(l:List UInt8)(hp:l.length<=35184372088832)(hf:Vg.abq J.aJz (y1,y2,y3))(hg:Vg.dh.ok J.adB (d,(l,()))):Xp y1 y2 y3 d l:=by
 delta Xp z0;have gq:Vg.hint y1:=hf.1;have gr:Vg.hlen y2:=hf.2.1;have OX:Vg.hlen y3:=hf.2.2.1.1;have eX:Vg.hlen l:=hg.2.1.1;clear hf hg;with_reducible and_intros
 trivial
 . intro h1;try simp only [nt,df] at h1
   refine⟨?_,?_⟩
   . rw [S.afT h1];exact(Bool.or_true d).symm
   rw [S.afT h1];exact(C? l).symm
 intro h2;try simp only [nf,dt] at h2
 with_reducible and_intros
 omega
 . have :=(S.OG h2).2;omega
 rw [(S.OG h2).1];rw [(S.OG h2).1]
theorem aq4(p:List (List UInt8))(d:Bool)(l:List UInt8)(hp:l.length<=17592186044416)(hf:Vg.abq J.aJA p)(hg:Vg.dh.ok J.adB (d,(l,()))):Xq p d l:=by
 delta Xq ah3 ay bH z0 z1 al;have RP:Vg.hlen p:=hf.1.1;have eX:Vg.hlen l:=hg.2.1.1;clear hf hg;refine⟨?_,?_⟩
 . intro h1;try simp only [dt] at h1
   refine⟨?_,?_⟩
   . rw [S.afN h1];exact(Bool.or_true d).symm
   rw [S.afN h1];exact(C? l).symm
 intro h2;try simp only [df] at h2
 with_reducible and_intros
 omega
 . refine⟨(nat_lit 0:Nat),?_⟩;try dsimp only
   with_reducible and_intros
   omega
   . rw [S.OF (by omega)];exact Bool.or_false d
   . rw [S.OF (by omega)];unfold S.gf;simp [S.bytesOf]
   exact S.aH1 h2
 intro x3 h4;refine⟨?_,?_⟩
 . intro h5;try simp only [dt] at h5
   with_reducible and_intros
   iterate 2 omega
   . intro h6;try simp only [nt,df,tn] at h6
     refine⟨?_,?_⟩
     . rw [S.VA h4 h5 h6];exact(Bool.or_true d).symm
     rw [S.VA h4 h5 h6];rfl
   intro h7;try simp only [nf,dt,tn] at h7
   with_reducible and_intros
   . have q:=S.ao9 h4;rw [C!,tn];omega
   iterate 2 omega
   refine⟨(x3+nat_lit 1),?_⟩;try dsimp only
   with_reducible and_intros
   omega;rfl;rw [tn,U!,(S.RD h4 h5 h7).2];exact(S.RD h4 h5 h7).1;simp only [S.ag,S.len];omega
 intro h8;try simp only [df] at h8
 refine⟨?_,?_⟩
 . rw [S.VB h4 h8];exact(Bool.or_false d).symm
 rw [S.VB h4 h8];rfl
theorem aq5(p1:Int)(p2:List UInt8)(p3:List UInt8)(p4:List UInt8)(p5:List (List UInt8))(p6:List UInt8)(d:Bool)(l:List UInt8)(hp:l.length<=8796093022208/\p6.length<=1099511627776)(hf:Vg.abq J.aJC (p1,p2,p3,p4,p5,p6))(hg:Vg.dh.ok J.adB (d,(l,()))):Xr p1 p2 p3 p4 p5 p6 d l:=by
 delta Xr z0;have aik:Vg.hint p1:=hf.1;have ail:Vg.hlen p2:=hf.2.1;have aim:Vg.hlen p3:=hf.2.2.1;have ain:Vg.hlen p4:=hf.2.2.2.1;have aio:Vg.hlen p5:=hf.2.2.2.2.1.1;have aip:Vg.hlen p6:=hf.2.2.2.2.2.1.1;have eX:Vg.hlen l:=hg.2.1.1;clear hf hg;have eB:=hp.1;have hp1:=hp.2;have a1:=S.HH p1;have a2:=S.tH (S.ig p2 p3 p4) (m:=200) (by decide);have a3:=S.Al p5;have a4:=S.apc p2 p3 p4;with_reducible and_intros
 omega;trivial
 . intro h1;try simp only [nt,df] at h1
   refine⟨?_,?_⟩
   . rw [S.VI h1];exact(Bool.or_true d).symm
   rw [S.VI h1];rfl
 intro h2;try simp only [nf,dt] at h2
 with_reducible and_intros
 . simp only [S.bytesOf,C!];omega
 omega
 iterate 2
  . simp only [S.bytesOf,C!];omega
 omega
 . rw [S.RE h2];simp only [S.j5,S.cat,Bool.or_assoc]
 rw [S.RE h2];simp only [S.bytesOf,S.cat,U!]
theorem aq6(d:Bool)(l:List UInt8)(hp:True)(hf:Vg.abq J.ac3 ())(hg:Vg.dh.ok J.adB (d,(l,()))):Xs d l:=by
 delta Xs z0 z1 al;have eX:Vg.hlen l:=hg.2.1.1;clear hf hg;refine⟨?_,?_⟩
 . intro h1;refine⟨?_,?_⟩
   . rw [h1];rfl
   rw [h1];rfl
 intro h2;refine⟨?_,?_⟩
 . intro h3;try simp only [dt] at h3
   refine⟨?_,?_⟩
   . rw [h2];unfold S.sb;rw [if_neg (by simp),if_pos h3]
   rw [h2];unfold S.rh;rw [if_neg (by simp),if_pos h3]
 intro h4;try simp only [df] at h4
 refine⟨?_,?_⟩
 . rw [h2];unfold S.sb;rw [if_neg (by simp),if_neg h4]
 rw [h2];unfold S.rh;rw [if_neg (by simp),if_neg h4]
theorem aq7(a1:Int)(a2:List UInt8)(a3:List (Int×Int×Int×List UInt8))(a4:List (List (Int×List UInt8×List UInt8×List UInt8×List (List UInt8)×List UInt8)))(hp:S.tG a4)(hf:Vg.kO J.aJD (a1,a2,a3,a4)):Xt a1 a2 a3 a4:=by
 delta Xt se Ec ay z0 z1 al;have aii:Vg.hint a1:=hf.1;have aij:Vg.hlen a2:=hf.2.1;have aCw:Vg.hlen a3:=hf.2.2.1.1;have aKW:Vg.hlen a4:=hf.2.2.2.1.1;clear hf;with_reducible and_intros
 decide
 . intro h1;try simp only [nt,df] at h1
   refine⟨?_,?_⟩
   . rw [S.afP h1]
   rw [S.afP h1]
 intro h2;try simp only [nf,dt] at h2
 refine⟨?_,?_⟩
 . refine⟨(nat_lit 0:Nat),?_⟩;try dsimp only
   with_reducible and_intros
   omega;iterate 2 rfl
   exact S.aH2 hp h2
 intro x3 h4;refine⟨?_,?_⟩
 . intro h5;try simp only [dt] at h5
   with_reducible and_intros
   iterate 2 omega
   . intro h6;try simp only [dt,tn] at h6
     refine⟨?_,?_⟩
     . rw [S.VD h5 h6]
     rw [S.VD h5 h6]
   intro h7;try simp only [df,tn] at h7
   with_reducible and_intros
   exact p? (S.VF (n:=a1) (g:=a2) h4) (by decide)
   . refine⟨((nat_lit 0:Nat),(x3)),?_⟩;try dsimp only
     with_reducible and_intros
     omega
     iterate 2
      . rw [tn,S.OF (by omega)];rfl
     exact S.aAk h4 h5 h7;with_reducible rfl
   intro x8 h9;refine⟨?_,?_⟩
   . intro db;try simp only [dt,tn] at db
     with_reducible and_intros
     omega;assumption;exact p? (S.afR (n:=a1) (g:=a2) h9.1) (by decide)
     . obtain⟨q,e⟩:=h9;have e':x8.2=x3:=by omega
       rw [e'] at q;rw [tn,tn];exact S.afQ q db
     iterate 2 omega
     refine⟨((Prod.fst x8+nat_lit 1),(x3)),?_⟩;try dsimp only
     with_reducible and_intros
     omega
     . obtain⟨q,e⟩:=h9;have e':x8.2=x3:=by omega
       rw [e',tn,tn];exact(S.ayb _ rfl _ _ rfl rfl).1
     . obtain⟨q,e⟩:=h9;have e':x8.2=x3:=by omega
       rw [e',tn,tn];exact(S.ayb _ rfl _ _ rfl rfl).2
     . obtain⟨q,e⟩:=h9;have e':x8.2=x3:=by omega
       rw [e'] at q;exact S.afO q db
     with_reducible rfl
     obtain⟨q,e⟩:=h9;have e':x8.2=x3:=by omega
     rw [e'];have hh:(x8.1:Int)<((S.jl a4 x3).length:Int):=db;simp only [S.ag,S.len];omega
   intro gz;try simp only [df,tn] at gz
   with_reducible and_intros
   iterate 2 omega
   refine⟨(x3+nat_lit 1),?_⟩;try dsimp only
   with_reducible and_intros
   omega
   iterate 2
    . obtain⟨q,e⟩:=h9;have e':x8.2=x3:=by omega
      rw [e'] at q |-;rw [(S.VC (n:=a1) (g:=a2) q gz).2]
   . obtain⟨q,e⟩:=h9;have e':x8.2=x3:=by omega
     rw [e'] at q;exact(S.VC (n:=a1) (g:=a2) q gz).1
   simp only [S.ag,S.len];omega
 intro gA;try simp only [df] at gA
 with_reducible and_intros
 trivial
 . rw [S.VE h4 gA];rfl
 rw [S.VE h4 gA];rfl
theorem aq8(p1:Int)(p2:List UInt8)(p3:List (Int×Int×Int×List UInt8))(p4:Int)(p5:List UInt8)(p6:List (List UInt8))(hp:p5.length<=1099511627776)(hf:Vg.kO J.anM (p1,p2,p3,p4,p5,p6)):Xu p1 p2 p3 p4 p5 p6:=by
 delta Xu LH;have aik:Vg.hint p1:=hf.1;have ail:Vg.hlen p2:=hf.2.1;have aim:Vg.hlen p3:=hf.2.2.1.1;have ain:Vg.hint p4:=hf.2.2.2.1;have aio:Vg.hlen p5:=hf.2.2.2.2.1.1;have aip:Vg.hlen p6:=hf.2.2.2.2.2.1.1;clear hf;have a1:=S.Ly p1 p2 p3;have a2:=S.HH p4;have a3:=S.tH p5 (m:=2000) (by decide);with_reducible and_intros
 grind
 iterate 2
  . simp only [S.bytesOf,C!,S!];omega
 omega
 . simp only [S.bytesOf,C!,S!];omega
 trivial;iterate 2 rfl
theorem aq9(b:List UInt8)(c:UInt8)(hp:S.jm b c=0)(hf:Vg.abq J.age (b,c))(hg:Vg.dh.ok J.q4q ()):Xv b c:=by
 delta Xv ah4 z0 z1 al;have dV:Vg.hlen b:=hf.1.1;clear hf hg;refine⟨?_,?_⟩
 . intro h1;try simp only [dt] at h1
   with_reducible and_intros
   iterate 3
    . exfalso;have q:=S.VJ (c:=c) h1;omega
 intro h2;try simp only [df] at h2
 refine⟨?_,?_⟩
 . intro h3;try simp only [dt] at h3
   with_reducible and_intros
   iterate 3
    . exfalso;have q:=S.VK (c:=c) h2 h3;omega
 intro h4;try simp only [df] at h4
 with_reducible and_intros
 iterate 2 omega
 . intro h5;try simp only [nt,df] at h5
   with_reducible and_intros
   iterate 3
    . exfalso;have q:=S.afU (c:=c) h2 h4 h5;omega
 intro h6;try simp only [nf,dt] at h6
 with_reducible and_intros
 iterate 5 rfl
theorem ara(b:List UInt8)(c:UInt8)(hp:¬S.jm b c=0)(hf:Vg.abq J.age (b,c))(hg:Vg.dh.ok J.q4q ()):Xw b c:=by
 delta Xw ah5 z0 al;have dV:Vg.hlen b:=hf.1.1;clear hf hg;refine⟨?_,?_⟩
 . intro h1;try simp only [dt] at h1
   exact(S.VJ h1).symm
 intro h2;try simp only [df] at h2
 refine⟨?_,?_⟩
 . intro h3;try simp only [dt] at h3
   exact(S.VK h2 h3).symm
 intro h4;try simp only [df] at h4
 with_reducible and_intros
 iterate 2 omega
 . intro h5;try simp only [nt,df] at h5
   exact(S.afU h2 h4 h5).symm
 intro h6;try simp only [nf,dt] at h6
 refine⟨?_,?_⟩
 . exfalso;exact hp (S.afV h2 h4 h6)
 exfalso;exact hp (S.afV h2 h4 h6)
theorem arb(r1:List UInt8)(r2:Int)(r3:Int)(hp:r1.length<=140737488355328)(hf:Vg.abq J.ac3 ())(hg:Vg.dh.ok J.q9q ((r1,r2,r3),())):Xx r1 r2 r3:=by
 delta Xx bH;have mv:Vg.hlen r1:=hg.1.1.1;have mw:Vg.hint r2:=hg.1.2.1;have my:Vg.hint r3:=hg.1.2.2.1;clear hf hg;with_reducible and_intros
 omega;rfl;exact(S.EX r1 r2 r3).1;iterate 2 rfl
theorem arc(m:Int)(r1:List UInt8)(r2:Int)(r3:Int)(hp:r1.length<=140737488355328)(hf:Vg.abq J.adA m)(hg:Vg.dh.ok J.q9q ((r1,r2,r3),())):Xy m r1 r2 r3:=by
 delta Xy bH;have ayr:Vg.hint m:=hf.1;have mv:Vg.hlen r1:=hg.1.1.1;have mw:Vg.hint r2:=hg.1.2.1;have my:Vg.hint r3:=hg.1.2.2.1;clear hf hg;with_reducible and_intros
 omega;rfl;exact S.rW r1 r2 r3 m;iterate 2 rfl
theorem ard(m:Int)(r1:List UInt8)(r2:Int)(r3:Int)(hp:r1.length<=140737488355328)(hf:Vg.abq J.adA m)(hg:Vg.dh.ok J.q9q ((r1,r2,r3),())):Xz m r1 r2 r3:=by
 delta Xz bH z0;have ayr:Vg.hint m:=hf.1;have mv:Vg.hlen r1:=hg.1.1.1;have mw:Vg.hint r2:=hg.1.2.1;have my:Vg.hint r3:=hg.1.2.2.1;clear hf hg;with_reducible and_intros
 omega
 . intro h1;try simp only [dt] at h1
   with_reducible and_intros
   rw [S.OH h1];rfl;rw [S.OH h1];rw [S.OH h1]
 intro h2;try simp only [df] at h2
 with_reducible and_intros
 rw [S.Uk h2];rfl;rw [S.Uk h2];rw [S.Uk h2]
theorem are(r1:List UInt8)(r2:Int)(r3:Int)(hp:r1.length<=140737488355328)(hf:Vg.abq J.ac3 ())(hg:Vg.dh.ok J.q9q ((r1,r2,r3),())):XA r1 r2 r3:=by
 delta XA xy bH z0;have mv:Vg.hlen r1:=hg.1.1.1;have mw:Vg.hint r2:=hg.1.2.1;have my:Vg.hint r3:=hg.1.2.2.1;clear hf hg;with_reducible and_intros
 omega
 . intro h1;try simp only [nt,df] at h1
   with_reducible and_intros
   iterate 3 (rw [S.Ul h1])
   rfl;rw [S.Ul h1];rw [S.Ul h1]
 intro h2;try simp only [nf,dt] at h2
 with_reducible and_intros
 . have :=S.VL r1 r2 r3 10000;omega
 iterate 3 (rw [S.OI h2])
 rfl;rw [S.OI h2];rw [S.OI h2]
theorem arf(r1:List UInt8)(r2:Int)(r3:Int)(hp:r1.length<=140737488355328)(hf:Vg.abq J.ac3 ())(hg:Vg.dh.ok J.q9q ((r1,r2,r3),())):XB r1 r2 r3:=by
 delta XB xz bH z0;have mv:Vg.hlen r1:=hg.1.1.1;have mw:Vg.hint r2:=hg.1.2.1;have my:Vg.hint r3:=hg.1.2.2.1;clear hf hg;with_reducible and_intros
 omega
 . intro h1;try simp only [nt,df] at h1
   with_reducible and_intros
   iterate 3 (rw [S.Um h1])
   rfl;rw [S.Um h1];rw [S.Um h1]
 intro h2;try simp only [nf,dt] at h2
 with_reducible and_intros
 . have :=S.VL r1 r2 r3 200;omega
 iterate 3 (rw [S.OJ h2])
 rfl;rw [S.OJ h2];rw [S.OJ h2]
theorem arh(r1:List UInt8)(r2:Int)(r3:Int)(hp:r1.length<=140737488355328)(hf:Vg.abq J.ac3 ())(hg:Vg.dh.ok J.q9q ((r1,r2,r3),())):XC r1 r2 r3:=by
 delta XC LI ay bH z0 z1;have mv:Vg.hlen r1:=hg.1.1.1;have mw:Vg.hint r2:=hg.1.2.1;have my:Vg.hint r3:=hg.1.2.2.1;clear hf hg;with_reducible and_intros
 omega
 . refine⟨(nat_lit 0:Nat),?_⟩;try dsimp only
   with_reducible and_intros
   omega;exact rfl;rfl;iterate 2 exact rfl
   exact J! _
 intro x1 h2;refine⟨?_,?_⟩
 . intro h3;try simp only [dt] at h3
   with_reducible and_intros
   omega
   . have :=S.apd r1 r2 r3 x1;have :=S.afX r1 r2 r3;have q:x1<=S.ko r1 r2 r3:=h2
     rw [S!];omega
   omega
   . have :=S.afX r1 r2 r3;have q:x1<=S.ko r1 r2 r3:=h2
     omega
   refine⟨(x1+nat_lit 1),?_⟩;try dsimp only
   with_reducible and_intros
   omega;exact rfl;exact(S.EX _ _ _).2;iterate 2 exact rfl
   exact S.OK h3;have q:=S.OK h3;have e:S.ko r1 r2 r3=(S.dC r1 r2 r3 64).2.toNat:=rfl
   simp only [S.ag];omega
 intro h4;try simp only [df] at h4
 with_reducible and_intros
 . have e:=S.HI h2 h4;rw [e];rfl
 rfl
 . have e:=S.HI h2 h4;rw [e];rfl
 have e:=S.HI h2 h4;rw [e];rfl
theorem ari(r1:List UInt8)(r2:Int)(r3:Int)(hp:r1.length<=140737488355328)(hf:Vg.abq J.ac3 ())(hg:Vg.dh.ok J.q9q ((r1,r2,r3),())):XG r1 r2 r3:=by
 delta XG XD XE XF bH;have mv:Vg.hlen r1:=hg.1.1.1;have mw:Vg.hint r2:=hg.1.2.1;have my:Vg.hint r3:=hg.1.2.2.1;clear hf hg;with_reducible and_intros
 iterate 4 omega
 iterate 6 exact rfl
 rfl;iterate 2 exact rfl
theorem arj(b:List UInt8)(hp:b.length<=140737488355328/\S.jm b 1=0)(hf:Vg.kO J.n4 b):XH b:=by
 delta XH B8 RN ah6 pd zj ay bH z0 z1;have dV:Vg.hlen b:=hf.1.1;clear hf;have eB:=hp.1;have hp1:=hp.2;with_reducible and_intros
 omega
 . intro h1;try simp only [nt,df] at h1
   with_reducible and_intros
   iterate 5 exact absurd trivial h1
 intro h2;try simp only [nf,dt] at h2
 with_reducible and_intros
 omega
 . refine⟨(nat_lit 0:Nat),?_⟩;try dsimp only
   with_reducible and_intros
   omega;rfl;iterate 6 exact rfl
   exact J! _
 intro x3 h4;refine⟨?_,?_⟩
 . intro h5;try simp only [dt] at h5
   with_reducible and_intros
   omega
   . refine⟨((nat_lit 0:Nat),(x3)),?_⟩;try dsimp only
     with_reducible and_intros
     omega;exact rfl;rfl;iterate 2 exact rfl
     iterate 3 rfl
     with_reducible rfl
     exact J! _;exact S.OL h5;with_reducible rfl
   intro x6 h7;refine⟨?_,?_⟩
   . intro h8;try simp only [dt] at h8
     with_reducible and_intros
     omega
     . rw [S.ape,S!];have :=S.afY b x6.2;have :x6.1<=S.nr b x6.2:=h7.1.1
       omega
     omega
     . have :=S.afY b x6.2;have :x6.1<=S.nr b x6.2:=h7.1.1
       omega
     refine⟨((Prod.fst x6+nat_lit 1),(x3)),?_⟩;try dsimp only
     with_reducible and_intros
     omega
     . have e':x6.2=x3:=by have :=h7.2;omega
       rw [e'];exact rfl
     rfl
     iterate 2
      . have e':x6.2=x3:=by have :=h7.2;omega
        rw [e'];exact rfl
     iterate 3 rfl
     . have e':x6.2=x3:=by have :=h7.2;omega
       rw [e']
     exact S.OK (by assumption);omega;with_reducible rfl
     have e':x6.2=x3:=by have :=h7.2;omega
     rw [e'];have q:=S.OK (by assumption);have w:S.nr b x3=(S.dC b (S.gQ b x3).1.1 (S.gQ b x3).1.2 16).2.toNat:=rfl
     simp only [S.ag];omega
   intro h9;try simp only [df] at h9
   with_reducible and_intros
   . rw [S.apf,S!];have :=S.afZ b;have :=h7.1.2;omega
   omega
   . have :=S.afZ b;have :=S.OL h5;omega
   refine⟨(x3+nat_lit 1),?_⟩;try dsimp only
   with_reducible and_intros
   omega;rfl
   iterate 2
    . have e':x6.2=x3:=by have :=h7.2;omega
      rw [e'];have q:x6.1=S.nr b x3:=S.HI (e'▸h7.1.1) (by assumption)
      rw [q];exact rfl
   iterate 3 rfl
   . have e':x6.2=x3:=by have :=h7.2;omega
     rw [e'];have q:x6.1=S.nr b x3:=S.HI (e'▸h7.1.1) (by assumption)
     rw [q];exact rfl
   exact S.OL h5;have :=S.OL h5;simp only [S.ag];omega
 intro db;try simp only [df] at db
 with_reducible and_intros
 trivial
 . intro gz;try simp only [nt,df] at gz
   with_reducible and_intros
   iterate 4 (rw [S.ayd hp1 (S.OM h4 (by assumption)) (by assumption)])
   rw [S.ayd hp1 (S.OM h4 (by assumption)) (by assumption)]
 intro gA;try simp only [nf,dt] at gA
 with_reducible and_intros
 iterate 4 (rw [S.aye hp1 (S.OM h4 (by assumption)) (by assumption)])
 rw [S.aye hp1 (S.OM h4 (by assumption)) (by assumption)]
theorem ark(b:List UInt8)(hp:¬S.jm b 1=0)(hf:Vg.kO J.n4 b):XI b:=by
 delta XI z0;have dV:Vg.hlen b:=hf.1.1;clear hf;with_reducible and_intros
 . intro h1;omega
 . intro h2;try simp only [nt,df] at h2
   with_reducible and_intros
   iterate 4
    . rw [S.ayc hp];done
   rw [S.ayc hp];done
 intro h3;try simp only [nf,dt] at h3
 omega
theorem arl(y1:Int)(y2:List UInt8)(y3:List (Int×Int×Int×List UInt8))(hp:S.bM y1 y2 y3=true)(hf:Vg.kO J.agd (y1,y2,y3)):XJ y1 y2 y3:=by
 delta XJ vw ay bH z0 z1 al;have gq:Vg.hint y1:=hf.1;have gr:Vg.hlen y2:=hf.2.1;have OX:Vg.hlen y3:=hf.2.2.1.1;clear hf;have hb:=S.dV hp;have n1:=S.bG y1;have n2:=S.bG (y3.length:Int);with_reducible and_intros
 iterate 3 omega
 . rw [C!];omega
 . refine⟨(nat_lit 0:Nat),?_⟩;try dsimp only
   with_reducible and_intros
   omega;exact S.ax7 y1 y2 y3;exact⟨hp,J! _⟩
 intro x1 h2;refine⟨?_,?_⟩
 . intro h3;try simp only [dt] at h3
   with_reducible and_intros
   iterate 2 omega
   . have q:=S.Ah h2 h3;rw [tn];have :=S.B1 q.1;have :=S.B1 q.2.1;unfold S.sg at *;omega
   . have q:=S.yn h2;have w:=S.Ah h2 h3;have a1:=S.bG (y3.getD (Int.toNat (x1:Int)) (0,0,0,[])).2.1;have a2:=S.bG (y3.getD (Int.toNat (x1:Int)) (0,0,0,[])).2.2.1;have a3:(y3.getD (Int.toNat (x1:Int)) (0,0,0,[])).2.2.2.length=32:=w.2.2
     omega
   . have q:=S.Ah h2 h3;rw [tn];have :=S.B1 q.1;have :=S.B1 q.2.1;unfold S.sg at *;omega
   iterate 2
    . have q:=S.yn h2;have w:=S.Ah h2 h3;have a1:=S.bG (y3.getD (Int.toNat (x1:Int)) (0,0,0,[])).2.1;have a2:=S.bG (y3.getD (Int.toNat (x1:Int)) (0,0,0,[])).2.2.1;have a3:(y3.getD (Int.toNat (x1:Int)) (0,0,0,[])).2.2.2.length=32:=w.2.2
      simp only [C!];omega
   iterate 2 omega
   refine⟨(x1+nat_lit 1),?_⟩;try dsimp only
   with_reducible and_intros
   omega
   . rw [tn];exact S.Rp h3
   exact⟨hp,by omega⟩;simp only [S.ag,S.len];omega
 intro h4;try simp only [df] at h4
 exact S.Ov h4
theorem arn(p:List (List UInt8))(hp:S.qc p)(hf:Vg.kO J.adx p):XK p:=by
 delta XK ay bH z0 z1 al;have RP:Vg.hlen p:=hf.1.1;clear hf;have hq:=S.af1 hp;with_reducible and_intros
 omega
 . refine⟨(nat_lit 0:Nat),?_⟩;try dsimp only
   with_reducible and_intros
   omega;exact S.aAm p;exact J! _
 intro x1 h2;refine⟨?_,?_⟩
 . intro h3;try simp only [dt] at h3
   with_reducible and_intros
   iterate 2 omega
   . have :=(hq x1).1;have :=(hq x1).2 (Int.toNat (x1:Int));omega
   iterate 2 omega
   refine⟨(x1+nat_lit 1),?_⟩;try dsimp only
   with_reducible and_intros
   omega;exact S.ac6 h3
   . unfold S.ei;omega
   simp only [S.ag,S.len];omega
 intro h4;try simp only [df] at h4
 exact S.af2 h2 h4
theorem aro(y1:Int)(y2:List UInt8)(y3:List (Int×Int×Int×List UInt8))(hp:S.bM y1 y2 y3=true)(hf:Vg.kO J.agd (y1,y2,y3)):XL y1 y2 y3:=by
 unfold XL;have gq:Vg.hint y1:=hf.1;have gr:Vg.hlen y2:=hf.2.1;have OX:Vg.hlen y3:=hf.2.2.1.1;clear hf;with_reducible and_intros
 omega;exact(S.api hp).2;rfl
theorem arp(p1:Int)(p2:List UInt8)(p3:List (Int×Int×Int×List UInt8))(p4:Int)(p5:List UInt8)(p6:List (List UInt8))(hp:S.B0 p1 p2 p3 p4 p5 p6)(hf:Vg.kO J.anM (p1,p2,p3,p4,p5,p6)):XM p1 p2 p3 p4 p5 p6:=by
 delta XM bH z0;have aik:Vg.hint p1:=hf.1;have ail:Vg.hlen p2:=hf.2.1;have aim:Vg.hlen p3:=hf.2.2.1.1;have ain:Vg.hint p4:=hf.2.2.2.1;have aio:Vg.hlen p5:=hf.2.2.2.2.1.1;have aip:Vg.hlen p6:=hf.2.2.2.2.2.1.1;clear hf;obtain⟨m1,m2,m3,m4⟩:=hp;have hh:=S.aph m1;have hb:=S.B1 m2;have n1:=S.bG p4;have n2:=S.xu p5;have n3:=S.af0 m4;with_reducible and_intros
 exact m1
 . simp only [C!,S!];omega
 omega
 . simp only [C!,S!];omega
 . unfold S.small;omega
 . simp only [C!,S!];omega
 exact m4
 . simp only [C!,S!];omega
 exact rfl
theorem arq(t:List UInt8)(dd:List (List UInt8×List Int))(er:Int)(hp:S.bf dd/\S.aY dd=true/\S.isTerm t=true/\er=0)(hf:Vg.abq J.amy t)(hg:Vg.dh.ok J.azO (dd,(er,((),())))):XN t dd er:=by
 delta XN z0;have LK:Vg.hlen t:=hf.1;have aCz:Vg.hlen dd:=hg.1.1.1;have aiq:Vg.hint er:=hg.2.1.1;clear hf hg;obtain⟨q1,q2,q3,q4⟩:=hp;subst q4;with_reducible and_intros
 omega;exact S.D7 q3
 . rw [S!];omega
 rfl
 . rw [S.pa q2 q3];rfl
 rw [S.pa q2 q3]
theorem ars(t:List UInt8)(dd:List (List UInt8×List Int))(er:Int)(l:List (Int×List UInt8×List UInt8×List UInt8×List (List UInt8)×List UInt8))(hp:S.bf dd/\S.aY dd=true/\S.isTerm t=true/\er=0/\l.length<=100000)(hf:Vg.abq J.amy t)(hg:Vg.dh.ok J.azP (dd,(er,((),(l,()))))):XO t dd er l:=by
 delta XO z0;have LK:Vg.hlen t:=hf.1;have aCz:Vg.hlen dd:=hg.1.1.1;have aiq:Vg.hint er:=hg.2.1.1;have eX:Vg.hlen l:=hg.2.2.2.1.1;clear hf hg;obtain⟨q1,q2,q3,q4,q5⟩:=hp;subst q4;with_reducible and_intros
 omega;exact S.D7 q3
 . rw [S!];omega
 rfl
 . rw [S.pa q2 q3];rfl
 rw [S.pa q2 q3]
theorem art(d:List (List UInt8×List Int))(er:Int)(ts:List (List UInt8))(hp:S.HJ d ts/\er=0)(hf:Vg.abq J.aJE d)(hg:Vg.dh.ok J.aJF (er,(ts,()))):XP d er ts:=by
 delta XP ay z0 z1 al;have sf:Vg.hlen d:=hf.1.1;have aiq:Vg.hint er:=hg.1.1;have aKX:Vg.hlen ts:=hg.2.1.1.1;clear hf hg;obtain⟨hp1,q4⟩:=hp;subst q4;refine⟨?_,?_⟩
 . refine⟨(nat_lit 0:Nat),?_⟩;try dsimp only
   with_reducible and_intros
   omega;rfl;exact S.aH5 d ts;with_reducible rfl
   rfl;exact J! _
 intro x1 h2;refine⟨?_,?_⟩
 . intro h3;try simp only [dt] at h3
   with_reducible and_intros
   iterate 2 omega
   exact hp1.1;exact hp1.2.1;exact S.aAn hp1 h3;rfl
   . have :=S.apk d ts x1;have :=hp1.2.2.1;omega
   iterate 2 omega
   refine⟨(x1+nat_lit 1),?_⟩;try dsimp only
   with_reducible and_intros
   omega;rfl;exact S.af9 h3;iterate 2 rfl
   . unfold S.ei;omega
   simp only [S.ag,S.len];omega
 intro h4;try simp only [df] at h4
 with_reducible and_intros
 exact S.apl h2 h4;iterate 2 rfl
theorem aru(y1:List (List UInt8))(y2:List (Int×Int×List (List UInt8×List Int)))(l:List (Int×List UInt8))(hp:S.sa l)(hf:Vg.kO J.aJG (y1,y2,l)):XQ y1 y2 l:=by
 delta XQ ay z0 z1 al;have gq:Vg.hlen y1:=hf.1.1;have gr:Vg.hlen y2:=hf.2.1.1;have eX:Vg.hlen l:=hf.2.2.1.1;clear hf;with_reducible and_intros
 trivial
 . intro h1;try simp only [nt,df] at h1
   refine⟨?_,?_⟩
   . rw [S.agb h1]
   rw [S.agb h1]
 intro h2;try simp only [nf,dt] at h2
 with_reducible and_intros
 omega
 . intro h3;try simp only [nt] at h3
   refine⟨?_,?_⟩
   . rw [S.VR h2 h3]
   rw [S.VR h2 h3]
 intro h4;try simp only [nf] at h4
 with_reducible and_intros
 exact hp.1
 . refine⟨(nat_lit 0:Nat),?_⟩;try dsimp only
   with_reducible and_intros
   iterate 2 omega
   rfl;exact(S.pW h2).2.1;exact(S.pW h2).2.2.1;exact(S.pW h2).2.2.2;exact S.aH6 y2 _;exact J! _;exact(S.pW h2).1;omega
 intro x5 h6;refine⟨?_,?_⟩
 . intro h7;try simp only [dt] at h7
   with_reducible and_intros
   iterate 2 omega
   exact S.apo h6.2.1 h6.2.2 h7;rfl
   . have :=S.apm y2 (S.b7 l) x5;have :=S.LD h6.2.1;rw [S!];omega
   iterate 2 omega
   refine⟨(x5+nat_lit 1),?_⟩;try dsimp only
   with_reducible and_intros
   omega;iterate 5 rfl
   exact S.aga h7
   . unfold S.ei;omega
   exact h6.2.1;omega;simp only [S.ag,S.len];omega
 intro h8;try simp only [df] at h8
 refine⟨?_,?_⟩
 . intro h9;try simp only [nt,df] at h9
   refine⟨?_,?_⟩
   . grind
   grind
 intro db;try simp only [nf,dt] at db
 with_reducible and_intros
 exact(S.ON h6.2.1 h6.2.2 h6.1 h8).2;rw [(S.ON h6.2.1 h6.2.2 h6.1 h8).1];rw [(S.ON h6.2.1 h6.2.2 h6.1 h8).1]
theorem arv(y1:List (List UInt8))(y2:List (Int×Int×List (List UInt8×List Int)))(i:Int)(hp:True)(hf:Vg.kO J.agf (y1,y2,i)):XR y1 y2 i:=by
 delta XR z0 al;have gq:Vg.hlen y1:=hf.1.1;have gr:Vg.hlen y2:=hf.2.1.1;have XX:Vg.hint i:=hf.2.2.1;clear hf;with_reducible and_intros
 trivial
 . intro h1;try simp only [nt,df] at h1
   refine⟨?_,?_⟩
   . rw [S.agc h1]
   rw [S.agc h1]
 intro h2;try simp only [nf,dt] at h2
 refine⟨?_,?_⟩
 . intro h3;try simp only [V.mM,dt] at h3
   refine⟨?_,?_⟩
   . rw [S.VS h2 h3]
   rw [S.VS h2 h3]
 intro h4;try simp only [V.eT,df] at h4
 with_reducible and_intros
 exact(S.ac9 (S.pW h2).1).1;exact(S.ac9 (S.pW h2).1).2.1
 . intro h5;try simp only [nt,df] at h5
   refine⟨?_,?_⟩
   . exact absurd (S.B2 h2 h4).1 h5
   exact absurd (S.B2 h2 h4).1 h5
 intro h6;try simp only [nf,dt] at h6
 with_reducible and_intros
 iterate 2 omega
 exact(S.B2 h2 h4).2.2;rw [(S.B2 h2 h4).2.1];rw [(S.B2 h2 h4).2.1]
theorem arw(y1:List (List UInt8))(y2:List (Int×Int×List (List UInt8×List Int)))(i:Int)(hp:S.cv y1 y2=true/\S.VP y1 i)(hf:Vg.kO J.agf (y1,y2,i)):XS y1 y2 i:=by
 delta XS z0 al;have gq:Vg.hlen y1:=hf.1.1;have gr:Vg.hlen y2:=hf.2.1.1;have XX:Vg.hint i:=hf.2.2.1;clear hf;obtain⟨hp1,Ey⟩:=hp;with_reducible and_intros
 exact(S.ac9 hp1).1;exact Ey.1;exact Ey.2;exact(S.ac9 hp1).1;exact S.apq hp1 Ey;iterate 4 rfl
 exact rfl;rfl
theorem arx(hp:True)(hf:Vg.kO J.q0p ()):XU:=by
 delta XU H2 XT Ed RO LJ bH z0 z1;clear hf;with_reducible and_intros
 grind;iterate 2 trivial
 grind;exact rfl;exact S.aIa
 . rw [S.ayf];exact S.k_2.1
 trivial
 . intro h1;try simp only [dt] at h1
   refine⟨?_,?_⟩
   . intro h2;try simp only [dt] at h2
     refine⟨?_,?_⟩
     . intro h3;try simp only [dt] at h3
       with_reducible and_intros
       iterate 2 omega
       . intro h4;try simp only [dt] at h4
         with_reducible and_intros
         iterate 4 omega
       intro h5;try simp only [df] at h5
       trivial
     intro h6;try simp only [df] at h6
     trivial
   intro h7;try simp only [df] at h7
   trivial
 . intro h8;try simp only [df] at h8
   trivial
 rw [S.ayf,S.k_1,S.k_2.2.1,S.k_2.2.2,S.aIc];decide+kernel
theorem ary(y1:List (List UInt8))(y2:List (Int×Int×List (List UInt8×List Int)))(i:Int)(hp:True)(hf:Vg.kO J.agf (y1,y2,i)):XV y1 y2 i:=by
 delta XV z0 al;have gq:Vg.hlen y1:=hf.1.1;have gr:Vg.hlen y2:=hf.2.1.1;have XX:Vg.hint i:=hf.2.2.1;clear hf;with_reducible and_intros
 trivial
 . intro h1;refine⟨?_,?_⟩
   . trivial
   rfl
 intro h2;with_reducible and_intros
 trivial;exact(S.Oq h2).1;trivial
 . intro h3;try simp only [nt] at h3
   with_reducible and_intros
   . intro h4;try simp only [dt] at h4
     refine⟨?_,?_⟩
     . intro h5;try simp only [dt] at h5
       trivial
     intro h6;try simp only [df] at h6
     trivial
   . intro h7;try simp only [df] at h7
     trivial
   rw [S.aAp h3];rfl
 intro h8;try simp only [nf] at h8
 refine⟨?_,?_⟩
 . intro h9;try simp only [V.mM,dt] at h9
   with_reducible and_intros
   . intro db;try simp only [dt] at db
     refine⟨?_,?_⟩
     . intro gz;try simp only [dt] at gz
       trivial
     intro gA;try simp only [df] at gA
     trivial
   . intro lp;try simp only [df] at lp
     trivial
   rw [S.aAq h8 h9];rfl
 intro lE;try simp only [V.eT,df] at lE
 with_reducible and_intros
 omega;exact⟨by omega,by omega⟩;exact S.apr h8 lE
 . intro EB;try simp only [dt] at EB
   refine⟨?_,?_⟩
   . intro H3;try simp only [dt] at H3
     trivial
   intro Kq;try simp only [df] at Kq
   trivial
 . intro Kr;try simp only [df] at Kr
   trivial
 rw [S.aAr h8 lE];simp
end Go

end
section
set_option linter.unusedVariables false
namespace Go.J
open Go Vg
def E0:Env:= {T:=fE,sig:=fun _=>none,mP:=G0}
abbrev FR:=Prop×AV×List AB
abbrev LR:=Nat->Option ak
def iN(k:Nat):AV:= .int .i64 (k:Int)
def aIx:azn->FR:=fun _=>(True, .own 0,[.row 275 [.int .u32] (S.vq) false])
def ayu:Env:=cS 251 q0p aIx E0
def aIz:aHB->FR:=fun(x,n)=>(S.ej n, .int .u32 (S.right x n:Int),[])
def ayx:Env:=cS 252 q1p aIz ayu
def aIB:abr->FR:=fun b=>(b.length=64, .own 0,[.row 275 [.int .u32] (S.sched b 64) false])
def aIC:abr->LR:=fun b=>fun
    |0=>some ⟨Nat,[(4,fun k=> .int .i64 ((4*k:Nat):Int)),(3,fun k=> .own 300)],[(300,fun k=> .row 275 [.int .u32] (S.sched b k) false)],[(Vg.Loc.slot 3,300)],[110500,110501,110502,105,301],[],fun k=>S.bN k 16,fun k=>S.ag 16 k⟩
    |2=>some ⟨Nat,[(5,iN),(3,fun k=> .own 301)],[(301,fun k=> .row 275 [.int .u32] (S.sched b k) false)],[(Vg.Loc.slot 3,301)],[300,43,104300,104301,104302],[],fun k=>16<=k/\k<=64,fun k=>S.ag 64 k⟩
    |_=>none
def ayA:Env:=cS 250 n4 aIB ayx
def aID:aHC->FR:=fun(l,p)=>(S.GF l p, .own 0,[.row 275 [.int .u32] (S.ek (S.block (S.sY l) p)) false])
def aIE:aHC->LR:=fun(l,p)=>fun
    |0=>some ⟨Nat,[(15,iN),(7,fun k=> .int .u32 (S.eA (S.sched p 64) (S.sY l) k).1),(8,fun k=> .int .u32 (S.eA (S.sched p 64) (S.sY l) k).2.1),(9,fun k=> .int .u32 (S.eA (S.sched p 64) (S.sY l) k).2.2.1),(10,fun k=> .int .u32 (S.eA (S.sched p 64) (S.sY l) k).2.2.2.1),(11,fun k=> .int .u32 (S.eA (S.sched p 64) (S.sY l) k).2.2.2.2.1),(12,fun k=> .int .u32 (S.eA (S.sched p 64) (S.sY l) k).2.2.2.2.2.1),(13,fun k=> .int .u32 (S.eA (S.sched p 64) (S.sY l) k).2.2.2.2.2.2.1),(14,fun k=> .int .u32 (S.eA (S.sched p 64) (S.sY l) k).2.2.2.2.2.2.2)],[],[],[],[],fun k=>S.bN k 64,fun k=>S.ag 64 k⟩
    |_=>none
def ayD:Env:=cS 204 q3p aID ayA
def aIF:abr->FR:=fun b=>(S.small b, .own 0,[.row 5 [.int .u8] (S.tail b (S.lr b)) false])
def aIG:abr->LR:=fun b=>fun
    |0=>some ⟨Nat,[(3,fun k=> .own 300)],[(300,fun k=> .row 5 [.int .u8] (S.eN b k) false)],[(Vg.Loc.slot 3,300)],[11,101100,101101,101102],[],fun k=>S.cr b k,fun k=>S.ag (S.fc (S.len b)) k⟩
    |2=>some ⟨Nat,[(6,iN),(4,fun k=> .int .u64 (S.kg b k)),(5,fun k=> .own 301)],[(301,fun k=> .row 5 [.int .u8] (S.jc b k) false)],[(Vg.Loc.slot 5,301)],[],[],fun k=>S.bN k 8,fun k=>S.ag 8 k⟩
    |_=>none
def ayG:Env:=cS 203 n4 aIF ayD
def aIH:abr->FR:=fun b=>(S.small b, .str (S.sum b),[])
def aII:abr->LR:=fun b=>fun
    |0=>some ⟨Nat,[(5,fun k=> .int .i64 ((64*k:Nat):Int)),(3,fun k=> .own 300)],[(300,fun k=> .row 275 [.int .u32] (S.ek (S.proc S.H0 (S.tail b (S.lr b)) k)) false)],[(Vg.Loc.slot 3,300)],[8],[],fun k=>k<=S.blocks (S.tail b (S.lr b)),fun k=>S.ag (S.blocks (S.tail b (S.lr b))) k⟩
    |2=>some ⟨Nat,[(7,iN),(6,fun k=> .own 301)],[(301,fun k=> .row 5 [.int .u8] (S.lP (S.bn S.H0 (S.tail b (S.lr b))) k) false)],[(Vg.Loc.slot 6,301)],[],[],fun k=>S.bN k 8,fun k=>S.ag 8 k⟩
    |_=>none
def ayJ:Env:=cS 149 n4 aIH ayG
def aIJ:aHB->FR:=fun(x,k)=>(S.hU x k, .int .u32 (S.rotl x k:Int),[])
def ayM:Env:=cS 277 q1p aIJ ayJ
def aIL:azn->FR:=fun _=>(True, .agg [.int .u32 1779033703, .int .u32 3144134277, .int .u32 1013904242, .int .u32 2773480762, .int .u32 1359893119, .int .u32 2600822924, .int .u32 528734635, .int .u32 1541459225, .nil, .int .i64 0],[])
def ayP:Env:=cS 219 q0p aIL ayM
def aIN:azp->FR:=fun(s1,s2,s3,s4,s5,s6,s7,s8,s9,aQ)=>(True, .bool (S.bo s9 aQ),[])
def ayS:Env:=cS 253 q4p aIN ayP
def aIP:anD->FR:=fun(u1,u2,u3,u4,u5,u6,u7,u8,p)=>(S.NY (u1,u2,u3,u4,u5,u6,u7,u8) p, .agg (gh [.int .u32, .int .u32, .int .u32, .int .u32, .int .u32, .int .u32, .int .u32, .int .u32] (S.block (u1,u2,u3,u4,u5,u6,u7,u8) p)),[])
def aIQ:anD->LR:=fun(u1,u2,u3,u4,u5,u6,u7,u8,p)=>fun
    |0=>some ⟨Nat,[(26,iN)],[(5,fun k=> .arr [.int .u32] (S.ba p k))],[],[],[],fun k=>S.bN k 16,fun k=>S.ag 16 k⟩
    |2=>some ⟨Nat,[(7,iN)],[(5,fun k=> .arr [.int .u32] (S.ba p k))],[],[],[],fun k=>16<=k/\k<=64,fun k=>S.ag 64 k⟩
    |4=>some ⟨Nat,[(124,iN),(12,fun k=> .int .u32 (S.eA (S.sched p 64) (u1,u2,u3,u4,u5,u6,u7,u8) k).1),(13,fun k=> .int .u32 (S.eA (S.sched p 64) (u1,u2,u3,u4,u5,u6,u7,u8) k).2.1),(14,fun k=> .int .u32 (S.eA (S.sched p 64) (u1,u2,u3,u4,u5,u6,u7,u8) k).2.2.1),(15,fun k=> .int .u32 (S.eA (S.sched p 64) (u1,u2,u3,u4,u5,u6,u7,u8) k).2.2.2.1),(16,fun k=> .int .u32 (S.eA (S.sched p 64) (u1,u2,u3,u4,u5,u6,u7,u8) k).2.2.2.2.1),(17,fun k=> .int .u32 (S.eA (S.sched p 64) (u1,u2,u3,u4,u5,u6,u7,u8) k).2.2.2.2.2.1),(18,fun k=> .int .u32 (S.eA (S.sched p 64) (u1,u2,u3,u4,u5,u6,u7,u8) k).2.2.2.2.2.2.1),(19,fun k=> .int .u32 (S.eA (S.sched p 64) (u1,u2,u3,u4,u5,u6,u7,u8) k).2.2.2.2.2.2.2)],[],[],[],[],fun k=>S.bN k 64,fun k=>S.ag 64 k⟩
    |_=>none
def ayV:Env:=cS 272 q5p aIP ayS
def aCA:anD->FR:=fun(u1,u2,u3,u4,u5,u6,u7,u8,b)=>(S.sD (u1,u2,u3,u4,u5,u6,u7,u8), .b4 [.agg (gh [.int .u32, .int .u32, .int .u32, .int .u32, .int .u32, .int .u32, .int .u32, .int .u32] (((S.bn (u1,u2,u3,u4,u5,u6,u7,u8) b,S.eR b)).1)), .sl [.int .u8] (((S.bn (u1,u2,u3,u4,u5,u6,u7,u8) b,S.eR b)).2)],[])
def aCB:anD->LR:=fun(u1,u2,u3,u4,u5,u6,u7,u8,b)=>fun
    |0=>some ⟨Nat,[(1,fun k=> .sl [.int .u8] (S.fe b k))],[(2,fun k=> .cells [.int .u32 (S.proc (u1,u2,u3,u4,u5,u6,u7,u8) b k).1, .int .u32 (S.proc (u1,u2,u3,u4,u5,u6,u7,u8) b k).2.1, .int .u32 (S.proc (u1,u2,u3,u4,u5,u6,u7,u8) b k).2.2.1, .int .u32 (S.proc (u1,u2,u3,u4,u5,u6,u7,u8) b k).2.2.2.1, .int .u32 (S.proc (u1,u2,u3,u4,u5,u6,u7,u8) b k).2.2.2.2.1, .int .u32 (S.proc (u1,u2,u3,u4,u5,u6,u7,u8) b k).2.2.2.2.2.1, .int .u32 (S.proc (u1,u2,u3,u4,u5,u6,u7,u8) b k).2.2.2.2.2.2.1, .int .u32 (S.proc (u1,u2,u3,u4,u5,u6,u7,u8) b k).2.2.2.2.2.2.2])],[],[],[],fun k=>64*k<=b.length,fun k=>S.ag (S.blocks b) k⟩
    |_=>none
def ait:Env:=cS 254 q5p aCA ayV
def aCC:aMz->FR:=fun(s1,s2,s3,s4,s5,s6,s7,s8,s9,aQ,b)=>(S.NX (s1,s2,s3,s4,s5,s6,s7,s8) s9 aQ b, .agg [.int .u32 (S.bn (s1,s2,s3,s4,s5,s6,s7,s8) b).1, .int .u32 (S.bn (s1,s2,s3,s4,s5,s6,s7,s8) b).2.1, .int .u32 (S.bn (s1,s2,s3,s4,s5,s6,s7,s8) b).2.2.1, .int .u32 (S.bn (s1,s2,s3,s4,s5,s6,s7,s8) b).2.2.2.1, .int .u32 (S.bn (s1,s2,s3,s4,s5,s6,s7,s8) b).2.2.2.2.1, .int .u32 (S.bn (s1,s2,s3,s4,s5,s6,s7,s8) b).2.2.2.2.2.1, .int .u32 (S.bn (s1,s2,s3,s4,s5,s6,s7,s8) b).2.2.2.2.2.2.1, .int .u32 (S.bn (s1,s2,s3,s4,s5,s6,s7,s8) b).2.2.2.2.2.2.2, .sl [.int .u8] (S.eR b), .int .i64 (S.lr b)],[])
def aiw:Env:=cS 218 q6p aCC ait
def aCE:azp->FR:=fun(s1,s2,s3,s4,s5,s6,s7,s8,s9,aQ)=>(S.ES (s1,s2,s3,s4,s5,s6,s7,s8) s9 aQ, .str (S.dig (S.bn (s1,s2,s3,s4,s5,s6,s7,s8) (S.tail s9 aQ))),[])
def aCF:azp->LR:=fun(s1,s2,s3,s4,s5,s6,s7,s8,s9,aQ)=>fun
    |0=>some ⟨Nat,[(3,fun k=> .own 300)],[(300,fun k=> .row 5 [.int .u8] (S.eN s9 k) false)],[(Vg.Loc.slot 3,300)],[101700,101701,101702,43,104300,102000,17,102001,102002,20,104301,104302,301],[],fun k=>S.cr s9 k,fun k=>S.ag (S.fc (S.len s9)) k⟩
    |2=>some ⟨Nat,[(32,iN),(3,fun k=> .own 301)],[(301,fun k=> .row 5 [.int .u8] (S.mi s9 aQ k) false)],[(Vg.Loc.slot 3,301)],[300,101700,101701,101702,102700,102701,102702,102000,17,102001,102002,20,27],[],fun k=>S.bN k 8,fun k=>S.ag 8 k⟩
    |4=>some ⟨Nat,[(54,iN),(8,fun k=> .own 302)],[(302,fun k=> .row 5 [.int .u8] (S.lP (S.bn (s1,s2,s3,s4,s5,s6,s7,s8) (S.tail s9 aQ)) k) false)],[(Vg.Loc.slot 8,302)],[52],[],fun k=>S.bN k 8,fun k=>S.ag 8 k⟩
    |_=>none
def aiz:Env:=cS 217 q4p aCE aiw
def aCG:abr->FR:=fun b=>(S.small b, .str (S.sum b),[])
def Ut:Env:=cS 164 n4 aCG aiz
def aiC:ac8->FR:=fun v=>(0<=v, .own 0,[.row 5 [.int .u8] (S.num v) false])
def aiD:ac8->Nat:=fun v=>v.toNat
def aiF:Env:=cS 49 q7p aiC Ut
def aCK:azq->FR:=fun s=>(S.small s, .own 0,[.row 5 [.int .u8] (S.text s) false])
def aiI:Env:=cS 50 q8p aCK aiF
def aCM:abr->FR:=fun b=>(b.length<=140737488355328, .own 0,[.row 5 [.int .u8] (b) false])
def aiL:Env:=cS 223 n4 aCM aiI
def aCO:aHG->azs->b9:=fun v (l,())=>⟨S.Bu l v, .own 60000,[none],[.row 5 [.int .u8] (l++S.num v) false]⟩
def aCP:aHG->azs->LR:=fun v (l,())=>fun
    |0=>some ⟨List UInt8×Int,[(1,fun k=> .int .i64 k.2),(0,fun k=> .own 300)],[(300,fun k=> .row 5 [.int .u8] k.1 false)],[(Vg.Loc.slot 0,300)],[50000],[],fun k=>S.pM l v k.1 k.2,fun k=>k.2.toNat⟩
    |_=>none
def aiQ:Env:=cH 222 [true,false] q9p q0q aCO aiL
def aCQ:aKv->azs->b9:=fun s (l,())=>⟨S.lQ l s, .own 60000,[none],[.row 5 [.int .u8] (l++S.text s) false]⟩
def aiV:Env:=cH 224 [true,false] aHS q0q aCQ aiQ
def aCS:agl->FR:=fun(b,v)=>(b.length<=35184372088832, .b4 [.own 0, .int .i64 (((S.jd b v,S.rS v)).2:Int)],[.row 5 [.int .u8] (((S.jd b v,S.rS v)).1) false])
def aiY:Env:=cS 167 ahf aCS aiV
def aCU:ano->FR:=fun(b,s)=>(S.lQ b s, .own 0,[.row 5 [.int .u8] (b++S.text s) false])
def ai1:Env:=cS 168 ahB aCU aiY
def aCW:agT->FR:=fun(r1,r2,r3)=>(True, .bool (S.inside r1 r2),[])
def ai4:Env:=cS 148 adK aCW ai1
def aCY:agT->FR:=fun(r1,r2,r3)=>(r1.length<=140737488355328, .agg (gh [.slice [.int .u8], .int .i64, .int .i64] ((r1,r2,S.bI r1 r2 r3))),[])
def ai7:Env:=cS 202 adK aCY ai4
def aC0:agl->FR:=fun(b,p)=>(S.dp b p, .b4 (gh [.int .i64, .int .i64, .int .i64] (S.aX b p)),[])
def aC1:agl->LR:=fun(b,p)=>fun
    |0=>some ⟨Nat,[(7,fun k=> .int .i64 (S.fg b p k)),(8,iN)],[],[],[],[],fun k=>S.iy b p k,fun k=>S.ag 9 k⟩
    |_=>none
def aja:Env:=cS 206 ahf aC0 ai7
def aC2:aKw->FR:=fun(b,p,cd)=>(S.dp b p, .b4 (gh [.str, .int .i64, .int .i64] (S.cz b p cd)),[])
def ajd:Env:=cS 207 aHT aC2 aja
def aC4:aKx->FR:=fun(r1,r2,r3,cd)=>(r1.length<=140737488355328, .b4 [.agg (gh [.slice [.int .u8], .int .i64, .int .i64] ((S.ax r1 r2 r3 cd).1)), .str ((S.ax r1 r2 r3 cd).2)],[])
def ajg:Env:=cS 154 aHZ aC4 ajd
def aC6:agT->FR:=fun(r1,r2,r3)=>(r1.length<=140737488355328, .b4 [.agg (gh [.slice [.int .u8], .int .i64, .int .i64] ((S.an r1 r2 r3).1)), .int .i64 ((S.an r1 r2 r3).2:Int)],[])
def ajj:Env:=cS 153 adK aC6 ajg
def aC8:agT->FR:=fun(r1,r2,r3)=>(r1.length<=140737488355328, .b4 [.agg (gh [.slice [.int .u8], .int .i64, .int .i64] ((S.aC r1 r2 r3).1)), .str ((S.aC r1 r2 r3).2)],[])
def ajm:Env:=cS 147 adK aC8 ajj
def aDa:agT->FR:=fun(r1,r2,r3)=>(True, .int .i64 (S.done r1 r2 r3:Int),[])
def ajp:Env:=cS 82 adK aDa ajm
def aDc:anx->FR:=fun(kind,b)=>(S.bz b, .own 0,[.row 5 [.int .u8] (S.hX kind b) false])
def aDd:anx->LR:=fun(kind,b)=>fun
    |0=>some ⟨Nat,[(6,iN),(5,fun k=> .own 300)],[(300,fun k=> .row 5 [.int .u8] (S.hX kind (b.take k)) false)],[(Vg.Loc.slot 5,300)],[9],[],fun k=>S.fy b k,fun k=>S.ag (S.len b) k⟩
    |_=>none
def ajs:Env:=cS 182 anE aDc ajp
def aDe:anx->FR:=fun(kind,b)=>(S.bz b, .str (S.nU kind b),[])
def ajv:Env:=cS 128 anE aDe ajs
def aDg:abr->FR:=fun b=>(S.bz b, .str (S.nU 0 b),[])
def ajy:Env:=cS 116 n4 aDg ajv
def aDi:agU->FR:=fun(l,r)=>(S.bz (l++r), .str (S.nU 1 (l++r)),[])
def ajB:Env:=cS 150 adL aDi ajy
def aDk:azw->FR:=fun(kind,parts)=>(S.abC parts, .own 0,[.row 5 [.int .u8] (S.fo kind parts) false])
def aDl:azw->LR:=fun(kind,parts)=>fun
    |0=>some ⟨Nat,[(12,iN),(5,fun k=> .own 300)],[(300,fun k=> .row 5 [.int .u8] (S.k9 kind parts k) false)],[(Vg.Loc.slot 5,300)],[9],[],fun k=>S.fy parts k,fun k=>S.ag (S.len parts) k⟩
    |_=>none
def ajE:Env:=cS 221 aH0 aDk ajB
def aDm:abr->FR:=fun b=>(S.bz b, .own 0,[.row 5 [.int .u8] (S.kI 0 b) false])
def ajH:Env:=cS 166 n4 aDm ajE
def aDo:agU->FR:=fun(l,r)=>(S.bz (l++r), .own 0,[.row 5 [.int .u8] (S.kI 1 (l++r)) false])
def ajK:Env:=cS 273 adL aDo ajH
def aDq:abr->FR:=fun b=>(S.bz b, .own 0,[.row 5 [.int .u8] (S.kI 2 b) false])
def ajN:Env:=cS 265 n4 aDq ajK
def aDs:abr->FR:=fun b=>(S.bz b, .str (S.leaf b),[])
def ajQ:Env:=cS 103 n4 aDs ajN
def aDu:agU->FR:=fun(l,r)=>(True, .b4 (gh [.str, .int .i64] ((S.dF l r,S.mj l r))),[])
def ajT:Env:=cS 255 adL aDu ajQ
def aDw:abr->FR:=fun b=>(S.bz b, .str (S.qG 2 b),[])
def ajW:Env:=cS 240 n4 aDw ajT
def aDy:ac8->FR:=fun c=>(True, .bool (S.bD c),[])
def ajZ:Env:=cS 209 q7p aDy ajW
def aDA:ac8->FR:=fun c=>(True, .int .i64 (S.dB c:Int),[])
def aj2:Env:=cS 210 q7p aDA ajZ
def aDC:ac8->FR:=fun c=>(0<=c, .int .u8 ((S.more c).toNat:Int),[])
def aj5:Env:=cS 211 q7p aDC aj2
def aDE:ac8->FR:=fun c=>(True, .b4 [.own 0, .int .i64 (((S.fh c,S.vr c)).2:Int)],[.row 5 [.int .u8] (((S.fh c,S.vr c)).1) false])
def aj8:Env:=cS 160 q7p aDE aj5
def aDG:abr->FR:=fun b=>(0<b.length, .b4 (gh [.int .i64, .int .i64] (S.aS b)),[])
def aDH:abr->LR:=fun b=>fun
    |1=>some ⟨Nat,[(42,iN),(4,fun k=> .int .i64 (S.bV b k))],[],[],[],[],fun k=>S.mE b k,fun k=>S.ag 4 k⟩
    |_=>none
def akb:Env:=cS 208 n4 aDG aj8
def aDI:abr->FR:=fun b=>(S.small b, .own 0,[.row 3 [.int .i64] (S.decode b) false])
def aDJ:abr->LR:=fun b=>fun
    |0=>some ⟨List UInt8×List Int,[(0,fun k=> .sl [.int .u8] k.1),(3,fun k=> .own 300)],[(300,fun k=> .row 3 [.int .i64] k.2 false)],[(Vg.Loc.slot 3,300)],[],[],fun k=>S.iM b k.1 k.2,fun k=>S.len k.1⟩
    |_=>none
def ake:Env:=cS 157 n4 aDI akb
def aDK:ac8->FR:=fun c=>(True, .bool (S.letter c),[])
def aDL:ac8->LR:=fun c=>fun
    |0=>some ⟨Nat,[(6,iN)],[],[],[],[],fun k=>S.mD c k,fun k=>S.ag 9 k⟩
    |_=>none
def akh:Env:=cS 158 q7p aDK ake
def aDM:ac8->FR:=fun c=>(True, .bool (S.digit c),[])
def akk:Env:=cS 159 q7p aDM akh
def aDO:ac8->FR:=fun c=>(True, .int .i64 (S.bj c:Int),[])
def aDP:ac8->LR:=fun c=>fun
    |0=>some ⟨Nat,[(6,iN)],[],[],[],[],fun k=>S.nb c k,fun k=>S.ag 7 k⟩
    |_=>none
def akn:Env:=cS 258 q7p aDO akk
def aDQ:aKy->FR:=fun(c,a,b)=>(True, .bool (S.b8 c a b),[])
def akq:Env:=cS 188 aH9 aDQ akn
def aDS:ac8->FR:=fun c=>(True, .bool (S.jD c),[])
def akt:Env:=cS 184 q7p aDS akq
def aDU:ac8->FR:=fun c=>(0<=c/\c<=1114111, .own 0,[.row 5 [.int .u8] (S.enc c) false])
def akw:Env:=cS 185 q7p aDU akt
def aDW:aKz->FR:=fun(a,b)=>(True, .int .i64 (S.kj a b:Int),[])
def akz:Env:=cS 186 aIb aDW akw
def aDY:ac8->FR:=fun c=>(True, .bool (S.letter c),[])
def akC:Env:=cS 187 q7p aDY akz
def aD0:ac8->FR:=fun c=>(True, .int .i64 (S.bj c:Int),[])
def akF:Env:=cS 131 q7p aD0 akC
def aD2:agl->FR:=fun(b,n)=>(S.yc b n, .int .i64 (S.bp b n:Int),[])
def aD3:agl->LR:=fun(b,n)=>fun
    |0=>some ⟨Nat,[(7,iN),(6,fun k=> .int .i64 (S.lS b n (k-1)))],[],[],[],[],fun k=>S.oA b n k,fun k=>S.ag n.toNat k⟩
    |_=>none
def akI:Env:=cS 183 ahf aD2 akF
def aD4:abr->FR:=fun b=>(S.small b, .own 0,[.row 3 [.int .i64] (S.decode b) false])
def aD5:abr->LR:=fun b=>fun
    |0=>some ⟨Nat×List Int,[(4,fun k=> .int .i64 ((k.1:Nat):Int)),(3,fun k=> .own 300)],[(300,fun k=> .row 3 [.int .i64] k.2 false)],[(Vg.Loc.slot 3,300)],[],[],fun k=>S.iM b (b.drop k.1) k.2/\k.1<=b.length,fun k=>S.ag (S.len b) k.1⟩
    |2=>some ⟨Nat×Nat,[(7,fun k=> .int .i64 ((k.1+1:Nat):Int)),(5,fun k=> .int .i64 (S.fX (b.drop k.2) k.1).1),(6,fun k=> .int .i64 (S.fX (b.drop k.2) k.1).2)],[],[],[],[(4,fun k=> .int .i64 ((k.2:Nat):Int))],fun k=>k.1<=4,fun k=>S.ag 4 k.1⟩
    |_=>none
def akL:Env:=cS 129 n4 aD4 akI
def aD6:ade->FR:=fun u=>(S.Kl u, .str (S.en u),[])
def aD7:ade->LR:=fun u=>fun
    |0=>some ⟨Nat×List UInt8,[(10,fun k=> .int .i64 ((k.1:Nat):Int)),(3,fun k=> .own 300)],[(300,fun k=> .row 5 [.int .u8] k.2 false)],[(Vg.Loc.slot 3,300)],[],[],fun k=>S.jg u k.1 k.2,fun k=>S.ag (S.len u) k.1⟩
    |_=>none
def akO:Env:=cS 228 adq aD6 akL
def aD8:abr->FR:=fun b=>(S.small b, .own 0,[.row 9 [.str] (S.aW b) false])
def aD9:abr->LR:=fun b=>fun
    |0=>some ⟨Nat×List (List UInt8)×List Int,[(10,fun k=> .int .i64 ((k.1:Nat):Int)),(3,fun k=> .own 300),(4,fun k=> .own 301)],[(300,fun k=> .row 9 [.str] k.2.1 false),(301,fun k=> .row 3 [.int .i64] k.2.2 false)],[(Vg.Loc.slot 3,300),(Vg.Loc.slot 4,301)],[104000,104001,104002,40],[],fun k=>S.abw (S.decode b) k.1 k.2.1 k.2.2,fun k=>S.ag (S.len (S.decode b)) k.1⟩
    |_=>none
def akR:Env:=cS 171 n4 aD8 akO
def aEa:azq->FR:=fun s=>(S.small s, .bool (S.isTerm s),[])
def akU:Env:=cS 117 q8p aEa akR
def aEc:ac8->FR:=fun c=>(True, .bool (S.fv c),[])
def akX:Env:=cS 130 q7p aEc akU
def aEe:ade->FR:=fun u=>(S.Kl u, .str (S.en u),[])
def aEf:ade->LR:=fun u=>fun
    |0=>some ⟨Nat×List UInt8,[(4,fun k=> .int .i64 ((k.1:Nat):Int)),(3,fun k=> .str k.2)],[],[],[],[],fun k=>S.jg u k.1 k.2,fun k=>S.ag (S.len u) k.1⟩
    |_=>none
def ak0:Env:=cS 274 adq aEe akX
def aEg:abr->FR:=fun b=>(S.small b, .own 0,[.row 9 [.str] (S.aW b) false])
def aEh:abr->LR:=fun b=>fun
    |0=>some ⟨Nat×List (List UInt8),[(5,fun k=> .int .i64 ((k.1:Nat):Int)),(4,fun k=> .own 300)],[(300,fun k=> .row 9 [.str] k.2 false)],[(Vg.Loc.slot 4,300)],[],[],fun k=>S.kJ (S.decode b) k.1 k.2,fun k=>S.ag (S.len (S.decode b)+1) k.1⟩
    |2=>some ⟨Nat×Nat,[(6,fun k=> .int .i64 ((k.1:Nat):Int))],[],[],[],[(5,fun k=> .int .i64 ((k.2:Nat):Int))],fun k=>S.pO (S.decode b) k.2 k.1,fun k=>S.ag (S.len (S.decode b)) k.1⟩
    |_=>none
def ak3:Env:=cS 256 n4 aEg ak0
def aEi:adp->FR:=fun l=>(True, .int .i64 (((S.cX l:Nat):Int):Int),[])
def aEj:adp->LR:=fun l=>fun
    |0=>some ⟨Nat,[(4,iN),(3,fun k=> .int .i64 ((S.c7 l k:Nat):Int))],[],[],[],[],fun k=>S.p9 l k,fun k=>S.ag (S.len l) k⟩
    |_=>none
def ak6:Env:=cS 189 adx aEi ak3
def aEk:adO->afJ->b9:=fun _ (l,())=>⟨S.small l, .own 60000,[none],[.row 9 [.str] (S.sorted l) false]⟩
def aEl:adO->afJ->LR:=fun _ (l,())=>fun
    |0=>some ⟨List (List UInt8)×List (List UInt8),[(0,fun k=> .own 310),(3,fun k=> .own 300)],[(310,fun k=> .row 9 [.str] k.1 false),(300,fun k=> .row 9 [.str] k.2 false)],[(Vg.Loc.slot 0,310),(Vg.Loc.slot 3,300)],[50000,301],[],fun k=>S.oU l k.1 k.2,fun k=>S.len k.1⟩
    |2=>some ⟨Nat×List (List UInt8)×List (List UInt8)×List UInt8,[(6,fun k=> .int .i64 ((k.1:Nat):Int)),(5,fun k=> .own 301)],[(301,fun k=> .row 9 [.str] k.2.1 false)],[(Vg.Loc.slot 5,301)],[],[(0,fun k=> .sl [.str] k.2.2.1),(4,fun k=> .str k.2.2.2)],fun k=>S.iz k.2.2.1 k.2.2.2 k.1 k.2.1,fun k=>S.ag (S.len k.2.2.1) k.1⟩
    |_=>none
def alb:Env:=cH 132 [true] afI q1q aEk ak6
def aEm:abr->FR:=fun b=>(S.small b, .own 0,[.row 9 [.str] (S.sorted (S.aW b)) false])
def ale:Env:=cS 226 n4 aEm alb
def aEo:ano->FR:=fun(b,t)=>(S.small b, .own 0,[.row 3 [.int .i64] (S.places b t) false])
def aEp:ano->LR:=fun(b,t)=>fun
    |0=>some ⟨Nat×List Int,[(7,fun k=> .int .i64 ((k.1:Nat):Int)),(6,fun k=> .own 300)],[(300,fun k=> .row 3 [.int .i64] k.2 false)],[(Vg.Loc.slot 6,300)],[],[],fun k=>S.jh (S.aW b) t k.1 k.2,fun k=>S.ag (S.len (S.aW b)) k.1⟩
    |_=>none
def alh:Env:=cS 257 ahB aEo ale
def aEq:azq->FR:=fun s=>(True, .bool false,[])
def alk:Env:=cS 264 q8p aEq alh
def aEs:agU->FR:=fun(a,b)=>(True, .int .i64 (S.gY a b:Int),[])
def alo:Env:=cS 245 adL aEs alk
def aEu:aKA->aMC->b9:=fun(a,b) ((),())=>⟨True, .bool (decide (a=b)),[some (.cells [.fn (.func 245) [] []])],[]⟩
def alu:Env:=cH 270 [false,false,true] aIe q2q aEu alo
def aEw:azx->aIg->b9:=fun _ (l,((),()))=>⟨S.small l, .own 60000,[none,some (.cells [.fn (.func 245) [] []])],[.row 9 [.str] (S.bJ l) false]⟩
def aEx:azx->aIg->LR:=fun _ (l,((),()))=>fun
    |0=>some ⟨Nat,[(5,iN)],[(50001,fun k=> .cells [.fn (.func 245) [] []])],[],[],[],fun k=>S.lh l k,fun k=>S.ag (S.len l) k⟩
    |2=>some ⟨Nat×Nat×List (List UInt8)×Nat,[(5,fun k=> .int .i64 ((k.1:Nat):Int)),(7,fun k=> .int .i64 ((k.2.1:Nat):Int))],[(50000,fun k=> .row 9 [.str] k.2.2.1 false),(50001,fun k=> .cells [.fn (.func 245) [] []])],[],[],[(30,fun k=> .int .i64 ((k.2.2.2:Nat):Int))],fun k=>S.gZ l k.2.2.2 k.1 k.2.1 k.2.2.1,fun k=>S.ag (S.len l) k.2.1⟩
    |_=>none
def alz:Env:=cH 269 [true,true] aIf q3q aEw alu
def aEz:adp->FR:=fun l=>(S.small l, .own 0,[.row 9 [.str] (l) false])
def alB:Env:=cS 267 adx aEz alz
def aEB:ade->FR:=fun l=>(S.small l, .own 0,[.row 3 [.int .i64] (l) false])
def alD:Env:=cS 142 adq aEB alB
def aEE:aKB->afJ->b9:=fun _ (l,())=>⟨S.small l, .b4 [],[some (.row 9 [.str] (S.eo l) false)],[]⟩
def alG:Env:=cH 268 [true,true] aME q1q aEE alD
def aEF:aKC->anv->b9:=fun l ()=>⟨S.small l, .own 60000,[],[.row 9 [.str] (S.bJ (S.eo l)) false]⟩
def alL:Env:=cH 244 [false,true] aIu q4q aEF alG
def aEH:abr->FR:=fun b=>(S.small b, .own 0,[.row 9 [.str] (S.sorted (S.aW b)) false])
def alO:Env:=cS 194 n4 aEH alL
def aEJ:adp->FR:=fun l=>(True, .bool (S.cR l),[])
def aEK:adp->LR:=fun l=>fun
    |0=>some ⟨Nat,[(7,iN)],[],[],[],[],fun k=>S.oV l k,fun k=>S.ag (S.len l) k⟩
    |_=>none
def alR:Env:=cS 99 adx aEJ alO
def aEL:agU->FR:=fun(a,b)=>(True, .str (S.dF a b),[])
def alU:Env:=cS 220 adL aEL alR
def aEN:adO->afJ->b9:=fun _ (s,())=>⟨S.tp s, .own 60000,[none],[.row 9 [.str] (S.comb s) false]⟩
def alZ:Env:=cH 165 [true] afI q1q aEN alU
def aEP:ad2->FR:=fun l=>(S.c8 l, .own 0,[.row 9 [.str] (S.leaves l) false])
def aEQ:ad2->LR:=fun l=>fun
    |0=>some ⟨Nat,[(8,iN),(3,fun k=> .own 300)],[(300,fun k=> .row 9 [.str] (S.ep l k) false)],[(Vg.Loc.slot 3,300)],[],[],fun k=>S.fy l k,fun k=>S.ag (S.len l) k⟩
    |_=>none
def al2:Env:=cS 43 aic aEP alZ
def aER:adp->FR:=fun l=>(S.cO l, .str (S.root l),[])
def aES:adp->LR:=fun l=>fun
    |0=>some ⟨Nat×List (List UInt8),[(12,fun k=> .int .i64 ((k.1:Nat):Int)),(3,fun k=> .own 300)],[(300,fun k=> .row 9 [.str] k.2 false)],[(Vg.Loc.slot 3,300)],[302,35,103500,103501,103502,304],[],fun k=>S.ng l k.1 k.2,fun k=>S.ag (S.len l) k.1⟩
    |2=>some ⟨Nat×Nat×List (List UInt8)×Nat,[(5,fun k=> .int .i64 ((k.2.1:Nat):Int)),(3,fun k=> .own 302)],[(302,fun k=> .row 9 [.str] k.2.2.1 false)],[(Vg.Loc.slot 3,302)],[35,103500,103501,103502,102100,102101,21,102102,300,304],[(4,fun k=> .int .i64 ((k.2.2.2:Nat):Int))],fun k=>S.l4 l k.2.2.2 k.1 k.2.1 k.2.2.1,fun k=>k.2.1⟩
    |4=>some ⟨List (List UInt8),[(3,fun k=> .own 304)],[(304,fun k=> .row 9 [.str] k false)],[(Vg.Loc.slot 3,304)],[102100,102101,21,102102,102901,102900,102902,29,300,302],[],fun k=>S.nh l k,fun k=>S.len k⟩
    |_=>none
def al5:Env:=cS 101 adx aER al2
def aET:adp->FR:=fun l=>(S.small l, .b4 (gh [.str, .int .i64] ((S.pn l,S.nd l))),[])
def al8:Env:=cS 97 adx aET al5
def aEV:ac8->FR:=fun n=>(True, .int .i64 (S.split n:Int),[])
def aEW:ac8->LR:=fun n=>fun
    |0=>some ⟨Nat×Int,[(3,fun k=> .int .i64 k.2)],[],[],[],[],fun k=>S.gP n k.2 k.1,fun k=>(n-k.2).toNat⟩
    |_=>none
def Uu:Env:=cS 115 q7p aEV al8
def amb:adp->FR:=fun l=>(S.cO l, .str (S.root l),[])
def amc:adp->Nat:=fun l=>S.len l
def ame:Env:=cS 84 adx amb Uu
def aEZ:ad2->FR:=fun l=>(S.c8 l, .own 0,[.row 9 [.str] (S.leaves l) false])
def aE0:ad2->LR:=fun l=>fun
    |0=>some ⟨Nat,[(4,iN),(3,fun k=> .own 300)],[(300,fun k=> .row 9 [.str] (S.ep l k) false)],[(Vg.Loc.slot 3,300)],[],[],fun k=>S.fy l k,fun k=>S.ag (S.len l) k⟩
    |_=>none
def amh:Env:=cS 53 aic aEZ ame
def aE1:ac8->FR:=fun n=>(True, .int .i64 (S.split n:Int),[])
def aE2:ac8->LR:=fun n=>fun
    |0=>some ⟨Nat×Int,[(3,fun k=> .int .i64 k.2)],[],[],[],[],fun k=>S.gP n k.2 k.1,fun k=>(n-k.2).toNat⟩
    |_=>none
def amk:Env:=cS 100 q7p aE1 amh
def aE5:adO->afJ->b9:=fun _ (l,())=>⟨S.small l, .b4 [],[some (.row 9 [.str] (S.HA l) false)],[]⟩
def amn:Env:=cH 102 [true] afI q1q aE5 amk
def aE6:anq->FR:=fun(l,i)=>(S.rf l, .b4 (gh [.slice [.str], .int .i64] ((S.j4 l i,S.nm l i))),[])
def aE7:anq->LR:=fun(l,i)=>fun
    |0=>some ⟨List (List UInt8)×Int×List (List UInt8),[(0,fun k=> .sl [.str] k.1),(1,fun k=> .int .i64 k.2.1),(6,fun k=> .own 300)],[(300,fun k=> .row 9 [.str] k.2.2 false)],[(Vg.Loc.slot 6,300)],[],[],fun k=>S.fk l i k,fun k=>S.len k.1⟩
    |_=>none
def Uv:Env:=cS 42 anF aE6 amn
def amq:anq->FR:=fun(l,i)=>(S.jU l i, .own 0,[.row 9 [.str] (S.path l i) false])
def amr:anq->Nat:=fun(l,i)=>S.len l
def amt:Env:=cS 52 anF amq Uv
def aFa:ade->FR:=fun l=>(True, .bool (S.cc l),[])
def aFb:ade->LR:=fun l=>fun
    |0=>some ⟨Nat,[(8,iN),(3,fun k=> .int .i64 (S.eU l k))],[],[],[],[],fun k=>S.jP l k,fun k=>S.ag (S.len l) k⟩
    |_=>none
def amw:Env:=cS 177 adq aFa amt
def arz:ade->FR:=fun l=>(True, .b4 [.own 0, .int .i64 (((S.ni l,S.lB l)).2:Int)],[.row 5 [.int .u8] (((S.ni l,S.lB l)).1) false])
def arA:ade->LR:=fun l=>fun
    |0=>some ⟨Nat,[(22,iN),(6,fun k=> .int .i64 (S.eU l k)),(4,fun k=> .own 300)],[(300,fun k=> .row 5 [.int .u8] (S.dc l k) false)],[(Vg.Loc.slot 4,300)],[101700,101701,101702,17],[],fun k=>k<=l.length,fun k=>S.ag (S.len l) k⟩
    |_=>none
def X2:Env:=cS 123 adq arz amw
def arB:ade->FR:=fun l=>(True, .b4 (gh [.str, .int .i64] ((S.qP l,S.lB l))),[])
def X5:Env:=cS 175 adq arB X2
def arD:aKD->azy->b9:=fun(n,p,q) ((s1,s2),())=>⟨True, .bool (S.qQ n s1 s2),[some (.cells [.int .i64 s1, .int .i64 s2])],[]⟩
def Ya:Env:=cH 249 [false,false,false,true] aIv q5q arD X5
def arF:azz->azy->b9:=fun(a,b) ((s1,s2),())=>⟨b.length=0, .own 60000,[some (.cells [.int .i64 s1, .int .i64 s2])],[.row 3 [.int .i64] (S.Ha a s1 s2) false]⟩
def arG:azz->azy->LR:=fun(a,b) ((s1,s2),())=>fun
    |0=>some ⟨List Int×List Int,[(0,fun k=> .sl [.int .i64] k.1),(1,fun k=> .sl [.int .i64] S.gE),(7,fun k=> .own 300)],[(300,fun k=> .row 3 [.int .i64] k.2 false),(50000,fun k=> .cells [.int .i64 s1, .int .i64 s2])],[(Vg.Loc.slot 7,300)],[],[],fun k=>S.kK a s1 s2 k.1 k.2,fun k=>S.len k.1⟩
    |_=>none
def Yf:Env:=cH 248 [false,false,true] aIT q5q arF Ya
def arH:aKE->FR:=fun(l,s1,s2)=>(True, .own 0,[.row 3 [.int .i64] (S.Ha l s1 s2) false])
def Yi:Env:=cS 198 aIU arH Yf
def arJ:ade->FR:=fun l=>(S.cc l=true, .own 0,[.row 5 [.int .u8] (S.mn l) false])
def arK:ade->LR:=fun l=>fun
    |0=>some ⟨Nat,[(4,iN),(3,fun k=> .own 300)],[(300,fun k=> .row 5 [.int .u8] (S.dc l k) false)],[(Vg.Loc.slot 3,300)],[7,100700,100701,100702],[],fun k=>k<=l.length,fun k=>S.ag (S.len l) k⟩
    |_=>none
def Yl:Env:=cS 136 adq arJ Yi
def arL:ade->FR:=fun l=>(S.cc l=true, .str (S.fM l),[])
def Yo:Env:=cS 191 adq arL Yl
def arN:anr->FR:=fun(a,b)=>(True, .bool (S.nY a b),[])
def arO:anr->LR:=fun(a,b)=>fun
    |0=>some ⟨Nat,[(5,iN)],[],[],[],[],fun k=>S.rV a b k,fun k=>S.ag (S.len a) k⟩
    |_=>none
def Yr:Env:=cS 225 anG arN Yo
def arP:adr->FR:=fun d=>(S.bf d, .bool (S.aY d),[])
def arQ:adr->LR:=fun d=>fun
    |0=>some ⟨Nat,[(7,iN)],[],[],[],[],fun k=>S.DR d k,fun k=>S.ag (S.len d) k⟩
    |_=>none
def Yu:Env:=cS 174 adv arP Yr
def arR:azB->FR:=fun(l1,l2,l3)=>(True, .b4 (gh [.slice [.int .u8], .int .i64] ((S.ig l1 l2 l3,S.mo l1 l2 l3))),[])
def Yx:Env:=cS 176 anH arR Yu
def arT:abr->FR:=fun b=>(b.length<=140737488355328, .b4 [.agg (gh [.str, .str, .str] ((S.bw b).1)), .int .i64 ((S.bw b).2:Int)],[])
def YA:Env:=cS 122 n4 arT Yx
def arV:adr->FR:=fun d=>(S.bf d, .b4 [.own 0, .int .i64 (((S.b6 d,S.dE d)).2:Int)],[.row 28 [.slice [.int .u8]] (((S.b6 d,S.dE d)).1) false])
def arW:adr->LR:=fun d=>fun
    |0=>some ⟨Nat,[(16,iN),(4,fun k=> .own 300)],[(300,fun k=> .row 28 [.slice [.int .u8]] (S.ez d k) false)],[(Vg.Loc.slot 4,300)],[],[],fun k=>k<=d.length+1,fun k=>S.ag (S.len d+1) k⟩
    |_=>none
def YD:Env:=cS 120 adv arV YA
def arX:adr->FR:=fun d=>(S.bf d, .b4 (gh [.str, .int .i64] ((S.uJ d,S.dE d))),[])
def YG:Env:=cS 216 adv arX YD
def arZ:ant->FR:=fun(d,t)=>(S.bf d, .b4 (gh [.int .i64, .bool] ((S.br d t,S.fx d t))),[])
def ar0:ant->LR:=fun(d,t)=>fun
    |0=>some ⟨Nat,[(14,iN),(6,fun k=> .int .i64 (S.du d t k))],[],[],[],[],fun k=>k<=d.length,fun k=>S.ag (S.len d) k⟩
    |_=>none
def YJ:Env:=cS 121 aif arZ YG
def ar1:ant->FR:=fun(d,t)=>(S.bf d, .sl [.int .i64] (S.ji d t),[])
def YM:Env:=cS 124 aif ar1 YJ
def ar4:adE->FR:=fun(docs,s1,s2)=>(True, .b4 (gh [.slice [.str, .slice [.int .i64]], .int .i64] (S.ij docs s1 s2)),[])
def YO:Env:=cS 140 adD ar4 YM
def ar5:adE->FR:=fun(docs,s1,s2)=>(True, .bool (S.cP docs s1 s2),[])
def ar6:adE->LR:=fun(docs,s1,s2)=>fun
    |0=>some ⟨Nat,[(5,iN)],[],[],[],[],fun k=>S.nj docs k,fun k=>S.ag (S.len docs) k⟩
    |_=>none
def YR:Env:=cS 109 adD ar5 YO
def ar7:ano->FR:=fun(b,t)=>(S.small b, .bool (S.qR b t),[])
def YU:Env:=cS 227 ahB ar7 YR
def ar9:azB->FR:=fun(l1,l2,l3)=>(S.eI l1 l2 l3=true, .sl [.int .u8] (S.fG l1 l2 l3),[])
def YX:Env:=cS 137 anH ar9 YU
def asb:adr->FR:=fun d=>(S.bf d/\S.aY d=true, .own 0,[.row 28 [.slice [.int .u8]] (S.eh d) false])
def asc:adr->LR:=fun d=>fun
    |0=>some ⟨Nat,[(4,fun k=> .int .i64 (((k:Nat):Int)-1)),(3,fun k=> .own 300)],[(300,fun k=> .row 28 [.slice [.int .u8]] (S.ez d k) false)],[(Vg.Loc.slot 3,300)],[],[],fun k=>k<=d.length+1,fun k=>S.ag (S.len d+1) k⟩
    |_=>none
def Y0:Env:=cS 134 adv asb YX
def asd:adr->FR:=fun d=>(S.bf d/\S.aY d=true, .str (S.l6 d),[])
def Y3:Env:=cS 205 adv asd Y0
def asf:anz->FR:=fun(a,b)=>(True, .bool (S.gm a b),[])
def asg:anz->LR:=fun(a,b)=>fun
    |0=>some ⟨Nat,[(5,iN)],[],[],[],[],fun k=>S.jQ a b k,fun k=>S.ag (S.len a) k⟩
    |_=>none
def Y6:Env:=cS 169 anI asf Y3
def ash:adE->FR:=fun(docs,s1,s2)=>(S.fA docs s1 s2, .own 0,[.row 179 [.str, .slice [.int .i64]] (S.make docs s1 s2) false])
def asi:adE->LR:=fun(docs,s1,s2)=>fun
    |0=>some ⟨Nat,[(6,fun k=> .int .i64 (s1+(k:Nat))),(5,fun k=> .own 300)],[(300,fun k=> .row 9 [.str] (S.fY docs s1 k) false)],[(Vg.Loc.slot 5,300)],[102700,102701,102702,27],[],fun k=>S.eQ s1 s2 k,fun k=>S.ag (s2-s1).toNat k⟩
    |2=>some ⟨Nat,[(8,iN),(7,fun k=> .own 301)],[(301,fun k=> .row 179 [.str, .slice [.int .i64]] (S.kl docs s1 s2 k) false)],[(Vg.Loc.slot 7,301)],[302],[],fun k=>S.fy (S.cu docs s1 s2) k,fun k=>S.ag (S.len (S.cu docs s1 s2)) k⟩
    |4=>some ⟨Nat×List UInt8,[(10,fun k=> .int .i64 (s1+(k.1:Nat)))],[(9,fun k=> .cells [.str k.2, .own 302]),(302,fun k=> .row 3 [.int .i64] (S.bW docs s1 k.2 k.1) false)],[(Vg.Loc.cell 9 1,302)],[],[(37,fun k=> .str k.2)],fun k=>S.eQ s1 s2 k.1,fun k=>S.ag (s2-s1).toNat k.1⟩
    |_=>none
def Y9:Env:=cS 170 adD ash Y6
def asj:aKF->FR:=fun(s1,s2)=>(True, .bool (S.iB s1 s2),[])
def Zc:Env:=cS 197 aIW asj Y9
def asm:agV->FR:=fun(s1,s2,s3)=>(S.bf s3, .bool (S.dQ s1 s2 s3),[])
def asn:agV->LR:=fun(s1,s2,s3)=>fun
    |0=>some ⟨Nat,[(18,iN)],[],[],[],[],fun k=>S.rY s1 s2 s3 k,fun k=>S.ag (S.len s3) k⟩
    |_=>none
def Zf:Env:=cS 144 afK asm Zc
def aso:agV->FR:=fun(s1,s2,s3)=>(S.bf s3, .b4 [.agg (gh [.int .i64, .int .i64, .int .i64, .str] ((S.nA s1 s2 s3).1)), .int .i64 ((S.nA s1 s2 s3).2:Int)],[])
def Zi:Env:=cS 163 afK aso Zf
def asq:aKG->FR:=fun(s1,s2,s3,s4)=>(True, .bool (S.j3 s1 s2 s3 s4),[])
def Zl:Env:=cS 266 aI3 asq Zi
def ass:adE->FR:=fun(docs,s1,s2)=>(True, .b4 [.agg (gh [.int .i64, .int .i64, .slice [.str, .slice [.int .i64]]] ((S.cQ docs s1 s2).1)), .int .i64 ((S.cQ docs s1 s2).2:Int)],[])
def Zo:Env:=cS 73 adD ass Zl
def asu:azC->FR:=fun(l,n)=>(True, .bool (S.nE l n),[])
def asv:azC->LR:=fun(l,n)=>fun
    |0=>some ⟨Nat,[(14,iN),(5,fun k=> .int .i64 (S.rowAt l k:Int))],[],[],[],[],fun k=>S.sW l k,fun k=>S.ag (S.len l) k⟩
    |_=>none
def Zr:Env:=cS 241 aI4 asu Zo
def asw:adE->FR:=fun(docs,s1,s2)=>(True, .bool (S.c9 docs s1 s2),[])
def Zu:Env:=cS 110 adD asw Zr
def asy:adE->FR:=fun(docs,s1,s2)=>(S.fA docs s1 s2, .agg (gh [.int .i64, .int .i64, .slice [.str, .slice [.int .i64]]] ((s1,s2,S.make docs s1 s2))),[])
def Zx:Env:=cS 112 adD asy Zu
def asA:agV->FR:=fun(s1,s2,s3)=>(S.bf s3/\S.aY s3=true, .agg (gh [.int .i64, .int .i64, .int .i64, .str] (S.CW s1 s2 s3)),[])
def ZA:Env:=cS 151 afK asA Zx
def asC:aKH->FR:=fun(a1,a2,a3,b1,b2,b3)=>(True, .bool (S.uP a1 a2 a3 b1 b2 b3),[])
def ZD:Env:=cS 111 aI5 asC ZA
def asE:adr->FR:=fun d=>(True, .bool (S.fN d),[])
def asF:adr->LR:=fun d=>fun
    |0=>some ⟨Nat,[(3,iN)],[],[],[],[],fun k=>S.xh d k,fun k=>S.ag (S.len d) k⟩
    |_=>none
def ZG:Env:=cS 37 adv asE ZD
def asG:ad2->FR:=fun docs=>(True, .bool (S.l7 docs),[])
def asH:ad2->LR:=fun docs=>fun
    |0=>some ⟨Nat,[(3,iN)],[],[],[],[],fun k=>S.xi docs k,fun k=>S.ag (S.len docs) k⟩
    |_=>none
def ZJ:Env:=cS 38 aic asG ZG
def asI:agV->FR:=fun(s1,s2,s3)=>(True, .agg (gh [.int .i64, .int .i64, .slice [.str, .slice [.int .i64]]] ((s1,s2,s3))),[])
def ZM:Env:=cS 45 afK asI ZJ
def asK:abr->FR:=fun l=>(S.small l, .own 0,[.row 5 [.int .u8] (l) false])
def ZP:Env:=cS 91 n4 asK ZM
def asM:adr->FR:=fun l=>(S.small l, .own 0,[.row 179 [.str, .slice [.int .i64]] (l) false])
def ZS:Env:=cS 141 adv asM ZP
def asO:anr->FR:=fun(a,b)=>(True, .bool (S.C1 a b),[])
def asP:anr->LR:=fun(a,b)=>fun
    |0=>some ⟨Nat,[(13,iN)],[],[],[],[],fun k=>S.BS a b k,fun k=>S.ag (S.len a) k⟩
    |_=>none
def ZV:Env:=cS 215 anG asO ZS
def asQ:aKI->FR:=fun(a1,a2,b1,b2)=>(True, .bool (S.xm a1 a2 b1 b2),[])
def ZY:Env:=cS 214 aI9 asQ ZV
def asS:azD->anv->b9:=fun(a,b) ()=>⟨True, .bool (S.gm a b),[],[]⟩
def asT:azD->anv->LR:=fun(a,b) ()=>fun
    |0=>some ⟨Nat,[(17,iN)],[],[],[],[],fun k=>S.jQ a b k,fun k=>S.ag (S.len a) k⟩
    |_=>none
def Z3:Env:=cH 213 [false,false,true] aJr q4q asS ZY
def asU:anz->FR:=fun(a,b)=>(True, .bool (S.gm a b),[])
def Z6:Env:=cS 162 anI asU Z3
def asW:abu->FR:=fun(y1,y2)=>(True, .bool (S.bk y1 y2),[])
def asX:abu->LR:=fun(y1,y2)=>fun
    |0=>some ⟨Nat,[(23,iN)],[],[],[],[],fun k=>S.Hw y1 y2 k,fun k=>S.ag (S.len y1) k⟩
    |2=>some ⟨Nat,[(34,iN),(5,fun k=> .int .i64 (S.dw y2 k))],[],[],[],[],fun k=>S.ra y1 y2 k,fun k=>S.ag (S.len y2) k⟩
    |_=>none
def Z9:Env:=cS 95 abv asW Z6
def asY:abu->FR:=fun(y1,y2)=>(True, .agg (gh [.slice [.slice [.int .u8]], .slice [.int .i64, .int .i64, .slice [.str, .slice [.int .i64]]]] (S.aq y1 y2)),[])
def Â:Env:=cS 71 abv asY Z9
def as0:abu->FR:=fun(y1,y2)=>(True, .int .i64 (S.cD y2:Int),[])
def O1:Env:=cS 72 abv as0 Â
def as2:abu->FR:=fun(y1,y2)=>(S.r7 y1 y2, .agg [.own 0, .own 1],[.row 28 [.slice [.int .u8]] y1 false, .row 102 [.int .i64, .int .i64, .slice [.str, .slice [.int .i64]]] y2 false])
def as3:abu->LR:=fun(y1,y2)=>fun
    |0=>some ⟨Nat,[(22,iN)],[(13,fun k=> .row 28 [.slice [.int .u8]] (S.dx [] y1 k) false)],[],[],[],fun k=>S.ei y1 k,fun k=>S.ag (S.len y1) k⟩
    |2=>some ⟨Nat,[(37,iN)],[(17,fun k=> .row 102 [.int .i64, .int .i64, .slice [.str, .slice [.int .i64]]] (S.dx (0,0,[]) y2 k) false)],[],[],[],fun k=>S.ei y2 k,fun k=>S.ag (S.len y2) k⟩
    |4=>some ⟨Nat×Nat×List S.aT,[(55,fun k=> .int .i64 ((k.1:Nat):Int))],[(17,fun k=> .gS 102 (some 104900) [.int .i64, .int .i64, .slice [.str, .slice [.int .i64]]] k.2.2 k.2.1),(104900,fun k=> .row 179 [.str, .slice [.int .i64]] (S.aB y2 k.2.1).2.2 false)],[],[],[(6,fun k=> .int .i64 ((k.2.1:Nat):Int))],fun k=>S.r8 y2 k.2.2 k.2.1 k.1,fun k=>S.ag (S.lU y2 k.2.1) k.1⟩
    |_=>none
def Ç:Env:=cS 74 abv as2 O1
def as5:abu->FR:=fun(y1,y2)=>(True, .int .i64 (S.fZ y1 y2:Int),[])
def Ê:Env:=cS 96 abv as5 Ç
def as7:aKJ->FR:=fun(y1,y2,d)=>(True, .b4 [.agg (gh [.slice [.slice [.int .u8]], .slice [.int .i64, .int .i64, .slice [.str, .slice [.int .i64]]]] ((S.cE y1 y2 d).1)), .int .i64 ((S.cE y1 y2 d).2:Int)],[])
def Í:Env:=cS 39 aJs as7 Ê
def as9:abu->FR:=fun(y1,y2)=>(True, .b4 [.agg (gh [.slice [.slice [.int .u8]], .slice [.int .i64, .int .i64, .slice [.str, .slice [.int .i64]]]] ((S.bQ y1 y2).1)), .int .i64 ((S.bQ y1 y2).2:Int)],[])
def Ð:Env:=cS 28 abv as9 Í
def atb:abu->FR:=fun(y1,y2)=>(True, .sl [.int .i64, .int .i64, .int .i64, .str] (S.aZ y1 y2),[])
def atc:abu->LR:=fun(y1,y2)=>fun
    |0=>some ⟨Nat,[(17,iN),(3,fun k=> .own 300)],[(300,fun k=> .row 174 [.int .i64, .int .i64, .int .i64, .str] (S.eH y1 y2 k) false)],[(Vg.Loc.slot 3,300)],[13],[],fun k=>k<=S.gL y1 y2,fun k=>S.ag (S.gL y1 y2) k⟩
    |_=>none
def Ó:Env:=cS 98 abv atb Ð
def atd:abu->FR:=fun(y1,y2)=>(True, .bool (S.bk y1 y2),[])
def ate:abu->LR:=fun(y1,y2)=>fun
    |0=>some ⟨Nat,[(3,iN)],[],[],[],[],fun k=>S.ra y1 y2 k,fun k=>S.ag (S.len y2) k⟩
    |_=>none
def Ö:Env:=cS 46 abv atd Ó
def atf:abu->FR:=fun(y1,y2)=>(True, .agg (gh [.slice [.slice [.int .u8]], .slice [.int .i64, .int .i64, .slice [.str, .slice [.int .i64]]]] (S.aq y1 y2)),[])
def Ú:Env:=cS 113 abv atf Ö
def ath:abu->FR:=fun(y1,y2)=>(True, .int .i64 (S.fZ y1 y2:Int),[])
def ati:abu->LR:=fun(y1,y2)=>fun
    |0=>some ⟨Nat,[(4,iN),(3,fun k=> .int .i64 (S.dw (S.aq y1 y2).2 k))],[],[],[],[],fun k=>k<=S.gL y1 y2,fun k=>S.ag (S.gL y1 y2) k⟩
    |_=>none
def Ý:Env:=cS 47 abv ath Ú
def atj:abu->FR:=fun(y1,y2)=>(True, .sl [.int .i64, .int .i64, .int .i64, .str] (S.aZ y1 y2),[])
def atk:abu->LR:=fun(y1,y2)=>fun
    |0=>some ⟨Nat,[(4,iN),(3,fun k=> .own 300)],[(300,fun k=> .row 172 [.int .i64, .int .i64, .int .i64, .str] (S.eH y1 y2 k) false)],[(Vg.Loc.slot 3,300)],[],[],fun k=>k<=S.gL y1 y2,fun k=>S.ag (S.gL y1 y2) k⟩
    |_=>none
def à:Env:=cS 85 abv atj Ý
def atl:abu->FR:=fun(y1,y2)=>(S.small y2, .agg (gh [.slice [.slice [.int .u8]], .slice [.int .i64, .int .i64, .slice [.str, .slice [.int .i64]]]] ((y1,y2))),[])
def atm:abu->LR:=fun(y1,y2)=>fun
    |0=>some ⟨Nat,[(4,iN)],[(3,fun k=> .cells [.sl [.slice [.int .u8]] y1, .own 300]),(300,fun k=> .row 118 [.int .i64, .int .i64, .slice [.str, .slice [.int .i64]]] (y2.take k) false)],[(Vg.Loc.cell 3 1,300)],[],[],fun k=>S.ei y2 k,fun k=>S.ag (S.len y2) k⟩
    |_=>none
def ã:Env:=cS 11 abv atl à
def atn:abu->FR:=fun(y1,y2)=>(True, .bool (S.kn y1 y2),[])
def ato:abu->LR:=fun(y1,y2)=>fun
    |0=>some ⟨Nat,[(3,iN)],[],[],[],[],fun k=>S.xn y2 k,fun k=>S.ag (S.len y2) k⟩
    |_=>none
def æ:Env:=cS 8 abv atn ã
def atp:ad4->FR:=fun(y1,y2,y3)=>(True, .bool (S.bM y1 y2 y3),[])
def é:Env:=cS 178 agd atp æ
def atr:abu->FR:=fun(y1,y2)=>(True, .b4 [.agg (gh [.int .i64, .str, .slice [.int .i64, .int .i64, .int .i64, .str]] ((S.gg y1 y2).1)), .int .i64 ((S.gg y1 y2).2:Int)],[])
def O2:Env:=cS 41 abv atr é
def att:azE->aMF->b9:=fun v (q,((),()))=>⟨S.c5 v=false/\q=0, .b4 [],[some (.cells [.int .i64 0]),some (.cells [.own 60000])],[.row 5 [.int .u8] (S.num v) false]⟩
def î:bq:=bx aih q6q att
def O3:bq:=î
def O4:Env:=Env.aR 179 [false,true,true] O3 O2
def atw:azE->aMG->b9:=fun v (q,((),(l,())))=>⟨S.c5 v=false/\q=0/\l.length<=35184372088832, .b4 [],[some (.cells [.int .i64 0]),some (.cells [.own 60000]),none],[.row 5 [.int .u8] (l++S.num v) false]⟩
def ñ:bq:=bx aih q7q atw
def ò:bq:=xW ñ O3
def ó:Env:=Env.aR 179 [false,true,true] ò O4
def atz:aKM->aMI->b9:=fun d ((),(l,()))=>⟨l.length<=35184372088832/\d.length<=35184372088832, .b4 [],[some (.cells [.own 60000]),none],[.row 5 [.int .u8] (l++d) false]⟩
def ù:Env:=cH 180 [false,true] aJt q8q atz ó
def atB:ad4->FR:=fun(y1,y2,y3)=>(True, .b4 [.own 0, .int .i64 ((S.hW y1 y2 y3).2:Int)],[.row 5 [.int .u8] ((S.hW y1 y2 y3).1) false])
def atC:ad4->LR:=fun(y1,y2,y3)=>fun
    |0=>some ⟨Nat,[(31,iN)],[(4,fun k=> .cells [.own 300]),(300,fun k=> .row 5 [.int .u8] (S.pr y1 y2 y3 k) false),(5,fun k=> .cells [.int .i64 0])],[(Vg.Loc.cell 4 0,300)],[102700],[],fun k=>S.zb y1 y2 y3 k,fun k=>S.ag (S.len y3) k⟩
    |_=>none
def ü:Env:=cS 126 agd atB ù
def atD:ads->adM->b9:=fun _ ((r1,r2,r3),())=>⟨r1.length<=140737488355328, .int .i64 (S.an r1 r2 r3).2,[some (.cells [.sl [.int .u8] r1, .int .i64 (S.an r1 r2 r3).1.2.1, .int .i64 (S.an r1 r2 r3).1.2.2])],[]⟩
def ā:Env:=cH 199 [true] ac3 q9q atD ü
def atF:ads->adM->b9:=fun _ ((r1,r2,r3),())=>⟨r1.length<=140737488355328, .str (S.aC r1 r2 r3).2,[some (.cells [.sl [.int .u8] r1, .int .i64 (S.aC r1 r2 r3).1.2.1, .int .i64 (S.aC r1 r2 r3).1.2.2])],[]⟩
def Ć:Env:=cH 200 [true] ac3 q9q atF ā
def atH:aKN->aKO->b9:=fun _ (a,((),((),((r1,r2,r3),()))))=>⟨r1.length<=140737488355328, .agg [.int .i64 a, .int .i64 (S.pt r1 r2 r3 a).2.2.1, .int .i64 (S.pt r1 r2 r3 a).2.2.2.1, .str (S.pt r1 r2 r3 a).2.2.2.2],[some (.cells [.int .i64 (S.pt r1 r2 r3 a).2.2.1]),some (.cells [.fn (.func 199) [] [.ref 50003 0]]),some (.cells [.fn (.func 200) [] [.ref 50003 0]]),some (.cells [.sl [.int .u8] r1, .int .i64 (S.pt r1 r2 r3 a).1.1, .int .i64 (S.pt r1 r2 r3 a).1.2])],[]⟩
def ċ:Env:=cH 201 [true,true,true] aJu aJv atH Ć
def atJ:abr->FR:=fun b=>(b.length<=140737488355328, .b4 [.agg (gh [.int .i64, .str, .slice [.int .i64, .int .i64, .int .i64, .str]] ((S.hR b).1)), .int .i64 ((S.hR b).2:Int)],[])
def atK:abr->LR:=fun b=>fun
    |0=>some ⟨Nat,[(29,iN)],[(4,fun k=> .cells [.sl [.int .u8] b, .int .i64 (S.gG b k).1.1, .int .i64 (S.gG b k).1.2]),(7,fun k=> .cells [.int .i64 (S.gG b k).2.1]),(5,fun k=> .cells [.fn (.func 199) [] [.ref 4 0]]),(6,fun k=> .cells [.fn (.func 200) [] [.ref 4 0]]),(9,fun k=> .cells [.int .i64 (S.eZ b).1.1, .str (S.eZ b).1.2.1, .own 300]),(300,fun k=> .row 174 [.int .i64, .int .i64, .int .i64, .str] (S.gG b k).2.2 false)],[(Vg.Loc.cell 9 2,300)],[],[],fun k=>k<=S.pN b/\(S.eZ b).1.2.2<=64,fun k=>S.ag (S.pN b) k⟩
    |_=>none
def Ď:Env:=cS 146 n4 atJ ċ
def atL:abu->FR:=fun(y1,y2)=>(True, .bool (S.cv y1 y2),[])
def đ:Env:=cS 12 abv atL Ď
def atN:abu->FR:=fun(y1,y2)=>(S.c8 y1, .agg (gh [.int .i64, .str, .slice [.int .i64, .int .i64, .int .i64, .str]] ((((S.len y1:Nat):Int),S.root (S.leaves y1),S.aZ y1 y2))),[])
def O5:Env:=cS 32 abv atN đ
def atP:ant->FR:=fun(d,t)=>(S.bf d/\S.small t, .b4 [.agg (gh [.int .i64, .str, .str, .str, .slice [.str], .slice [.int .u8]] ((S.oe d t).1)), .int .i64 ((S.oe d t).2:Int)],[])
def Ė:Env:=cS 58 aif atP O5
def atV:adO->afJ->b9:=fun _ (l,())=>⟨S.small l, .b4 [],[some (.row 9 [.str] (S.eo l) false)],[]⟩
def ę:Env:=cH 118 [true] afI q1q atV Ė
def atW:adO->afJ->b9:=fun _ (l,())=>⟨S.small l, .own 60000,[none],[.row 9 [.str] (S.bJ l) false]⟩
def atX:adO->afJ->LR:=fun _ (l,())=>fun
    |0=>some ⟨Nat,[(3,iN)],[],[],[],[],fun k=>S.lh l k,fun k=>S.ag (S.len l) k⟩
    |2=>some ⟨Nat×Nat×List (List UInt8)×Nat,[(3,fun k=> .int .i64 ((k.1:Nat):Int)),(5,fun k=> .int .i64 ((k.2.1:Nat):Int))],[(50000,fun k=> .row 9 [.str] k.2.2.1 false)],[],[],[(27,fun k=> .int .i64 ((k.2.2.2:Nat):Int))],fun k=>S.gZ l k.2.2.2 k.1 k.2.1 k.2.2.1,fun k=>S.ag (S.len l) k.2.1⟩
    |_=>none
def Ğ:Env:=cH 119 [true] afI q1q atW ę
def atY:anu->FR:=fun l=>(S.sa l, .bool (S.de l),[])
def atZ:anu->LR:=fun l=>fun
    |0=>some ⟨Nat,[(9,iN),(3,fun k=> .int .i64 (S.jk l k)),(4,fun k=> .int .i64 (S.nW l k))],[],[],[],[],fun k=>S.np l k,fun k=>S.ag (S.len l) k⟩
    |_=>none
def ġ:Env:=cS 54 anL atY Ğ
def at0:anu->FR:=fun l=>(S.small l, .sl [.str] (S.b7 l),[])
def at1:anu->LR:=fun l=>fun
    |0=>some ⟨Nat,[(8,iN),(3,fun k=> .own 300)],[(300,fun k=> .row 9 [.str] (S.bK l k) false)],[(Vg.Loc.slot 3,300)],[],[],fun k=>S.ei l k,fun k=>S.ag (S.len l) k⟩
    |_=>none
def Ĥ:Env:=cS 55 anL at0 ġ
def at2:abr->FR:=fun b=>(S.small b, .str (S.hdT (S.aW b)),[])
def O6:Env:=cS 156 n4 at2 Ĥ
def at4:aKP->aKQ->b9:=fun _ (st,((),(bb,(at_,()))))=>⟨st=0/\bb=S.pc/\at_=3, .b4 [],[some (.cells [.int .i64 (-1)]),some (.cells [.own 60000]),some (.cells [.sl [.int .u8] bb]),some (.cells [.int .i64 at_])],[.row 187 [.int .i64, .int .i64, .str] S.Oz false]⟩
def ī:Env:=cH 155 [true,true,true,true] aJw aJx at4 O6
def at7:abr->FR:=fun b=>(b=S.pc, .sl [.int .i64, .int .i64, .str] S.kE,[])
def aua:abr->LR:=fun b=>fun
    |0=>some ⟨Nat,[(15,iN)],[(1,fun k=> .cells [.sl [.int .u8] b]),(3,fun k=> .cells [.nil]),(4,fun k=> .cells [.int .i64 ((k:Nat):Int)]),(5,fun k=> .cells [.int .i64 (S.pV k)])],[],[],[],fun k=>S.bN k 3,fun k=>S.ag 3 k⟩
    |_=>none
def Į:Env:=cS 92 n4 at7 ī
def aub:ads->afd->b9:=fun _ ((e,n,w),())=>⟨0<=n/\n<e.length, .agg [.int .i64 (S.nB e n).1, .int .i64 (S.nB e n).2.1, .str (S.nB e n).2.2],[some (.cells [.sl [.int .i64, .int .i64, .str] e, .int .i64 n, .int .i64 w, .nil])],[]⟩
def ı:bq:=bx ac3 ad1 aub
def O7:bq:=ı
def Ĳ:Env:=Env.aR 94 [true] O7 Į
def aud:ads->aKR->b9:=fun _ ((e,n,w),(l,()))=>⟨0<=n/\n<e.length, .agg [.int .i64 (S.nB e n).1, .int .i64 (S.nB e n).2.1, .str (S.nB e n).2.2],[some (.cells [.sl [.int .i64, .int .i64, .str] e, .int .i64 n, .int .i64 w, .own 50001]),some (.row 127 [.int .i64, .str] l false)],[]⟩
def ĵ:bq:=bx ac3 azF aud
def Ķ:bq:=xW ĵ O7
def ķ:Env:=Env.aR 94 [true] Ķ Ĳ
def auf:adJ->afd->b9:=fun d ((e,n,w),())=>⟨e=S.kE/\n=0/\w=0, .int .i64 0,[some (.cells [.sl [.int .i64, .int .i64, .str] e, .int .i64 1, .int .i64 1, .own 60000])],[.row 127 [.int .i64, .str] S.eW false]⟩
def ļ:Env:=cH 212 [true,false] adA ad1 auf ķ
def auh:adJ->afd->b9:=fun d ((e,n,w),())=>⟨e=S.kE/\n=0/\w=0, .int .i64 0,[some (.cells [.sl [.int .i64, .int .i64, .str] e, .int .i64 1, .int .i64 1, .own 60000])],[.row 127 [.int .i64, .str] S.eW false]⟩
def aui:adJ->afd->LR:=fun d ((e,n,w),())=>fun
    |0=>some ⟨Nat,[],[(50000,fun k=> .cells [.sl [.int .i64, .int .i64, .str] e, .int .i64 1, .int .i64 1, .own 300]),(300,fun k=> .row 127 [.int .i64, .str] S.eW false)],[(Vg.Loc.cell 50000 3,300)],[101000],[],fun k=>k=0,fun k=>k⟩
    |_=>none
def Ł:Env:=cH 161 [true,false] adA ad1 auh ļ
def auj:adJ->afd->b9:=fun d ((e,n,w),())=>⟨e=S.kE/\n=0/\w=0, .int .i64 0,[some (.cells [.sl [.int .i64, .int .i64, .str] e, .int .i64 1, .int .i64 1, .own 60000])],[.row 127 [.int .i64, .str] S.eW false]⟩
def auk:adJ->afd->LR:=fun d ((e,n,w),())=>fun
    |0=>some ⟨Nat,[],[(50000,fun k=> .cells [.sl [.int .i64, .int .i64, .str] e, .int .i64 1, .int .i64 1, .own 300]),(300,fun k=> .row 127 [.int .i64, .str] S.eW false)],[(Vg.Loc.cell 50000 3,300)],[100900],[],fun k=>k=0,fun k=>k⟩
    |_=>none
def ņ:Env:=cH 93 [true,false] adA ad1 auj Ł
def aul:abr->FR:=fun b=>(b=S.pc, .b4 (gh [.slice [.int .i64, .str], .int .i64, .int .i64] ((S.eW,0,0))),[])
def ŉ:Env:=cS 40 n4 aul ņ
def aun:adJ->adR->b9:=fun v (d,(l,()))=>⟨l.length<=35184372088832, .b4 [],[some (.cells [.own 60000, .bool (S.j5 d (S.gd v))]),none],[.row 5 [.int .u8] (l++S.bytesOf (S.gd v)) false]⟩
def Ŏ:Env:=cH 105 [true,false] adA adB aun ŉ
def aup:aKS->adR->b9:=fun(b,m) (d,(l,()))=>⟨l.length<=35184372088832/\b.length<=1099511627776, .b4 [],[some (.cells [.own 60000, .bool (S.j5 d (S.eV b m))]),none],[.row 5 [.int .u8] (l++S.bytesOf (S.eV b m)) false]⟩
def œ:Env:=cH 106 [true,false,false] aJy adB aup Ŏ
def aur:aKY->adR->b9:=fun(y1,y2,y3) (d,(l,()))=>⟨l.length<=35184372088832, .b4 [],[some (.cells [.own 60000, .bool (S.j5 d (S.gn y1 y2 y3))]),none],[.row 5 [.int .u8] (l++S.bytesOf (S.gn y1 y2 y3)) false]⟩
def Ř:Env:=cH 104 [true,false] aJz adB aur œ
def aut:azH->adR->b9:=fun p (d,(l,()))=>⟨l.length<=17592186044416, .b4 [],[some (.cells [.own 60000, .bool (S.j5 d (S.fw p))]),none],[.row 5 [.int .u8] (l++S.bytesOf (S.fw p)) false]⟩
def auu:azH->adR->LR:=fun p (d,(l,()))=>fun
    |0=>some ⟨Nat,[(18,iN)],[(50000,fun k=> .cells [.own 300, .bool d]),(300,fun k=> .row 5 [.int .u8] (l++S.gf p k) false)],[(Vg.Loc.cell 50000 0,300)],[101500],[],fun k=>S.jV p k,fun k=>S.ag (S.len p) k⟩
    |_=>none
def ŝ:Env:=cH 107 [true,false] aJA adB aut Ř
def auv:aKZ->adR->b9:=fun(p1,p2,p3,p4,p5,p6) (d,(l,()))=>⟨l.length<=8796093022208/\p6.length<=1099511627776, .b4 [],[some (.cells [.own 60000, .bool (S.j5 d (S.gH (p1,p2,p3,p4,p5,p6)))]),none],[.row 5 [.int .u8] (l++S.bytesOf (S.gH (p1,p2,p3,p4,p5,p6))) false]⟩
def Ţ:Env:=cH 125 [true,false] aJC adB auv ŝ
def auy:ads->adR->b9:=fun _ (d,(l,()))=>⟨True, .b4 [.sl [.int .u8] (S.sb (l,d)), .int .i64 (S.rh (l,d))],[none,none],[]⟩
def ŧ:Env:=cH 108 [true] ac3 adB auy Ţ
def auA:azI->FR:=fun(a1,a2,a3,a4)=>(S.tG a4, .b4 (gh [.slice [.int .u8], .int .i64] (S.nq a1 a2 a3 a4)),[])
def auB:azI->LR:=fun(a1,a2,a3,a4)=>fun
    |0=>some ⟨Nat,[(25,iN)],[(4,fun k=> .cells [.own 300, .bool (S.kp (S.eu a1 a2 a3 a4 k))]),(300,fun k=> .row 5 [.int .u8] (S.bytesOf (S.eu a1 a2 a3 a4 k)) false)],[(Vg.Loc.cell 4 0,300)],[101300,302],[],fun k=>S.lW a3 a4 k,fun k=>S.ag (S.len a4) k⟩
    |2=>some ⟨Nat×Nat,[(37,fun k=> .int .i64 ((k.1:Nat):Int))],[(4,fun k=> .cells [.own 302, .bool (S.kp (S.fm a1 a2 a3 a4 k.2 k.1))]),(302,fun k=> .row 5 [.int .u8] (S.bytesOf (S.fm a1 a2 a3 a4 k.2 k.1)) false)],[(Vg.Loc.cell 4 0,302)],[103400,300],[(25,fun k=> .int .i64 ((k.2:Nat):Int))],fun k=>S.jW a3 a4 k.2 k.1,fun k=>S.ag (S.len (S.jl a4 k.2)) k.1⟩
    |_=>none
def Ū:Env:=cS 59 aJD auA ŧ
def auC:azK->FR:=fun(p1,p2,p3,p4,p5,p6)=>(p5.length<=1099511627776, .b4 (gh [.slice [.int .u8], .int .i64] (S.uY p1 p2 p3 p4 p5 p6)),[])
def ŭ:Env:=cS 44 anM auC Ū
def auE:azM->anv->b9:=fun(b,c) ()=>⟨S.jm b c=0, .b4 [.ref 60000 0, .int .i64 0],[],[.cells [.sl [.int .u8] b, .int .i64 1, .int .i64 0]]⟩
def O8:bq:=bx age q4q auE
def O9:bq:=O8
def Ű:Env:=Env.aR 79 [false,false] O9 ŭ
def auG:azM->anv->b9:=fun(b,c) ()=>⟨¬S.jm b c=0, .b4 [.jM, .int .i64 (S.jm b c)],[],[]⟩
def Pa:bq:=bx age q4q auG
def ų:bq:=xW Pa O9
def Ŵ:Env:=Env.aR 79 [false,false] ų Ű
def auI:ads->adM->b9:=fun _ ((r1,r2,r3),())=>⟨r1.length<=140737488355328, .int .i64 (S.an r1 r2 r3).2,[some (.cells [.sl [.int .u8] r1, .int .i64 (S.an r1 r2 r3).1.2.1, .int .i64 (S.an r1 r2 r3).1.2.2])],[]⟩
def Ź:Env:=cH 89 [true] ac3 q9q auI Ŵ
def auK:adJ->adM->b9:=fun m ((r1,r2,r3),())=>⟨r1.length<=140737488355328, .str (S.ax r1 r2 r3 m).2,[some (.cells [.sl [.int .u8] r1, .int .i64 (S.ax r1 r2 r3 m).1.2.1, .int .i64 (S.ax r1 r2 r3 m).1.2.2])],[]⟩
def ž:Env:=cH 90 [true,false] adA q9q auK Ź
def auM:adJ->adM->b9:=fun m ((r1,r2,r3),())=>⟨r1.length<=140737488355328, .int .i64 (S.dC r1 r2 r3 m).2,[some (.cells [.sl [.int .u8] r1, .int .i64 (S.dC r1 r2 r3 m).1.1, .int .i64 (S.dC r1 r2 r3 m).1.2])],[]⟩
def aad:Env:=cH 86 [true,false] adA q9q auM ž
def auO:ads->adM->b9:=fun _ ((r1,r2,r3),())=>⟨r1.length<=140737488355328, .agg [.int .i64 (S.dL r1 r2 r3).2.1, .str (S.dL r1 r2 r3).2.2.1, .sl [.int .i64, .int .i64, .int .i64, .str] (S.dL r1 r2 r3).2.2.2],[some (.cells [.sl [.int .u8] r1, .int .i64 (S.dL r1 r2 r3).1.1, .int .i64 (S.dL r1 r2 r3).1.2])],[]⟩
def aai:Env:=cH 80 [true] ac3 q9q auO aad
def auQ:ads->adM->b9:=fun _ ((r1,r2,r3),())=>⟨r1.length<=140737488355328, .agg [.str (S.gp r1 r2 r3).2.1, .str (S.gp r1 r2 r3).2.2.1, .str (S.gp r1 r2 r3).2.2.2],[some (.cells [.sl [.int .u8] r1, .int .i64 (S.gp r1 r2 r3).1.1, .int .i64 (S.gp r1 r2 r3).1.2])],[]⟩
def aan:Env:=cH 152 [true] ac3 q9q auQ aai
def auS:ads->adM->b9:=fun _ ((r1,r2,r3),())=>⟨r1.length<=140737488355328, .sl [.str] (S.pv r1 r2 r3).2,[some (.cells [.sl [.int .u8] r1, .int .i64 (S.pv r1 r2 r3).1.1, .int .i64 (S.pv r1 r2 r3).1.2])],[]⟩
def auT:ads->adM->LR:=fun _ ((r1,r2,r3),())=>fun
    |0=>some ⟨Nat,[(7,iN),(3,fun k=> .own 300)],[(300,fun k=> .row 9 [.str] (S.fl r1 r2 r3 k).2 false),(50000,fun k=> .cells [.sl [.int .u8] r1, .int .i64 (S.fl r1 r2 r3 k).1.1, .int .i64 (S.fl r1 r2 r3 k).1.2])],[(Vg.Loc.slot 3,300)],[],[],fun k=>S.bN k (S.ko r1 r2 r3),fun k=>S.ag (S.ko r1 r2 r3) k⟩
    |_=>none
def aas:Env:=cH 81 [true] ac3 q9q auS aan
def auU:ads->adM->b9:=fun _ ((r1,r2,r3),())=>⟨r1.length<=140737488355328, .agg [.int .i64 (S.fO r1 r2 r3).2.1, .str (S.fO r1 r2 r3).2.2.1, .str (S.fO r1 r2 r3).2.2.2.1, .str (S.fO r1 r2 r3).2.2.2.2.1, .sl [.str] (S.fO r1 r2 r3).2.2.2.2.2.1, .sl [.int .u8] (S.fO r1 r2 r3).2.2.2.2.2.2],[some (.cells [.sl [.int .u8] r1, .int .i64 (S.fO r1 r2 r3).1.1, .int .i64 (S.fO r1 r2 r3).1.2])],[]⟩
def agi:Env:=cH 87 [true] ac3 q9q auU aas
def auW:abr->FR:=fun b=>(b.length<=140737488355328/\S.jm b 1=0, .b4 [.agg (gh [.int .i64, .str, .slice [.int .i64, .int .i64, .int .i64, .str], .slice [.slice [.int .i64, .str, .str, .str, .slice [.str], .slice [.int .u8]]]] ((S.eJ b).1)), .int .i64 ((S.eJ b).2:Int)],[])
def auX:abr->LR:=fun b=>fun
    |0=>some ⟨Nat,[(25,iN)],[(101100,fun k=> .cells [.sl [.int .u8] b, .int .i64 (S.gQ b k).1.1, .int .i64 (S.gQ b k).1.2]),(6,fun k=> .cells [.int .i64 (S.aH b).2.1, .str (S.aH b).2.2.1, .sl [.int .i64, .int .i64, .int .i64, .str] (S.aH b).2.2.2, .own 300]),(300,fun k=> .row 107 [.slice [.int .i64, .str, .str, .str, .slice [.str], .slice [.int .u8]]] (S.gQ b k).2 false)],[(Vg.Loc.cell 6 3,300)],[301],[],fun k=>S.bN k (S.aN b),fun k=>S.ag (S.aN b) k⟩
    |2=>some ⟨Nat×Nat,[(29,fun k=> .int .i64 ((k.1:Nat):Int)),(7,fun k=> .own 301)],[(301,fun k=> .row 111 [.int .i64, .str, .str, .str, .slice [.str], .slice [.int .u8]] (S.nG b k.2 k.1).2 false),(101100,fun k=> .cells [.sl [.int .u8] b, .int .i64 (S.nG b k.2 k.1).1.1, .int .i64 (S.nG b k.2 k.1).1.2]),(6,fun k=> .cells [.int .i64 (S.aH b).2.1, .str (S.aH b).2.2.1, .sl [.int .i64, .int .i64, .int .i64, .str] (S.aH b).2.2.2, .own 300]),(300,fun k=> .row 107 [.slice [.int .i64, .str, .str, .str, .slice [.str], .slice [.int .u8]]] (S.gQ b k.2).2 false)],[(Vg.Loc.slot 7,301)],[],[(25,fun k=> .int .i64 ((k.2:Nat):Int))],fun k=>S.bN k.1 (S.nr b k.2)/\k.2+1<=S.aN b,fun k=>S.ag (S.nr b k.2) k.1⟩
    |_=>none
def auZ:Env:=Env.aR 79 [false,false] (bx age q4q auE) agi
def au0:abr->FR:=fun b=>(¬S.jm b 1=0, .b4 [.agg (gh [.int .i64, .str, .slice [.int .i64, .int .i64, .int .i64, .str], .slice [.slice [.int .i64, .str, .str, .str, .slice [.str], .slice [.int .u8]]]] ((S.eJ b).1)), .int .i64 ((S.eJ b).2:Int)],[])
def au3:Env:=Env.aR 79 [false,false] (bx age q4q auG) agi
def au5:abr->FR:=fun b=>(b.length<=140737488355328, .b4 [.agg (gh [.int .i64, .str, .slice [.int .i64, .int .i64, .int .i64, .str], .slice [.slice [.int .i64, .str, .str, .str, .slice [.str], .slice [.int .u8]]]] ((S.eJ b).1)), .int .i64 ((S.eJ b).2:Int)],[])
def aaA:Env:=cS 33 n4 au5 agi
def au6:ad4->FR:=fun(y1,y2,y3)=>(S.bM y1 y2 y3=true, .own 0,[.row 5 [.int .u8] (S.hB y1 y2 y3) false])
def au7:ad4->LR:=fun(y1,y2,y3)=>fun
    |0=>some ⟨Nat,[(4,iN),(3,fun k=> .own 300)],[(300,fun k=> .row 5 [.int .u8] (S.pr y1 y2 y3 k) false)],[(Vg.Loc.slot 3,300)],[101700,101701,101702,11,17,101100,101101,101102],[],fun k=>S.zb y1 y2 y3 k,fun k=>S.ag (S.len y3) k⟩
    |_=>none
def aaD:Env:=cS 114 agd au6 aaA
def au8:adp->FR:=fun p=>(S.qc p, .own 0,[.row 5 [.int .u8] (S.dS p) false])
def au9:adp->LR:=fun p=>fun
    |0=>some ⟨Nat,[(4,iN),(3,fun k=> .own 300)],[(300,fun k=> .row 5 [.int .u8] (S.hJ p k) false)],[(Vg.Loc.slot 3,300)],[7,100700,100701,100702],[],fun k=>S.ei p k,fun k=>S.ag (S.len p) k⟩
    |_=>none
def aaG:Env:=cS 51 adx au8 aaD
def ava:ad4->FR:=fun(y1,y2,y3)=>(S.bM y1 y2 y3=true, .own 0,[.row 5 [.int .u8] (S.dU y1 y2 y3) false])
def aaJ:Env:=cS 48 agd ava aaG
def avc:azK->FR:=fun(p1,p2,p3,p4,p5,p6)=>(S.B0 p1 p2 p3 p4 p5 p6, .own 0,[.row 5 [.int .u8] (S.abG p1 p2 p3 p4 p5 p6) false])
def aaM:Env:=cS 13 anM avc aaJ
def ave:azN->aK0->b9:=fun t (dd,(er,((),())))=>⟨S.bf dd/\S.aY dd=true/\S.isTerm t=true/\er=0, .b4 [],[some (.cells [.sl [.str, .slice [.int .i64]] dd]),some (.cells [.int .i64 0]),some (.cells [.own 60000])],[.row 111 [.int .i64, .str, .str, .str, .slice [.str], .slice [.int .u8]] [S.hZ dd t] false]⟩
def aaP:bq:=bx amy azO ave
def Pb:bq:=aaP
def aaQ:Env:=Env.aR 57 [false,true,true,true] Pb aaM
def avg:azN->aK1->b9:=fun t (dd,(er,((),(l,()))))=>⟨S.bf dd/\S.aY dd=true/\S.isTerm t=true/\er=0/\l.length<=100000, .b4 [],[some (.cells [.sl [.str, .slice [.int .i64]] dd]),some (.cells [.int .i64 0]),some (.cells [.own 60000]),none],[.row 111 [.int .i64, .str, .str, .str, .slice [.str], .slice [.int .u8]] (l++ [S.hZ dd t]) false]⟩
def aaT:bq:=bx amy azP avg
def aaU:bq:=xW aaT Pb
def aaV:Env:=Env.aR 57 [false,true,true,true] aaU aaQ
def avi:azQ->az0->b9:=fun d (er,(ts,()))=>⟨S.HJ d ts/\er=0, .sl [.int .i64, .str, .str, .str, .slice [.str], .slice [.int .u8]] (S.Am d ts),[some (.cells [.int .i64 0]),some (.cells [.sl [.str] ts])],[]⟩
def avj:azQ->az0->LR:=fun d (er,(ts,()))=>fun
    |0=>some ⟨Nat,[(12,iN)],[(3,fun k=> .cells [.sl [.str, .slice [.int .i64]] d]),(5,fun k=> .cells [.own 300]),(300,fun k=> .row 111 [.int .i64, .str, .str, .str, .slice [.str], .slice [.int .u8]] (S.nv d ts k) false),(50000,fun k=> .cells [.int .i64 0]),(50001,fun k=> .cells [.sl [.str] ts])],[(Vg.Loc.cell 5 0,300)],[],[],fun k=>S.ei ts k,fun k=>S.ag (S.len ts) k⟩
    |_=>none
def aa0:Env:=cH 56 [false,true,true] aJE aJF avi aaV
def avk:az4->FR:=fun(y1,y2,l)=>(S.sa l, .b4 (gh [.slice [.int .u8], .int .i64] (S.iD y1 y2 l)),[])
def avl:az4->LR:=fun(y1,y2,l)=>fun
    |0=>some ⟨Nat,[(31,iN)],[(7,fun k=> .cells [.int .i64 0]),(8,fun k=> .cells [.sl [.str] (S.b7 l)]),(10,fun k=> .cells [.int .i64 ((S.len y1:Nat):Int), .str (S.root (S.leaves y1)), .sl [.int .i64, .int .i64, .int .i64, .str] (S.aZ y1 y2), .own 300]),(300,fun k=> .row 107 [.slice [.int .i64, .str, .str, .str, .slice [.str], .slice [.int .u8]]] (S.j6 y2 (S.b7 l) k) false)],[(Vg.Loc.cell 10 3,300)],[],[],fun k=>S.ei y2 k/\S.cv y1 y2=true/\S.de l=true,fun k=>S.ag (S.len y2) k⟩
    |_=>none
def aa3:Env:=cS 16 aJG avk aa0
def avn:anA->FR:=fun(y1,y2,i)=>(True, .b4 (gh [.slice [.int .u8], .int .i64] (S.cF y1 y2 i)),[])
def aa6:Env:=cS 10 agf avn aa3
def avp:anA->FR:=fun(y1,y2,i)=>(S.cv y1 y2=true/\S.VP y1 i, .agg (gh [.int .i64, .str, .slice [.int .i64, .int .i64, .int .i64, .str], .int .i64, .slice [.int .u8], .slice [.str]] ((((S.len y1:Nat):Int),S.root (S.leaves y1),S.aZ y1 y2,i,S.nu y1 i,S.path (S.leaves y1) i))),[])
def aa9:Env:=cS 14 agf avp aa6
def avr:azn->FR:=fun _=>(True, .bool true,[])
def avu:Env:=cS 9 q0p avr aa9
def avv:anA->FR:=fun(y1,y2,i)=>(True, .bool true,[])
def aHp:Env:=cS 3 agf avv avu
end Go.J

end
section
namespace Go.Vg
open Go Go.Shelf Go.RowKit Go.Proofs
def encS(s:List UInt8):Value:= .string ⟨s.toArray⟩
section
variable {w w':World} {A:Nat->Prop} {G:Nat->Option GD}
theorem xB:∀(l:List (List UInt8)) (cs:List Value),E2 (bC w A [.str]) cs l->cs=l.map encS/\∀s∈l,s.length<=maxLen
 | [],cs,h=>by simp only [E2] at h;simp [h]
 |s::l,cs,⟨c1,c2,hc,h1,h2⟩=>by
  subst hc;simp only [bC] at h1;obtain⟨v,cg,rfl,hv,rfl⟩:=h1;simp only [Rd] at hv;obtain⟨g1,g2⟩:=xB l c2 h2;obtain⟨rfl,hl⟩:=hv;refine⟨by rw [g1];rfl,fun s' ie=> ?_⟩;rcases L!.1 ie with rfl|ie
  . exact hl
  . exact g2 s' ie
theorem yv:∀(l:List (List UInt8)),(∀s∈l,s.length<=maxLen)->E2 (bC w A [.str]) (l.map encS) l
 | [],_=>rfl
 |s::l,h=>⟨[encS s],l.map encS,rfl,by
   simp only [bC];exact⟨_,[],rfl,by simp only [Rd];exact⟨rfl,h s (by simp)⟩,rfl⟩,yv l fun s' ie=>h s' (by simp [ie])⟩
theorem RS:∀(l:List Int) (cs:List Value),E2 (bC w A [.int .i64]) cs l->cs=l.map (Value.int .i64)/\∀z∈l,lo .i64<=z/\z<=hi .i64
 | [],cs,h=>by simp only [E2] at h;simp [h]
 |s::l,cs,⟨c1,c2,hc,h1,h2⟩=>by
  subst hc;simp only [bC] at h1;obtain⟨v,cg,rfl,hv,rfl⟩:=h1;simp only [Rd] at hv;obtain⟨g1,g2⟩:=RS l c2 h2;obtain⟨rfl,hl⟩:=hv;refine⟨by rw [g1];rfl,fun s' ie=> ?_⟩;rcases L!.1 ie with rfl|ie
  . exact hl
  . exact g2 s' ie
theorem C9:∀(l:List Int),(∀z∈l,lo .i64<=z/\z<=hi .i64)->E2 (bC w A [.int .i64]) (l.map (Value.int .i64)) l
 | [],_=>rfl
 |s::l,h=>⟨[.int .i64 s],l.map (Value.int .i64),rfl,by
   simp only [bC];exact⟨_,[],rfl,by simp only [Rd];exact⟨rfl,h s (by simp)⟩,rfl⟩,C9 l fun s' ie=>h s' (by simp [ie])⟩
theorem LL {e:Nat} {row:List Ty} {l:List (Row row)} {v:Value} {xs:List Value}(hA:∀b,A b->b<w.heap.size)(hb:Below w.heap.size w w')(ho:w'.ownsRow w.heap.size e row.length v l.length xs)(hr:E2 (bC w' A row) xs l):
  ∃A' aO,jS w A w' v (.own 0) [.row e row l false] A' aO:=by
 have hblk:∀b,aA v=some b->w.heap.size<=b:=by
  intro b bS;rcases ho.2 with⟨rfl,_⟩|⟨g,cap,cur,rfl,hg,_⟩
  . cases bS
  . simp only [aA,A!] at bS;omega
 have h1:v.oneCell'=true :=by
  rcases ho.2 with⟨rfl,_⟩|⟨g,cap,cur,rfl,hg,_⟩<;>rfl
 have ho0:w'.ownsRow 0 e row.length v l.length xs:=by
  refine⟨ho.1,?_⟩;rcases ho.2 with h|⟨g,cap,cur,g1,g2,g3⟩
  . exact .inl h
  . exact .inr ⟨g,cap,cur,g1,J! _,g3⟩
 refine⟨A,fun _=>v,{os:=hb.os,tape:=hb.tape,output:=hb.output,size:=hb.size,same:=hb.block,mono:=fun _ h=>h,lx:=fun _ _ h=>h,bound:=fun b h=>Y? (hA b h) hb.size,res:= ?_,rows:= ?_,apart:= ?_}⟩
 . simp only [aa];exact⟨trivial,h1⟩
 . intro i ab hi;match i,hi with
   |0,hi=>
    simp only [d?,A!] at hi;subst hi;refine⟨⟨xs,ho0,hr,fun b bS=> ?_⟩,hblk⟩;simp only [B?,Z?];intro uo;have :=hA b uo;have :=hblk b bS;omega
   |i+1,hi=>simp at hi
 . intro i j b hi hj _ _;simp at hi hj;omega
end
theorem Pd {α γ:Type}(f:α->γ)(l:List α)(j:Nat)(d:γ)(hj:j<l.length):(l.map f).getD j d=f l[j]:=by
 rw [H!,J?,D! hj];rfl
theorem zm {P:Program} {f:FuncId} {args:Array Value} {w:World} {A:Nat->Prop} {e:Nat} {row:List Ty}(hA:∀b,A b->b<w.heap.size)
  (h:Calls P f args w fun e w'=>e= .returned (.slice none 0 0)/\w'=w):Calls P f args w fun ex w'=>∃v,ex= .returned v/\∃A' aO,jS w A w' v (.own 0) [.row e row [] false] A' aO:=
 h.mono fun ex w' ⟨he,hw⟩=>by
  subst hw;exact⟨_,he,LL (xs:= []) hA (Below.refl _ _) ⟨by simp, .inl ⟨rfl,rfl⟩⟩ rfl⟩
theorem oE {P:Program} {f:FuncId} {args:Array Value} {w:World} {A:Nat->Prop} {e:Nat} {row:List Ty} {l:List (Row row)} {xs:List Value}(hA:∀b,A b->b<w.heap.size)
  (hr:∀w',E2 (bC w' A row) xs l)
  (h:Calls P f args w fun ex w'=>∃v',ex= .returned v'/\w'.ownsRow w.heap.size e row.length v' l.length xs/\v'≠ .slice none 0 0/\Below w.heap.size w w'):
  Calls P f args w fun ex w'=>∃v,ex= .returned v/\∃A' aO,jS w A w' v (.own 0) [.row e row l false] A' aO:=
 h.mono fun ex w' ⟨v',he,ho,_,hb⟩=>⟨v',he,LL hA hb ho (hr w')⟩
theorem LM {w:World} {A:Nat->Prop} {β:Nat->Value} {row:List Ty} {args:List Value} {l:List (Row row)}(h:ai w A β args [.sl row l]):∃a cap cs,args= [.slice a l.length cap]/\l.length<=cap/\cap<=maxLen/\E2 (bC w A row) cs l/\
  (cs≠ []->∃b o,a=some ⟨b,o,none⟩/\A b/\w.rangeAt b o cs):=by
 simp only [ai] at h;obtain⟨v,cg,rfl,hv,rfl⟩:=h;simp only [aa,Rd] at hv;obtain⟨a,cap,cs,rfl,h1,h2,h3,h4⟩:=hv;exact⟨a,cap,cs,rfl,h1,h2,h3,h4⟩
theorem Da {P:Program} {ρ:Ren} {G:Nat->Option GD}(L:SlLaysN.n42 P ρ) {F:Row (PS.flat [.one (.slice [.str])])->Prop×AV×List AB}
  (hF:∀l:List (List UInt8),F l=(l.length<=1099511627776, .own 0,[.row (ρ.t 26) [.str] l false])):Valid P G (ρ.f 42) (ao [.one (.slice [.str])] F):=by
 intro w A β args cM pre res bs hA hG bP hs hp;unfold ao at hs;split at hs
 . rename_i x hx;change List (List UInt8) at x;have ie:=hs;rw [hF x] at ie;simp only [A!,Prod.mk.injEq] at ie;obtain⟨rfl,rfl,rfl⟩:=ie;obtain⟨g1,g2⟩:=ur _ hx bP;obtain⟨a,cap,cs,rfl,h1,h2,h3,h4⟩:=LM (row:= [.str]) (l:=x) g1;obtain⟨rfl,hl⟩:=xB x cs h3;cases x with
   |nil=>cases a with
    |none=>exact zm hA (AnyG.slices_Clone_string_nil L 0 cap w)
    |some ad=>exact oE (xs:= []) hA (fun _=>rfl) (AnyG.slices_Clone_string_zero L ad cap w)
   |cons s x=>
    obtain⟨b,o,rfl,uo,hr⟩:=h4 (by simp);refine oE (xs:=(s::x).map encS) hA (fun _=>yv _ hl) ?_
    have :=AnyG.slices_Clone_string L b o (s::x).length cap ((s::x).map fun s=>⟨s.toArray⟩) w (by simp) (by omega) (fun j hj=>by
     refine hr j _ ?_;simp only [List.length_map] at hj;rw [Pd _ _ _ _ hj,J?,D! hj];rfl)
    have e1:(((s::x).map fun s=>(⟨s.toArray⟩:ByteArray)).take (s::x).length).map Value.string=(s::x).map encS:=by
     rw [I? (by simp),List.map_map];rfl
    rw [e1] at this;exact this
 . cases hs
theorem Db {P:Program} {ρ:Ren} {G:Nat->Option GD}(L:SlLaysN.n41 P ρ) {F:Row (PS.flat [.one (.slice [.int .i64])])->Prop×AV×List AB}
  (hF:∀l:List Int,F l=(l.length<=1099511627776, .own 0,[.row (ρ.t 23) [.int .i64] l false])):Valid P G (ρ.f 41) (ao [.one (.slice [.int .i64])] F):=by
 intro w A β args cM pre res bs hA hG bP hs hp;unfold ao at hs;split at hs
 . rename_i x hx;change List Int at x;have ie:=hs;rw [hF x] at ie;simp only [A!,Prod.mk.injEq] at ie;obtain⟨rfl,rfl,rfl⟩:=ie;obtain⟨g1,g2⟩:=ur _ hx bP;obtain⟨a,cap,cs,rfl,h1,h2,h3,h4⟩:=LM (row:= [.int .i64]) (l:=x) g1;obtain⟨rfl,hl⟩:=RS x cs h3;cases x with
   |nil=>cases a with
    |none=>exact zm hA (AnyG.slices_Clone_int_nil L 0 cap w)
    |some ad=>exact oE (xs:= []) hA (fun _=>rfl) (AnyG.slices_Clone_int_zero L ad cap w)
   |cons s x=>
    obtain⟨b,o,rfl,uo,hr⟩:=h4 (by simp);refine oE (xs:=(s::x).map (Value.int .i64)) hA (fun _=>C9 _ hl) ?_
    have :=AnyG.slices_Clone_int L b o (s::x).length cap (s::x) w (by simp) (by omega) (fun j hj=>by
     refine hr j _ ?_;rw [J?,D! hj];simp [List.getD,D! hj])
    rw [I? (by simp)] at this;exact this
 . cases hs
end Go.Vg

end
section
namespace Go.Vg
open Go Go.Shelf Go.RowKit Go.Proofs Go.Sort Go.Lib
theorem xC(a b:List UInt8):ltOf S.gY a b=Op.bytesLess a b:=by
 unfold ltOf S.gY;by_cases h:Op.bytesLess a b
 . simp [h]
 . simp only [h];by_cases h2:Op.bytesLess b a<;>simp [h2]
theorem adf:SWO (ltOf S.gY) where
 irrefl x:=by rw [xC];exact S.dq x
 trans x y z h1 h2:=by rw [xC] at *;exact S.mF _ _ _ h1 h2
 ntrans x y z h1 h2:=by
  rw [xC] at *;cases h:Op.bytesLess x z with
  |false=>rfl
  |true=>
   rcases S.iO x y with t|t|t
   . rw [t] at h1;cases h1
   . subst t;rw [h] at h2;cases h2
   . rw [S.mF _ _ _ t h] at h2;cases h2
theorem RT(x y:List UInt8)(h1:ltOf S.gY x y=false)(h2:ltOf S.gY y x=false):x=y:=by
 rw [xC] at *;rcases S.iO x y with t|t|t
 . rw [t] at h1;cases h1
 . exact t
 . rw [t] at h2;cases h2
theorem B9 {α:Type} [Inhabited α](enc:α->Value)(w:World)(pQ off:Nat)(d:Array α) {c:Array Value} {e:TypeId} {fr:Nat×Nat}(h:w.heap[pQ]? =some (.cells c e fr)):
  (putRow enc w pQ off d).heap[pQ]? =some (.cells (putCells enc off d c) e fr):=by
 unfold putRow mapBlock;simp [Array.getElem?_modify,h,onCells]
theorem vA {α:Type} [Inhabited α](enc:α->Value)(w:World)(pQ off k:Nat)(d:Array α)(h:k≠pQ):(putRow enc w pQ off d).heap[k]? =w.heap[k]? :=by
 unfold putRow mapBlock;simp [Array.getElem?_modify,Ne.symm h]
theorem size_putRow {α:Type} [Inhabited α](enc:α->Value)(w:World)(pQ off:Nat)(d:Array α):(putRow enc w pQ off d).heap.size=w.heap.size:=by
 unfold putRow mapBlock;simp
theorem xD(l:List (List UInt8))(c:Array Value)(h:l.length<=c.size):(putCells encS 0 l.toArray c).toList.take l.length=l.map encS:=by
 apply List.ext_getElem?;intro k;rw [i?];by_cases hk:k<l.length
 . rw [W! hk,J?,D! hk,a?];simp only [putCells,Array.getElem?_mapIdx,Array.getElem?_eq_getElem (show k<c.size by omega),Option.map_some];rw [W! ⟨J! _,by simpa using hk⟩];simp [hk]
 . rw [T! hk,List.getElem?_eq_none (by simp;omega)]
theorem xE {α:Type} [Inhabited α](enc:α->Value)(d:Array α)(c:Array Value):(putCells enc 0 d c).size=c.size:=by simp [putCells]
theorem EC {P:Program} {ρ:Ren} {G:Nat->Option GD}(L:SlLaysF.n6 P ρ) {g e:Nat}(eg:∀args w,(callFunc g args).run P w= .ok (.enter g args) w)
  (aIR:∀(x y:List UInt8) (w:World),Calls P g #[encS x,encS y] w fun e w'=>e= .returned (.int .i64 (S.gY x y))/\w'=w)
  {F:Row (TA.ca [.own 50000, .fn (.func g) [] []])->dh [.row e [.str]]->b9}
  (hF:∀l:List (List UInt8),F () (l,())= {pre:=l.length<=1099511627776,res:= .b4 [],heap:= [some (.row e [.str] (S.eo l) false)],new:= []}):
  az P G (ρ.f 6) (bx [.own 50000, .fn (.func g) [] []] [.row e [.str]] F):=by
 intro w A β args cM hs r hA hG bP gw CC k8 hp hlen DG;unfold bx at k8;split at k8
 . rename_i cs dy;split at k8
   . rename_i x y hx hy;obtain⟨l,u⟩:=y;simp only [A!] at k8;have hxu:x=():=rfl;subst hxu;rw [hF l] at k8;subst k8;obtain⟨g1,g2⟩:=xX dy hx bP;obtain⟨q1,q2,q3⟩:=Br (w:=w) (A:=A) (β:=β) [.row e [.str]] hs (l,u) 50000 hy gw;have hb:=q2 0 (.row e [.str] l false) rfl;have Uw:hs.length=1:=by rw [<-q1];rfl
     simp only [TA.rR,TA.put,ai] at g1;obtain⟨v0,cg,rfl,Pe,v1,aIS,rfl,Pu,rfl⟩:=g1;simp only [aa] at Pe Pu;obtain⟨Pe,iI⟩:=Pe;obtain⟨a1,a2,rfl,ha1,ha2⟩:=Pu;simp only [TA.rR,ai,List.drop_nil,List.take_nil] at ha1 ha2;have ea1:a1= #[]:=by apply Array.ext';simpa using ha1
     have ea2:a2= #[]:=by apply Array.ext';simpa using ha2
     subst ea1;subst ea2;obtain⟨xs,ho,pE,iV⟩:=hb;obtain⟨rfl,hl⟩:=xB l xs pE;have wc:∀s∈S.eo l,s.length<=maxLen:=fun s ie=>hl s ((List.mergeSort_perm l _).subset ie);have H4:(S.eo l).length=l.length:=(List.mergeSort_perm l _).length_eq;simp only [B?,Z?] at iV;rcases ho.2 with⟨Fg,hn2⟩|⟨g0,cap,cur,hv,_,Pg,KE,Ph,cZ,zy⟩
     . 
      have M9:l= []:=M?.1 hn2;subst M9;rw [Pe,Fg];have Sz:S.eo []= []:=M?.1 H4;rw [Sz];refine(AnyF.slices_SortFunc_none {L with} none 0 (.func (.func g) #[] #[]) w).mono fun ex w' ⟨he,hw⟩=> ?_;subst hw;refine⟨_,he,A,β,{os:=rfl,tape:=rfl,output:=rfl,size:=N! _,same:=fun _ _ _=>rfl,mono:=fun b h=>⟨h,rfl⟩,lx:=fun _ _ h=> .inl h,bound:=hA,res:=by simp only [aa];exact⟨#[],rfl,by simp [ai]⟩,kept:= ?_,rows:= ?_,apart:= ?_}⟩
      . intro i ab hi;match i,hi with
        |0,hi=>
         simp only [d?,A!] at hi;subst hi;exact⟨⟨_,ho,pE,by simpa using iV⟩,rfl⟩
        |i+1,hi=>simp at hi
      . intro j ab hj;simp at hj
      . intro k k' b hk dJ _ _;rcases hk with⟨i,ab,rfl,_,hi⟩|⟨j,_,hj⟩
        . rcases dJ with⟨i',Cj,rfl,_,gU⟩|⟨j,_,hj⟩
          . match i,i',hi,gU with
            |0,0,_,_=>rfl
            |i+1,_,hi,_=>simp at hi
            |0,i+1,_,gU=>simp at gU
          . simp at hj
        . simp at hj
     . have H5:g0<w.heap.size:=(G?.1 Pg).1;simp only [D?,x?,r?,Nat.mul_one] at cZ zy
       have amx:∀j,j<l.length->cur[j]? =some (encS (l.toArray)[j]!):=fun j hj=>by
        have h1:(cur.toList.take l.length)[j]? =some (encS l[j]):=by rw [zy,J?,D! hj];rfl
        rw [i?,W! hj,a?] at h1;rw [h1];simp [hj]
       have hH:Holds encS w g0 0 l.toArray:=fun j hj=>by
        have eY:j<l.length:=by simpa using hj
        refine⟨?_,?_⟩
        . simp only [World.cell?,Pg];simpa using amx j eY
        . simp only [World.frozen?,Pg];simp
       rw [Pe,hv];have hc:=Any.slices_SortFunc_total L encS (fun _=>rfl) S.gY adf g #[] g0 0 cap l.toArray w eg (fun m os dk _ x y=>(aIR x y _).mono fun ex w' ⟨he,hw⟩=>⟨he,0, #[],by rw [hw];rfl⟩) hH H5 (by simp only [List.size_toArray];omega) RT
       have e1:(l.toArray.toList.mergeSort fun x y=> !(ltOf S.gY) y x)=S.eo l:=by
        unfold S.eo;simp only [List.toList_toArray,xC]
       rw [e1] at hc;refine hc.mono fun ex w' ⟨he,n,os,hw⟩=> ?_;have hw0:(putRow encS (Go.Sort.ahead w n) g0 0 (S.eo l).toArray).heap[g0]? =some (.cells (putCells encS 0 (S.eo l).toArray cur) e (0,0)):=B9 encS (Go.Sort.ahead w n) g0 0 _ Pg
       have hg1:w'.heap[g0]? =some (.cells (putCells encS 0 (S.eo l).toArray cur) e (0,0)):=by
        rw [hw];unfold sortWorld grow;simp only;rw [Array.getElem?_append_left (by rw [size_putRow];exact H5)];exact hw0
       have so:∀b,b<w.heap.size->b≠g0->w'.heap[b]? =w.heap[b]? :=fun b hb dR=>by
        rw [hw];unfold sortWorld grow;simp only;rw [Array.getElem?_append_left (by rw [size_putRow];exact hb),vA encS (Go.Sort.ahead w n) g0 0 b _ dR];rfl
       have l8:w.heap.size<=w'.heap.size:=by
        rw [hw];unfold sortWorld grow;simp only [Array.size_append,size_putRow];exact Nat.le_add_right _ _
       have hHM:HM β 1 g0:=⟨0,by omega,by rw [show β (50000+0)=β 50000 from rfl,hv];rfl⟩;have amz:¬A g0:=iV g0 (by rw [hv];rfl);refine⟨_,he,A,β,{os:=by rw [hw];rfl,tape:=by rw [hw];rfl,output:=by rw [hw];rfl,size:=l8,same:= ?_,mono:= ?_,lx:=fun _ _ h=> .inl h,bound:=fun b h=>Y? (hA b h) l8,res:=by simp only [aa];exact⟨#[],rfl,by simp [ai]⟩,kept:= ?_,rows:= ?_,apart:= ?_}⟩
       . intro b hb dR;rw [Uw] at dR;exact so b hb (fun h=>dR (h▸hHM))
       . intro b uo;exact⟨uo,so b (hA b uo) (fun h=>amz (h▸uo))⟩
       . intro i ab hi;match i,hi with
         |0,hi=>
          simp only [d?,A!] at hi;subst hi;refine⟨⟨(S.eo l).map encS,⟨by simp, .inr ⟨g0,cap,_,?_,J! _,hg1,by omega,Ph,by rw [xE];simpa using cZ,?_⟩⟩,yv _ wc,by simpa using iV⟩,rfl⟩
          . rw [H4];exact hv
          . have :=xD (S.eo l) cur (by omega);simpa using this
         |i+1,hi=>simp at hi
       . intro j ab hj;simp at hj
       . intro k k' b hk dJ _ _;rcases hk with⟨i,ab,rfl,_,hi⟩|⟨j,_,hj⟩
         . rcases dJ with⟨i',Cj,rfl,_,gU⟩|⟨j,_,hj⟩
           . match i,i',hi,gU with
             |0,0,_,_=>rfl
             |i+1,_,hi,_=>simp at hi
             |0,i+1,_,gU=>simp at gU
           . simp at hj
         . simp at hj
   . cases k8
 . cases k8
end Go.Vg

end
section
namespace Go.Vg
open Go Go.Shelf Go.RowKit Go.Proofs Go.Sort Go.Lib
theorem Ux {P:Program} {f:FuncId} {args:Array Value} {w:World} {A:Nat->Prop} {β:Nat->Value} {e nn:Nat} {l m:List (List UInt8)}(hm:m.Perm l)(hA:∀b,A b->b<w.heap.size)(hn:nn=1)
  (hb:BR w A β 50000 (.row e [.str] l false)) (hlen:l.length<=1099511627776)
  (mf:β 50000= .slice none 0 0->l= []->Calls P f args w fun ex w'=>ex= .returned (.tuple #[])/\w'=w)
  (Uy:∀g0 cap,β 50000= .slice (some ⟨g0,0,none⟩) l.length cap->Holds encS w g0 0 l.toArray->g0<w.heap.size->l.length<4611686018427387904->Calls P f args w fun ex w'=>ex= .returned (.tuple #[])/\∃n os,w'=grow (putRow encS (Go.Sort.ahead w n) g0 0 m.toArray) os):
  Calls P f args w fun ex w'=>∃v,ex= .returned v/\∃A' aO,FB w A β nn w' v {pre:=l.length<=1099511627776,res:= .b4 [],heap:= [some (.row e [.str] m false)],new:= []} A' aO:=by
 obtain⟨xs,ho,pE,iV⟩:=hb;obtain⟨rfl,hl⟩:=xB l xs pE;have wc:∀s∈m,s.length<=maxLen:=fun s ie=>hl s (hm.subset ie);have H4:m.length=l.length:=hm.length_eq;simp only [B?,Z?] at iV;rcases ho.2 with⟨Fg,hn2⟩|⟨g0,cap,cur,hv,_,Pg,KE,Ph,cZ,zy⟩
 . 
  have M9:l= []:=M?.1 hn2;subst M9;have Sz:m= []:=M?.1 H4;rw [Sz];refine(mf Fg rfl).mono fun ex w' ⟨he,hw⟩=> ?_;subst hw;refine⟨_,he,A,β,{os:=rfl,tape:=rfl,output:=rfl,size:=N! _,same:=fun _ _ _=>rfl,mono:=fun b h=>⟨h,rfl⟩,lx:=fun _ _ h=> .inl h,bound:=hA,res:=by simp only [aa];exact⟨#[],rfl,by simp [ai]⟩,kept:= ?_,rows:= ?_,apart:= ?_}⟩
  . intro i ab hi;match i,hi with
    |0,hi=>
     simp only [d?,A!] at hi;subst hi;exact⟨⟨_,ho,pE,by simpa using iV⟩,rfl⟩
    |i+1,hi=>simp at hi
  . intro j ab hj;simp at hj
  . intro k k' b hk dJ _ _;rcases hk with⟨i,ab,rfl,_,hi⟩|⟨j,_,hj⟩
    . rcases dJ with⟨i',Cj,rfl,_,gU⟩|⟨j,_,hj⟩
      . match i,i',hi,gU with
        |0,0,_,_=>rfl
        |i+1,_,hi,_=>simp at hi
        |0,i+1,_,gU=>simp at gU
      . simp at hj
    . simp at hj
 . have H5:g0<w.heap.size:=(G?.1 Pg).1;simp only [D?,x?,r?,Nat.mul_one] at cZ zy
   have amx:∀j,j<l.length->cur[j]? =some (encS (l.toArray)[j]!):=fun j hj=>by
    have h1:(cur.toList.take l.length)[j]? =some (encS l[j]):=by rw [zy,J?,D! hj];rfl
    rw [i?,W! hj,a?] at h1;rw [h1];simp [hj]
   have hH:Holds encS w g0 0 l.toArray:=fun j hj=>by
    have eY:j<l.length:=by simpa using hj
    refine⟨?_,?_⟩
    . simp only [World.cell?,Pg];simpa using amx j eY
    . simp only [World.frozen?,Pg];simp
   refine(Uy g0 cap hv hH H5 (by omega)).mono fun ex w' ⟨he,n,os,hw⟩=> ?_;have hw0:(putRow encS (Go.Sort.ahead w n) g0 0 m.toArray).heap[g0]? =some (.cells (putCells encS 0 m.toArray cur) e (0,0)):=B9 encS (Go.Sort.ahead w n) g0 0 _ Pg
   have hg1:w'.heap[g0]? =some (.cells (putCells encS 0 m.toArray cur) e (0,0)):=by
    rw [hw];unfold grow;simp only;rw [Array.getElem?_append_left (by rw [size_putRow];exact H5)];exact hw0
   have so:∀b,b<w.heap.size->b≠g0->w'.heap[b]? =w.heap[b]? :=fun b hb dR=>by
    rw [hw];unfold grow;simp only;rw [Array.getElem?_append_left (by rw [size_putRow];exact hb),vA encS (Go.Sort.ahead w n) g0 0 b _ dR];rfl
   have l8:w.heap.size<=w'.heap.size:=by
    rw [hw];unfold grow;simp only [Array.size_append,size_putRow];exact Nat.le_add_right _ _
   have hHM:HM β 1 g0:=⟨0,by omega,by rw [show β (50000+0)=β 50000 from rfl,hv];rfl⟩;have amz:¬A g0:=iV g0 (by rw [hv];rfl);refine⟨_,he,A,β,{os:=by rw [hw];rfl,tape:=by rw [hw];rfl,output:=by rw [hw];rfl,size:=l8,same:= ?_,mono:= ?_,lx:=fun _ _ h=> .inl h,bound:=fun b h=>Y? (hA b h) l8,res:=by simp only [aa];exact⟨#[],rfl,by simp [ai]⟩,kept:= ?_,rows:= ?_,apart:= ?_}⟩
   . intro b hb dR;rw [hn] at dR;exact so b hb (fun h=>dR (h▸hHM))
   . intro b uo;exact⟨uo,so b (hA b uo) (fun h=>amz (h▸uo))⟩
   . intro i ab hi;match i,hi with
     |0,hi=>
      simp only [d?,A!] at hi;subst hi;refine⟨⟨m.map encS,⟨by simp, .inr ⟨g0,cap,_,?_,J! _,hg1,by omega,Ph,by rw [xE];simpa using cZ,?_⟩⟩,yv _ wc,by simpa using iV⟩,rfl⟩
      . rw [H4];exact hv
      . have :=xD m cur (by omega);simpa using this
     |i+1,hi=>simp at hi
   . intro j ab hj;simp at hj
   . intro k k' b hk dJ _ _;rcases hk with⟨i,ab,rfl,_,hi⟩|⟨j,_,hj⟩
     . rcases dJ with⟨i',Cj,rfl,_,gU⟩|⟨j,_,hj⟩
       . match i,i',hi,gU with
         |0,0,_,_=>rfl
         |i+1,_,hi,_=>simp at hi
         |0,i+1,_,gU=>simp at gU
       . simp at hj
     . simp at hj
theorem Ee {P:Program} {f:FuncId} {G:Nat->Option GD} {e:Nat} {m:List (List UInt8)->List (List UInt8)}(hm:∀l,(m l).Perm l)
  {F:Row (TA.ca [.own 50000])->dh [.row e [.str]]->b9}
  (hF:∀l:List (List UInt8),F () (l,())= {pre:=l.length<=1099511627776,res:= .b4 [],heap:= [some (.row e [.str] (m l) false)],new:= []})
  (mf:∀w,Calls P f #[.slice none 0 0] w fun ex w'=>ex= .returned (.tuple #[])/\w'=w)
  (Uy:∀(l:List (List UInt8)) w g0 cap,Holds encS w g0 0 l.toArray->g0<w.heap.size->l.length<4611686018427387904->Calls P f #[.slice (some ⟨g0,0,none⟩) l.length cap] w fun ex w'=>ex= .returned (.tuple #[])/\∃n os,w'=grow (putRow encS (Go.Sort.ahead w n) g0 0 (m l).toArray) os):
  az P G f (bx [.own 50000] [.row e [.str]] F):=by
 intro w A β args cM hs r hA hG bP gw CC k8 hp hlen DG;unfold bx at k8;split at k8
 . rename_i cs dy;split at k8
   . rename_i x y hx hy;obtain⟨l,u⟩:=y;simp only [A!] at k8;have hxu:x=():=rfl;subst hxu;rw [hF l] at k8;subst k8;obtain⟨g1,g2⟩:=xX dy hx bP;obtain⟨q1,q2,q3⟩:=Br (w:=w) (A:=A) (β:=β) [.row e [.str]] hs (l,u) 50000 hy gw;have hb:=q2 0 (.row e [.str] l false) rfl;have Uw:hs.length=1:=by rw [<-q1];rfl
     simp only [TA.rR,TA.put,ai] at g1;obtain⟨v0,cg,rfl,Pe,rfl⟩:=g1;simp only [aa] at Pe;refine Ux (hm l) hA Uw hb hp (fun Fg _=> ?_) (fun g0 cap hv hH hg hl=> ?_)
     . rw [Pe.1,Fg];exact mf w
     . rw [Pe.1,hv];exact Uy l w g0 cap hH hg hl
   . cases k8
 . cases k8
theorem adg(l:List (List UInt8)):(l.mergeSort fun x y=>decide (x<=y))=S.eo l:=by
 unfold S.eo;congr 1
 funext x y;rw [bytesLess_eq];by_cases h:y<x
 . rw [P? h,V? (fun q=>q h)];rfl
 . rw [V? h,P? (show x<=y from h)];rfl
theorem ED {P:Program} {ρ:Ren} {G:Nat->Option GD}(L:SlLaysM.n6 P ρ) {e:Nat} {F:Row (TA.ca [.own 50000])->dh [.row e [.str]]->b9}
  (hF:∀l:List (List UInt8),F () (l,())= {pre:=l.length<=1099511627776,res:= .b4 [],heap:= [some (.row e [.str] (S.eo l) false)],new:= []}):
  az P G (ρ.f 6) (bx [.own 50000] [.row e [.str]] F):=
 Ee S.w2 hF (AnyM.slices_Sort_string_none L none 0) (fun l w g0 cap hH hg hl=>by
  have hc:=AnyM.slices_Sort_string L g0 0 cap l w hH hg hl;rw [adg] at hc;exact hc)
theorem H6 {P:Program} {ρ:Ren} {G:Nat->Option GD}(L:SlLaysN.n36 P ρ) {e:Nat} {F:Row (TA.ca [.own 50000])->dh [.row e [.str]]->b9}
  (hF:∀l:List (List UInt8),F () (l,())= {pre:=l.length<=1099511627776,res:= .b4 [],heap:= [some (.row e [.str] (S.HA l) false)],new:= []}):
  az P G (ρ.f 36) (bx [.own 50000] [.row e [.str]] F):=
 Ee List.reverse_perm hF (AnyG.slices_Reverse_string_empty L none 0) (fun l w g0 cap hH hg hl=>
  (AnyG.slices_Reverse_string L g0 0 cap l w hH (by omega)).mono fun ex w' ⟨he,n,hw⟩=>⟨he,n, #[],by rw [hw];unfold grow;rw [Array.append_empty];rfl⟩)
end Go.Vg

end
section
namespace Go.Proofs
open Go.Shelf
def Tryz.Ef:Go.Shelf.Ren:=⟨fun|7=>196|10=>247|n=>n,fun|23=>265|26=>9|3=>177|28=>268|0=>0|27=>267|33=>137|4=>4|n=>n,fun|n=>n⟩
theorem Tryz.abc:Go.Proofs.SlLaysZ.n7 Tryz.prog Tryz.Ef:= {
 mixed:=by kernel_rfl
 f7:=⟨Tryz.f196.name,by decide,Tryz.func196.trans (congrArg some (by kernel_rfl))⟩
 f10:=⟨Tryz.f247.name,by decide,Tryz.func247.trans (congrArg some (by kernel_rfl))⟩
 t0:=Tryz.underlying0
 a0:=Tryz.isAgg0
 z0:=Tryz.sizeOf0
 v0:=Tryz.zeroValue0
 t4:=Tryz.underlying4
 a4:=Tryz.isAgg4
 z4:=Tryz.sizeOf4
 v4:=Tryz.zeroValue4
 t23:=Tryz.underlying265
 a23:=Tryz.isAgg265
 z23:=Tryz.sizeOf265
 v23:=Tryz.zeroValue265
 t26:=Tryz.underlying9
 a26:=Tryz.isAgg9
 z26:=Tryz.sizeOf9
 v26:=Tryz.zeroValue9
 t27:=Tryz.underlying267
 a27:=Tryz.isAgg267
 z27:=Tryz.sizeOf267
 v27:=Tryz.zeroValue267
 t28:=Tryz.underlying268
 a28:=Tryz.isAgg268
 z28:=Tryz.sizeOf268
 v28:=Tryz.zeroValue268
 t33:=Tryz.underlying137
 a33:=Tryz.isAgg137
 z33:=Tryz.sizeOf137
 v33:=Tryz.zeroValue137}
def Tryz.zn:Go.Shelf.Ren:=⟨fun|6=>195|8=>246|9=>118|11=>271|13=>173|12=>172|23=>238|24=>239|14=>229|15=>230|16=>231|17=>232|18=>233|19=>234|20=>235|21=>236|22=>237|25=>259|26=>260|27=>261|28=>262|29=>263|30=>264|31=>275|n=>n,fun|26=>9|28=>268|24=>41|0=>0|3=>3|37=>245|48=>275|50=>312|4=>4|40=>304|39=>303|45=>150|5=>5|9=>9|51=>328|55=>332|57=>343|58=>283|33=>137|n=>n,fun|n=>n⟩
theorem Tryz.adh:Go.Proofs.SlLaysZ.n6 Tryz.prog Tryz.zn:= {
 mixed:=by kernel_rfl
 f6:=⟨Tryz.f195.name,by decide,Tryz.func195.trans (congrArg some (by kernel_rfl))⟩
 f8:=⟨Tryz.f246.name,by decide,Tryz.func246.trans (congrArg some (by kernel_rfl))⟩
 f11:=⟨Tryz.f271.name,by decide,Tryz.func271.trans (congrArg some (by kernel_rfl))⟩
 t0:=Tryz.underlying0
 a0:=Tryz.isAgg0
 z0:=Tryz.sizeOf0
 v0:=Tryz.zeroValue0
 t24:=Tryz.underlying41
 a24:=Tryz.isAgg41
 z24:=Tryz.sizeOf41
 v24:=Tryz.zeroValue41
 t26:=Tryz.underlying9
 a26:=Tryz.isAgg9
 z26:=Tryz.sizeOf9
 v26:=Tryz.zeroValue9
 t28:=Tryz.underlying268
 a28:=Tryz.isAgg268
 z28:=Tryz.sizeOf268
 v28:=Tryz.zeroValue268
 i26:=by kernel_rfl}
def Tryz.RU:Go.Shelf.Ren:=⟨fun|6=>118|8=>173|9=>172|19=>238|20=>239|21=>229|22=>230|23=>231|24=>232|25=>233|26=>234|27=>235|28=>236|29=>237|36=>259|31=>260|32=>261|37=>262|38=>263|39=>264|41=>275|n=>n,fun|27=>41|29=>9|3=>3|32=>245|26=>41|0=>0|44=>275|46=>312|4=>4|36=>304|35=>303|41=>150|5=>5|9=>9|53=>328|57=>332|63=>343|64=>283|n=>n,fun|n=>n⟩
theorem Tryz.Pj:Go.Proofs.SlLaysM.n6 Tryz.prog Tryz.RU:= {
 mixed:=by kernel_rfl
 f6:=⟨Tryz.f118.name,by decide,Tryz.func118.trans (congrArg some (by kernel_rfl))⟩
 f8:=Tryz.func173.trans (congrArg some (by kernel_rfl))
 f9:=⟨Tryz.f172.name,by decide,Tryz.func172.trans (congrArg some (by kernel_rfl))⟩
 f19:=Tryz.func238.trans (congrArg some (by kernel_rfl))
 f20:=Tryz.func239.trans (congrArg some (by kernel_rfl))
 f21:=⟨Tryz.f229.name,by decide,Tryz.func229.trans (congrArg some (by kernel_rfl))⟩
 f22:=⟨Tryz.f230.name,by decide,Tryz.func230.trans (congrArg some (by kernel_rfl))⟩
 f23:=⟨Tryz.f231.name,by decide,Tryz.func231.trans (congrArg some (by kernel_rfl))⟩
 f24:=⟨Tryz.f232.name,by decide,Tryz.func232.trans (congrArg some (by kernel_rfl))⟩
 f25:=⟨Tryz.f233.name,by decide,Tryz.func233.trans (congrArg some (by kernel_rfl))⟩
 f26:=⟨Tryz.f234.name,by decide,Tryz.func234.trans (congrArg some (by kernel_rfl))⟩
 f27:=⟨Tryz.f235.name,by decide,Tryz.func235.trans (congrArg some (by kernel_rfl))⟩
 f28:=⟨Tryz.f236.name,by decide,Tryz.func236.trans (congrArg some (by kernel_rfl))⟩
 f29:=⟨Tryz.f237.name,by decide,Tryz.func237.trans (congrArg some (by kernel_rfl))⟩
 f31:=Tryz.func260.trans (congrArg some (by kernel_rfl))
 f32:=Tryz.func261.trans (congrArg some (by kernel_rfl))
 f36:=⟨Tryz.f259.name,by decide,Tryz.func259.trans (congrArg some (by kernel_rfl))⟩
 f37:=⟨Tryz.f262.name,by decide,Tryz.func262.trans (congrArg some (by kernel_rfl))⟩
 f38:=⟨Tryz.f263.name,by decide,Tryz.func263.trans (congrArg some (by kernel_rfl))⟩
 f39:=⟨Tryz.f264.name,by decide,Tryz.func264.trans (congrArg some (by kernel_rfl))⟩
 f41:=⟨Tryz.f275.name,by decide,Tryz.func275.trans (congrArg some (by kernel_rfl))⟩
 t0:=Tryz.underlying0
 a0:=Tryz.isAgg0
 z0:=Tryz.sizeOf0
 v0:=Tryz.zeroValue0
 t3:=Tryz.underlying3
 a3:=Tryz.isAgg3
 z3:=Tryz.sizeOf3
 v3:=Tryz.zeroValue3
 t4:=Tryz.underlying4
 a4:=Tryz.isAgg4
 z4:=Tryz.sizeOf4
 v4:=Tryz.zeroValue4
 t5:=Tryz.underlying5
 a5:=Tryz.isAgg5
 z5:=Tryz.sizeOf5
 v5:=Tryz.zeroValue5
 t9:=Tryz.underlying9
 a9:=Tryz.isAgg9
 z9:=Tryz.sizeOf9
 v9:=Tryz.zeroValue9
 t26:=Tryz.underlying41
 a26:=Tryz.isAgg41
 z26:=Tryz.sizeOf41
 v26:=Tryz.zeroValue41
 t27:=Tryz.underlying41
 a27:=Tryz.isAgg41
 z27:=Tryz.sizeOf41
 v27:=Tryz.zeroValue41
 t29:=Tryz.underlying9
 a29:=Tryz.isAgg9
 z29:=Tryz.sizeOf9
 v29:=Tryz.zeroValue9
 t32:=Tryz.underlying245
 a32:=Tryz.isAgg245
 z32:=Tryz.sizeOf245
 v32:=Tryz.zeroValue245
 t35:=Tryz.underlying303
 a35:=Tryz.isAgg303
 z35:=Tryz.sizeOf303
 v35:=Tryz.zeroValue303
 t36:=Tryz.underlying304
 a36:=Tryz.isAgg304
 z36:=Tryz.sizeOf304
 v36:=Tryz.zeroValue304
 t41:=Tryz.underlying150
 a41:=Tryz.isAgg150
 z41:=Tryz.sizeOf150
 v41:=Tryz.zeroValue150
 t44:=Tryz.underlying275
 a44:=Tryz.isAgg275
 z44:=Tryz.sizeOf275
 v44:=Tryz.zeroValue275
 t46:=Tryz.underlying312
 a46:=Tryz.isAgg312
 z46:=Tryz.sizeOf312
 v46:=Tryz.zeroValue312
 t53:=Tryz.underlying328
 a53:=Tryz.isAgg328
 z53:=Tryz.sizeOf328
 v53:=Tryz.zeroValue328
 t57:=Tryz.underlying332
 a57:=Tryz.isAgg332
 z57:=Tryz.sizeOf332
 v57:=Tryz.zeroValue332
 t63:=Tryz.underlying343
 a63:=Tryz.isAgg343
 z63:=Tryz.sizeOf343
 v63:=Tryz.zeroValue343
 t64:=Tryz.underlying283
 a64:=Tryz.isAgg283
 z64:=Tryz.sizeOf283
 v64:=Tryz.zeroValue283}
def Tryz.H7:Go.Shelf.Ren:=⟨fun|42=>267|n=>n,fun|25=>41|26=>9|4=>4|n=>n,fun|n=>n⟩
theorem Tryz.Uz:Go.Proofs.SlLaysN.n42 Tryz.prog Tryz.H7:= {
 mixed:=by kernel_rfl
 f42:=⟨Tryz.f267.name,by decide,Tryz.func267.trans (congrArg some (by kernel_rfl))⟩
 t4:=Tryz.underlying4
 a4:=Tryz.isAgg4
 z4:=Tryz.sizeOf4
 v4:=Tryz.zeroValue4
 t25:=Tryz.underlying41
 a25:=Tryz.isAgg41
 z25:=Tryz.sizeOf41
 v25:=Tryz.zeroValue41
 t26:=Tryz.underlying9
 a26:=Tryz.isAgg9
 z26:=Tryz.sizeOf9
 v26:=Tryz.zeroValue9
 i26:=by kernel_rfl}
def Tryz.H9:Go.Shelf.Ren:=⟨fun|41=>142|n=>n,fun|22=>177|23=>3|4=>4|n=>n,fun|n=>n⟩
theorem Tryz.UA:Go.Proofs.SlLaysN.n41 Tryz.prog Tryz.H9:= {
 mixed:=by kernel_rfl
 f41:=⟨Tryz.f142.name,by decide,Tryz.func142.trans (congrArg some (by kernel_rfl))⟩
 t4:=Tryz.underlying4
 a4:=Tryz.isAgg4
 z4:=Tryz.sizeOf4
 v4:=Tryz.zeroValue4
 t22:=Tryz.underlying177
 a22:=Tryz.isAgg177
 z22:=Tryz.sizeOf177
 v22:=Tryz.zeroValue177
 t23:=Tryz.underlying3
 a23:=Tryz.isAgg3
 z23:=Tryz.sizeOf3
 v23:=Tryz.zeroValue3
 i23:=by kernel_rfl}
def Tryz.UB:Go.Shelf.Ren:=⟨fun|6=>268|15=>173|14=>276|28=>238|29=>239|20=>278|21=>279|22=>280|23=>281|24=>282|25=>283|26=>284|27=>285|46=>286|47=>260|48=>261|49=>287|50=>288|57=>289|n=>n,fun|22=>41|24=>9|25=>317|3=>3|39=>245|0=>0|53=>275|55=>312|4=>4|46=>304|45=>303|50=>150|5=>5|9=>9|66=>328|70=>332|76=>343|77=>283|n=>n,fun|n=>n⟩
theorem Tryz.aFe:Go.Proofs.SlLaysF.n6 Tryz.prog Tryz.UB:= {
 mixed:=by kernel_rfl
 f6:=⟨Tryz.f268.name,by decide,Tryz.func268.trans (congrArg some (by kernel_rfl))⟩
 f14:=⟨Tryz.f276.name,by decide,Tryz.func276.trans (congrArg some (by kernel_rfl))⟩
 f15:=Tryz.func173.trans (congrArg some (by kernel_rfl))
 f20:=⟨Tryz.f278.name,by decide,Tryz.func278.trans (congrArg some (by kernel_rfl))⟩
 f21:=⟨Tryz.f279.name,by decide,Tryz.func279.trans (congrArg some (by kernel_rfl))⟩
 f22:=⟨Tryz.f280.name,by decide,Tryz.func280.trans (congrArg some (by kernel_rfl))⟩
 f23:=⟨Tryz.f281.name,by decide,Tryz.func281.trans (congrArg some (by kernel_rfl))⟩
 f24:=⟨Tryz.f282.name,by decide,Tryz.func282.trans (congrArg some (by kernel_rfl))⟩
 f25:=⟨Tryz.f283.name,by decide,Tryz.func283.trans (congrArg some (by kernel_rfl))⟩
 f26:=⟨Tryz.f284.name,by decide,Tryz.func284.trans (congrArg some (by kernel_rfl))⟩
 f27:=⟨Tryz.f285.name,by decide,Tryz.func285.trans (congrArg some (by kernel_rfl))⟩
 f28:=Tryz.func238.trans (congrArg some (by kernel_rfl))
 f29:=Tryz.func239.trans (congrArg some (by kernel_rfl))
 f46:=⟨Tryz.f286.name,by decide,Tryz.func286.trans (congrArg some (by kernel_rfl))⟩
 f47:=Tryz.func260.trans (congrArg some (by kernel_rfl))
 f48:=Tryz.func261.trans (congrArg some (by kernel_rfl))
 f49:=⟨Tryz.f287.name,by decide,Tryz.func287.trans (congrArg some (by kernel_rfl))⟩
 f50:=⟨Tryz.f288.name,by decide,Tryz.func288.trans (congrArg some (by kernel_rfl))⟩
 f57:=⟨Tryz.f289.name,by decide,Tryz.func289.trans (congrArg some (by kernel_rfl))⟩
 t0:=Tryz.underlying0
 a0:=Tryz.isAgg0
 z0:=Tryz.sizeOf0
 v0:=Tryz.zeroValue0
 t3:=Tryz.underlying3
 a3:=Tryz.isAgg3
 z3:=Tryz.sizeOf3
 v3:=Tryz.zeroValue3
 t4:=Tryz.underlying4
 a4:=Tryz.isAgg4
 z4:=Tryz.sizeOf4
 v4:=Tryz.zeroValue4
 t5:=Tryz.underlying5
 a5:=Tryz.isAgg5
 z5:=Tryz.sizeOf5
 v5:=Tryz.zeroValue5
 t9:=Tryz.underlying9
 a9:=Tryz.isAgg9
 z9:=Tryz.sizeOf9
 v9:=Tryz.zeroValue9
 t22:=Tryz.underlying41
 a22:=Tryz.isAgg41
 z22:=Tryz.sizeOf41
 v22:=Tryz.zeroValue41
 a24:=Tryz.isAgg9
 z24:=Tryz.sizeOf9
 t25:=Tryz.underlying317
 a25:=Tryz.isAgg317
 z25:=Tryz.sizeOf317
 v25:=Tryz.zeroValue317
 t39:=Tryz.underlying245
 a39:=Tryz.isAgg245
 z39:=Tryz.sizeOf245
 v39:=Tryz.zeroValue245
 t45:=Tryz.underlying303
 a45:=Tryz.isAgg303
 z45:=Tryz.sizeOf303
 v45:=Tryz.zeroValue303
 t46:=Tryz.underlying304
 a46:=Tryz.isAgg304
 z46:=Tryz.sizeOf304
 v46:=Tryz.zeroValue304
 t50:=Tryz.underlying150
 a50:=Tryz.isAgg150
 z50:=Tryz.sizeOf150
 v50:=Tryz.zeroValue150
 t53:=Tryz.underlying275
 a53:=Tryz.isAgg275
 z53:=Tryz.sizeOf275
 v53:=Tryz.zeroValue275
 t55:=Tryz.underlying312
 a55:=Tryz.isAgg312
 z55:=Tryz.sizeOf312
 v55:=Tryz.zeroValue312
 t66:=Tryz.underlying328
 a66:=Tryz.isAgg328
 z66:=Tryz.sizeOf328
 v66:=Tryz.zeroValue328
 t70:=Tryz.underlying332
 a70:=Tryz.isAgg332
 z70:=Tryz.sizeOf332
 v70:=Tryz.zeroValue332
 t76:=Tryz.underlying343
 a76:=Tryz.isAgg343
 z76:=Tryz.sizeOf343
 v76:=Tryz.zeroValue343
 t77:=Tryz.underlying283
 a77:=Tryz.isAgg283
 z77:=Tryz.sizeOf283
 v77:=Tryz.zeroValue283}
def Tryz.RV:Go.Shelf.Ren:=⟨fun|36=>102|n=>n,fun|25=>41|26=>9|3=>3|4=>4|0=>0|n=>n,fun|n=>n⟩
theorem Tryz.avy:Go.Proofs.SlLaysN.n36 Tryz.prog Tryz.RV:= {
 mixed:=by kernel_rfl
 f36:=⟨Tryz.f102.name,by decide,Tryz.func102.trans (congrArg some (by kernel_rfl))⟩
 t0:=Tryz.underlying0
 a0:=Tryz.isAgg0
 z0:=Tryz.sizeOf0
 v0:=Tryz.zeroValue0
 t3:=Tryz.underlying3
 a3:=Tryz.isAgg3
 z3:=Tryz.sizeOf3
 v3:=Tryz.zeroValue3
 t4:=Tryz.underlying4
 a4:=Tryz.isAgg4
 z4:=Tryz.sizeOf4
 v4:=Tryz.zeroValue4
 t25:=Tryz.underlying41
 a25:=Tryz.isAgg41
 z25:=Tryz.sizeOf41
 v25:=Tryz.zeroValue41
 t26:=Tryz.underlying9
 a26:=Tryz.isAgg9
 z26:=Tryz.sizeOf9
 v26:=Tryz.zeroValue9}
end Go.Proofs

end
section
namespace Go.Proofs
open Go.RowKit Go.Maps Go.Sort Go.Shelf
theorem Tryz.amA(m:Nat):AnyZ.SortsIn Tryz.prog Tryz.zn Fence.wide m:=
 ⟨fun pQ off cap ss W hH hblk cZ=>callsIn_wide.2 (AnyM.slices_Sort_string Tryz.Pj pQ off cap ss W hH hblk cZ),
  fun p cap W=>callsIn_wide.2 (AnyM.slices_Sort_string_none Tryz.Pj p cap W)⟩
theorem Tryz.Ks(mb:Option Nat)(W:World):CallsIn Fence.wide 5 Tryz.prog 196 #[.map mb] W fun e w'=>e= .returned (.func (.func 247) #[] #[.pointer (some ⟨W.heap.size,0,none⟩)])/\w'=W.alloc (.cells #[.map mb] 265):=
 AnyZ.keys_in Tryz.abc Fence.wide 5 trivial rfl mb W
set_option maxHeartbeats 1000000 in
theorem Tryz.rn {H:Type}(b nn:Nat)(D0:DataW H)(R:Value->Option (DataW H×List MemPlace))(w:World)(gN:w.ownsMap Tryz.prog 9 R b nn D0)(PA:Maps.size D0<=maxLen)(xI:Maps.size D0*16<=140737488355328):
  CallsIn Fence.wide 5 Tryz.prog 195 #[.func (.func 247) #[] #[.pointer (some ⟨w.heap.size,0,none⟩)]] (w.alloc (.cells #[.map (some b)] 265)) fun e w'=>∃(v:Value) (ss:List (List UInt8)),e= .returned v/\ss.Perm (strKeys D0)/\
   w'.ownsRow (w.alloc (.cells #[.map (some b)] 265)).heap.size 9 1 v ss.length ((ss.mergeSort (fun x y=>decide (x<=y))).map encStr)/\(v= .slice none 0 0↔ss= [])/\Below (w.alloc (.cells #[.map (some b)] 265)).heap.size (w.alloc (.cells #[.map (some b)] 265)) w':=by
 have wZ:=gN.lt
 have aIV:SeqGives Fence.wide 2 Tryz.prog 247 #[.pointer (some ⟨w.heap.size,0,none⟩)] encStr (fun ss=>ss.Perm (strKeys D0)) (Maps.size D0) (w.alloc (.cells #[.map (some b)] 265)):=
  AnyZ.keys_gives (ρ:=Tryz.Ef) {Tryz.abc with} Fence.wide _ trivial rfl (by omega) w.heap.size b nn D0 _ (by simp) (by simp) (by
   obtain⟨es,clock,hb,Ft,hs,hD⟩:=gN;exact⟨es,clock,(Below.heap_alloc _ _ b wZ).trans hb,Ft,hs,hD⟩)
 exact AnyZ.sorted_in Tryz.adh Fence.wide 5 trivial trivial trivial trivial rfl (by omega) (Tryz.amA _) (enters_of Tryz.func118 (by kernel_rfl) rfl) 247 #[.pointer (some ⟨w.heap.size,0,none⟩)] trivial (enters_of Tryz.func247 (by kernel_rfl) rfl) _ _ PA xI _ aIV
end Go.Proofs

end
section
namespace Go.Proofs
open Go.Shelf Go.RowKit Go.Lib Go.Sort
theorem avz {x y:List UInt8}(h:Op.bytesLess x y=true):S.gY x y= -1:=by unfold S.gY;rw [if_pos h]
theorem avA {x y:List UInt8}(h:Op.bytesLess x y=false)(h2:(!x==y)=true):S.gY x y=1:=by
 have dR:x≠y:=by simpa using h2
 unfold S.gY;rw [h];rcases S.iO x y with t|t|t
 . rw [t] at h;cases h
 . exact absurd t dR
 . rw [t];rfl
theorem avB {x y:List UInt8}(h:Op.bytesLess x y=false)(h2:(!x==y)=false):S.gY x y=0:=by
 have he:x=y:=by simpa using h2
 subst he;unfold S.gY;rw [h];rfl
theorem Tryz.UC(x:ByteArray)(w:World):Calls Tryz.prog 264 #[.string x] w fun e w'=>e= .returned (.bool false)/\w'=w:=by
 go_enter Tryz.func264,Tryz.ntmps264
 go_wp2
 go_ret
 exact⟨by simp,rfl⟩
set_option maxHeartbeats 1000000 in
theorem Tryz.Pk(x y:List UInt8)(w:World):Calls Tryz.prog 245 #[Vg.encS x,Vg.encS y] w fun e w'=>e= .returned (.int .i64 (S.gY x y))/\w'=w:=by
 unfold Vg.encS;go_enter Tryz.func245,Tryz.ntmps245
 go_wp2_with (go_at_call 264;refine(Tryz.UC _ _).mono ?_;rintro e w' ⟨rfl,rfl⟩)
 all_goals go_ret
 all_goals refine⟨?_,rfl⟩
 all_goals first
  |(rw [avz (by assumption)];rfl)
  |(rw [avA (by assumption) (by assumption)];rfl)
  |(rw [avB (by assumption) (by assumption)];rfl)
theorem Tryz.avC {G:Nat->Option Vg.GD} {F:Vg.Row (Vg.TA.ca [.own 50000, .fn (.func 245) [] []])->Vg.dh [.row 9 [.str]]->Vg.b9}
  (hF:∀l:List (List UInt8),F () (l,())= {pre:=l.length<=1099511627776,res:= .b4 [],heap:= [some (.row 9 [.str] (S.eo l) false)],new:= []}):
  Vg.az Tryz.prog G 268 (Vg.bx [.own 50000, .fn (.func 245) [] []] [.row 9 [.str]] F):=
 Vg.EC Tryz.aFe (enters_of Tryz.func245 (by kernel_rfl) rfl) Tryz.Pk hF
end Go.Proofs

end
section
namespace Go.Proofs
open Go.Shelf Go.RowKit Go.Lib Go.Sort
theorem Tryz.amB {G:Nat->Option Vg.GD} {F:Vg.Row (Vg.TA.ca [.own 50000])->Vg.dh [.row 9 [.str]]->Vg.b9}
 (hF:∀l:List (List UInt8),F () (l,())= {pre:=l.length<=1099511627776,res:= .b4 [],heap:= [some (.row 9 [.str] (S.eo l) false)],new:= []}):
 Vg.az Tryz.prog G 118 (Vg.bx [.own 50000] [.row 9 [.str]] F):=Vg.ED Tryz.Pj hF
theorem Tryz.aFf {G:Nat->Option Vg.GD} {F:Vg.Row (Vg.TA.ca [.own 50000])->Vg.dh [.row 9 [.str]]->Vg.b9}
 (hF:∀l:List (List UInt8),F () (l,())= {pre:=l.length<=1099511627776,res:= .b4 [],heap:= [some (.row 9 [.str] (S.HA l) false)],new:= []}):
 Vg.az Tryz.prog G 102 (Vg.bx [.own 50000] [.row 9 [.str]] F):=Vg.H6 Tryz.avy hF
end Go.Proofs

end
