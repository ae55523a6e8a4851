import Derived.Test.YtmonnkdlphjngaaGreatDoorPartE
import Derived.Shelf.SlicesG.Clone
import Derived.Shelf.SlSortCmp.NoneTotal
import Derived.Shelf.SortM.Plain
import Derived.Shelf.SortM.SortNone
import Derived.Shelf.SlicesG.ReverseS
import Derived.Shelf.SlIter.Nil
import Derived.Test.YtmonnkdlphjngaaGreatDoorProg
import Derived.Lib.Small
import Derived.Lib.Walk
import Derived.Sort.Walk0
import Derived.Laws.Cover1
import Derived.Maps.GroupsBeside
import Derived.Sort.KeysCollected
set_option linter.unusedVariables false
set_option linter.unusedSimpArgs false
section
set_option linter.unusedVariables false
namespace Go
theorem df {p:Prop} [Decidable p]:decide p=false↔¬p:=d?
theorem dt {p:Prop} [Decidable p]:(decide p=true)=p:=H!
theorem lc {α:Type} {a:α} {l:List α}:(a::l).length=l.length+1:=F?
theorem ln {α:Type}:([]:List α).length=0:=List.length_nil
theorem tn(n:Nat):(n:Int).toNat=n:=V! n
theorem nf {b:Bool}:((!b)=false)=(b=true):=Bool.not_eq_false' b
theorem nt {b:Bool}:((!b)=true)=(b=false):=I? b
theorem aJj(hp:True)(hf:Vg.aL J.q0p ()):aAk:=by
 unfold aAk;clear hf;rfl
theorem aJk(x n:Int)(hp:S.eS n)(hf:Vg.aL J.q1p (x,n)):aAl x n:=by
 delta aAl aq aa;have aJl:0<=x/\x<=4294967295:=hf.1;have Mx:Vg.hint n:=hf.2.1;clear hf;with_reducible and_intros
 iterate 6
  . simp only [S.eS] at hp;omega
 rfl
theorem aJm(b:B8)(hp:b.length=64)(hf:Vg.aL J.ei b):aAm b:=by
 delta aAm q0 q1 q2 q3 q4 q5 aq aa ah ai;have dJ:Vg.hlen b:=hf.1.1;clear hf;refine⟨?_,?_⟩
 . refine⟨0,?_⟩;try dsimp only
   with_reducible and_intros
   omega;rfl;simp only [S.de,S.bM,S.ag,lc,ln] at *;omega
 intro x1 h2;refine⟨?_,?_⟩
 . intro h3;try simp only [dt] at h3
   with_reducible and_intros
   iterate 14 omega
   . simp only [S.de,S.bM,S.ag,lc,ln] at *;omega
   iterate 2 omega
   refine⟨(x1+1),?_⟩;try dsimp only
   with_reducible and_intros
   omega;exact S.aev b x1 w!
   . simp only [S.de,S.bM,S.ag,lc,ln] at *;omega
   simp only [S.de,S.bM,S.ag,lc,ln] at *;omega
 intro h4;try simp only [df] at h4
 refine⟨?_,?_⟩
 . refine⟨(nat_lit 16:Nat),?_⟩;try dsimp only
   with_reducible and_intros
   omega
   . rw [show x1=16 by(simp only [S.bM] at *;omega)]
   iterate 2 omega
 intro x5 h6;refine⟨?_,?_⟩
 . intro h7;try simp only [dt] at h7
   with_reducible and_intros
   iterate 3 omega
   iterate 2
    . simp only [S.de,S.bM,S.ag,lc,ln] at *;omega
   . simp only [S.eS];omega
   iterate 3 omega
   iterate 2
    . simp only [S.de,S.bM,S.ag,lc,ln] at *;omega
   . simp only [S.eS];omega
   iterate 3 omega
   iterate 2
    . simp only [S.de,S.bM,S.ag,lc,ln] at *;omega
   iterate 5 omega
   iterate 2
    . simp only [S.de,S.bM,S.ag,lc,ln] at *;omega
   . simp only [S.eS];omega
   iterate 3 omega
   iterate 2
    . simp only [S.de,S.bM,S.ag,lc,ln] at *;omega
   . simp only [S.eS];omega
   iterate 3 omega
   iterate 2
    . simp only [S.de,S.bM,S.ag,lc,ln] at *;omega
   iterate 5 omega
   iterate 2
    . simp only [S.de,S.bM,S.ag,lc,ln] at *;omega
   iterate 3 omega
   iterate 3
    . simp only [S.de,S.bM,S.ag,lc,ln] at *;omega
   iterate 2 omega
   refine⟨(x5+nat_lit 1),?_⟩;try dsimp only
   with_reducible and_intros
   omega;exact S.aew b x5 w!;iterate 2 omega
   simp only [S.de,S.bM,S.ag,lc,ln] at *;omega
 intro h8;try simp only [df] at h8
 rw [show x5=64 by omega]
theorem aJn(l:List Int)(p:B8)(hp:S.KI l p)(hf:Vg.aL J.q3p (l,p)):aAn l p:=by
 delta aAn q6 q7 q8 q9 aq aa ah ai;have dy:Vg.hlen l:=hf.1.1;have UE:Vg.hlen p:=hf.2.1.1;clear hf;obtain⟨gH,xB,hp3⟩:=hp;have Nv:=S.aqm gH;with_reducible and_intros
 with_reducible assumption
 trivial;iterate 16 omega
 . refine⟨(nat_lit 0:Nat),?_⟩;try dsimp only
   with_reducible and_intros
   omega;iterate 8 rfl
   simp only [S.de,S.bM,S.ag] at *;omega
 intro x1 h2;refine⟨?_,?_⟩
 . intro h3;try simp only [dt] at h3
   with_reducible and_intros
   iterate 3
    . simp only [S.eS];omega
   omega
   iterate 2
    . rw [<-S.F9];simp only [S.bM] at *;omega
   omega
   iterate 2
    . simp only [S.de,S.bM,S.ag] at *;omega
   iterate 3
    . simp only [S.eS];omega
   iterate 2 omega
   refine⟨(x1+nat_lit 1),?_⟩;try dsimp only
   with_reducible and_intros
   omega
   . have hk:=S.zd (S.sched p 64) (S.vQ l) Nv x1;have hx:=S.xor_not (hk (S.fc (S.sched p 64) (S.vQ l) x1).2.2.2.2.1 (by simp [S.eT]));simp only [S.fc,hx,tn];rfl
   iterate 3 rfl
   . have hk:=S.zd (S.sched p 64) (S.vQ l) Nv x1;have hx:=S.xor_not (hk (S.fc (S.sched p 64) (S.vQ l) x1).2.2.2.2.1 (by simp [S.eT]));simp only [S.fc,hx,tn];rfl
   iterate 3 rfl
   . simp only [S.de,S.bM,S.ag] at *;omega
   simp only [S.de,S.bM,S.ag] at *;omega
 intro h4;try simp only [df] at h4
 with_reducible and_intros
 iterate 16 omega
 simp only [S.bM] at h2;rw [show x1=64 by omega];simp only [S.block,S.SI,S.eT,S.vQ,show Int.toNat 0=0 by rfl,show Int.toNat 1=1 by rfl,show Int.toNat 2=2 by rfl,show Int.toNat 3=3 by rfl,show Int.toNat 4=4 by rfl,show Int.toNat 5=5 by rfl,show Int.toNat 6=6 by rfl,show Int.toNat 7=7 by rfl]
theorem aJo(b:B8)(hp:S.small b)(hf:Vg.aL J.ei b):aAo b:=by
 delta aAo aq bp aa ah ai;have dJ:Vg.hlen b:=hf.1.1;clear hf;simp only [S.small] at hp;with_reducible and_intros
 iterate 2
  . simp only [S.cO,S.cx,S.fT,S.bM,S.ag,S.len,lc,ln,C!] at *;omega
 . refine⟨0,?_⟩;try dsimp only
   refine⟨?_,?_⟩
   . exact S.SM _
   simp only [S.cO,S.cx,S.fT,S.bM,S.ag,S.len,lc,ln,C!] at *;omega
 intro x1 h2;with_reducible and_intros
 iterate 2 omega
 . intro h3;try simp only [nt,df] at h3
   refine⟨?_,?_⟩
   . simp only [S.cO,S.cx,S.fT,S.bM,S.ag,S.len,lc,ln,C!] at *;omega
   refine⟨(x1+1),?_⟩;try dsimp only
   with_reducible and_intros
   exact S.HB _ _;exact S.KL h2 h3;simp only [S.cO,S.cx,S.fT,S.bM,S.ag,S.len,lc,ln,C!] at *;omega
 intro h4;try simp only [nf,dt] at h4
 refine⟨?_,?_⟩
 . refine⟨(nat_lit 0:Nat),?_⟩;try dsimp only
   with_reducible and_intros
   omega;exact S.aex b hp;rfl;simp only [S.cO,S.cx,S.fT,S.bM,S.ag,S.len,lc,ln,C!] at *;omega
 intro x5 h6;refine⟨?_,?_⟩
 . intro h7;try simp only [dt] at h7
   with_reducible and_intros
   omega
   . have hx:x5<=8:=by(simp only [S.bM] at *;omega)
     simp only [S.Eo _ _ hx,S.cO,S.cx,lc,ln] at *;have :=S.KK b.length;omega
   iterate 3 omega
   refine⟨(x5+nat_lit 1),?_⟩;try dsimp only
   with_reducible and_intros
   omega;exact S.Ql b x5;exact S.NB b x5 w!
   . simp only [S.cO,S.cx,S.fT,S.bM,S.ag,S.len,lc,ln,C!] at *;omega
   simp only [S.cO,S.cx,S.fT,S.bM,S.ag,S.len,lc,ln,C!] at *;omega
 intro h8;try simp only [df] at h8
 refine⟨?_,?_⟩
 . have hx:x5<=8:=by(simp only [S.bM] at *;omega)
   simp only [S.Eo _ _ hx,S.cO,S.cx,lc,ln] at *;have :=S.KK b.length;omega
 rw [S.Ob h2 h4,show x5=8 by(simp only [S.bM] at *;omega),S.VQ];rfl
theorem aJp(b:B8)(hp:S.small b)(hf:Vg.aL J.ei b):aAp b:=by
 delta aAp IJ GM q12 q13 q14 q15 Mh q17 q18 q19 aq bp aa ah;have dJ:Vg.hlen b:=hf.1.1;clear hf;have hsm:=hp;simp only [S.small] at hp;have ht:=S.aio b (S.nb b);have ht2:=S.Oc b (S.nb b);have ht3:=S.KK b.length;with_reducible and_intros
 exact hsm
 . refine⟨0,?_⟩;try dsimp only
   with_reducible and_intros
   omega;rfl;omega
 intro x1 h2;refine⟨?_,?_⟩
 . intro h3;try simp only [dt] at h3
   with_reducible and_intros
   iterate 5 omega
   . exact⟨S.KJ _ _ S.VO _,rfl,by rw [S.aip,X!,B?];omega⟩
   iterate 2 omega
   refine⟨(x1+1),?_⟩;try dsimp only
   with_reducible and_intros
   omega
   . rw [S.aip];rfl
   omega;simp only [S.bM,S.ag] at *;omega
 intro h4;try simp only [df] at h4
 refine⟨?_,?_⟩
 . refine⟨(nat_lit 0:Nat),?_⟩;try dsimp only
   with_reducible and_intros
   omega;rfl;simp only [S.bM,S.ag] at *;omega
 intro x5 h6;refine⟨?_,?_⟩
 . intro h7;try simp only [dt] at h7
   with_reducible and_intros
   omega
   iterate 2
    . simp only [S.eT,lc,ln];omega
   iterate 2 omega
   iterate 2
    . simp only [S.eT,lc,ln];omega
   iterate 3 omega
   iterate 2
    . simp only [S.eT,lc,ln];omega
   iterate 3 omega
   iterate 2
    . simp only [S.eT,lc,ln];omega
   omega
   . rw [S.Gb _ _ (by simp only [S.bM] at *;omega)];simp;omega
   iterate 2 omega
   refine⟨(x5+nat_lit 1),?_⟩;try dsimp only
   with_reducible and_intros
   omega
   . rw [show x1=S.blocks (S.tail b (S.nb b)) by omega];exact S.aqn _ x5 w!
   . simp only [S.bM,S.ag] at *;omega
   simp only [S.bM,S.ag] at *;omega
 intro h8;try simp only [df] at h8
 rw [show x5=8 by(simp only [S.bM] at *;omega)];rfl
theorem aJq(x k:Int)(hp:S.iY x k)(hf:Vg.aL J.q1p (x,k)):aAq x k:=by
 delta aAq q20 q21 aa;have aJl:0<=x/\x<=4294967295:=hf.1;have aMd:Vg.hint k:=hf.2.1;clear hf;have hb:=S.aqj hp;have xB:=hp;simp only [S.iY] at xB;with_reducible and_intros
 iterate 4 omega
 exact S.aqi hp
theorem aJr(hp:True)(hf:Vg.aL J.q0p ()):aAr:=by
 delta aAr aa;clear hf;with_reducible and_intros
 iterate 9 rfl
theorem aJs(s1 s2 s3 s4 s5 s6 s7 s8:Int)(s9:B8)(aT:Int)(hp:True)(hf:Vg.aL J.q4p (s1,s2,s3,s4,s5,s6,s7,s8,s9,aT)):aAs s1 s2 s3 s4 s5 s6 s7 s8 s9 aT:=by
 delta aAs aa ai;have kB:0<=s1/\s1<=4294967295:=hf.1;have kC:0<=s2/\s2<=4294967295:=hf.2.1;have tI:0<=s3/\s3<=4294967295:=hf.2.2.1;have GN:0<=s4/\s4<=4294967295:=hf.2.2.2.1;have Rq:0<=s5/\s5<=4294967295:=hf.2.2.2.2.1;have Rr:0<=s6/\s6<=4294967295:=hf.2.2.2.2.2.1;have Rt:0<=s7/\s7<=4294967295:=hf.2.2.2.2.2.2.1;have anm:0<=s8/\s8<=4294967295:=hf.2.2.2.2.2.2.2.1;have ann:Vg.hlen s9:=hf.2.2.2.2.2.2.2.2.1.1;have aa9:Vg.hint aT:=hf.2.2.2.2.2.2.2.2.2.1;clear hf;with_reducible and_intros
 . intro h1;try simp only [dt] at h1
   refine⟨?_,?_⟩
   . intro h2;try simp only [dt] at h2
     refine⟨?_,?_⟩
     . omega
     omega
   intro h3;try simp only [df] at h3
   trivial
 . intro h4;try simp only [df] at h4
   trivial
 simp only [S.bl];grind
theorem aJt(u1 u2 u3 u4 u5 u6 u7 u8:Int)(p:B8)(hp:S.Qk (u1,u2,u3,u4,u5,u6,u7,u8) p)(hf:Vg.aL J.q5p (u1,u2,u3,u4,u5,u6,u7,u8,p)):aAt u1 u2 u3 u4 u5 u6 u7 u8 p:=by
 delta aAt lk n4 q24 q25 Aa q27 q28 q29 q30 q31 q32 q33 q34 q35 q36 aq aa ah ai;have aDt:0<=u1/\u1<=4294967295:=hf.1;have aDu:0<=u2/\u2<=4294967295:=hf.2.1;have aDv:0<=u3/\u3<=4294967295:=hf.2.2.1;have aDw:0<=u4/\u4<=4294967295:=hf.2.2.2.1;have aDx:0<=u5/\u5<=4294967295:=hf.2.2.2.2.1;have aDy:0<=u6/\u6<=4294967295:=hf.2.2.2.2.2.1;have aDz:0<=u7/\u7<=4294967295:=hf.2.2.2.2.2.2.1;have aDA:0<=u8/\u8<=4294967295:=hf.2.2.2.2.2.2.2.1;have UE:Vg.hlen p:=hf.2.2.2.2.2.2.2.2.1.1;clear hf;obtain⟨gH,xB⟩:=hp;refine⟨?_,?_⟩
 . refine⟨(nat_lit 0:Nat),?_⟩;try dsimp only
   with_reducible and_intros
   omega;rfl;simp only [S.bM,S.ag] at *;omega
 intro x1 h2;refine⟨?_,?_⟩
 . intro h3;try simp only [dt] at h3
   with_reducible and_intros
   iterate 30 omega
   . rw [S.sX _ _ w!];omega
   iterate 2 omega
   refine⟨(x1+nat_lit 1),?_⟩;try dsimp only
   with_reducible and_intros
   omega;exact S.aqf _ _ w!
   . simp only [S.bM,S.ag] at *;omega
   simp only [S.bM,S.ag] at *;omega
 intro h4;try simp only [df] at h4
 refine⟨?_,?_⟩
 . refine⟨(nat_lit 16:Nat),?_⟩;try dsimp only
   with_reducible and_intros
   omega
   . simp only [S.bM] at h2;rw [show x1=16 by omega]
   iterate 2 omega
 intro x5 h6;refine⟨?_,?_⟩
 . intro h7;try simp only [dt] at h7
   with_reducible and_intros
   iterate 4 omega
   . rw [S.sX _ _ w!];omega
   iterate 4 omega
   . rw [S.sX _ _ w!];omega
   iterate 2 (with_reducible exact S.SK _ _ _ _ w!)
   iterate 2 omega
   iterate 2 (with_reducible exact S.SK _ _ _ _ w!)
   iterate 6 omega
   . rw [S.sX _ _ w!];omega
   iterate 4 omega
   . rw [S.sX _ _ w!];omega
   iterate 2 omega
   . rw [S.sX _ _ w!];omega
   iterate 2 omega
   refine⟨(x5+nat_lit 1),?_⟩;try dsimp only
   with_reducible and_intros
   omega;exact S.aqg _ _ w! w!;iterate 2 omega
   simp only [S.bM,S.ag] at *;omega
 intro h8;try simp only [df] at h8
 with_reducible and_intros
 iterate 16 omega
 . refine⟨(nat_lit 0:Nat),?_⟩;try dsimp only
   with_reducible and_intros
   omega;iterate 8 rfl
   simp only [S.bM,S.ag] at *;omega
 intro x9 b9;refine⟨?_,?_⟩
 . intro eG;try simp only [dt] at eG
   with_reducible and_intros
   iterate 3 (with_reducible exact S.aBw (S.zd _ _ gH _) _ w!)
   with_reducible exact S.F9
   omega
   . rw [<-S.F9];simp only [S.bM] at *;omega
   iterate 2 omega
   . rw [S.sX _ _ w!];omega
   iterate 3 (with_reducible exact S.aBv (S.zd _ _ gH _) _ w!)
   iterate 2 omega
   refine⟨(x9+nat_lit 1),?_⟩;try dsimp only
   with_reducible and_intros
   omega
   . rw [show x5=64 by omega,S.Z3];simp only [S.fc,tn,q?,Nat.mul_one];rfl
   iterate 3 rfl
   . rw [show x5=64 by omega,S.Z3];simp only [S.fc,tn,q?,Nat.mul_one];rfl
   iterate 3 rfl
   . simp only [S.bM,S.ag] at *;omega
   simp only [S.bM,S.ag] at *;omega
 intro cB;try simp only [df] at cB
 with_reducible and_intros
 iterate 16 omega
 iterate 7
  . simp only [S.bM] at b9;rw [show x9=64 by omega];simp only [S.block,S.SI]
 simp only [S.bM] at b9;rw [show x9=64 by omega];simp only [S.block,S.SI]
theorem aDB(u1 u2 u3 u4 u5 u6 u7 u8:Int)(b:B8)(hp:S.vf (u1,u2,u3,u4,u5,u6,u7,u8))(hf:Vg.aL J.q5p (u1,u2,u3,u4,u5,u6,u7,u8,b)):ak6 u1 u2 u3 u4 u5 u6 u7 u8 b:=by
 delta ak6 Rk Bs aa ai;have aDt:0<=u1/\u1<=4294967295:=hf.1;have aDu:0<=u2/\u2<=4294967295:=hf.2.1;have aDv:0<=u3/\u3<=4294967295:=hf.2.2.1;have aDw:0<=u4/\u4<=4294967295:=hf.2.2.2.1;have aDx:0<=u5/\u5<=4294967295:=hf.2.2.2.2.1;have aDy:0<=u6/\u6<=4294967295:=hf.2.2.2.2.2.1;have aDz:0<=u7/\u7<=4294967295:=hf.2.2.2.2.2.2.1;have aDA:0<=u8/\u8<=4294967295:=hf.2.2.2.2.2.2.2.1;have dJ:Vg.hlen b:=hf.2.2.2.2.2.2.2.2.1.1;clear hf;refine⟨?_,?_⟩
 . refine⟨0,?_⟩;try dsimp only
   with_reducible and_intros
   . simp only [S.fU,O?];congr 1
   iterate 8 rfl
   omega
 intro x1 h2;refine⟨?_,?_⟩
 . intro h3;try simp only [dt] at h3
   with_reducible and_intros
   iterate 2 omega
   . exact⟨S.KJ _ _ hp _,by simp only [S.fU,X!,B?] at *;omega⟩
   iterate 2 omega
   refine⟨(x1+1),?_⟩;try dsimp only
   with_reducible and_intros
   . simp only [S.fU,O?];congr 1
   iterate 8 (simp only [S.aql])
   . simp only [S.fU,B?,S.ag,S.blocks] at *;omega
   simp only [S.fU,B?,S.ag,S.blocks] at *;omega
 intro h4;try simp only [df] at h4
 with_reducible and_intros
 iterate 8
  . rw [show x1=S.blocks b by(simp only [S.fU,B?,S.blocks] at *;omega)];rfl
 rw [show x1=S.blocks b by(simp only [S.fU,B?,S.blocks] at *;omega)];rfl
theorem aDC(s1 s2 s3 s4 s5 s6 s7 s8:Int)(s9:B8)(aT:Int)(b:B8)(hp:S.Qj (s1,s2,s3,s4,s5,s6,s7,s8) s9 aT b)(hf:Vg.aL J.q6p (s1,s2,s3,s4,s5,s6,s7,s8,s9,aT,b)):ak8 s1 s2 s3 s4 s5 s6 s7 s8 s9 aT b:=by
 delta ak8 Rl q40 q41 q42 aq bp Mg aa ai;have kB:0<=s1/\s1<=4294967295:=hf.1;have kC:0<=s2/\s2<=4294967295:=hf.2.1;have tI:0<=s3/\s3<=4294967295:=hf.2.2.1;have GN:0<=s4/\s4<=4294967295:=hf.2.2.2.1;have Rq:0<=s5/\s5<=4294967295:=hf.2.2.2.2.1;have Rr:0<=s6/\s6<=4294967295:=hf.2.2.2.2.2.1;have Rt:0<=s7/\s7<=4294967295:=hf.2.2.2.2.2.2.1;have anm:0<=s8/\s8<=4294967295:=hf.2.2.2.2.2.2.2.1;have ann:Vg.hlen s9:=hf.2.2.2.2.2.2.2.2.1.1;have aa9:Vg.hint aT:=hf.2.2.2.2.2.2.2.2.2.1;have dJ:Vg.hlen b:=hf.2.2.2.2.2.2.2.2.2.2.1.1;clear hf;obtain⟨Nv,rfl,rfl,hs⟩:=hp;simp only [S.small] at hs;have hv:S.bl [] 0=true :=by decide
 have hd:decide ((1099511627776:Int)-0<(b.length:Int))=false :=by simp;omega
 simp only [hv,hd,Bool.not_true,Q!,L!,ln,Int.toNat_zero];with_reducible and_intros
 trivial
 . intro h1;try simp only [nt] at h1
   trivial
 . intro h2;try simp only [nf] at h2
   refine⟨?_,?_⟩
   . omega
   omega
 . intro h3;try simp only [V.k7,nt,dt] at h3
   trivial
 . intro h4;try simp only [V.dc,nf,df] at h4
   trivial
 iterate 5 omega
 iterate 2
  . simp only [List.replicate_zero,z?,A?,S.qP,S.nb,ln,C!] at *;omega
 omega
 . simp only [List.replicate_zero,z?,A?,S.qP,S.nb,ln,C!] at *;omega
 iterate 2 omega
 iterate 9 rfl
 simp only [List.replicate_zero,z?,A?,S.qP,S.nb,ln,C!] at *;omega
theorem aDD(s1 s2 s3 s4 s5 s6 s7 s8:Int)(s9:B8)(aT:Int)(hp:S.I5 (s1,s2,s3,s4,s5,s6,s7,s8) s9 aT)(hf:Vg.aL J.q4p (s1,s2,s3,s4,s5,s6,s7,s8,s9,aT)):ak9 s1 s2 s3 s4 s5 s6 s7 s8 s9 aT:=by
 delta ak9 nq q44 q45 q46 q47 q48 aq bp Mg aa ah ai;have kB:0<=s1/\s1<=4294967295:=hf.1;have kC:0<=s2/\s2<=4294967295:=hf.2.1;have tI:0<=s3/\s3<=4294967295:=hf.2.2.1;have GN:0<=s4/\s4<=4294967295:=hf.2.2.2.1;have Rq:0<=s5/\s5<=4294967295:=hf.2.2.2.2.1;have Rr:0<=s6/\s6<=4294967295:=hf.2.2.2.2.2.1;have Rt:0<=s7/\s7<=4294967295:=hf.2.2.2.2.2.2.1;have anm:0<=s8/\s8<=4294967295:=hf.2.2.2.2.2.2.2.1;have ann:Vg.hlen s9:=hf.2.2.2.2.2.2.2.2.1.1;have aa9:Vg.hint aT:=hf.2.2.2.2.2.2.2.2.2.1;clear hf;have hv:=S.aet hp;obtain⟨Nv,h01,h02,h03⟩:=hp;simp only [hv,Bool.not_true,cond_false];with_reducible and_intros
 trivial
 . intro h1;try simp only [nt] at h1
   trivial
 . intro h2;try simp only [nf] at h2
   trivial
 omega
 . simp only [S.cO,S.ie,S.cx,S.fT,S.bM,S.ag,S.len,lc,ln] at *;omega
 . refine⟨0,?_⟩;try dsimp only
   refine⟨?_,?_⟩
   . exact S.SM _
   simp only [S.cO,S.ie,S.cx,S.fT,S.bM,S.ag,S.len,lc,ln] at *;omega
 intro x3 h4;with_reducible and_intros
 iterate 2 omega
 . intro h5;try simp only [nt,df] at h5
   refine⟨?_,?_⟩
   . simp only [S.cO,S.ie,S.cx,S.fT,S.bM,S.ag,S.len,lc,ln] at *;omega
   refine⟨(x3+1),?_⟩;try dsimp only
   with_reducible and_intros
   exact S.HB _ _;exact S.KL h4 h5;simp only [S.cO,S.ie,S.cx,S.fT,S.bM,S.ag,S.len,lc,ln] at *;omega
 intro h6;try simp only [nf,dt] at h6
 refine⟨?_,?_⟩
 . refine⟨(nat_lit 0:Nat),?_⟩;try dsimp only
   with_reducible and_intros
   omega;rw [S.aim,<-S.Ob h4 h6];simp only [S.cO,S.ie,S.cx,S.fT,S.bM,S.ag,S.len,lc,ln] at *;omega
 intro x7 h8;refine⟨?_,?_⟩
 . intro h9;try simp only [dt] at h9
   with_reducible and_intros
   iterate 6 omega
   . simp only [S.cO,S.ie,S.cx,S.fT,S.bM,S.ag,S.len,lc,ln] at *;omega
   iterate 2 omega
   refine⟨(x7+nat_lit 1),?_⟩;try dsimp only
   with_reducible and_intros
   omega;exact S.SN s9 aT x7 h01 h02 w!
   . simp only [S.cO,S.ie,S.cx,S.fT,S.bM,S.ag,S.len,lc,ln] at *;omega
   simp only [S.cO,S.ie,S.cx,S.fT,S.bM,S.ag,S.len,lc,ln] at *;omega
 intro b9;try simp only [df] at b9
 with_reducible and_intros
 iterate 4 omega
 . refine⟨(nat_lit 0:Nat),?_⟩;try dsimp only
   with_reducible and_intros
   omega;rfl;simp only [S.cO,S.ie,S.cx,S.fT,S.bM,S.ag,S.len,lc,ln] at *;omega
 intro x11 cB;refine⟨?_,?_⟩
 . intro gZ;try simp only [dt] at gZ
   with_reducible and_intros
   iterate 8 omega
   . rw [S.Gb _ _ (by simp only [S.bM] at *;omega)];simp;omega
   iterate 2 omega
   refine⟨(x11+nat_lit 1),?_⟩;try dsimp only
   with_reducible and_intros
   omega
   . rw [show x7=8 by(simp only [S.bM] at *;omega)];exact S.aqk _ x11 w!
   . simp only [S.cO,S.ie,S.cx,S.fT,S.bM,S.ag,S.len,lc,ln] at *;omega
   simp only [S.cO,S.ie,S.cx,S.fT,S.bM,S.ag,S.len,lc,ln] at *;omega
 intro dK;try simp only [df] at dK
 rw [show x11=8 by(simp only [S.bM] at *;omega)];rfl
theorem aDE(b:B8)(hp:S.small b)(hf:Vg.aL J.ei b):ala b:=by
 delta ala NH Rm aa;have dJ:Vg.hlen b:=hf.1.1;clear hf;with_reducible and_intros
 trivial;exact⟨S.VO,rfl,rfl,hp⟩
 . simp only [S.small] at hp;exact⟨S.KJ _ _ S.VO _,by simp only [S.nb];omega,by simp only [S.nb];omega,by rw [S.qP];simp [S.nb]⟩
 exact congrArg S.dig (S.VP b _)
theorem aDF(m:Nat)(v:Int)(hm:v.toNat<m+1)(hp:0<=v)(hf:Vg.aL J.oO v):alb m v:=by
 delta alb q51 aq bp aa;have UF:Vg.hint v:=hf.1;clear hf;refine⟨?_,?_⟩
 . intro h1;try simp only [dt] at h1
   rw [S.Er _ w!];congr 2;omega
 intro h2;try simp only [df] at h2
 with_reducible and_intros
 iterate 8 omega
 . have :=S.bF (v/128);simp;omega
 rw [S.Z4 v w! w!];simp only [List.singleton_append];congr 2;omega
theorem aDG(s:B8)(hp:S.small s)(hf:Vg.aL J.Uh s):alc s:=by
 delta alc bp aa ai;have Pk:Vg.hlen s:=hf.1;clear hf;with_reducible and_intros
 omega
 . have :=S.bF s.length;simp only [S.small] at hp;omega
 rfl
theorem aDJ(b:B8)(hp:b.length<=140737488355328)(hf:Vg.aL J.ei b):alf b:=by
 delta alf bp;have dJ:Vg.hlen b:=hf.1.1;clear hf;refine⟨?_,?_⟩
 . omega
 rfl
theorem aDK(v:Int)(l:B8)(hp:S.Ep l v)(hf:Vg.fH J.Uj v)(hg:Vg.cI.ok J.q0q (l,())):alg v l:=by
 delta alg q52 bp aa;have UF:Vg.hint v:=hf.1;have dy:Vg.hlen l:=hg.1.1;clear hf hg;obtain⟨gH,xB⟩:=hp;refine⟨?_,?_⟩
 . refine⟨((l),(v)),?_⟩;try dsimp only
   with_reducible and_intros
   omega;rfl;exact⟨gH,Int.le_refl _,rfl⟩
 intro x1 h2;refine⟨?_,?_⟩
 . intro h3;try simp only [dt] at h3
   with_reducible and_intros
   iterate 2 omega
   . (have hl:=S.zf h2;have hu:=S.Es h2;simp;omega)
   iterate 2 omega
   refine⟨((Prod.fst x1++ [UInt8.ofNat (Int.toNat (Vg.cu (Vg.aP (Prod.snd x1) (127:Int)%(256:Int)) (128:Int)))]),(Prod.snd x1/(2:Int)^Int.toNat (7:Int))),?_⟩;try dsimp only
   with_reducible and_intros
   omega;rfl
   . (have hl:=S.zf h2;have hu:=S.Es h2;exact S.aez h2 h3 w!)
   . (have hl:=S.zf h2;have hu:=S.Es h2;simp;omega)
 intro h4;try simp only [df] at h4
 refine⟨?_,?_⟩
 . (have hl:=S.zf h2;have hu:=S.Es h2;simp;omega)
 (have hl:=S.zf h2;have hu:=S.Es h2;exact S.aiv h2 h4)
theorem aDL(s l:B8)(hp:S.nG l s)(hf:Vg.fH J.azJ s)(hg:Vg.cI.ok J.q0q (l,())):alh s l:=by
 delta alh bp ai;have Pk:Vg.hlen s:=hf.1;have dy:Vg.hlen l:=hg.1.1;clear hf hg;obtain⟨gH,xB⟩:=hp;have :=S.bF s.length;with_reducible and_intros
 . simp only [S.Ep];omega
 . simp only [C!];omega
 simp [S.text]
theorem aDM(b:B8)(v:Int)(hp:b.length<=35184372088832)(hf:Vg.aL J.azK (b,v)):ali b v:=by
 delta ali q53 bp aa ah;have dJ:Vg.hlen b:=hf.1.1;have UF:Vg.hint v:=hf.2.1;clear hf;refine⟨?_,?_⟩
 . intro h1;try simp only [V.k7,dt] at h1
   refine⟨?_,?_⟩
   . grind [S.kg,S.ug,S.dz]
   grind [S.kg,S.ug,S.dz]
 intro h2;try simp only [V.dc,df] at h2
 with_reducible and_intros
 omega;exact⟨w!,w!⟩;iterate 2 (grind [S.kg,S.ug,S.dz])
theorem aDN(b s:B8)(hp:S.nG b s)(hf:Vg.aL J.O2 (b,s)):alj b s:=by
 delta alj bp;have dJ:Vg.hlen b:=hf.1.1;have Pk:Vg.hlen s:=hf.2.1;clear hf;with_reducible and_intros
 . simp only [S.nG] at *;omega
 omega;rfl
theorem aDO(r1:B8)(r2 r3:Int)(hp:True)(hf:Vg.aL J.Cc (r1,r2,r3)):alk r1 r2 r3:=by
 delta alk aa ai;have oq:Vg.hlen r1:=hf.1.1;have ot:Vg.hint r2:=hf.2.1;have ou:Vg.hint r3:=hf.2.2.1;clear hf;simp only [S.inside];cases decide (0<=r2)<;>rfl
theorem aDP(r1:B8)(r2 r3:Int)(hp:r1.length<=140737488355328)(hf:Vg.aL J.Cc (r1,r2,r3)):alm r1 r2 r3:=by
 delta alm bp aa ah;have oq:Vg.hlen r1:=hf.1.1;have ot:Vg.hint r2:=hf.2.1;have ou:Vg.hint r3:=hf.2.2.1;clear hf;with_reducible and_intros
 omega
 . intro h1;try simp only [dt] at h1
   trivial
 . intro h2;try simp only [df] at h2
   trivial
 rfl
 . cases decide (r3=0)<;>cases S.inside r1 r2<;>rfl
 simp only [S.bI];by_cases h:r3=0<;>cases S.inside r1 r2<;>simp [h]
theorem aDQ(b:B8)(p:Int)(hp:S.dP b p)(hf:Vg.aL J.azK (b,p)):aln b p:=by
 delta aln q54 q55 q56 Ul aq aa ah ai;have dJ:Vg.hlen b:=hf.1.1;have UE:Vg.hint p:=hf.2.1;clear hf;have Bp:=hp;simp only [S.dP] at Bp;refine⟨?_,?_⟩
 . refine⟨(nat_lit 0:Nat),?_⟩;try dsimp only
   with_reducible and_intros
   exact(S.aIl b p).symm;omega;exact S.aIk hp
 intro x1 h2;refine⟨?_,?_⟩
 . intro h3;try simp only [dt] at h3
   with_reducible and_intros
   iterate 3 (grind [S.ais,S.SP])
 intro h4;try simp only [df] at h4
 with_reducible and_intros
 iterate 2 omega
 . intro h5;try simp only [dt] at h5
   with_reducible and_intros
   iterate 3 (grind [S.ais,S.SP])
 intro h6;try simp only [df] at h6
 with_reducible and_intros
 omega
 . (have hg:=S.gC h2;omega)
 omega
 . (have hg:=S.gC h2;omega)
 omega
 . (have hg:=S.gC h2;omega)
 omega
 . (have hg:=S.gC h2;omega)
 iterate 2
  . have hg:=S.gC h2;have hn:=S.ju ((b.getD (p+(x1:Int)).toNat 0).toNat:Int) w!;have hs:=S.xl (Vg.aP ((b.getD (p+(x1:Int)).toNat 0).toNat:Int) 127) x1 w! w! w!;try clear h8
    try clear h9
    clear hn;generalize Vg.aP ((b.getD (p+(x1:Int)).toNat 0).toNat:Int) 127*2^(7*(x1:Int)).toNat=z at *;omega
 . (have hg:=S.gC h2;have hv:=S.AQ (b:=b) (p:=p) hg.1;have hw:=S.AQ (b:=b) (p:=p) (x:=x1+1) w!;have hn:=S.ju ((b.getD (p+(x1:Int)).toNat 0).toNat:Int) w!;have hs:=S.xl (Vg.aP ((b.getD (p+(x1:Int)).toNat 0).toNat:Int) 127) x1 w! w! w!;exact hv.1)
 . (have hg:=S.gC h2;have hv:=S.AQ (b:=b) (p:=p) hg.1;have hw:=S.AQ (b:=b) (p:=p) (x:=x1+1) w!;have hn:=S.ju ((b.getD (p+(x1:Int)).toNat 0).toNat:Int) w!;have hs:=S.xl (Vg.aP ((b.getD (p+(x1:Int)).toNat 0).toNat:Int) 127) x1 w! w! w!;exact hs.1)
 omega
 . (have hg:=S.gC h2;omega)
 . intro h7;try simp only [dt] at h7
   with_reducible and_intros
   . intro h8;try simp only [dt] at h8
     with_reducible and_intros
     omega
     . have hg:=S.gC h2;have hn:=S.ju ((b.getD (p+(x1:Int)).toNat 0).toNat:Int) w!;have hs:=S.xl (Vg.aP ((b.getD (p+(x1:Int)).toNat 0).toNat:Int) 127) x1 w! w! w!;try clear h8
       try clear h9
       clear hn;generalize Vg.aP ((b.getD (p+(x1:Int)).toNat 0).toNat:Int) 127*2^(7*(x1:Int)).toNat=z at *;omega
     omega
     . have hg:=S.gC h2;have hn:=S.ju ((b.getD (p+(x1:Int)).toNat 0).toNat:Int) w!;have hs:=S.xl (Vg.aP ((b.getD (p+(x1:Int)).toNat 0).toNat:Int) 127) x1 w! w! w!;try clear h8
       try clear h9
       clear hn;generalize Vg.aP ((b.getD (p+(x1:Int)).toNat 0).toNat:Int) 127*2^(7*(x1:Int)).toNat=z at *;omega
     omega;have hg:=S.gC h2;have hn:=S.ju ((b.getD (p+(x1:Int)).toNat 0).toNat:Int) w!;have hs:=S.xl (Vg.aP ((b.getD (p+(x1:Int)).toNat 0).toNat:Int) 127) x1 w! w! w!;try clear h8
     try clear h9
     clear hn;generalize Vg.aP ((b.getD (p+(x1:Int)).toNat 0).toNat:Int) 127*2^(7*(x1:Int)).toNat=z at *;omega
   . intro h9;try simp only [df] at h9
     trivial
   . intro b9;with_reducible and_intros
     . exact(S.Ge hp h2 (by have hg:=S.gC h2;omega) w! w! b9).1
     . exact(S.Ge hp h2 (by have hg:=S.gC h2;omega) w! w! b9).2.1
     . exact(S.Ge hp h2 (by have hg:=S.gC h2;omega) w! w! b9).2.2
   intro eG;with_reducible and_intros
   omega
   . clear eG;have hg:=S.gC h2;omega
   . exact(S.Gf hp h2 (by have hg:=S.gC h2;omega) w! w! eG).1
   . exact(S.Gf hp h2 (by have hg:=S.gC h2;omega) w! w! eG).2.1
   . exact(S.Gf hp h2 (by have hg:=S.gC h2;omega) w! w! eG).2.2
 intro cB;try simp only [df] at cB
 refine⟨(x1+nat_lit 1),?_⟩;try dsimp only
 with_reducible and_intros
 . (have hg:=S.gC h2;have hv:=S.AQ (b:=b) (p:=p) hg.1;have hw:=S.AQ (b:=b) (p:=p) (x:=x1+1) w!;have hn:=S.ju ((b.getD (p+(x1:Int)).toNat 0).toNat:Int) w!;have hs:=S.xl (Vg.aP ((b.getD (p+(x1:Int)).toNat 0).toNat:Int) 127) x1 w! w! w!;exact S.Z5 hp h2 w!)
 omega
 . (have hg:=S.gC h2;exact S.aey hp h2 w! w! w!)
 . (have hg:=S.gC h2;simp only [S.ag];omega)
theorem aDR(b:B8)(p bB:Int)(hp:S.dP b p)(hf:Vg.aL J.azL (b,p,bB)):alo b p bB:=by
 delta alo Bt aq aa ai;have dJ:Vg.hlen b:=hf.1.1;have UE:Vg.hint p:=hf.2.1;have UG:Vg.hint bB:=hf.2.2.1;clear hf;have hb:=S.VT hp;with_reducible and_intros
 omega
 . intro h1;try simp only [nt,df] at h1
   with_reducible and_intros
   iterate 3 (grind [S.cV])
 intro h2;try simp only [nf,dt] at h2
 refine⟨?_,?_⟩
 . intro h3;try simp only [dt] at h3
   with_reducible and_intros
   iterate 3 (grind [S.cV])
 intro h4;try simp only [df] at h4
 with_reducible and_intros
 iterate 2 omega
 . intro h5;try simp only [dt] at h5
   with_reducible and_intros
   iterate 3 (grind [S.cV])
 intro h6;try simp only [df] at h6
 with_reducible and_intros
 iterate 7 omega
 iterate 3 (grind [S.cV])
theorem aDS(r1:B8)(r2 r3 bB:Int)(hp:r1.length<=140737488355328)(hf:Vg.aL J.azM (r1,r2,r3,bB)):alp r1 r2 r3 bB:=by
 delta alp bp aa;have oq:Vg.hlen r1:=hf.1.1;have ot:Vg.hint r2:=hf.2.1;have ou:Vg.hint r3:=hf.2.2.1;have UG:Vg.hint bB:=hf.2.2.2.1;clear hf;with_reducible and_intros
 omega
 . intro h1;try simp only [nt,df] at h1
   with_reducible and_intros
   iterate 4 (grind [S.az,S.dP,S.bI,S.inside])
 intro h2;try simp only [nf,dt] at h2
 with_reducible and_intros
 grind [S.az,S.dP,S.bI,S.inside]
 . intro h3;try simp only [nt,df] at h3
   with_reducible and_intros
   iterate 4 (grind [S.az,S.dP,S.bI,S.inside])
 intro h4;try simp only [nf,dt] at h4
 with_reducible and_intros
 iterate 4 (grind [S.az,S.dP,S.bI,S.inside])
theorem aDT(r1:B8)(r2 r3:Int)(hp:r1.length<=140737488355328)(hf:Vg.aL J.Cc (r1,r2,r3)):alq r1 r2 r3:=by
 delta alq bp aa;have oq:Vg.hlen r1:=hf.1.1;have ot:Vg.hint r2:=hf.2.1;have ou:Vg.hint r3:=hf.2.2.1;clear hf;with_reducible and_intros
 omega
 . intro h1;try simp only [nt,df] at h1
   with_reducible and_intros
   iterate 4 (grind [S.an,S.dP,S.bI,S.inside])
 intro h2;try simp only [nf,dt] at h2
 with_reducible and_intros
 grind [S.an,S.dP,S.bI,S.inside]
 . intro h3;try simp only [nt,df] at h3
   with_reducible and_intros
   iterate 4 (grind [S.an,S.dP,S.bI,S.inside])
 intro h4;try simp only [nf,dt] at h4
 with_reducible and_intros
 iterate 4 (grind [S.an,S.dP,S.bI,S.inside])
theorem aDU(r1:B8)(r2 r3:Int)(hp:r1.length<=140737488355328)(hf:Vg.aL J.Cc (r1,r2,r3)):alr r1 r2 r3:=by
 delta alr NI aq bp aa ai;have oq:Vg.hlen r1:=hf.1.1;have ot:Vg.hint r2:=hf.2.1;have ou:Vg.hint r3:=hf.2.2.1;clear hf;with_reducible and_intros
 omega
 . intro h1;try simp only [nt,df] at h1
   with_reducible and_intros
   iterate 4 (grind [S.aD,S.dP,S.bI,S.inside])
 intro h2;try simp only [nf,dt] at h2
 with_reducible and_intros
 omega;grind [S.aD,S.dP,S.bI,S.inside]
 . intro h3;try simp only [dt] at h3
   with_reducible and_intros
   iterate 4 (grind [S.aD,S.dP,S.bI,S.inside])
 intro h4;try simp only [df] at h4
 with_reducible and_intros
 iterate 2 omega
 grind [S.aD,S.dP,S.bI,S.inside];iterate 4 omega
 iterate 3 (grind [S.aD,S.dP,S.bI,S.inside])
 have h0:=S.aeA h2;simp only [S.aD,b?,show(r2+32).toNat-r2.toNat=32 by omega]
 (repeat' split)<;>first|rfl|omega|contradiction
theorem aDV(r1:B8)(r2 r3:Int)(hp:True)(hf:Vg.aL J.Cc (r1,r2,r3)):als r1 r2 r3:=by
 delta als aa ah ai;have oq:Vg.hlen r1:=hf.1.1;have ot:Vg.hint r2:=hf.2.1;have ou:Vg.hint r3:=hf.2.2.1;clear hf;refine⟨?_,?_⟩
 . intro h1;try simp only [nt,df] at h1
   grind [S.done]
 intro h2;try simp only [nf,dt] at h2
 with_reducible and_intros
 trivial
 . intro h3;try simp only [nt] at h3
   grind [S.done]
 intro h4;try simp only [nf] at h4
 refine⟨?_,?_⟩
 . intro h5;try simp only [dt] at h5
   grind [S.done]
 intro h6;try simp only [df] at h6
 grind [S.done]
theorem aDW(kind:Int)(b:B8)(hp:S.bj b)(hf:Vg.aL J.Ċ (kind,b)):alu kind b:=by
 delta alu q60 aq bp aa ah ai;have anp:Vg.hint kind:=hf.1;have dJ:Vg.hlen b:=hf.2.1.1;clear hf;refine⟨?_,?_⟩
 . refine⟨(nat_lit 0:Nat),?_⟩;try dsimp only
   with_reducible and_intros
   omega
   . simp only [S.iZ,S.gp] at *;grind [List.take_add_one]
   simp only [S.gp,S.ag,S.len,S.bj,S.iZ,lc,X!,ln] at *;omega
 intro x1 h2;refine⟨?_,?_⟩
 . intro h3;try simp only [dt] at h3
   with_reducible and_intros
   iterate 2 omega
   . simp only [S.gp,S.ag,S.len,S.bj,S.iZ,lc,X!,ln] at *;omega
   iterate 2 omega
   refine⟨(x1+nat_lit 1),?_⟩;try dsimp only
   with_reducible and_intros
   omega;simp only [S.iZ,g?,S.aii b x1 w!]
   . simp only [S.gp,S.ag,S.len,S.bj,S.iZ,lc,X!,ln] at *;omega
   simp only [S.gp,S.ag,S.len,S.bj,S.iZ,lc,X!,ln] at *;omega
 intro h4;try simp only [df] at h4
 simp only [S.iZ,S.gp] at *;grind [List.take_add_one]
theorem aDX(kind:Int)(b:B8)(hp:S.bj b)(hf:Vg.aL J.Ċ (kind,b)):alv kind b:=by
 unfold alv;have anp:Vg.hint kind:=hf.1;have dJ:Vg.hlen b:=hf.2.1.1;clear hf;with_reducible and_intros
 iterate 2 exact hp
 rfl
theorem aDY(b:B8)(hp:S.bj b)(hf:Vg.aL J.ei b):alw b:=by
 delta alw aa;have dJ:Vg.hlen b:=hf.1.1;clear hf;refine⟨?_,?_⟩
 . exact hp
 rfl
theorem aDZ(l r:B8)(hp:S.bj (l++r))(hf:Vg.aL J.Cd (l,r)):alx l r:=by
 delta alx ah;have dy:Vg.hlen l:=hf.1;have aAu:Vg.hlen r:=hf.2.1;clear hf;with_reducible and_intros
 . simp only [S.bj,C!] at *;omega
 exact hp;rfl
theorem aD0(kind:UInt8)(parts:List B8)(hp:S.kh parts)(hf:Vg.aL J.azN (kind,parts)):aly kind parts:=by
 delta aly aq bp aa ah ai;have aHn:Vg.hlen parts:=hf.2.1.1;clear hf;refine⟨?_,?_⟩
 . refine⟨(nat_lit 0:Nat),?_⟩;try dsimp only
   with_reducible and_intros
   omega;exact S.aeC _ _;simp only [S.gp,S.ag,S.len] at *;omega
 intro x1 h2;refine⟨?_,?_⟩
 . intro h3;try simp only [dt] at h3
   with_reducible and_intros
   iterate 2 omega
   exact S.VU kind hp w!;iterate 2 omega
   refine⟨(x1+nat_lit 1),?_⟩;try dsimp only
   with_reducible and_intros
   omega;exact S.Qn _ _ _ w!
   . simp only [S.gp,S.ag,S.len] at *;omega
   simp only [S.gp,S.ag,S.len] at *;omega
 intro h4;try simp only [df] at h4
 exact S.SR _ _ _ w!
theorem aD1(b:B8)(hp:S.bj b)(hf:Vg.aL J.ei b):alz b:=by
 unfold alz;have dJ:Vg.hlen b:=hf.1.1;clear hf;refine⟨?_,?_⟩
 . simp only [S.kh,S.bj] at *;simp;omega
 simp [S.fi,S.jh]
theorem aD2(l r:B8)(hp:S.bj (l++r))(hf:Vg.aL J.Cd (l,r)):alA l r:=by
 unfold alA;have dy:Vg.hlen l:=hf.1;have aAu:Vg.hlen r:=hf.2.1;clear hf;refine⟨?_,?_⟩
 . simp only [S.kh,S.bj,C!] at *;simp;omega
 simp [S.fi,S.jh]
theorem aD3(b:B8)(hp:S.bj b)(hf:Vg.aL J.ei b):alB b:=by
 unfold alB;have dJ:Vg.hlen b:=hf.1.1;clear hf;refine⟨?_,?_⟩
 . simp only [S.kh,S.bj] at *;simp;omega
 simp [S.fi,S.jh]
theorem aD5(b:B8)(hp:S.bj b)(hf:Vg.aL J.ei b):alD b:=by
 unfold alD;have dJ:Vg.hlen b:=hf.1.1;clear hf;with_reducible and_intros
 iterate 2 exact hp
 rfl
theorem aD6(l r:B8)(hp:True)(hf:Vg.aL J.Cd (l,r)):alE l r:=by
 delta alE aa ah ai;have dy:Vg.hlen l:=hf.1;have aAu:Vg.hlen r:=hf.2.1;clear hf;refine⟨?_,?_⟩
 . intro h1;try simp only [V.k7,nt,df] at h1
   refine⟨?_,?_⟩
   . grind [S.eE,S.p8,S.KT,S.Qm,S.mi]
   grind [S.eE,S.p8,S.KT,S.Qm,S.mi]
 intro h2;try simp only [V.dc,nf,dt] at h2
 with_reducible and_intros
 iterate 2
  . simp only [S.small,S.jh,S.bj,lc,C!] at *;omega
 iterate 2 (grind [S.eE,S.p8,S.KT,S.Qm,S.mi])
theorem aD7(b:B8)(hp:S.bj b)(hf:Vg.aL J.ei b):alF b:=by
 unfold alF;have dJ:Vg.hlen b:=hf.1.1;clear hf;with_reducible and_intros
 iterate 2 exact hp
 rfl
theorem aD9(c:Int)(hp:True)(hf:Vg.aL J.oO c):Xc c:=by
 delta Xc aa;grind[Xc,S.bR]
theorem aEa(c:Int)(hp:True)(hf:Vg.aL J.oO c):alH c:=by
 delta alH ah;refine⟨?_,?_⟩
 . simp_all[dt,S.en]
 intro h2;refine⟨?_,?_⟩
 . simp_all[dt,S.en]
 intro h4;refine⟨?_,?_⟩
 . grind [S.en]
 grind[df,S.en]
theorem aEb(c:Int)(hp:0<=c)(hf:Vg.aL J.oO c):alI c:=by
 delta alI aa;have e:Vg.aP c 63%256=c%64:=by grind[S.KG]
 grind[S.zc,S.aqp]
theorem aEc(c:Int)(hp:True)(hf:Vg.aL J.oO c):alJ c:=by
 delta alJ q61 q62 q63 q64 aa ah;clear hf;with_reducible and_intros
 trivial;grind[nt,S.xO,S.fV];intro h2;try simp at h2
 with_reducible and_intros
 trivial
 . intro h3;refine⟨?_,?_⟩
   . grind[S.fB,S.xO]
   (have hc:=S.fB h2;(simp only [S.fV,h2,if_true];grind[S.Z6,S.en]))
 intro h4;refine⟨?_,?_⟩
 . intro h5;with_reducible and_intros
   iterate 2 omega
   simp_all[S.fB]
   grind[S.fB,S.xO]
   . ((simp only [S.fV,h2,if_true];grind[S.aqt,S.en]))
 intro h6;refine⟨?_,?_⟩
 . intro h7;with_reducible and_intros
   iterate 4 omega
   . (have hc:=S.fB h2;grind)
   simp_all[S.fB]
   grind[S.fB,S.xO]
   . ((simp only [S.fV,h2,if_true];grind[S.aqu,S.en]))
 intro h8;with_reducible and_intros
 iterate 4 omega
 . (have hc:=S.fB h2;grind)
 iterate 2 omega
 . (have hc:=S.fB h2;grind)
 simp_all[S.fB]
 grind[S.fB,S.xO]
 . (have hc:=S.fB h2;(simp only [S.fV,h2,if_true];grind[S.aqv,S.en]))
theorem aEd(b:B8)(hp:0<b.length)(hf:Vg.aL J.ei b):alN b:=by
 delta alN Bu q66 q67 q68 q69 Xd q71 q72 q73 q74 q75 q76 q77 q78 aq aa ah ai;have dJ:Vg.hlen b:=hf.1.1;clear hf;have Bp:(0:Int)<b.length:=by omega
 with_reducible and_intros
 iterate 2 omega
 simp_all[dt,S.uf1]
 intro h2;try simp only [df] at h2
 with_reducible and_intros
 iterate 2 omega
 . intro h3;try simp only [dt] at h3
   with_reducible and_intros
   iterate 2 omega
   . intro h4;try simp only [dt] at h4
     refine⟨?_,?_⟩
     . (have hn:=S.sY (b:=b) w! w!;simp_all[S.sh])
     (have hn:=S.sY (b:=b) w! w!;simp_all[S.sh])
   intro h5;try simp only [df] at h5
   with_reducible and_intros
   iterate 3 omega
   . refine⟨(nat_lit 0:Nat),?_⟩;try dsimp only
     with_reducible and_intros
     omega;grind[S.sY,S.aIm]
     . (have hn:=S.sY (b:=b) w! w!;simp_all[S.VV])
   intro x6 h7;refine⟨?_,?_⟩
   . intro h8;try simp only [dt] at h8
     with_reducible and_intros
     iterate 4 omega
     . intro h9;try simp only [nt,df,tn] at h9
       refine⟨?_,?_⟩
       . have hn:=S.sY (b:=b) v! v!;have hb:=S.bN h7;have hx:(x6:Int)+1<2:=by(have hc:=S.cy b 2 w! w!;simp only [hc,show Int.toNat 2=2 by rfl] at *;omega)
         simp only [S.kj b 2 x6 hx,S.mT b 2 x6 hx] at *;rw [S.vT hn h7 w! v!]
       have hn:=S.sY (b:=b) v! v!;have hb:=S.bN h7;have hx:(x6:Int)+1<2:=by(have hc:=S.cy b 2 w! w!;simp only [hc,show Int.toNat 2=2 by rfl] at *;omega)
       simp only [S.kj b 2 x6 hx,S.mT b 2 x6 hx] at *;rw [S.vT hn h7 w! v!]
     intro b9;try simp only [nf,dt,tn] at b9
     with_reducible and_intros
     iterate 2 omega
     iterate 3
      . (have hn:=S.sY (b:=b) v! v!;(have hb:=S.bN h7;(try simp only [S.cy b 2 w! w!,show Int.toNat 2=2 by rfl] at *);simp only [show Int.toNat 6=6 by rfl,S.ag] at *;omega))
     exact Int.natCast_nonneg _;omega
     . (have hn:=S.sY (b:=b) v! v!;(have hb:=S.bN h7;(try simp only [S.cy b 2 w! w!,show Int.toNat 2=2 by rfl] at *);omega))
     refine⟨(x6+nat_lit 1),?_⟩;try dsimp only
     with_reducible and_intros
     omega
     . have hn:=S.sY (b:=b) v! v!;have hb:=S.bN h7;have hx:(x6:Int)+1<2:=by(have hc:=S.cy b 2 w! w!;simp only [hc,show Int.toNat 2=2 by rfl] at *;omega)
       rw [S.kj b 2 x6 hx];exact S.VX h7 w!
     . have hn:=S.sY (b:=b) v! v!;have hb:=S.bN h7;have hx:(x6:Int)+1<2:=by(have hc:=S.cy b 2 w! w!;simp only [hc,show Int.toNat 2=2 by rfl] at *;omega)
       simp only [S.kj b 2 x6 hx,S.mT b 2 x6 hx] at *;exact S.Qp h7 v! w!
     . (have hn:=S.sY (b:=b) v! v!;(have hb:=S.bN h7;(try simp only [S.cy b 2 w! w!,show Int.toNat 2=2 by rfl] at *);simp only [show Int.toNat 6=6 by rfl,S.ag] at *;omega))
   intro eG;try simp only [df] at eG
   with_reducible and_intros
   trivial
   . intro cB;try simp only [nt] at cB
     trivial
   . intro gZ;try simp only [nf] at gZ
     trivial
   . intro dK;try simp only [V.k7,nt,df] at dK
     refine⟨?_,?_⟩
     . have hn:=S.sY (b:=b) v! v!;have hb:=S.bN h7;have hc:=S.cy b 2 w! w!;rw [hc] at eG;have hx:x6+1=2:=by omega
       rw [S.vU hn h7 hx dK rfl]
     have hn:=S.sY (b:=b) v! v!;have hb:=S.bN h7;have hc:=S.cy b 2 w! w!;rw [hc] at eG;have hx:x6+1=2:=by omega
     rw [S.vU hn h7 hx dK rfl]
   intro jS;try simp only [V.dc,nf,dt] at jS
   refine⟨?_,?_⟩
   . have hn:=S.sY (b:=b) v! v!;have hb:=S.bN h7;have hc:=S.cy b 2 w! w!;rw [hc] at eG;have hx:x6+1=2:=by omega
     rw [S.vV hn h7 hx jS rfl]
   have hn:=S.sY (b:=b) v! v!;have hb:=S.bN h7;have hc:=S.cy b 2 w! w!;rw [hc] at eG;have hx:x6+1=2:=by omega
   rw [S.vV hn h7 hx jS rfl]
 intro tL;try simp only [df] at tL
 with_reducible and_intros
 iterate 2 omega
 . intro vA;try simp only [dt] at vA
   with_reducible and_intros
   iterate 2 omega
   . intro rl;try simp only [dt] at rl
     refine⟨?_,?_⟩
     . (have hn:=S.sZ (b:=b) v! v! v!;rw [S.sh hn w! w!])
     (have hn:=S.sZ (b:=b) v! v! v!;rw [S.sh hn w! w!])
   intro yc;try simp only [df] at yc
   with_reducible and_intros
   iterate 3 omega
   . refine⟨(nat_lit 0:Nat),?_⟩;try dsimp only
     with_reducible and_intros
     omega
     . (have hn:=S.sZ (b:=b) v! v! v!;exact S.aIn v! v!)
     . (have hn:=S.sZ (b:=b) v! v! v!;exact S.VV hn w! w!)
   intro Bv py;refine⟨?_,?_⟩
   . intro IL;try simp only [dt] at IL
     with_reducible and_intros
     iterate 4 omega
     . intro h23;try simp only [nt,df,tn] at h23
       refine⟨?_,?_⟩
       . have hn:=S.sZ (b:=b) v! v! v!;have hb:=S.bN py;have hx:(Bv:Int)+1<3:=by(have hc:=S.cy b 3 w! w!;simp only [hc,show Int.toNat 3=3 by rfl] at *;omega)
         simp only [S.kj b 3 Bv hx,S.mT b 3 Bv hx] at *;rw [S.vT hn py w! v!]
       have hn:=S.sZ (b:=b) v! v! v!;have hb:=S.bN py;have hx:(Bv:Int)+1<3:=by(have hc:=S.cy b 3 w! w!;simp only [hc,show Int.toNat 3=3 by rfl] at *;omega)
       simp only [S.kj b 3 Bv hx,S.mT b 3 Bv hx] at *;rw [S.vT hn py w! v!]
     intro h24;try simp only [nf,dt,tn] at h24
     with_reducible and_intros
     iterate 2 omega
     iterate 3
      . (have hn:=S.sZ (b:=b) v! v! v!;(have hb:=S.bN py;(try simp only [S.cy b 3 w! w!,show Int.toNat 3=3 by rfl] at *);simp only [show Int.toNat 6=6 by rfl,S.ag] at *;omega))
     exact Int.natCast_nonneg _;omega
     . (have hn:=S.sZ (b:=b) v! v! v!;(have hb:=S.bN py;(try simp only [S.cy b 3 w! w!,show Int.toNat 3=3 by rfl] at *);omega))
     refine⟨(Bv+nat_lit 1),?_⟩;try dsimp only
     with_reducible and_intros
     omega
     . have hn:=S.sZ (b:=b) v! v! v!;have hb:=S.bN py;have hx:(Bv:Int)+1<3:=by(have hc:=S.cy b 3 w! w!;simp only [hc,show Int.toNat 3=3 by rfl] at *;omega)
       rw [S.kj b 3 Bv hx];exact S.VX py w!
     . have hn:=S.sZ (b:=b) v! v! v!;have hb:=S.bN py;have hx:(Bv:Int)+1<3:=by(have hc:=S.cy b 3 w! w!;simp only [hc,show Int.toNat 3=3 by rfl] at *;omega)
       simp only [S.kj b 3 Bv hx,S.mT b 3 Bv hx] at *;exact S.Qp py v! w!
     . (have hn:=S.sZ (b:=b) v! v! v!;(have hb:=S.bN py;(try simp only [S.cy b 3 w! w!,show Int.toNat 3=3 by rfl] at *);simp only [show Int.toNat 6=6 by rfl,S.ag] at *;omega))
   intro UH;try simp only [df] at UH
   with_reducible and_intros
   trivial
   . intro h26;try simp only [nt] at h26
     trivial
   . intro h27;try simp only [nf] at h27
     trivial
   . intro h28;try simp only [V.k7,nt,df] at h28
     refine⟨?_,?_⟩
     . have hn:=S.sZ (b:=b) v! v! v!;have hb:=S.bN py;have hc:=S.cy b 3 w! w!;rw [hc] at UH;have hx:Bv+1=3:=by omega
       rw [S.vU hn py hx h28 rfl]
     have hn:=S.sZ (b:=b) v! v! v!;have hb:=S.bN py;have hc:=S.cy b 3 w! w!;rw [hc] at UH;have hx:Bv+1=3:=by omega
     rw [S.vU hn py hx h28 rfl]
   intro h29;try simp only [V.dc,nf,dt] at h29
   refine⟨?_,?_⟩
   . have hn:=S.sZ (b:=b) v! v! v!;have hb:=S.bN py;have hc:=S.cy b 3 w! w!;rw [hc] at UH;have hx:Bv+1=3:=by omega
     rw [S.vV hn py hx h29 rfl]
   have hn:=S.sZ (b:=b) v! v! v!;have hb:=S.bN py;have hc:=S.cy b 3 w! w!;rw [hc] at UH;have hx:Bv+1=3:=by omega
   rw [S.vV hn py hx h29 rfl]
 intro h30;try simp only [df] at h30
 with_reducible and_intros
 iterate 2 omega
 . intro h31;try simp only [dt] at h31
   with_reducible and_intros
   iterate 2 omega
   . intro h32;try simp only [dt] at h32
     refine⟨?_,?_⟩
     . (have hn:=S.ta (b:=b) v! v! v! v!;rw [S.sh hn w! w!])
     (have hn:=S.ta (b:=b) v! v! v! v!;rw [S.sh hn w! w!])
   intro h33;try simp only [df] at h33
   with_reducible and_intros
   iterate 3 omega
   . refine⟨(nat_lit 0:Nat),?_⟩;try dsimp only
     with_reducible and_intros
     omega
     . (have hn:=S.ta (b:=b) v! v! v! v!;exact S.aIo v! v!)
     . (have hn:=S.ta (b:=b) v! v! v! v!;exact S.VV hn w! w!)
   intro Bw xH;refine⟨?_,?_⟩
   . intro h36;try simp only [dt] at h36
     with_reducible and_intros
     iterate 4 omega
     . intro h37;try simp only [nt,df,tn] at h37
       refine⟨?_,?_⟩
       . have hn:=S.ta (b:=b) v! v! v! v!;have hb:=S.bN xH;have hx:(Bw:Int)+1<4:=by(have hc:=S.cy b 4 w! w!;simp only [hc,show Int.toNat 4=4 by rfl] at *;omega)
         simp only [S.kj b 4 Bw hx,S.mT b 4 Bw hx] at *;rw [S.vT hn xH w! v!]
       have hn:=S.ta (b:=b) v! v! v! v!;have hb:=S.bN xH;have hx:(Bw:Int)+1<4:=by(have hc:=S.cy b 4 w! w!;simp only [hc,show Int.toNat 4=4 by rfl] at *;omega)
       simp only [S.kj b 4 Bw hx,S.mT b 4 Bw hx] at *;rw [S.vT hn xH w! v!]
     intro h38;try simp only [nf,dt,tn] at h38
     with_reducible and_intros
     iterate 2 omega
     iterate 3
      . (have hn:=S.ta (b:=b) v! v! v! v!;(have hb:=S.bN xH;(try simp only [S.cy b 4 w! w!,show Int.toNat 4=4 by rfl] at *);simp only [show Int.toNat 6=6 by rfl,S.ag] at *;omega))
     exact Int.natCast_nonneg _;omega
     . (have hn:=S.ta (b:=b) v! v! v! v!;(have hb:=S.bN xH;(try simp only [S.cy b 4 w! w!,show Int.toNat 4=4 by rfl] at *);omega))
     refine⟨(Bw+nat_lit 1),?_⟩;try dsimp only
     with_reducible and_intros
     omega
     . have hn:=S.ta (b:=b) v! v! v! v!;have hb:=S.bN xH;have hx:(Bw:Int)+1<4:=by(have hc:=S.cy b 4 w! w!;simp only [hc,show Int.toNat 4=4 by rfl] at *;omega)
       rw [S.kj b 4 Bw hx];exact S.VX xH w!
     . have hn:=S.ta (b:=b) v! v! v! v!;have hb:=S.bN xH;have hx:(Bw:Int)+1<4:=by(have hc:=S.cy b 4 w! w!;simp only [hc,show Int.toNat 4=4 by rfl] at *;omega)
       simp only [S.kj b 4 Bw hx,S.mT b 4 Bw hx] at *;exact S.Qp xH v! w!
     . (have hn:=S.ta (b:=b) v! v! v! v!;(have hb:=S.bN xH;(try simp only [S.cy b 4 w! w!,show Int.toNat 4=4 by rfl] at *);simp only [show Int.toNat 6=6 by rfl,S.ag] at *;omega))
   intro h39;try simp only [df] at h39
   with_reducible and_intros
   trivial
   . intro h40;try simp only [nt] at h40
     trivial
   . intro h41;try simp only [nf] at h41
     trivial
   . intro h42;try simp only [V.k7,nt,df] at h42
     refine⟨?_,?_⟩
     . have hn:=S.ta (b:=b) v! v! v! v!;have hb:=S.bN xH;have hc:=S.cy b 4 w! w!;rw [hc] at h39;have hx:Bw+1=4:=by omega
       rw [S.vU hn xH hx h42 rfl]
     have hn:=S.ta (b:=b) v! v! v! v!;have hb:=S.bN xH;have hc:=S.cy b 4 w! w!;rw [hc] at h39;have hx:Bw+1=4:=by omega
     rw [S.vU hn xH hx h42 rfl]
   intro h43;try simp only [V.dc,nf,dt] at h43
   refine⟨?_,?_⟩
   . have hn:=S.ta (b:=b) v! v! v! v!;have hb:=S.bN xH;have hc:=S.cy b 4 w! w!;rw [hc] at h39;have hx:Bw+1=4:=by omega
     rw [S.vV hn xH hx h43 rfl]
   have hn:=S.ta (b:=b) v! v! v! v!;have hb:=S.bN xH;have hc:=S.cy b 4 w! w!;rw [hc] at h39;have hx:Bw+1=4:=by omega
   rw [S.vV hn xH hx h43 rfl]
 grind[df,S.uf0]
theorem aEi(b:B8)(hp:S.small b)(hf:Vg.aL J.ei b):alO b:=by
 delta alO aa;simp [S.small] at hp;refine⟨?_,?_⟩
 . refine⟨((b),([])),?_⟩;grind[S.aBx]
 intro x1 h2;refine⟨?_,?_⟩
 . intro h3;simp at h3;with_reducible and_intros
   omega
   . (have hd:=S.Qq h2 w!;grind)
   iterate 2
    . (have hd:=S.Qq h2 w!;omega)
   refine⟨((List.drop (Int.toNat (Prod.snd (S.aX (Prod.fst x1)))) (Prod.fst x1)),(Prod.snd x1++ [Prod.fst (S.aX (Prod.fst x1))])),?_⟩;dsimp only;with_reducible and_intros
   iterate 2 rfl
   grind[S.Oi]
   . (have hd:=S.Qq h2 w!;grind[S.len,List.length_drop,lc,ln])
 grind[df,S.SX]
theorem aEj(c:Int)(hp:True)(hf:Vg.aL J.oO c):alP c:=by
 delta alP q79 aq aa ah;refine⟨?_,?_⟩
 . refine⟨(nat_lit 0:Nat),?_⟩;grind[S.oA]
 intro x1 h2;refine⟨?_,?_⟩
 . intro h3;simp at h3;with_reducible and_intros
   iterate 2 omega
   . intro h4;simp at h4;exact S.VZ (x:=x1) w! (S.V2 h4)
   intro h5;simp only [V.nR,df,tn] at h5;with_reducible and_intros
   iterate 2 omega
   refine⟨(x1+nat_lit 1),?_⟩;dsimp only;with_reducible and_intros
   omega;exact S.V0 (x:=x1) h2 w! (S.aiw h5);simp [S.ag];omega
 grind[df,S.V1]
theorem aEk(c:Int)(hp:True)(hf:Vg.aL J.oO c):alQ c:=by
 grind[alQ,S.digit]
theorem aEl(c:Int)(hp:True)(hf:Vg.aL J.oO c):alR c:=by
 delta alR q80 aq aa ah;refine⟨?_,?_⟩
 . refine⟨(nat_lit 0:Nat),?_⟩;grind[S.o9]
 intro x1 h2;refine⟨?_,?_⟩
 . intro h3;simp at h3;with_reducible and_intros
   iterate 2 omega
   . intro h4;simp at h4;with_reducible and_intros
     iterate 2
      . have hs:=(S.Ol (c:=c) (x:=x1) h2 h3 (S.V2 h4)).2;omega
     exact(S.Ol (x:=x1) h2 w! (S.V2 h4)).1
   intro h5;simp only [V.nR,df,tn] at h5;with_reducible and_intros
   iterate 2 omega
   refine⟨(x1+nat_lit 1),?_⟩;dsimp only;with_reducible and_intros
   omega;exact S.aeE (x:=x1) h2 w! (S.aiw h5);simp [S.ag];omega
 grind[df,S.aeF]
theorem aEm(c a b:Int)(hp:True)(hf:Vg.aL J.azO (c,a,b)):alS c a b:=by
 grind[alS,S.cA]
theorem aEn(c:Int)(hp:True)(hf:Vg.aL J.oO c):Xe c:=by
 delta Xe aa;grind[Xe,S.lO]
theorem aEo(c:Int)(hp:0<=c/\c<=1114111)(hf:Vg.aL J.oO c):alU c:=by
 delta alU q81 q82 q83 aq aa;refine⟨?_,?_⟩
 . simp_all[dt,S.aqw]
 intro h2;refine⟨?_,?_⟩
 . grind[S.aqx]
 intro h4;refine⟨?_,?_⟩
 . grind[S.aqy]
 grind[df,S.aqz]
theorem aEp(a b:Int)(hp:True)(hf:Vg.aL J.azP (a,b)):aDo a b:=by
 refine⟨?_,?_⟩
 . simp_all[dt,S.mU]
 grind[df,S.mU]
theorem aEq(c:Int)(hp:True)(hf:Vg.aL J.oO c):alV c:=by
 grind[alV,S.KY]
theorem aEr(c:Int)(hp:True)(hf:Vg.aL J.oO c):alW c:=by
 delta alW q84 aq;with_reducible and_intros
 trivial;grind[S.AS];intro h2;with_reducible and_intros
 trivial;iterate 2 grind
 grind[S.AT];grind[S.zh]
theorem aEs(b:B8)(n:Int)(hp:S.AR b n)(hf:Vg.aL J.azK (b,n)):alX b n:=by
 delta alX q85 aq aa ah ai;have dJ:Vg.hlen b:=hf.1.1;have Mx:Vg.hint n:=hf.2.1;clear hf;have dg:=hp;simp only [S.AR] at dg;refine⟨?_,?_⟩
 . intro h1;try simp only [dt] at h1
   grind[S.SZ]
 intro h2;try simp only [df] at h2
 with_reducible and_intros
 iterate 3 omega
 iterate 3 grind
 . have h1:=S.KZ b n 0 w!;grind[S.On]
 grind[S.On,S.qx,S.ag];intro x3 h4;refine⟨?_,?_⟩
 . intro h5;try simp only [dt] at h5
   with_reducible and_intros
   iterate 2
    . have hq:=S.Z8 v! hp;have :=(List.getD b (Int.toNat (x3:Int)) 0).toNat_lt;omega
   iterate 2 omega
   iterate 4
    . have hq:=S.Z8 v! hp;have :=(List.getD b (Int.toNat (x3:Int)) 0).toNat_lt;omega
   iterate 2 omega
   refine⟨(x3+nat_lit 1),?_⟩;try dsimp only
   with_reducible and_intros
   omega;exact S.aeJ v!
   . simp only [S.qx,S.ag] at *;omega
   simp only [S.qx,S.ag] at *;omega
 grind[df,S.aiC]
theorem aEt(b:B8)(hp:S.small b)(hf:Vg.aL J.ei b):alY b:=by
 delta alY Xf Rn IK q89 aq aa ah ai;clear hf;have dg:b.length<=1099511627776:=by grind[S.small]
 refine⟨?_,?_⟩
 . refine⟨((nat_lit 0:Nat),([])),?_⟩;grind[S.aqA]
 intro x1 h2;refine⟨?_,?_⟩
 . intro h3;try simp only [dt] at h3
   refine⟨?_,?_⟩
   . refine⟨(0,x1.1),?_⟩;with_reducible and_intros
     omega;iterate 2 rfl
     iterate 2 omega
   intro x4 h5;refine⟨?_,?_⟩
   . intro h6;try simp at h6
     with_reducible and_intros
     iterate 2 omega
     grind[S.AR,List.length_drop];trivial
     . intro h7;with_reducible and_intros
       iterate 2 (simp_all[S.V5])
       iterate 2 omega
       trivial;omega;iterate 2 (grind[S.mU])
     grind;iterate 2 omega
     refine⟨(x4.1+1,x1.1),?_⟩;with_reducible and_intros
     omega;simp_all[S.Oo,S.aeL]
     simp_all[S.Oo,S.aeM]
     iterate 2 omega
     grind[S.ag]
   intro h9;try simp only [df] at h9
   with_reducible and_intros
   . have hq:=S.qa h2 h3 h5 h9;grind
   iterate 2
    . have hq:=S.qa h2 h3 h5 h9;omega
   refine⟨((Int.toNat ((↑(Prod.fst x1):Int)+Prod.snd (S.gQ (List.drop (Prod.snd x4) b) (Prod.fst x4)))),(Prod.snd x1++ [Prod.fst (S.gQ (List.drop (Prod.snd x4) b) (Prod.fst x4))])),?_⟩;with_reducible and_intros
   . have hq:=S.qa h2 h3 h5 h9;omega
   rfl
   . have hq:=S.qa h2 h3 h5 h9;grind
   . have hq:=S.qa h2 h3 h5 h9;omega
   have hq:=S.qa h2 h3 h5 h9;grind[S.ag,S.len]
 grind[df,S.SX,List.length_drop]
theorem aEu(u:List Int)(hp:S.NC u)(hf:Vg.aL J.rj u):alZ u:=by
 delta alZ q90 aq bp aa ah ai;have aJu:Vg.hlen u:=hf.1.1;clear hf;have hq:=hp.1;refine⟨?_,?_⟩
 . refine⟨((nat_lit 0:Nat),([])),?_⟩;try dsimp only
   with_reducible and_intros
   omega;rfl;exact S.Z9 u
 intro x1 h2;refine⟨?_,?_⟩
 . intro h3;try simp only [dt] at h3
   with_reducible and_intros
   iterate 2 omega
   iterate 2 trivial
   omega
   . have :=h2.2.2;have :=S.Ot (S.bc (List.getD u (Int.toNat (x1.1:Int)) 0));omega
   . intro h4;try simp only [dt,tn] at h4
     exact S.K2 h2 h3 h4
   intro h5;try simp only [df,tn] at h5
   with_reducible and_intros
   . have :=h2.2.2;have :=S.Ot (S.bc (List.getD u (Int.toNat (x1.1:Int)) 0));omega
   iterate 2 omega
   refine⟨((Prod.fst x1+nat_lit 1),(Prod.snd x1++S.fV (S.bc (List.getD u (Int.toNat (↑(Prod.fst x1):Int)) (0:Int))))),?_⟩;try dsimp only
   with_reducible and_intros
   omega;rfl;exact S.K1 h2 h3 h5;simp only [S.ag,S.len];omega
 intro h6;try simp only [df] at h6
 exact S.Oq h2 v!
theorem aEv(b:B8)(hp:S.small b)(hf:Vg.aL J.ei b):al0 b:=by
 delta al0 Ro Xg aq aa ah ai;have dJ:Vg.hlen b:=hf.1.1;clear hf;have dg:b.length<=1099511627776:=hp;with_reducible and_intros
 omega
 . refine⟨((nat_lit 0:Nat),(([]),([]))),?_⟩;try dsimp only
   with_reducible and_intros
   omega;iterate 2 with_reducible rfl
   exact S.aBF _
 intro x1 h2;refine⟨?_,?_⟩
 . intro h3;try simp only [dt] at h3
   with_reducible and_intros
   iterate 3 omega
   trivial
   . intro h4;trivial
   . intro h5;trivial
   . intro h6;try simp only [V.k7] at h6
     with_reducible and_intros
     . (have hq:=S.pa h2 dg;simp only [lc,ln];omega)
     omega
     . (have hq:=S.pa h2 dg;omega)
     refine⟨((Prod.fst x1+nat_lit 1),((Prod.fst (Prod.snd x1)),(Prod.snd (Prod.snd x1)++ [List.getD (S.decode b) (Int.toNat (↑(Prod.fst x1):Int)) (0:Int)]))),?_⟩;try dsimp only
     with_reducible and_intros
     omega;iterate 2 with_reducible rfl
     exact S.aeN h2 h3 (S.aiE v!)
     . (have hq:=S.pa h2 dg;simp only [S.ag,S.len];omega)
   intro h7;try simp only [V.dc] at h7
   refine⟨?_,?_⟩
   . intro h8;try simp only [dt] at h8
     with_reducible and_intros
     . (have hq:=S.pa h2 dg;exact hq.1)
     . (have hq:=S.pa h2 dg;simp only [lc,ln];omega)
     omega
     . (have hq:=S.pa h2 dg;omega)
     refine⟨((Prod.fst x1+nat_lit 1),((Prod.fst (Prod.snd x1)++ [S.eU (Prod.snd (Prod.snd x1))]),([]))),?_⟩;try dsimp only
     with_reducible and_intros
     omega;iterate 2 with_reducible rfl
     exact S.aiD h2 h3 (S.S1 v!) v!
     . (have hq:=S.pa h2 dg;simp only [S.ag,S.len];omega)
   intro h9;try simp only [df] at h9
   with_reducible and_intros
   omega
   . (have hq:=S.pa h2 dg;omega)
   refine⟨((Prod.fst x1+nat_lit 1),((Prod.fst (Prod.snd x1)),(Prod.snd (Prod.snd x1)))),?_⟩;try dsimp only
   with_reducible and_intros
   omega;iterate 2 with_reducible rfl
   exact S.aeO h2 h3 (S.S1 v!) v!
   . (have hq:=S.pa h2 dg;simp only [S.ag,S.len];omega)
 intro b9;try simp only [df] at b9
 refine⟨?_,?_⟩
 . intro eG;try simp only [dt] at eG
   with_reducible and_intros
   . (have hq:=S.pa h2 dg;exact hq.1)
   . (have hq:=S.pa h2 dg;simp only [lc,ln];omega)
   exact S.aeP h2 v! v!
 intro cB;try simp only [df] at cB
 exact S.aeQ h2 v! v!
theorem aEw(s:B8)(hp:S.small s)(hf:Vg.aL J.Uh s):al1 s:=by
 delta al1 aa ah ai;have Pk:Vg.hlen s:=hf.1;clear hf;with_reducible and_intros
 omega
 . intro h1;try simp only [dt] at h1
   with_reducible and_intros
   iterate 3 omega
 . intro h2;try simp only [df] at h2
   trivial
 exact S.aeU s
theorem aEx(c:Int)(hp:True)(hf:Vg.aL J.oO c):al2 c:=by
 unfold al2;have aMe:Vg.hint c:=hf.1;clear hf;refine⟨?_,?_⟩
 . trivial
 exact S.aeV c
theorem aEy(u:List Int)(hp:S.NC u)(hf:Vg.aL J.rj u):al3 u:=by
 delta al3 Um aq aa ah ai;have aJu:Vg.hlen u:=hf.1.1;clear hf;have hq:=hp.1;refine⟨?_,?_⟩
 . refine⟨((nat_lit 0:Nat),([])),?_⟩;try dsimp only
   with_reducible and_intros
   omega;with_reducible rfl
   exact S.Z9 u
 intro x1 h2;refine⟨?_,?_⟩
 . intro h3;try simp only [dt] at h3
   with_reducible and_intros
   iterate 2 omega
   trivial
   . (have he:=S.tg hp h3;exact he.2.1)
   . (have he:=S.tg hp h3;exact he.2.2)
   omega
   . (have he:=S.tg hp h3;have :=h2.2.2;have :=S.K3 (S.bc (List.getD u (Int.toNat (x1.1:Int)) 0));omega)
   . intro h4;try simp only [dt,tn] at h4
     have he:=(S.tg hp h3).1;simp only [tn] at *;rw [<-he] at h4;exact S.K2 h2 h3 h4
   intro h5;try simp only [df,tn] at h5
   with_reducible and_intros
   . (have he:=S.tg hp h3;have :=h2.2.2;have :=S.K3 (S.bc (List.getD u (Int.toNat (x1.1:Int)) 0));omega)
   iterate 2 omega
   refine⟨((Prod.fst x1+nat_lit 1),(Prod.snd x1++S.enc (S.bc (List.getD u (Int.toNat (↑(Prod.fst x1):Int)) (0:Int))))),?_⟩;try dsimp only
   with_reducible and_intros
   omega;with_reducible rfl
   . have he:=(S.tg hp h3).1;simp only [tn] at *;rw [<-he] at h5 |-;exact S.K1 h2 h3 h5
   . (have he:=S.tg hp h3;simp only [S.ag,S.len];omega)
 intro h6;try simp only [df] at h6
 exact S.Oq h2 v!
theorem aEz(b:B8)(hp:S.small b)(hf:Vg.aL J.ei b):al5 b:=by
 delta al5 q94 q95 q96 aq aa ah ai;have dJ:Vg.hlen b:=hf.1.1;clear hf;have dg:b.length<=1099511627776:=hp;have hd0:=S.oC b;with_reducible and_intros
 omega
 . refine⟨((nat_lit 0:Nat),([])),?_⟩;try dsimp only
   with_reducible and_intros
   omega;with_reducible rfl
   exact S.aqB _
 intro x1 h2;refine⟨?_,?_⟩
 . intro h3;try simp only [dt] at h3
   refine⟨?_,?_⟩
   . refine⟨((Prod.fst x1),(Prod.fst x1)),?_⟩;try dsimp only
     with_reducible and_intros
     omega;exact S.aBG h3;omega
   intro x4 h5;with_reducible and_intros
   . intro h6;try simp only [dt] at h6
     with_reducible and_intros
     iterate 3 omega
     trivial
   . intro h7;try simp only [df] at h7
     trivial
   . intro h8;try simp only [V.BW,dt] at h8
     with_reducible and_intros
     iterate 2 omega
     refine⟨((Prod.fst x4+nat_lit 1),(Prod.fst x1)),?_⟩;try dsimp only
     with_reducible and_intros
     omega
     . rw [show x4.2=x1.1 by omega] at h5;exact S.aeR h5.1 h8.1 h8.2
     omega
     . (have :=h2.2.1;have :=h2.2.2;simp only [S.ag,S.len];omega)
   intro h9;try simp only [V.nR,df] at h9
   refine⟨?_,?_⟩
   . intro b9;try simp only [dt] at b9
     with_reducible and_intros
     iterate 2 omega
     . have hr:=h5.1.1;have hr2:=h5.1.2.1;omega
     exact S.aqC dg
     . (have :=h2.2.1;have :=h2.2.2;simp only [lc,ln];omega)
     omega
     . have hr:=h5.1.1;have hr2:=h5.1.2.1;omega
     refine⟨((Prod.fst x4+nat_lit 1),(Prod.snd x1++ [S.eU (List.take (Int.toNat (↑(Prod.fst x4):Int)-Int.toNat (↑(Prod.fst x1):Int)) (List.drop (Int.toNat (↑(Prod.fst x1):Int)) (S.decode b)))])),?_⟩;try dsimp only
     with_reducible and_intros
     omega;with_reducible rfl
     . rw [show x4.2=x1.1 by omega] at h5;exact S.aeS h2 h5.1 h9 b9
     . (have :=h2.2.1;have :=h2.2.2;simp only [S.ag,S.len];omega)
   intro eG;try simp only [df] at eG
   with_reducible and_intros
   iterate 2 omega
   refine⟨((Prod.fst x4+nat_lit 1),(Prod.snd x1)),?_⟩;try dsimp only
   with_reducible and_intros
   omega;with_reducible rfl
   . rw [show x4.2=x1.1 by omega] at h5;exact S.V6 h2 h3 h5.1 h9 eG
   have hr:=h5.1.1;have hr2:=h5.1.2.1;simp only [S.ag,S.len];omega
 intro cB;try simp only [df] at cB
 exact S.aeT h2 v!
theorem aEA(l:List B8)(hp:True)(hf:Vg.aL J.tE l):al6 l:=by
 delta al6 aq aa ah ai;have dy:Vg.hlen l:=hf.1.1;clear hf;refine⟨?_,?_⟩
 . refine⟨(nat_lit 1:Nat),?_⟩;try dsimp only
   with_reducible and_intros
   omega
   . rw [S.S0];rfl
   exact⟨O! _, .inr rfl⟩
 intro x1 h2;refine⟨?_,?_⟩
 . intro h3;try simp only [dt] at h3
   with_reducible and_intros
   iterate 3 omega
   . have :=S.zi (l:=l) x1 w! (by have :=h2.2;omega);omega
   iterate 2 omega
   refine⟨(x1+nat_lit 1),?_⟩;try dsimp only
   with_reducible and_intros
   omega;exact S.S2 l x1
   . simp only [S.si] at *;omega
   simp only [S.ag,S.len];omega
 intro h4;try simp only [df] at h4
 rw [S.V7 h2 h4]
theorem aEB(l:List B8)(hp:S.small l)(hf:Vg.fH J.H2 ())(hg:Vg.cI.ok J.Rf (l,())):al7 l:=by
 delta al7 Rp aq aa ah;have dy:Vg.hlen l:=hg.1.1;clear hf hg;have dg:l.length<=1099511627776:=hp;refine⟨?_,?_⟩
 . refine⟨((l),([])),?_⟩;try dsimp only
   with_reducible and_intros
   iterate 2 with_reducible rfl
   exact S.aqD l
 intro x1 h2;refine⟨?_,?_⟩
 . intro h3;try simp only [dt] at h3
   with_reducible and_intros
   trivial;omega
   iterate 2
    . have :=S.zk (l:=x1.1) w!;omega
   . have :=h2.2;simp only [lc,ln];omega
   . refine⟨((nat_lit 0:Nat),(([]),((Prod.fst x1),(List.getD (Prod.fst x1) (Int.toNat (↑(S.dH (Prod.fst x1)):Int)) [])))),?_⟩;try dsimp only
     with_reducible and_intros
     omega;with_reducible rfl
     exact S.aqE _ _;iterate 2 with_reducible rfl
   intro x4 h5;refine⟨?_,?_⟩
   . intro h6;try simp only [dt] at h6
     with_reducible and_intros
     iterate 3 omega
     . intro h7;try simp only [nt,df,tn] at h7
       with_reducible and_intros
       iterate 3 omega
       . have hr:=S.aeX h5.1;have :=h2.2;simp only [lc,ln];omega
       omega
       . have :=h2.2;omega
       refine⟨((Prod.fst x4+nat_lit 1),((Prod.fst (Prod.snd x4)++ [List.getD (Prod.fst x1) (Int.toNat (↑(Prod.fst x4):Int)) []]),((Prod.fst x1),(List.getD (Prod.fst x1) (Int.toNat (↑(S.dH (Prod.fst x1)):Int)) [])))),?_⟩;try dsimp only
       with_reducible and_intros
       omega;with_reducible rfl
       exact S.V8 (S.Ew h5) h6 (by simpa using h7);iterate 2 with_reducible rfl
       have e:x1.1=x4.2.2.1:=h5.2.1;simp only [S.ag,S.len,<-e];omega
     intro h8;try simp only [nf,dt,tn] at h8
     with_reducible and_intros
     omega
     . have :=h2.2;omega
     refine⟨((Prod.fst x4+nat_lit 1),((Prod.fst (Prod.snd x4)),((Prod.fst x1),(List.getD (Prod.fst x1) (Int.toNat (↑(S.dH (Prod.fst x1)):Int)) [])))),?_⟩;try dsimp only
     with_reducible and_intros
     omega;with_reducible rfl
     exact S.V9 (S.Ew h5) h6 (by simpa using h8);iterate 2 with_reducible rfl
     have e:x1.1=x4.2.2.1:=h5.2.1;simp only [S.ag,S.len,<-e];omega
   intro h9;try simp only [df] at h9
   refine⟨((Prod.fst (Prod.snd x4)),(Prod.snd x1++ [List.getD (Prod.fst x1) (Int.toNat (↑(S.dH (Prod.fst x1)):Int)) []])),?_⟩;try dsimp only
   with_reducible and_intros
   iterate 2 with_reducible rfl
   exact(S.K5 h2 h3 (S.Ew h5) h9).1;exact(S.K5 h2 h3 (S.Ew h5) h9).2
 intro b9;try simp only [df] at b9
 exact S.aeW h2 b9
theorem aEC(b:B8)(hp:S.small b)(hf:Vg.aL J.ei b):al8 b:=by
 unfold al8;have dJ:Vg.hlen b:=hf.1.1;clear hf;with_reducible and_intros
 exact hp
 . have hq:=S.xo b;simp only [S.small] at *;omega
 rfl
theorem aED(b t:B8)(hp:S.small b)(hf:Vg.aL J.O2 (b,t)):al9 b t:=by
 delta al9 aq aa ah ai;have dJ:Vg.hlen b:=hf.1.1;have Ir:Vg.hlen t:=hf.2.1;clear hf;have hq:=S.xo b;have dg:b.length<=1099511627776:=hp;with_reducible and_intros
 omega
 . refine⟨((nat_lit 0:Nat),([])),?_⟩;try dsimp only
   with_reducible and_intros
   omega;with_reducible rfl
   exact S.aeY _ _
 intro x1 h2;refine⟨?_,?_⟩
 . intro h3;try simp only [dt] at h3
   with_reducible and_intros
   iterate 3 omega
   . intro h4;try simp only [dt,tn] at h4
     with_reducible and_intros
     . (have :=h2.2.2;simp only [lc,ln];omega)
     iterate 2 omega
     refine⟨((Prod.fst x1+nat_lit 1),(Prod.snd x1++ [(↑(Prod.fst x1):Int)])),?_⟩;try dsimp only
     with_reducible and_intros
     omega;with_reducible rfl
     exact S.Qs h2 h3 h4
     . (have :=h2.2.2;simp only [S.ag,S.len];omega)
   intro h5;try simp only [df,tn] at h5
   with_reducible and_intros
   iterate 2 omega
   refine⟨((Prod.fst x1+nat_lit 1),(Prod.snd x1)),?_⟩;try dsimp only
   with_reducible and_intros
   omega;with_reducible rfl
   exact S.Qt h2 h3 h5
   . (have :=h2.2.2;simp only [S.ag,S.len];omega)
 intro h6;try simp only [df] at h6
 exact S.S3 h2 v!
theorem aEF(s:B8)(hp:True)(hf:Vg.aL J.Uh s):amb s:=by
 unfold amb;have Pk:Vg.hlen s:=hf.1;clear hf;simp
theorem aEG(a b:B8)(hp:True)(hf:Vg.aL J.Cd (a,b)):amc a b:=by
 delta amc aa ah;have Ah:Vg.hlen a:=hf.1;have dJ:Vg.hlen b:=hf.2.1;clear hf;with_reducible and_intros
 iterate 2 trivial
 . intro h1;refine⟨?_,?_⟩
   . intro h2;simp only [S.iR] at *;grind [S.cD,S.jz,S.mW]
   intro h3;simp only [S.iR] at *;grind [S.cD,S.jz,S.mW]
 intro h4;refine⟨?_,?_⟩
 . intro h5;simp only [S.iR] at *;grind [S.cD,S.jz,S.mW]
 intro h6;refine⟨?_,?_⟩
 . intro h7;simp only [S.iR] at *;grind [S.cD,S.jz,S.mW]
 intro h8;refine⟨?_,?_⟩
 . intro h9;try simp only [nt] at h9
   simp only [S.iR] at *;grind [S.cD,S.jz,S.mW]
 intro b9;try simp only [nf] at b9
 simp only [S.iR] at *;grind [S.cD,S.jz,S.mW]
theorem aEH(a b:B8)(hp:True)(hf:Vg.fH J.azQ (a,b))(hg:Vg.cI.ok J.q2q ((),())):amd a b:=by
 delta amd aa;have Ah:Vg.hlen a:=hf.1;have dJ:Vg.hlen b:=hf.2.1;clear hf hg;refine⟨?_,?_⟩
 . trivial
 exact S.aqH a b
theorem aEI(l:List B8)(hp:S.small l)(hf:Vg.fH J.azR ())(hg:Vg.cI.ok J.q3q (l,((),()))):ame l:=by
 delta ame aq aa ah ai;have dy:Vg.hlen l:=hg.1.1;clear hf hg;have dg:l.length<=1099511627776:=hp;refine⟨?_,?_⟩
 . intro h1;try simp only [dt] at h1
   exact S.La h1
 intro h2;try simp only [df] at h2
 refine⟨?_,?_⟩
 . refine⟨(nat_lit 1:Nat),?_⟩;try dsimp only
   refine⟨?_,?_⟩
   . omega
   exact S.aiF h2
 intro x3 h4;refine⟨?_,?_⟩
 . intro h5;try simp only [dt] at h5
   with_reducible and_intros
   iterate 5 omega
   . have :=h4.1;omega
   iterate 2 omega
   trivial
   . intro h6;try simp only [dt,tn] at h6
     with_reducible and_intros
     iterate 2 omega
     . refine⟨((x3),((nat_lit 1:Nat),((l),(x3)))),?_⟩;try dsimp only
       with_reducible and_intros
       iterate 2 omega
       trivial;exact S.À h4 h5 h6;omega
     intro x7 h8;refine⟨?_,?_⟩
     . intro h9;try simp only [dt,tn] at h9
       with_reducible and_intros
       iterate 2 omega
       . have q1:=h8.1.1;have q2:=h8.1.2.1;have q3:=h8.1.2.2.2.1;have q4:=h8.1.2.2.2.2.1;have q5:=h8.2;omega
       iterate 2 omega
       . have q1:=h8.1.1;have q2:=h8.1.2.1;have q3:=h8.1.2.2.2.1;have q4:=h8.1.2.2.2.2.1;have q5:=h8.2;omega
       omega
       . have q1:=h8.1.1;have q2:=h8.1.2.1;have q3:=h8.1.2.2.2.1;have q4:=h8.1.2.2.2.2.1;have q5:=h8.2;omega
       trivial
       . intro b9;try simp only [nt,df,tn] at b9
         with_reducible and_intros
         iterate 2 omega
         . have q1:=h8.1.1;have q2:=h8.1.2.1;have q3:=h8.1.2.2.2.1;have q4:=h8.1.2.2.2.2.1;have q5:=h8.2;omega
         omega
         iterate 2
          . have q1:=h8.1.1;have q2:=h8.1.2.1;have q3:=h8.1.2.2.2.1;have q4:=h8.1.2.2.2.2.1;have q5:=h8.2;omega
         omega;have q1:=h8.1.1;have q2:=h8.1.2.1;have q3:=h8.1.2.2.2.1;have q4:=h8.1.2.2.2.2.1;have q5:=h8.2;omega
       . intro eG;try simp only [nf,dt,tn] at eG
         trivial
       iterate 2 omega
       refine⟨((Int.toNat (bif !Decidable.decide (List.getD (Prod.fst (Prod.snd (Prod.snd x7))) (Int.toNat (↑x3:Int)+Int.toNat (↑(Prod.fst (Prod.snd x7)):Int)) []=List.getD (Prod.fst (Prod.snd (Prod.snd x7))) (Int.toNat (↑x3:Int)+Int.toNat ((↑(Prod.fst (Prod.snd x7)):Int)-(1:Int))) []) then(↑(Prod.fst x7):Int)+(1:Int) else(↑(Prod.fst x7):Int))),((Prod.fst (Prod.snd x7)+nat_lit 1),((bif !Decidable.decide (List.getD (Prod.fst (Prod.snd (Prod.snd x7))) (Int.toNat (↑x3:Int)+Int.toNat (↑(Prod.fst (Prod.snd x7)):Int)) []=List.getD (Prod.fst (Prod.snd (Prod.snd x7))) (Int.toNat (↑x3:Int)+Int.toNat ((↑(Prod.fst (Prod.snd x7)):Int)-(1:Int))) []) then List.set (Prod.fst (Prod.snd (Prod.snd x7))) (Int.toNat (↑(Prod.fst x7):Int)) (List.getD (Prod.fst (Prod.snd (Prod.snd x7))) (Int.toNat (↑x3:Int)+Int.toNat (↑(Prod.fst (Prod.snd x7)):Int)) []) else Prod.fst (Prod.snd (Prod.snd x7))),(x3)))),?_⟩;try dsimp only
       with_reducible and_intros
       . generalize (!decide (List.getD x7.2.2.1 (Int.toNat (x3:Int)+Int.toNat (x7.2.1:Int)) []=List.getD x7.2.2.1 (Int.toNat (x3:Int)+Int.toNat ((x7.2.1:Int)-1)) []))=c;cases c<;>simp only [L!,Q!]<;>omega
       omega;trivial
       . have q1:=h8.1.1;have e3:x7.2.2.2=x3:=by have :=h8.2;omega
         have hi:=h8.1;rw [e3] at hi;have e1:Int.toNat (x3:Int)+Int.toNat (x7.2.1:Int)=x3+x7.2.1:=by omega
         have e2:Int.toNat (x3:Int)+Int.toNat ((x7.2.1:Int)-1)=x3+x7.2.1-1:=by omega
         rw [e1,e2];by_cases hd:List.getD x7.2.2.1 (x3+x7.2.1) []=List.getD x7.2.2.1 (x3+x7.2.1-1) []
         . rw [S? hd];exact S.Lb hi w! hd
         rw [a? hd];exact S.Ox hi w! hd
       omega;simp only [S.ag,S.len];have q2:=h8.1.2.1;omega
     intro cB;try simp only [df,tn] at cB
     with_reducible and_intros
     omega
     iterate 2
      . have q1:=h8.1.2.1;have q2:=h8.1.2.2.2.1;have q3:=h8.1.2.2.2.2.1;omega
     omega
     . have q1:=h8.1.2.1;have q2:=h8.1.2.2.2.1;have q3:=h8.1.2.2.2.2.1;simp only [C!,X!];omega
     have q1:=h8.1.2.1;have q2:=h8.1.2.2.2.1;have q3:=h8.1.2.2.2.2.1;have e1:Int.toNat (x7.1:Int)=x7.1:=by omega
     rw [e1,S.HP w!];exact S.Oy h8.1 (by have :=h8.2;omega)
   intro gZ;try simp only [df,tn] at gZ
   with_reducible and_intros
   iterate 2 omega
   refine⟨(x3+nat_lit 1),?_⟩;try dsimp only
   with_reducible and_intros
   omega;exact S.Ov h4 h5 gZ;simp only [S.ag,S.len];omega
 intro dK;try simp only [df] at dK
 exact S.S6 h4 dK
theorem aEJ(l:List B8)(hp:S.small l)(hf:Vg.fH J.azT l)(hg:Vg.cI.ok J.Br ()):amf l:=by
 unfold amf;have dy:Vg.hlen l:=hf.1.1;clear hf hg;with_reducible and_intros
 iterate 2 exact hp
 exact S.QA hp;rfl
theorem aEK(b:B8)(hp:S.small b)(hf:Vg.aL J.ei b):amg b:=by
 unfold amg;have dJ:Vg.hlen b:=hf.1.1;clear hf;with_reducible and_intros
 exact hp;exact S.Qz hp;exact S.Lc _
theorem aEL(l:List B8)(hp:True)(hf:Vg.aL J.tE l):ami l:=by
 delta ami q98 aq aa ah ai;have dy:Vg.hlen l:=hf.1.1;clear hf;refine⟨?_,?_⟩
 . refine⟨(nat_lit 0:Nat),?_⟩;try dsimp only
   refine⟨?_,?_⟩
   . omega
   exact S.aqL l
 intro x1 h2;refine⟨?_,?_⟩
 . intro h3;try simp only [dt] at h3
   with_reducible and_intros
   iterate 2 omega
   . intro h4;try simp only [nt,df,tn] at h4
     exact S.ae4 h3 h4
   intro h5;try simp only [nf,dt,tn] at h5
   with_reducible and_intros
   iterate 2 omega
   refine⟨(x1+nat_lit 1),?_⟩;try dsimp only
   with_reducible and_intros
   omega;exact S.Wf h2 h3 h5;simp only [S.ag,S.len];omega
 intro h6;try simp only [df] at h6
 exact S.ae5 h2 v!
theorem aEM(a b:B8)(hp:True)(hf:Vg.aL J.Cd (a,b)):amj a b:=by
 unfold amj;have Ah:Vg.hlen a:=hf.1;have dJ:Vg.hlen b:=hf.2.1;clear hf;refine⟨?_,?_⟩
 . trivial
 rfl
theorem aEN(s:List B8)(hp:S.vZ s)(hf:Vg.fH J.H2 ())(hg:Vg.cI.ok J.Rf (s,())):aml s:=by
 delta aml q99 aq aa ah ai;have Pk:Vg.hlen s:=hg.1.1;clear hf hg;have h1:=hp.1;have h2:=hp.2;with_reducible and_intros
 iterate 10 omega
 trivial;iterate 6 omega
 . rw [List.length_set];omega
 exact S.aqK hp
theorem aEO(l:List B8)(hp:S.bJ l)(hf:Vg.aL J.O3 l):amm l:=by
 delta amm aq aa ah ai;have dy:Vg.hlen l:=hf.1.1;clear hf;have h1:=hp.1;refine⟨?_,?_⟩
 . refine⟨(nat_lit 0:Nat),?_⟩;try dsimp only
   with_reducible and_intros
   omega;rfl;simp only [S.gp,S.ag,S.len] at *;omega
 intro x1 h2;refine⟨?_,?_⟩
 . intro h3;try simp only [dt] at h3
   with_reducible and_intros
   iterate 2 omega
   exact S.HH hp v!
   . have :=S.B3 l x1;simp only [lc,ln];omega
   iterate 2 omega
   refine⟨(x1+nat_lit 1),?_⟩;try dsimp only
   with_reducible and_intros
   omega;exact S.EC v!
   . simp only [S.gp,S.ag,S.len] at *;omega
   simp only [S.gp,S.ag,S.len] at *;omega
 intro h4;try simp only [df] at h4
 exact S.HG v!
theorem aEP(l:List B8)(hp:S.b7 l)(hf:Vg.aL J.tE l):amn l:=by
 delta amn aq aa ah ai;have dy:Vg.hlen l:=hf.1.1;clear hf;have dg:=hp.2;refine⟨?_,?_⟩
 . intro h1;try simp only [dt] at h1
   refine⟨?_,?_⟩
   . exact K! _
   exact S.OC h1
 intro h2;try simp only [df] at h2
 refine⟨?_,?_⟩
 . refine⟨((nat_lit 0:Nat),([])),?_⟩;try dsimp only
   with_reducible and_intros
   omega;with_reducible rfl
   exact S.aqI l
 intro x3 h4;refine⟨?_,?_⟩
 . intro h5;try simp only [dt] at h5
   with_reducible and_intros
   iterate 2 omega
   . have :=S.S9 h4;simp only [lc,ln];omega
   . refine⟨(0,x3.1,x3.2++ [List.getD l (Int.toNat (x3.1:Int)) []],x3.1),?_⟩;try dsimp only
     with_reducible and_intros
     omega;with_reducible rfl
     exact S.aBI h4 h5;omega
   intro x6 h7;with_reducible and_intros
   iterate 2 omega
   . intro h8;try simp only [dt] at h8
     with_reducible and_intros
     exact S.aiL (S.I6 h7) h8 hp;iterate 2 omega
     refine⟨(x6.1+1,x6.2.1/2,S.comb x6.2.2.1,x3.1),?_⟩;try dsimp only
     with_reducible and_intros
     . simp only [show Int.toNat 1=1 by rfl];omega
     with_reducible rfl
     exact(S.Gk (S.I6 h7) h8).1;omega;exact(S.Gk (S.I6 h7) h8).2.1
   intro h9;try simp only [df] at h9
   with_reducible and_intros
   iterate 2 omega
   refine⟨((Prod.fst x3+nat_lit 1),(Prod.fst (Prod.snd (Prod.snd x6)))),?_⟩;try dsimp only
   with_reducible and_intros
   omega;with_reducible rfl
   exact S.aiH (S.I6 h7) h9;simp only [S.ag,S.len];omega
 intro b9;try simp only [df] at b9
 refine⟨?_,?_⟩
 . refine⟨(Prod.snd x3),?_⟩;try dsimp only
   refine⟨?_,?_⟩
   . with_reducible rfl
   exact S.aBJ h4 b9 h2
 intro x11 cB;refine⟨?_,?_⟩
 . intro gZ;try simp only [dt] at gZ
   refine⟨?_,?_⟩
   . have :=S.aiK cB;exact⟨w!,w!⟩
   refine⟨(S.comb x11),?_⟩;try dsimp only
   with_reducible and_intros
   with_reducible rfl
   exact(S.OB cB gZ).1;exact(S.OB cB gZ).2
 intro dK;try simp only [df] at dK
 with_reducible and_intros
 omega
 iterate 2
  . have :=(S.S7 cB dK).2;omega
 exact(S.S7 cB dK).1
theorem aEQ(l:List B8)(hp:S.small l)(hf:Vg.aL J.tE l):amo l:=by
 delta amo aa ah;have dy:Vg.hlen l:=hf.1.1;clear hf;have dg:l.length<=1099511627776:=hp;with_reducible and_intros
 trivial
 . intro h1;try simp only [nt] at h1
   refine⟨?_,?_⟩
   . grind [S.iy,S.lH,S.b7]
   grind [S.iy,S.lH,S.b7]
 intro h2;try simp only [nf] at h2
 with_reducible and_intros
 trivial;iterate 2 (grind [S.iy,S.lH,S.b7])
theorem aER(n:Int)(hp:True)(hf:Vg.aL J.oO n):amq n:=by
 delta amq amh aq aa ah;have Mx:Vg.hint n:=hf.1;clear hf;refine⟨?_,?_⟩
 . intro h1;try simp only [V.k7,dt] at h1
   exact S.S8 v!
 intro h2;try simp only [V.dc,df] at h2
 refine⟨?_,?_⟩
 . refine⟨(0,1),?_⟩;try dsimp only
   refine⟨?_,?_⟩
   . omega
   exact S.HF h2.1
 intro x3 h4;with_reducible and_intros
 iterate 2
  . (have :=S.gD h4;omega)
 . intro h5;try simp only [dt] at h5
   with_reducible and_intros
   . (have :=S.gD h4;omega)
   omega;refine⟨(x3.1+1,2*x3.2),?_⟩;try dsimp only
   with_reducible and_intros
   omega
   . (have :=S.gD h4;exact(S.zr h4 h5).1)
   . (have :=S.gD h4;omega)
 intro h6;try simp only [df] at h6
 (have :=S.gD h4;exact S.B2 h4 h2.1 h2.2 h6)
theorem aES(m:Nat)(l:List B8)(hm:S.len l<m+1)(hp:S.b7 l)(hf:Vg.aL J.tE l):amr m l:=by
 delta amr amk aa ah ai;have dy:Vg.hlen l:=hf.1.1;clear hf;refine⟨?_,?_⟩
 . intro h1;try simp only [dt] at h1
   refine⟨?_,?_⟩
   . exact K! _
   exact S.OC h1
 intro h2;try simp only [df] at h2
 refine⟨?_,?_⟩
 . intro h3;try simp only [dt] at h3
   with_reducible and_intros
   iterate 2 omega
   exact(S.Gj w!).symm
 intro h4;try simp only [df] at h4
 with_reducible and_intros
 trivial
 iterate 3
  . (have hq:=S.oF hp w!;simp only [S.len] at *;omega)
 . (have hq:=S.oF hp w!;exact hq.2.2.1)
 iterate 3
  . (have hq:=S.oF hp w!;simp only [S.len] at *;omega)
 . (have hq:=S.oF hp w!;exact hq.2.2.2.2.1)
 . (have hq:=S.oF hp w!;exact hq.2.2.2.2.2.1)
 . (have hq:=S.oF hp w!;exact hq.2.2.2.2.2.2)
theorem aET(l:List B8)(hp:S.bJ l)(hf:Vg.aL J.O3 l):ams l:=by
 delta ams aq aa ah ai;have dy:Vg.hlen l:=hf.1.1;clear hf;have h1:=hp.1;refine⟨?_,?_⟩
 . refine⟨(nat_lit 0:Nat),?_⟩;try dsimp only
   with_reducible and_intros
   omega;rfl;simp only [S.gp,S.ag,S.len] at *;omega
 intro x1 h2;refine⟨?_,?_⟩
 . intro h3;try simp only [dt] at h3
   with_reducible and_intros
   iterate 2 omega
   exact S.HH hp v!
   . have :=S.B3 l x1;simp only [lc,ln];omega
   iterate 2 omega
   refine⟨(x1+nat_lit 1),?_⟩;try dsimp only
   with_reducible and_intros
   omega;exact S.EC v!
   . simp only [S.gp,S.ag,S.len] at *;omega
   simp only [S.gp,S.ag,S.len] at *;omega
 intro h4;try simp only [df] at h4
 exact S.HG v!
theorem aEU(n:Int)(hp:True)(hf:Vg.aL J.oO n):amu n:=by
 delta amu amp aq aa ah;have Mx:Vg.hint n:=hf.1;clear hf;refine⟨?_,?_⟩
 . intro h1;try simp only [V.k7,dt] at h1
   exact S.S8 v!
 intro h2;try simp only [V.dc,df] at h2
 refine⟨?_,?_⟩
 . refine⟨(0,1),?_⟩;try dsimp only
   refine⟨?_,?_⟩
   . omega
   exact S.HF h2.1
 intro x3 h4;with_reducible and_intros
 iterate 2
  . (have :=S.gD h4;omega)
 . intro h5;try simp only [dt] at h5
   with_reducible and_intros
   . (have :=S.gD h4;omega)
   omega;refine⟨(x3.1+1,2*x3.2),?_⟩;try dsimp only
   with_reducible and_intros
   omega
   . (have :=S.gD h4;exact(S.zr h4 h5).1)
   . (have :=S.gD h4;omega)
 intro h6;try simp only [df] at h6
 (have :=S.gD h4;exact S.B2 h4 h2.1 h2.2 h6)
theorem aEV(l:List B8)(i:Int)(hp:S.nN l)(hf:Vg.aL J.H4 (l,i)):amw l i:=by
 delta amw Fb amt Un aq aa ah ai;have dy:Vg.hlen l:=hf.1.1;have My:Vg.hint i:=hf.2.1;clear hf;have dg:l.length<=1099511627776:=hp;with_reducible and_intros
 trivial
 . intro h1;try simp only [V.k7,nt,dt] at h1
   refine⟨?_,?_⟩
   . exact(S.ajK h1).1
   exact(S.ajK h1).2
 intro h2;try simp only [V.dc,nf,df] at h2
 refine⟨?_,?_⟩
 . refine⟨((l),((i),([]))),?_⟩;try dsimp only
   with_reducible and_intros
   iterate 3 with_reducible rfl
   exact S.afC h2
 intro x3 h4;refine⟨?_,?_⟩
 . intro h5;try simp only [dt] at h5
   with_reducible and_intros
   trivial
   . intro h6;try simp only [dt] at h6
     with_reducible and_intros
     iterate 2
      . (have q:=S.B9 dg h4 h5;omega)
     . (have q:=S.B9 dg h4 h5;exact q.2.2.1)
     . (have q:=S.B9 dg h4 h5;exact q.2.2.2.1 _)
     iterate 2
      . (have q:=S.B9 dg h4 h5;omega)
     refine⟨((List.take (Int.toNat (S.split (↑(List.length (Prod.fst x3)):Int))) (Prod.fst x3)),((Prod.fst (Prod.snd x3)),(Prod.snd (Prod.snd x3)++ [S.root (List.drop (Int.toNat (S.split (↑(List.length (Prod.fst x3)):Int))) (Prod.fst x3))]))),?_⟩;try dsimp only
     with_reducible and_intros
     iterate 3 with_reducible rfl
     exact S.aB1 dg h4 h5 h6
     . (have q:=S.B9 dg h4 h5;omega)
   intro h7;try simp only [df] at h7
   with_reducible and_intros
   iterate 2
    . (have q:=S.B9 dg h4 h5;omega)
   . (have q:=S.B9 dg h4 h5;exact q.2.1)
   . (have q:=S.B9 dg h4 h5;exact q.2.2.2.1 _)
   iterate 4
    . (have q:=S.B9 dg h4 h5;omega)
   refine⟨((List.drop (Int.toNat (S.split (↑(List.length (Prod.fst x3)):Int))) (Prod.fst x3)),((Prod.fst (Prod.snd x3)-S.split (↑(List.length (Prod.fst x3)):Int)),(Prod.snd (Prod.snd x3)++ [S.root (List.take (Int.toNat (S.split (↑(List.length (Prod.fst x3)):Int))) (Prod.fst x3))]))),?_⟩;try dsimp only
   with_reducible and_intros
   iterate 3 with_reducible rfl
   exact S.aB2 dg h4 h5 h7
   . (have q:=S.B9 dg h4 h5;omega)
 intro h8;try simp only [df] at h8
 with_reducible and_intros
 exact S.aB3 dg h4;exact(S.Ù h2 h4 (by assumption)).1;exact(S.Ù h2 h4 (by assumption)).2
theorem aEW(l:List B8)(hp:S.small l)(hf:Vg.aL J.tE l):amx l:=by
 unfold amx;have dy:Vg.hlen l:=hf.1.1;clear hf;refine⟨?_,?_⟩
 . omega
 rfl
theorem aEX(m:Nat)(l:List B8)(n:Int)(p:Bool)(hm:S.len l<m+1)(hp:S.fC l n)(hf:Vg.aL J.ċ (l,n,p)):amz m l n p:=by
 delta amz Fc amv amy Uo aq aa ai;have dy:Vg.hlen l:=hf.1.1;have Mx:Vg.hint n:=hf.2.1;clear hf;have gH:l.length<=1099511627776:=hp.1.2;have hd:=hp.1.1;refine⟨?_,?_⟩
 . intro h1;try simp only [dt] at h1
   refine⟨?_,?_⟩
   . intro h2;try simp only [nt] at h2
     rw [S.qi w!];simp_all [S.iy]
   intro h3;try simp only [nf] at h3
   refine⟨?_,?_⟩
   . exact gH
   rw [S.qi w!];simp_all [S.iy]
 intro h4;try simp only [df] at h4
 with_reducible and_intros
 trivial
 . intro h5;try simp only [dt] at h5
   with_reducible and_intros
   iterate 3
    . (have q:=S.kM hp (by assumption);omega)
   . (have q:=S.kM hp (by assumption);exact(q.2.2.2.2.2.1 (by assumption)).1)
   iterate 2
    . (have q:=S.kM hp (by assumption);omega)
   . (have q:=S.kM hp (by assumption);exact q.2.1.2.2.2)
   . (have q:=S.kM hp (by assumption);exact q.2.2.1 _ _)
   . (have q:=S.kM hp (by assumption);rw [q.2.2.2.2.2.2.2.2];exact(q.2.2.2.2.2.1 (by assumption)).2 _)
 intro h6;try simp only [df] at h6
 with_reducible and_intros
 iterate 2
  . (have q:=S.kM hp (by assumption);omega)
 omega
 iterate 2
  . (have q:=S.kM hp (by assumption);omega)
 . (have q:=S.kM hp (by assumption);exact(q.2.2.2.2.2.2.1 (by assumption)).1)
 iterate 2
  . (have q:=S.kM hp (by assumption);omega)
 . (have q:=S.kM hp (by assumption);exact q.2.1.2.2.1)
 . (have q:=S.kM hp (by assumption);exact q.2.2.2.1 _ _)
 . (have q:=S.kM hp (by assumption);rw [q.2.2.2.2.2.2.2.1];exact(q.2.2.2.2.2.2.1 (by assumption)).2 _)
theorem aEY(l:List B8)(m:Int)(hp:S.nN l)(hf:Vg.aL J.H4 (l,m)):amB l m:=by
 delta amB Ia aa ah ai;have dy:Vg.hlen l:=hf.1.1;have Mz:Vg.hint m:=hf.2.1;clear hf;have dg:l.length<=1099511627776:=hp;with_reducible and_intros
 exact dg
 . intro h1;try simp only [V.k7,nt,df,dt] at h1
   refine⟨?_,?_⟩
   . exact(S.ajL h1).1
   exact(S.ajL h1).2
 intro h2;try simp only [V.dc,nf,dt,df] at h2
 refine⟨?_,?_⟩
 . intro h3;try simp only [dt] at h3
   refine⟨?_,?_⟩
   . (have q:=S.EZ dg h2;exact(q.2.1 (by assumption)).symm)
   (have q:=S.EZ dg h2;exact q.1.symm)
 intro h4;try simp only [df] at h4
 with_reducible and_intros
 . (have q:=S.EZ dg h2;exact(q.2.2 (by assumption)).1)
 . (have q:=S.EZ dg h2;exact(q.2.2 (by assumption)).2)
 . (have q:=S.EZ dg h2;exact q.1.symm)
theorem aE0(m:Nat)(l:List B8)(n:Int)(w:Bool)(hm:S.len l<m+1)(hp:S.fC l n)(hf:Vg.aL J.ċ (l,n,w)):amF m l n w:=by
 delta amF Ib amA amC Up aq aa ai;have dy:Vg.hlen l:=hf.1.1;have Mx:Vg.hint n:=hf.2.1;clear hf;have gH:l.length<=1099511627776:=hp.1.2;have hd:=hp.1.1;unfold S.mz;refine⟨?_,?_⟩
 . intro h1;try simp only [dt] at h1
   refine⟨?_,?_⟩
   . intro h2;rw [S.qi w!];simp_all
   intro h3;refine⟨?_,?_⟩
   . exact hp.1
   rw [S.qi w!];simp_all
 intro h4;try simp only [df] at h4
 with_reducible and_intros
 trivial
 . intro h5;try simp only [dt] at h5
   with_reducible and_intros
   iterate 3
    . (have q:=S.kM hp (by assumption);omega)
   . (have q:=S.kM hp (by assumption);exact(q.2.2.2.2.2.1 (by assumption)).1)
   iterate 2
    . (have q:=S.kM hp (by assumption);omega)
   . (have q:=S.kM hp (by assumption);exact q.2.1.2.1)
   . (have q:=S.kM hp (by assumption);exact q.2.2.1 _ _)
   . (have q:=S.kM hp (by assumption);exact(q.2.2.2.2.2.1 (by assumption)).2 _)
 intro h6;try simp only [df] at h6
 with_reducible and_intros
 iterate 2
  . (have q:=S.kM hp (by assumption);omega)
 omega
 iterate 2
  . (have q:=S.kM hp (by assumption);omega)
 . (have q:=S.kM hp (by assumption);exact(q.2.2.2.2.2.2.1 (by assumption)).1)
 iterate 2
  . (have q:=S.kM hp (by assumption);omega)
 . (have q:=S.kM hp (by assumption);exact q.2.1.1)
 . (have q:=S.kM hp (by assumption);exact q.2.2.2.1 _ _)
 . (have q:=S.kM hp (by assumption);exact(q.2.2.2.2.2.2.1 (by assumption)).2 _)
theorem aE1(l:List B8)(m:Int)(hp:S.rf l m)(hf:Vg.aL J.H4 (l,m)):amG l m:=by
 delta amG aa;have dy:Vg.hlen l:=hf.1.1;have Mz:Vg.hint m:=hf.2.1;clear hf;refine⟨?_,?_⟩
 . intro h1;try simp only [dt] at h1
   exact(S.rcp hp).1 (by assumption)
 intro h2;try simp only [df] at h2
 refine⟨?_,?_⟩
 . exact((S.rcp hp).2 (by assumption)).1
 exact((S.rcp hp).2 (by assumption)).2
theorem aE2(l:List Int)(hp:True)(hf:Vg.aL J.rj l):amI l:=by
 delta amI Ic aq aa ah ai;have dy:Vg.hlen l:=hf.1.1;clear hf;refine⟨?_,?_⟩
 . refine⟨(nat_lit 0:Nat),?_⟩;try dsimp only
   with_reducible and_intros
   omega;exact(S.v8 l).symm;exact S.Á l
 intro x1 h2;refine⟨?_,?_⟩
 . intro h3;try simp only [dt] at h3
   with_reducible and_intros
   iterate 2 omega
   . intro h4;try simp only [V.k7,dt,tn] at h4
     exact S.OD h3 h4
   intro h5;try simp only [V.dc,df,tn] at h5
   with_reducible and_intros
   iterate 2 omega
   refine⟨(x1+nat_lit 1),?_⟩;try dsimp only
   with_reducible and_intros
   omega;rw [S.oG,tn];exact S.Lg h2 h3 h5;simp only [S.ag,S.len];omega
 intro h6;try simp only [df] at h6
 exact S.OE h2 v!
theorem asl(l:List Int)(hp:True)(hf:Vg.aL J.rj l):ė l:=by
 delta ė Ie aq bp aa ah ai;have dy:Vg.hlen l:=hf.1.1;clear hf;with_reducible and_intros
 trivial
 . intro h1;try simp only [nt] at h1
   refine⟨?_,?_⟩
   . simp only [S.og,S.nk,h1];rfl
   simp only [S.og,S.nk,h1];rfl
 intro h2;try simp only [nf] at h2
 with_reducible and_intros
 exact K! _
 . refine⟨(nat_lit 0:Nat),?_⟩;try dsimp only
   with_reducible and_intros
   omega;exact(S.v8 l).symm
   . have :=S.oH h2;rw [S.OF w! w!,S.Gl]
   omega
 intro x3 h4;refine⟨?_,?_⟩
 . intro h5;try simp only [dt] at h5
   with_reducible and_intros
   iterate 2 omega
   iterate 4
    . have :=S.AY h2 h5;omega
   exact K! _
   . have :=(S.vo h2 h5 (List.getD l (Int.toNat (x3:Int)) 0-S.fW l x3-1)).1;omega
   iterate 2 omega
   refine⟨(x3+nat_lit 1),?_⟩;try dsimp only
   with_reducible and_intros
   omega;rw [S.oG,tn];exact S.Lh h2 h5;omega;simp only [S.ag,S.len];omega
 intro h6;try simp only [df] at h6
 refine⟨?_,?_⟩
 . simp only [S.og,h2];rfl
 rw [show x3=l.length by omega];exact S.ae7 h2
theorem asm(l:List Int)(hp:True)(hf:Vg.aL J.rj l):Ę l:=by
 delta Ę aa;have dy:Vg.hlen l:=hf.1.1;clear hf;with_reducible and_intros
 trivial
 . intro h1;try simp only [nt,df] at h1
   refine⟨?_,?_⟩
   . have hq:S.bK l=false :=by
      cases hr:S.bK l with
      |false=>rfl
      |true=>exact absurd (by simp only [S.og,hr];rfl) h1
     simp only [S.vn,hq];rfl
   rfl
 intro h2;try simp only [nf,dt] at h2
 with_reducible and_intros
 iterate 2
  . have hq:S.bK l=true :=by
     cases hr:S.bK l with
     |true=>rfl
     |false=>simp only [S.og,hr] at h2;exact absurd h2 (by decide)
    have hl:=S.Li hq;simp only [S.nk,S.vn,hq,K?,S.bj];try (first|rfl|omega)
 omega
theorem asn(n:Int)(p q:Bool)(s1 s2:Int)(hp:True)(hf:Vg.fH J.azU (n,p,q))(hg:Vg.cI.ok J.q5q ((s1,s2),())):ę n p q s1 s2:=by
 unfold ę;have Mx:Vg.hint n:=hf.1;have kB:Vg.hint s1:=hg.1.1;have kC:Vg.hint s2:=hg.1.2.1;clear hf hg;with_reducible and_intros
 . simp only [S.ti];grind
 iterate 2 rfl
theorem aso(a b:List Int)(s1 s2:Int)(hp:b.length=0)(hf:Vg.fH J.azV (a,b))(hg:Vg.cI.ok J.q5q ((s1,s2),())):Ě a b s1 s2:=by
 delta Ě amE Uq Ig Ih amH Ė Ur aa ah;have hb:b= []:=List.eq_nil_of_length_eq_zero hp;subst hb;have ha:Vg.hlen a:=hf.1.1;clear hf hg;refine⟨trivial,trivial,?_,?_⟩
 . refine⟨(S.okL a,[]),⟨?_,?_,rfl,rfl,rfl⟩,S.aqM a s1 s2⟩
   . simp only [S.okL];cases S.bK a<;>rfl
   simp [S.iz]
 rintro⟨r,out⟩ h;have hl:=h.2;cases r with
 |nil=>simp [S.iz];exact S.ae9 h
 |cons n r=>
  simp [S.iz];refine⟨w!,fun hn=>⟨?_,?_⟩,fun hn=> ?_⟩
  . simp at hl;omega
  . exact⟨r,out++ [n],⟨rfl,rfl⟩,S.ae8 h hn,by simp [S.len]⟩
  exact⟨r,out,⟨rfl,rfl⟩,S.aiN h hn,by simp [S.len]⟩
theorem asp(l:List Int)(s1 s2:Int)(hp:True)(hf:Vg.aL J.azW (l,s1,s2)):ě l s1 s2:=by
 unfold ě;have dy:Vg.hlen l:=hf.1.1;have kB:Vg.hint s1:=hf.2.1;have kC:Vg.hint s2:=hf.2.2.1;clear hf;refine⟨?_,?_⟩
 . rfl
 rfl
theorem asr(l:List Int)(hp:S.bK l=true)(hf:Vg.aL J.rj l):ğ l:=by
 delta ğ uF aq bp aa ah ai;have dy:Vg.hlen l:=hf.1.1;clear hf;with_reducible and_intros
 omega
 . refine⟨(nat_lit 0:Nat),?_⟩;try dsimp only
   with_reducible and_intros
   omega;exact(S.Gl l).symm;omega
 intro x1 h2;refine⟨?_,?_⟩
 . intro h3;try simp only [dt] at h3
   refine⟨?_,?_⟩
   . intro h4;try simp only [dt] at h4
     with_reducible and_intros
     iterate 2 omega
     . have :=S.AY hp h3;rw [show(x1:Int)=0 by omega] at this;exact this.2.2
     . have :=(S.vo hp h3 (List.getD l (Int.toNat 0) 0)).2;omega
     iterate 2 omega
     refine⟨(x1+nat_lit 1),?_⟩;try dsimp only
     with_reducible and_intros
     omega;exact S.Qx h4;omega;simp only [S.ag,S.len];omega
   intro h5;try simp only [df] at h5
   with_reducible and_intros
   iterate 6 omega
   iterate 5
    . have :=S.AY hp h3;have :=S.AX (S.Qw (k:=x1) hp w!);rw [S.xq w!];omega
   . have :=(S.vo hp h3 (List.getD l (Int.toNat (x1:Int)) 0-List.getD l (Int.toNat ((x1:Int)-1)) 0-1)).2;omega
   iterate 2 omega
   refine⟨(x1+nat_lit 1),?_⟩;try dsimp only
   with_reducible and_intros
   omega;exact S.Tb h5;omega;simp only [S.ag,S.len];omega
 intro h6;try simp only [df] at h6
 rw [show x1=l.length by omega];rfl
theorem ass(l:List Int)(hp:S.bK l=true)(hf:Vg.aL J.rj l):Ġ l:=by
 unfold Ġ;have dy:Vg.hlen l:=hf.1.1;clear hf;with_reducible and_intros
 exact hp
 . have :=S.Li hp;simp only [S.bj];omega
 rfl
theorem ast(a b:List Int)(hp:True)(hf:Vg.aL J.Č (a,b)):ġ a b:=by
 delta ġ aq aa ah ai;have Ah:Vg.hlen a:=hf.1.1;have dJ:Vg.hlen b:=hf.2.1.1;clear hf;refine⟨?_,?_⟩
 . intro h1;try simp only [nt,df] at h1
   exact S.afb h1
 intro h2;try simp only [nf,dt] at h2
 refine⟨?_,?_⟩
 . refine⟨(nat_lit 0:Nat),?_⟩;try dsimp only
   refine⟨?_,?_⟩
   . omega
   exact S.aqN h2
 intro x3 h4;refine⟨?_,?_⟩
 . intro h5;try simp only [dt] at h5
   with_reducible and_intros
   iterate 4 omega
   . intro h6;try simp only [nt,df,tn] at h6
     exact S.afa h6
   intro h7;try simp only [nf,dt,tn] at h7
   with_reducible and_intros
   iterate 2 omega
   refine⟨(x3+nat_lit 1),?_⟩;try dsimp only
   with_reducible and_intros
   omega;exact S.Wh h4 h5 h7;simp only [S.ag,S.len];omega
 intro h8;try simp only [df] at h8
 exact S.afc h4 h8
theorem asu(d:List (B8×List Int))(hp:S.aQ d)(hf:Vg.aL J.rG d):Ģ d:=by
 delta Ģ amJ amK amL aq aa ah ai;have uJ:Vg.hlen d:=hf.1.1;clear hf;have dg:=hp.1;refine⟨?_,?_⟩
 . refine⟨(nat_lit 0:Nat),?_⟩;try dsimp only
   refine⟨?_,?_⟩
   . omega
   exact S.aIq d
 intro x1 h2;refine⟨?_,?_⟩
 . intro h3;try simp only [dt] at h3
   with_reducible and_intros
   iterate 2 omega
   . intro h4;try simp only [dt] at h4
     with_reducible and_intros
     iterate 4 omega
   . intro h5;try simp only [df] at h5
     trivial
   . intro h6;try simp only [V.BW,dt] at h6
     refine S.I7 h3 ((S.xr _ _).2 (.inl ⟨w!,?_⟩));have e:Int.toNat ((x1:Int)-1)=x1-1:=by omega
     have h62:=h6.2;rw [e] at h62;exact h62
   intro h7;try simp only [V.nR,df] at h7
   with_reducible and_intros
   . intro h8;try simp only [dt,tn] at h8
     trivial
   . intro h9;try simp only [df,tn] at h9
     with_reducible and_intros
     trivial
     . intro b9;try simp only [nt] at b9
       trivial
     intro eG;try simp only [nf] at eG
     exact S.OG hp
   . intro cB;try simp only [V.k7,dt,tn,nt] at cB
     exact S.I7 h3 ((S.xr _ _).2 (.inr (cB.imp (fun q=>by have :((S.fI d x1).length:Int)=0:=q;omega) id)))
   intro gZ;try simp only [V.dc,df,tn,nf] at gZ
   with_reducible and_intros
   iterate 2 omega
   refine⟨(x1+nat_lit 1),?_⟩;try dsimp only
   with_reducible and_intros
   omega
   . refine S.aiO h2 h3 ((S.qX _ _).2 ⟨?_,?_,gZ.2.1,gZ.2.2⟩);rotate_left
     . have :=gZ.1;simp only [S.fI];omega
     rcases h7 with h7|h7
     . left;omega
     right;have e:Int.toNat ((x1:Int)-1)=x1-1:=by omega
     rw [e] at h7;exact h7
   simp only [S.ag,S.len];omega
 intro dK;try simp only [df] at dK
 exact S.aqO h2 v!
theorem asv(l1 l2 l3:B8)(hp:True)(hf:Vg.aL J.č (l1,l2,l3)):ģ l1 l2 l3:=by
 delta ģ amM bp aa ah ai;have aE3:Vg.hlen l1:=hf.1;have aE4:Vg.hlen l2:=hf.2.1;have aE5:Vg.hlen l3:=hf.2.2.1;clear hf;refine⟨?_,?_⟩
 . intro h1;try simp only [V.k7,dt,nt,df] at h1
   refine⟨?_,?_⟩
   . have hq:=S.Lm h1;simp only [S.jJ,S.pd,hq];rfl
   have hq:=S.Lm h1;simp only [S.jJ,S.pd,hq];rfl
 intro h2;try simp only [V.dc,df,nf,dt] at h2
 with_reducible and_intros
 . have hq:=S.qZ h2;have q:=(S.kK _ _ _).1 hq;have t1:=S.jm (s:=l1);have t2:=S.jm (s:=l2)
   exact S.HK (K! _) w!
 . have hq:=S.qZ h2;have q:=(S.kK _ _ _).1 hq;have t1:=S.jm (s:=l1);have t2:=S.jm (s:=l2)
   exact S.HK (by rw [z?];omega) w!
 . have hq:=S.qZ h2;have q:=(S.kK _ _ _).1 hq;have t1:=S.jm (s:=l1);have t2:=S.jm (s:=l2)
   simp only [C!,ln];omega
 . have hq:=S.qZ h2;have q:=(S.kK _ _ _).1 hq;have t1:=S.jm (s:=l1);have t2:=S.jm (s:=l2)
   simp only [S.jJ,hq,K?];rfl
 have hq:=S.qZ h2;have q:=(S.kK _ _ _).1 hq;have t1:=S.jm (s:=l1);have t2:=S.jm (s:=l2)
 simp only [S.pd,hq,K?];done
theorem asw(b:B8)(hp:b.length<=140737488355328)(hf:Vg.aL J.ei b):Ĥ b:=by
 delta Ĥ amN amO Ĝ Ğ bp aa;clear hf;refine⟨hp,?_,?_,trivial,fun h=> ?_,fun h=> ?_⟩
 . rw [S.um];exact hp
 . rw [S.um,S.um];exact hp
 . have h':(!decide (S.done (S.qV b).1.1 (S.qV b).1.2.1 (S.qV b).1.2.2=0))=true :=h
   have e:S.bw b=(([],[],[]),S.done (S.qV b).1.1 (S.qV b).1.2.1 (S.qV b).1.2.2):=by
    unfold S.bw;rw [if_neg];intro hc;rw [decide_eq_true hc] at h';cases h'
   rw [e];exact⟨rfl,rfl,rfl,rfl⟩
 have h':(!decide (S.done (S.qV b).1.1 (S.qV b).1.2.1 (S.qV b).1.2.2=0))=false :=h
 have e:S.bw b=(((S.Wi b).2,(S.Qy b).2,(S.qV b).2),0):=by
  unfold S.bw;rw [if_pos];by_cases hc:S.done (S.qV b).1.1 (S.qV b).1.2.1 (S.qV b).1.2.2=0;exact hc;rw [decide_eq_false hc] at h';cases h'
 rw [e];exact⟨rfl,rfl,rfl,rfl⟩
theorem asx(d:List (B8×List Int))(hp:S.aQ d)(hf:Vg.aL J.rG d):ĥ d:=by
 delta ĥ Ab aq aa ah ai;have uJ:Vg.hlen d:=hf.1.1;clear hf;have dg:=hp.1;with_reducible and_intros
 omega
 . intro h1;try simp only [nt] at h1
   refine⟨?_,?_⟩
   . simp only [S.dE,S.cc,h1];rfl
   simp only [S.dE,S.cc,h1];rfl
 intro h2;try simp only [nf] at h2
 with_reducible and_intros
 iterate 2 omega
 . refine⟨(nat_lit 0:Nat),?_⟩;try dsimp only
   with_reducible and_intros
   omega;rfl;omega
 intro x3 h4;refine⟨?_,?_⟩
 . intro h5;try simp only [dt] at h5
   with_reducible and_intros
   . intro h6;try simp only [dt] at h6
     with_reducible and_intros
     iterate 8 omega
   . intro h7;try simp only [df] at h7
     trivial
   . intro h8;try simp only [dt] at h8
     refine⟨?_,?_⟩
     . omega
     omega
   . intro h9;try simp only [df] at h9
     trivial
   iterate 2 trivial
   . rw [S.CZ];simp only [lc,ln];omega
   iterate 2 omega
   refine⟨(x3+nat_lit 1),?_⟩;try dsimp only
   with_reducible and_intros
   omega;rw [S.aqR h2 w!,S.HJ];omega;simp only [S.ag,S.len];omega
 intro b9;try simp only [df] at b9
 refine⟨?_,?_⟩
 . simp only [S.dE,h2];rfl
 simp only [S.cc,h2,K?];rw [show x3=d.length+1 by omega];rfl
theorem asy(d:List (B8×List Int))(hp:S.aQ d)(hf:Vg.aL J.rG d):Ħ d:=by
 delta Ħ aa;have uJ:Vg.hlen d:=hf.1.1;clear hf;with_reducible and_intros
 omega
 . intro h1;try simp only [nt,df] at h1
   refine⟨?_,?_⟩
   . simp only [S.zv,S.aIt h1];rfl
   rfl
 intro h2;try simp only [nf,dt] at h2
 with_reducible and_intros
 . have hr:=S.tm h2;have hq:=S.la hp hr;have e:S.cc d=S.dh d:=by simp only [S.cc,hr,K?]
   rw [e];exact hq.1
 . have hr:=S.tm h2;have hq:=S.la hp hr;have e:S.cc d=S.dh d:=by simp only [S.cc,hr,K?]
   rw [e];exact hq.2.2
 . have hr:=S.tm h2;have hq:=S.la hp hr;have e:S.cc d=S.dh d:=by simp only [S.cc,hr,K?]
   rw [e];simp only [S.zv,S.iy,hr,hq.2.1,K?];rfl
 have hr:=S.tm h2;have hq:=S.la hp hr;have e:S.cc d=S.dh d:=by simp only [S.cc,hr,K?]
 rw [e];simp only [S.dE,S.lH,hr,hq.2.1,K?]
theorem asz(d:List (B8×List Int))(t:B8)(hp:S.aQ d)(hf:Vg.aL J.Ce (d,t)):ħ d t:=by
 delta ħ aq aa ah ai;have uJ:Vg.hlen d:=hf.1.1;have Ir:Vg.hlen t:=hf.2.1;clear hf;have dg:=hp.1;with_reducible and_intros
 omega
 . intro h1;try simp only [nt] at h1
   refine⟨?_,?_⟩
   . exact(S.AZ h1).1
   exact(S.AZ h1).2
 intro h2;try simp only [nf] at h2
 refine⟨?_,?_⟩
 . refine⟨(nat_lit 0:Nat),?_⟩;try dsimp only
   with_reducible and_intros
   omega;rfl;omega
 intro x3 h4;refine⟨?_,?_⟩
 . intro h5;try simp only [dt] at h5
   with_reducible and_intros
   iterate 4 omega
   refine⟨(x3+nat_lit 1),?_⟩;try dsimp only
   with_reducible and_intros
   omega;exact S.Ã d t x3;omega;simp only [S.ag,S.len];omega
 intro h6;try simp only [df] at h6
 with_reducible and_intros
 . intro h7;try simp only [dt] at h7
   refine⟨?_,?_⟩
   . omega
   have :=(S.zy (d:=d) (t:=t) x3).2;omega
 . intro h8;try simp only [df] at h8
   trivial
 . rw [show x3=d.length by omega,S.Te h2];cases decide (0<=S.aU d t)<;>rfl
 rw [show x3=d.length by omega];exact S.Tf h2
theorem asA(d:List (B8×List Int))(t:B8)(hp:S.aQ d)(hf:Vg.aL J.Ce (d,t)):Ĩ d t:=by
 delta Ĩ aa ai;have uJ:Vg.hlen d:=hf.1.1;have Ir:Vg.hlen t:=hf.2.1;clear hf;have dg:=hp;with_reducible and_intros
 exact hp
 . intro h1;try simp only [nt] at h1
   exact S.aqV h1
 intro h2;try simp only [nf] at h2
 with_reducible and_intros
 exact(S.uo h2).1;exact(S.uo h2).2.1;exact S.aqW h2;exact(S.uo h2).2.2
theorem asC(docs:List B8)(s1 s2:Int)(hp:True)(hf:Vg.aL J.z6 (docs,s1,s2)):Ī docs s1 s2:=by
 delta Ī aq aa ah ai;have Ai:Vg.hlen docs:=hf.1.1;have kB:Vg.hint s1:=hf.2.1;have kC:Vg.hint s2:=hf.2.2.1;clear hf;refine⟨?_,?_⟩
 . refine⟨(nat_lit 0:Nat),?_⟩;try dsimp only
   refine⟨?_,?_⟩
   . omega
   exact S.Â docs
 intro x1 h2;refine⟨?_,?_⟩
 . intro h3;try simp only [dt] at h3
   with_reducible and_intros
   iterate 2 omega
   . intro h4;try simp only [dt,tn] at h4
     exact S.OH h3 h4
   intro h5;try simp only [df,tn] at h5
   with_reducible and_intros
   iterate 2 omega
   refine⟨(x1+nat_lit 1),?_⟩;try dsimp only
   with_reducible and_intros
   omega;exact S.Ll h2 h3 w!;simp only [S.ag,S.len];omega
 intro h6;try simp only [df] at h6
 have q:=S.OI h2 h6;simp only [S.c8,q,Bool.true_and,S.tc]
theorem asD(b t:B8)(hp:S.small b)(hf:Vg.aL J.O2 (b,t)):ī b t:=by
 delta ī aa ai;have dJ:Vg.hlen b:=hf.1.1;have Ir:Vg.hlen t:=hf.2.1;clear hf;refine⟨?_,?_⟩
 . exact hp
 rfl
theorem asE(l1 l2 l3:B8)(hp:S.fp l1 l2 l3=true)(hf:Vg.aL J.č (l1,l2,l3)):Ĭ l1 l2 l3:=by
 delta Ĭ bp;have aE3:Vg.hlen l1:=hf.1;have aE4:Vg.hlen l2:=hf.2.1;have aE5:Vg.hlen l3:=hf.2.2.1;clear hf;have q:=(S.kK _ _ _).1 hp;have t1:=S.jm (s:=l1);have t2:=S.jm (s:=l2);with_reducible and_intros
 iterate 2
  . simp only [S.small];omega
 omega
 . simp only [C!];omega
 rfl
theorem asG(d:List (B8×List Int))(hp:S.aQ d/\S.aI d=true)(hf:Vg.aL J.rG d):Į d:=by
 delta Į amP amQ aq aa ah ai;have uJ:Vg.hlen d:=hf.1.1;clear hf;have dg:=hp.1.1;refine⟨?_,?_⟩
 . refine⟨0,?_⟩;try dsimp only
   with_reducible and_intros
   omega;rfl;omega
 intro x1 h2;refine⟨?_,?_⟩
 . intro h3;try simp only [dt] at h3
   with_reducible and_intros
   rfl
   . intro h4;try simp only [dt] at h4
     with_reducible and_intros
     iterate 4 omega
     have e:Int.toNat ((x1:Int)-1)=x1-1:=by omega
     rw [e];exact(S.qY hp.2 (i:=x1-1) w!).2
   . intro h5;try simp only [df] at h5
     trivial
   iterate 2 omega
   . intro h6;try simp only [dt] at h6
     with_reducible and_intros
     iterate 4 omega
   . intro h7;try simp only [df] at h7
     trivial
   . obtain⟨e1,e2,e3⟩:=S.Ä d x1;rw [e1,e2,e3];rcases S.zx hp.2 (k:=x1) with q|q
     . exact q
     omega
   . rw [S.CZ];simp only [lc,ln];omega
   iterate 2 omega
   refine⟨x1+1,?_⟩;try dsimp only
   with_reducible and_intros
   omega
   . obtain⟨e1,e2,e3⟩:=S.Ä d x1;rw [e1,e2,e3];exact S.HJ d x1
   omega;simp only [S.ag,S.len];omega
 intro h8;try simp only [df] at h8
 rw [show x1=d.length+1 by omega];rfl
theorem asH(d:List (B8×List Int))(hp:S.aQ d/\S.aI d=true)(hf:Vg.aL J.rG d):į d:=by
 unfold į;have uJ:Vg.hlen d:=hf.1.1;clear hf;with_reducible and_intros
 exact hp.1;exact hp.2;exact(S.la hp.1 hp.2).1;exact(S.la hp.1 hp.2).2;rfl
theorem asJ(a b:List (B8×List Int))(hp:True)(hf:Vg.aL J.Ď (a,b)):ı a b:=by
 delta ı amR aq aa ah ai;have Ah:Vg.hlen a:=hf.1.1;have dJ:Vg.hlen b:=hf.2.1.1;clear hf;refine⟨?_,?_⟩
 . intro h1;try simp only [nt,df] at h1
   exact S.Wm h1
 intro h2;try simp only [nf,dt] at h2
 refine⟨?_,?_⟩
 . refine⟨(nat_lit 0:Nat),?_⟩;try dsimp only
   refine⟨?_,?_⟩
   . omega
   exact S.aiP h2
 intro x3 h4;refine⟨?_,?_⟩
 . intro h5;try simp only [dt] at h5
   with_reducible and_intros
   iterate 4 omega
   . intro h6;try simp only [nt,df,tn] at h6
     trivial
   . intro h7;try simp only [nf,dt,tn] at h7
     with_reducible and_intros
     iterate 4 omega
     trivial
   . intro h8;try simp only [V.k7,nt,df,tn] at h8
     refine S.Wl (k:=x3) fun e=> ?_;rw [e] at h8;rcases h8 with q|q
     . exact q rfl
     simp [S.qb] at q
   intro h9;try simp only [V.dc,nf,dt,tn] at h9
   with_reducible and_intros
   iterate 2 omega
   refine⟨(x3+nat_lit 1),?_⟩;try dsimp only
   with_reducible and_intros
   omega;exact S.Tc h4 h5 (Prod.ext h9.1 (by simpa [S.qb] using h9.2));simp only [S.ag,S.len];omega
 intro b9;try simp only [df] at b9
 exact S.Wn h4 b9
theorem asK(a b:List B8)(hp:True)(hf:Vg.aL J.ď (a,b)):Ĳ a b:=by
 delta Ĳ aq aa ah ai;have Ah:Vg.hlen a:=hf.1.1;have dJ:Vg.hlen b:=hf.2.1.1;clear hf;refine⟨?_,?_⟩
 . intro h1;try simp only [nt,df] at h1
   exact S.Wq h1
 intro h2;try simp only [nf,dt] at h2
 refine⟨?_,?_⟩
 . refine⟨(nat_lit 0:Nat),?_⟩;try dsimp only
   refine⟨?_,?_⟩
   . omega
   exact S.aiQ h2
 intro x3 h4;refine⟨?_,?_⟩
 . intro h5;try simp only [dt] at h5
   with_reducible and_intros
   iterate 4 omega
   . intro h6;try simp only [nt,df,tn] at h6
     exact S.Wo h6
   intro h7;try simp only [nf,dt,tn] at h7
   with_reducible and_intros
   iterate 2 omega
   refine⟨(x3+nat_lit 1),?_⟩;try dsimp only
   with_reducible and_intros
   omega;exact S.Td h4 h5 h7;simp only [S.ag,S.len];omega
 intro h8;try simp only [df] at h8
 exact S.Wr h4 h8
theorem asL(docs:List B8)(s1 s2:Int)(hp:S.gq docs s1 s2)(hf:Vg.aL J.z6 (docs,s1,s2)):ĳ docs s1 s2:=by
 delta ĳ Ii aq aa ah ai;have Ai:Vg.hlen docs:=hf.1.1;have kB:Vg.hint s1:=hf.2.1;have kC:Vg.hint s2:=hf.2.2.1;clear hf;have p1:=hp.1;have p2:=hp.2.1;have p3:=hp.2.2.1;have p4:=hp.2.2.2.1;refine⟨?_,?_⟩
 . refine⟨0,?_⟩;try dsimp only
   with_reducible and_intros
   omega;exact S.aiU docs s1;simp only [S.fJ];omega
 intro x1 h2;refine⟨?_,?_⟩
 . intro h3;try simp only [dt] at h3
   with_reducible and_intros
   iterate 2 omega
   exact S.Ln hp _
   . have q1:=S.tp hp x1;have q2:=S.zA hp (Int.toNat (s1+(x1:Int)));simp only [S.fJ] at h2;omega
   iterate 2 omega
   refine⟨x1+1,?_⟩;try dsimp only
   with_reducible and_intros
   omega;exact S.uq docs s1 x1
   . simp only [S.fJ];omega
   simp only [S.ag];omega
 intro h4;try simp only [df] at h4
 with_reducible and_intros
 . have q1:=S.tp hp x1;simp only [S.fJ] at h2;simp only [S.small];omega
 . refine⟨(nat_lit 0:Nat),?_⟩;try dsimp only
   with_reducible and_intros
   omega;rfl;exact K! _
 intro x5 h6;refine⟨?_,?_⟩
 . intro h7;try simp only [dt] at h7
   with_reducible and_intros
   iterate 3 omega
   . refine⟨(0,List.getD (S.sorted (S.iA docs s1 x1)) (Int.toNat (x5:Int)) []),?_⟩;try dsimp only
     with_reducible and_intros
     omega;rfl;exact S.afe _ _ _
     . simp only [S.fJ];omega
     rfl
   intro x8 h9;refine⟨?_,?_⟩
   . intro b9;try simp only [dt] at b9
     with_reducible and_intros
     iterate 5 omega
     exact S.Ln hp _
     . intro eG;with_reducible and_intros
       . have q:=S.HL docs s1 x8.2 x8.1;have q2:=S.Lo h9.1 p2;simp only [lc,ln];omega
       iterate 2 omega
       refine⟨(x8.1+1,x8.2),?_⟩;try dsimp only
       with_reducible and_intros
       omega;rfl
       . rw [h9.2] at eG;exact S.zB eG
       . simp only [S.fJ];omega
       exact h9.2;simp only [S.ag];omega
     intro cB;with_reducible and_intros
     iterate 2 omega
     refine⟨(x8.1+1,x8.2),?_⟩;try dsimp only
     with_reducible and_intros
     omega;rfl
     . rw [h9.2] at cB;exact S.C0 cB
     . simp only [S.fJ];omega
     exact h9.2;simp only [S.ag];omega
   intro gZ;try simp only [df] at gZ
   with_reducible and_intros
   . have q:=S.Th docs s1 s2 x5;have q1:=S.tp hp x1;have q2:=S.mr (S.iA docs s1 x1);have q3:=S.Lo h2 p2;simp only [lc,ln];omega
   omega
   . have q1:=S.tp hp x1;have q2:=S.mr (S.iA docs s1 x1);have q3:=S.Lo h2 p2;omega
   refine⟨(x5+nat_lit 1),?_⟩;try dsimp only
   with_reducible and_intros
   omega
   . have e:=S.wa (docs:=docs) h2 h4;have h92:=h9.2;rw [e.1] at h7 h92;exact S.EE w! (S.wa (docs:=docs) h9.1 gZ).2 h92
   . have e:=S.wa (docs:=docs) h2 h4;rw [e.1] at h7;simp only [S.gp,S.ag,S.len];omega
   have e:=S.wa (docs:=docs) h2 h4;rw [e.1] at h7;simp only [S.gp,S.ag,S.len];omega
 intro dK;try simp only [df] at dK
 have e:=S.wa (docs:=docs) h2 h4;rw [e.1] at dK;exact S.HN w!
theorem asM(s1 s2:Int)(hp:True)(hf:Vg.aL J.Đ (s1,s2)):Ĵ s1 s2:=by
 delta Ĵ aa;have kB:Vg.hint s1:=hf.1;have kC:Vg.hint s2:=hf.2.1;clear hf;simp only [S.jA,S.tc]
theorem asN(s1 s2:Int)(s3:List (B8×List Int))(hp:S.aQ s3)(hf:Vg.aL J.H5 (s1,s2,s3)):ĵ s1 s2 s3:=by
 delta ĵ O8 aq aa ah ai;have kB:Vg.hint s1:=hf.1;have kC:Vg.hint s2:=hf.2.1;have tI:Vg.hlen s3:=hf.2.2.1.1;clear hf;with_reducible and_intros
 trivial
 . intro h1;try simp only [nt] at h1
   trivial
 . intro h2;try simp only [nf] at h2
   omega
 . intro h3;try simp only [V.k7,nt] at h3
   exact S.aqT h3
 intro h4;try simp only [V.dc,nf] at h4
 refine⟨?_,?_⟩
 . refine⟨(nat_lit 0:Nat),?_⟩;try dsimp only
   refine⟨?_,?_⟩
   . omega
   exact S.aBL h4.1 h4.2
 intro x5 h6;refine⟨?_,?_⟩
 . intro h7;try simp only [dt] at h7
   with_reducible and_intros
   iterate 2 omega
   trivial
   . intro h8;try simp only [nt,df,tn] at h8
     exact S.aiX h7 (a? h8)
   intro h9;try simp only [nf,dt,tn] at h9
   with_reducible and_intros
   iterate 2 omega
   refine⟨(x5+nat_lit 1),?_⟩;try dsimp only
   with_reducible and_intros
   omega;exact S.afh h6 h7 (S? h9);simp only [S.ag,S.len];omega
 intro b9;try simp only [df] at b9
 exact S.aiY h6 b9
theorem asO(s1 s2:Int)(s3:List (B8×List Int))(hp:S.aQ s3)(hf:Vg.aL J.H5 (s1,s2,s3)):Ķ s1 s2 s3:=by
 delta Ķ aq aa ah ai;have kB:Vg.hint s1:=hf.1;have kC:Vg.hint s2:=hf.2.1;have tI:Vg.hlen s3:=hf.2.2.1.1;clear hf;have dg:=hp.1;with_reducible and_intros
 omega
 . intro h1;try simp only [nt] at h1
   with_reducible and_intros
   iterate 4 (rw [S.Lr h1])
   rw [S.Lr h1]
 intro h2;try simp only [nf] at h2
 with_reducible and_intros
 omega
 . intro h3;try simp only [nt,df] at h3
   with_reducible and_intros
   iterate 5 (exact absurd (S.ra h2).2.1 h3)
 intro h4;try simp only [nf,dt] at h4
 with_reducible and_intros
 iterate 2 omega
 iterate 3 (rw [(S.ra h2).1])
 . rw [(S.ra h2).1];exact(S.ra h2).2.2
 rw [(S.ra h2).1]
theorem asP(s1 s2 s3:Int)(s4:B8)(hp:True)(hf:Vg.aL J.đ (s1,s2,s3,s4)):ķ s1 s2 s3 s4:=by
 delta ķ ah ai;have kB:Vg.hint s1:=hf.1;have kC:Vg.hint s2:=hf.2.1;have tI:Vg.hint s3:=hf.2.2.1;have GN:Vg.hlen s4:=hf.2.2.2.1;clear hf;refine⟨?_,?_⟩
 . trivial
 simp only [S.lI,S.tc]
theorem asQ(docs:List B8)(s1 s2:Int)(hp:True)(hf:Vg.aL J.z6 (docs,s1,s2)):ĸ docs s1 s2:=by
 delta ĸ aa ah;have Ai:Vg.hlen docs:=hf.1.1;have kB:Vg.hint s1:=hf.2.1;have kC:Vg.hint s2:=hf.2.2.1;clear hf;with_reducible and_intros
 trivial
 . intro h1;try simp only [nt,df] at h1
   with_reducible and_intros
   iterate 3 (rw [(S.Tj (by simpa using h1)).1])
   have q:=S.Tj (docs:=docs) (a:=s1) (b:=s2) (by simpa using h1);rw [q.1,q.2]
 intro h2;try simp only [nf,dt] at h2
 refine⟨?_,?_⟩
 . intro h3;try simp only [dt] at h3
   with_reducible and_intros
   iterate 3 (rw [S.Tk h3])
   rw [S.Tk h3]
 intro h4;try simp only [df] at h4
 with_reducible and_intros
 iterate 3 (rw [S.Tl (by simpa using h2) h4])
 rw [S.Tl (by simpa using h2) h4]
theorem asR(l:List (Int×Int×Int×B8))(n:Int)(hp:True)(hf:Vg.aL J.azX (l,n)):Ĺ l n:=by
 delta Ĺ amS amT amU aq aa ah ai;have dy:Vg.hlen l:=hf.1.1;have Mx:Vg.hint n:=hf.2.1;clear hf;refine⟨?_,?_⟩
 . intro h1;try simp only [dt] at h1
   exact S.ai0 h1
 intro h2;try simp only [df] at h2
 refine⟨?_,?_⟩
 . refine⟨(nat_lit 0:Nat),?_⟩;try dsimp only
   with_reducible and_intros
   omega;exact(S.Ls l).symm;exact S.aqU h2
 intro x3 h4;refine⟨?_,?_⟩
 . intro h5;try simp only [dt] at h5
   with_reducible and_intros
   iterate 2 omega
   . intro h6;try simp only [nt] at h6
     trivial
   . intro h7;try simp only [nf] at h7
     trivial
   . intro h8;try simp only [V.k7,nt] at h8
     refine S.afk h4 h5 (S.Tn ?_);rw [show Int.toNat (x3:Int)=x3 by omega] at h8;simpa [S.EF,S.sg] using h8
   intro h9;try simp only [V.dc,nf] at h9
   with_reducible and_intros
   iterate 2 omega
   refine⟨(x3+nat_lit 1),?_⟩;try dsimp only
   with_reducible and_intros
   omega;exact(S.Tm l x3).symm
   . refine S.Wt h4 h5 (S.Wu ?_);rw [show Int.toNat (x3:Int)=x3 by omega] at h9;simpa [S.EF,S.sg] using h9
   simp only [S.ag,S.len];omega
 intro b9;try simp only [df] at b9
 exact S.afl h4 b9
theorem asS(docs:List B8)(s1 s2:Int)(hp:True)(hf:Vg.aL J.z6 (docs,s1,s2)):ĺ docs s1 s2:=by
 unfold ĺ;have Ai:Vg.hlen docs:=hf.1.1;have kB:Vg.hint s1:=hf.2.1;have kC:Vg.hint s2:=hf.2.2.1;clear hf;refine⟨?_,?_⟩
 . trivial
 simp only [S.dn,S.tc]
theorem asT(docs:List B8)(s1 s2:Int)(hp:S.gq docs s1 s2)(hf:Vg.aL J.z6 (docs,s1,s2)):Ļ docs s1 s2:=by
 unfold Ļ;have Ai:Vg.hlen docs:=hf.1.1;have kB:Vg.hint s1:=hf.2.1;have kC:Vg.hint s2:=hf.2.2.1;clear hf;with_reducible and_intros
 exact hp;iterate 3 rfl
theorem asU(s1 s2:Int)(s3:List (B8×List Int))(hp:S.aQ s3/\S.aI s3=true)(hf:Vg.aL J.H5 (s1,s2,s3)):ļ s1 s2 s3:=by
 delta ļ ai;have kB:Vg.hint s1:=hf.1;have kC:Vg.hint s2:=hf.2.1;have tI:Vg.hlen s3:=hf.2.2.1.1;clear hf;with_reducible and_intros
 exact hp.1;exact hp.2;exact hp.1;exact hp.2;iterate 4 rfl
theorem asV(a1 a2:Int)(a3:List (B8×List Int))(b1 b2:Int)(b3:List (B8×List Int))(hp:True)(hf:Vg.aL J.azY (a1,a2,a3,b1,b2,b3)):Ľ a1 a2 a3 b1 b2 b3:=by
 unfold Ľ;have MA:Vg.hint a1:=hf.1;have MB:Vg.hint a2:=hf.2.1;have Ru:Vg.hlen a3:=hf.2.2.1.1;have ans:Vg.hint b1:=hf.2.2.2.1;have ant:Vg.hint b2:=hf.2.2.2.2.1;have aE6:Vg.hlen b3:=hf.2.2.2.2.2.1.1;clear hf;with_reducible and_intros
 . intro h1;trivial
 . intro h2;trivial
 simp only [S.EF,S.xu,S.ig,S.tc,Bool.and_assoc]
theorem asW(d:List (B8×List Int))(hp:True)(hf:Vg.aL J.rG d):ľ d:=by
 delta ľ Cg aq aa ah ai;have uJ:Vg.hlen d:=hf.1.1;clear hf;refine⟨?_,?_⟩
 . refine⟨(nat_lit 0:Nat),?_⟩;try dsimp only
   refine⟨?_,?_⟩
   . omega
   exact S.aIu d
 intro x1 h2;refine⟨?_,?_⟩
 . intro h3;try simp only [dt] at h3
   with_reducible and_intros
   iterate 2 omega
   . intro h4;try simp only [dt,tn] at h4
     trivial
   . intro h5;try simp only [df,tn] at h5
     refine⟨?_,?_⟩
     . omega
     omega
   . intro h6;try simp only [V.k7,dt,tn] at h6
     refine S.aqX h3 ?_;simp only [S.uu,X?,dt];exact h6
   intro h7;try simp only [V.dc,df,tn] at h7
   with_reducible and_intros
   iterate 2 omega
   refine⟨(x1+nat_lit 1),?_⟩;try dsimp only
   with_reducible and_intros
   omega
   . refine S.ai1 h2 h3 ?_;simp only [S.uu,U?,df];exact h7
   simp only [S.ag,S.len];omega
 intro h8;try simp only [df] at h8
 exact S.aqY h2 h8
theorem asX(docs:List B8)(hp:True)(hf:Vg.aL J.O3 docs):Ŀ docs:=by
 delta Ŀ aq aa ah ai;have Ai:Vg.hlen docs:=hf.1.1;clear hf;refine⟨?_,?_⟩
 . refine⟨(nat_lit 0:Nat),?_⟩;try dsimp only
   refine⟨?_,?_⟩
   . omega
   exact S.aIv docs
 intro x1 h2;refine⟨?_,?_⟩
 . intro h3;try simp only [dt] at h3
   with_reducible and_intros
   iterate 2 omega
   . intro h4;try simp only [dt,tn] at h4
     exact S.aqZ h3 h4
   intro h5;try simp only [df,tn] at h5
   with_reducible and_intros
   iterate 2 omega
   refine⟨(x1+nat_lit 1),?_⟩;try dsimp only
   with_reducible and_intros
   omega;exact S.ai2 h2 h3 h5;simp only [S.ag,S.len];omega
 intro h6;try simp only [df] at h6
 exact S.aq0 h2 h6
theorem asY(s1 s2:Int)(s3:List (B8×List Int))(hp:True)(hf:Vg.aL J.H5 (s1,s2,s3)):ŀ s1 s2 s3:=by
 unfold ŀ;have kB:Vg.hint s1:=hf.1;have kC:Vg.hint s2:=hf.2.1;have tI:Vg.hlen s3:=hf.2.2.1.1;clear hf;with_reducible and_intros
 iterate 3 rfl
theorem as5(l:B8)(hp:S.small l)(hf:Vg.aL J.ei l):ň l:=by
 delta ň bp;have dy:Vg.hlen l:=hf.1.1;clear hf;with_reducible and_intros
 . intro h1;exact h1.symm
 . simp only [S.small,Vg.dw,ln] at *;omega
 rfl
theorem as6(l:List (B8×List Int))(hp:S.small l)(hf:Vg.aL J.rG l):ŉ l:=by
 unfold ŉ;have dy:Vg.hlen l:=hf.1.1;clear hf;with_reducible and_intros
 . intro h1;exact h1.symm
 . simp only [S.small,Vg.dw,ln] at *;omega
 rfl
theorem as7(a b:List Int)(hp:True)(hf:Vg.aL J.Č (a,b)):Ŋ a b:=by
 delta Ŋ aq aa ah ai;have Ah:Vg.hlen a:=hf.1.1;have dJ:Vg.hlen b:=hf.2.1.1;clear hf;refine⟨?_,?_⟩
 . intro h1;try simp only [nt,df] at h1
   exact(a? (S.TH h1)).symm
 intro h2;try simp only [nf,dt] at h2
 refine⟨?_,?_⟩
 . refine⟨(nat_lit 0:Nat),?_⟩;try dsimp only
   refine⟨?_,?_⟩
   . omega
   exact S.WO h2
 intro x3 h4;refine⟨?_,?_⟩
 . intro h5;try simp only [dt] at h5
   with_reducible and_intros
   iterate 4 omega
   . intro h6;try simp only [nt,df,tn] at h6
     exact(a? (S.TI 0 h6)).symm
   intro h7;try simp only [nf,dt,tn] at h7
   with_reducible and_intros
   iterate 2 omega
   refine⟨(x3+nat_lit 1),?_⟩;try dsimp only
   with_reducible and_intros
   omega;exact S.Gu 0 h4 h5 h7;simp only [S.ag,S.len,S.bS,S.nM] at *;omega
 intro h8;try simp only [df] at h8
 exact(S? (S.LH h4 h8)).symm
theorem as8(a1:B8)(a2:List Int)(b1:B8)(b2:List Int)(hp:True)(hf:Vg.aL J.O4 (a1,a2,b1,b2)):ŋ a1 a2 b1 b2:=by
 unfold ŋ;have MA:Vg.hlen a1:=hf.1;have MB:Vg.hlen a2:=hf.2.1.1;have ans:Vg.hlen b1:=hf.2.2.1;have ant:Vg.hlen b2:=hf.2.2.2.1.1;clear hf;with_reducible and_intros
 . intro h1;try simp only [dt] at h1
   trivial
 . intro h2;try simp only [df] at h2
   trivial
 simp only [S.zN,S.Gt];cases decide (a1=b1)<;>rfl
theorem as9(a b:List (B8×List Int))(hp:True)(hf:Vg.fH J.azZ (a,b))(hg:Vg.cI.ok J.Br ()):Ō a b:=by
 delta Ō amV aq aa ah ai;have Ah:Vg.hlen a:=hf.1.1;have dJ:Vg.hlen b:=hf.2.1.1;clear hf hg;refine⟨?_,?_⟩
 . intro h1;try simp only [nt,df] at h1
   exact(a? (S.TH h1)).symm
 intro h2;try simp only [nf,dt] at h2
 refine⟨?_,?_⟩
 . refine⟨(nat_lit 0:Nat),?_⟩;try dsimp only
   refine⟨?_,?_⟩
   . omega
   exact S.WO h2
 intro x3 h4;refine⟨?_,?_⟩
 . intro h5;try simp only [dt] at h5
   with_reducible and_intros
   iterate 4 omega
   trivial
   . intro h6;try simp only [nt] at h6
     exact(a? (S.TI ([],[]) (S.arc h6))).symm
   intro h7;try simp only [nf] at h7
   with_reducible and_intros
   iterate 2 omega
   refine⟨(x3+nat_lit 1),?_⟩;try dsimp only
   with_reducible and_intros
   omega;exact S.Gu ([],[]) h4 h5 (S.arb h7);simp only [S.ag,S.len,S.bS,S.nM] at *;omega
 intro h8;try simp only [df] at h8
 exact(S? (S.LH h4 h8)).symm
theorem ata(a b:List (B8×List Int))(hp:True)(hf:Vg.aL J.Ď (a,b)):ō a b:=by
 unfold ō;have Ah:Vg.hlen a:=hf.1.1;have dJ:Vg.hlen b:=hf.2.1.1;clear hf;refine⟨?_,?_⟩
 . trivial
 rfl
theorem atb(y1:List B8)(y2:List (Int×Int×List (B8×List Int)))(hp:True)(hf:Vg.aL J.az0 (y1,y2)):Ŏ y1 y2:=by
 delta Ŏ amW Us Ch aq aa ah ai;have dX:Vg.hlen y1:=hf.1.1;have dY:Vg.hlen y2:=hf.2.1.1;clear hf;refine⟨?_,?_⟩
 . intro h1;try simp only [V.k7,dt] at h1
   exact S.aID h1
 intro h2;try simp only [V.dc,df] at h2
 refine⟨?_,?_⟩
 . refine⟨(nat_lit 0:Nat),?_⟩;try dsimp only
   refine⟨?_,?_⟩
   . omega
   exact⟨w!,w!,S.Â _⟩
 intro x3 h4;refine⟨?_,?_⟩
 . intro h5;try simp only [dt] at h5
   with_reducible and_intros
   iterate 2 omega
   . intro h6;try simp only [dt,tn] at h6
     exact S.aIE h5 h6
   intro h7;try simp only [df,tn] at h7
   with_reducible and_intros
   iterate 2 omega
   refine⟨(x3+nat_lit 1),?_⟩;try dsimp only
   with_reducible and_intros
   omega;exact⟨h4.1,h4.2.1,S.Ll h4.2.2 h5 w!⟩;simp only [S.ag,S.len,S.bS,S.nM] at *;omega
 intro h8;try simp only [df] at h8
 refine⟨?_,?_⟩
 . refine⟨(nat_lit 0:Nat),?_⟩;try dsimp only
   with_reducible and_intros
   omega;rfl;exact S.aju h4 h8
 intro x9 b9;refine⟨?_,?_⟩
 . intro eG;try simp only [dt] at eG
   with_reducible and_intros
   iterate 2 omega
   . intro cB;try simp only [V.k7,nt,df,tn,dt] at cB
     exact S.Jb eG (S.aIF cB)
   intro gZ;try simp only [V.dc,nf,dt,tn,df] at gZ
   with_reducible and_intros
   trivial
   . intro dK;try simp only [nt,df,tn] at dK
     trivial
   . intro jS;try simp only [nf,dt,tn] at jS
     trivial
   . intro tL;try simp only [V.k7,nt,df,tn] at tL
     exact S.Jb eG (S.aIG b9 gZ tL)
   intro vA;try simp only [V.dc,nf,dt,tn] at vA
   with_reducible and_intros
   iterate 2 omega
   refine⟨(x9+nat_lit 1),?_⟩;try dsimp only
   with_reducible and_intros
   omega;exact S.OP _ _;exact S.TJ b9 eG (S.aIH b9 gZ vA);simp only [S.ag,S.len,S.bS,S.nM] at *;omega
 intro rl;try simp only [df] at rl
 exact S.É b9 rl
theorem atc(y1:List B8)(y2:List (Int×Int×List (B8×List Int)))(hp:True)(hf:Vg.aL J.az0 (y1,y2)):ŏ y1 y2:=by
 unfold ŏ;have dX:Vg.hlen y1:=hf.1.1;have dY:Vg.hlen y2:=hf.2.1.1;clear hf;with_reducible and_intros
 trivial
 . intro h1;try simp only [nt] at h1
   refine⟨?_,?_⟩
   . rw [S.ER h1]
   rw [S.ER h1]
 intro h2;try simp only [nf] at h2
 refine⟨?_,?_⟩
 . rw [S.fY h2]
 rw [S.fY h2]
theorem atd(y1:List B8)(y2:List (Int×Int×List (B8×List Int)))(hp:True)(hf:Vg.aL J.az0 (y1,y2)):Ő y1 y2:=by
 delta Ő aq aa ah ai;have dX:Vg.hlen y1:=hf.1.1;have dY:Vg.hlen y2:=hf.2.1.1;clear hf;refine⟨?_,?_⟩
 . intro h1;try simp only [dt] at h1
   exact S.aBT h1
 intro h2;try simp only [df] at h2
 with_reducible and_intros
 iterate 4 omega
 exact S.aBU h2
theorem ate(y1:List B8)(y2:List (Int×Int×List (B8×List Int)))(hp:S.qD y1 y2)(hf:Vg.aL J.az0 (y1,y2)):ő y1 y2:=by
 delta ő Ac aq Mg aa ah ai;have dX:Vg.hlen y1:=hf.1.1;have dY:Vg.hlen y2:=hf.2.1.1;clear hf;with_reducible and_intros
 iterate 2 omega
 . have :=hp.1;omega
 iterate 2 omega
 . have :=hp.2.1;omega
 . refine⟨(nat_lit 0:Nat),?_⟩;try dsimp only
   with_reducible and_intros
   omega;exact S.Ê _ _;simp only [S.ag,S.len,S.bS,S.nM] at *;omega
 intro x1 h2;refine⟨?_,?_⟩
 . intro h3;try simp only [dt] at h3
   with_reducible and_intros
   iterate 2 omega
   exact S.TL hp _;omega;exact(S.A6 _ h3).1;exact(S.A6 _ h3).2;iterate 2 omega
   refine⟨(x1+nat_lit 1),?_⟩;try dsimp only
   with_reducible and_intros
   omega;exact S.TK _ h3
   . simp only [S.ag,S.len,S.bS,S.nM] at *;omega
   simp only [S.ag,S.len,S.bS,S.nM] at *;omega
 intro h4;try simp only [df] at h4
 refine⟨?_,?_⟩
 . refine⟨(nat_lit 0:Nat),?_⟩;try dsimp only
   with_reducible and_intros
   omega;exact S.Ê _ _;simp only [S.ag,S.len,S.bS,S.nM] at *;omega
 intro x5 h6;refine⟨?_,?_⟩
 . intro h7;try simp only [dt] at h7
   with_reducible and_intros
   iterate 2 omega
   exact(S.C5 hp _).1;omega;exact(S.A6 _ h7).1;exact(S.A6 _ h7).2
   . refine⟨((nat_lit 0:Nat),((Int.toNat (↑x5:Int)),(List.set (S.eb ((0:Int),(0:Int),[]) y2 x5) (Int.toNat (↑x5:Int)) (Prod.fst (List.getD y2 (Int.toNat (↑x5:Int)) ((0:Int),(0:Int),[])),Prod.fst (Prod.snd (List.getD y2 (Int.toNat (↑x5:Int)) ((0:Int),(0:Int),[]))),[])))),?_⟩;try dsimp only
     with_reducible and_intros
     omega;rfl;omega;rfl;exact S.aBV h7;omega
   intro x8 h9;refine⟨?_,?_⟩
   . intro b9;try simp only [dt,tn] at b9
     with_reducible and_intros
     omega;trivial;omega
     iterate 2
      . have q:=h9.1.2.2.1;have q2:=h9.1.1;have q3:=h9.2;omega
     omega;exact(S.C5 hp _).2 _;omega
     iterate 2
      . have e:x5=x8.2.1:=w!;subst e;first|exact b9|exact Int.ofNat_lt.1 b9
     omega
     . have q:=(S.C5 hp x5).1;exact S.aft q b9
     refine⟨((Prod.fst x8+nat_lit 1),((Prod.fst (Prod.snd x8)),(Prod.snd (Prod.snd x8)))),?_⟩;try dsimp only
     with_reducible and_intros
     omega;rfl;omega
     . have e:x5=x8.2.1:=w!;subst e;exact S.Az _ _ _
     . have e:x5=x8.2.1:=w!;subst e;exact S.afu h9.1 b9
     omega;have e:x5=x8.2.1:=w!;subst e;exact S.afv b9
   intro eG;try simp only [df,tn] at eG
   with_reducible and_intros
   . have q:=h9.1.2.2.1;have q2:=h9.1.1;have q3:=h9.2;omega
   iterate 2 omega
   refine⟨(x5+nat_lit 1),?_⟩;try dsimp only
   with_reducible and_intros
   omega
   . have e:x5=x8.2.1:=w!;subst e;exact S.ajv h9.1
   . simp only [S.ag,S.len,S.bS,S.nM] at *;omega
   simp only [S.ag,S.len,S.bS,S.nM] at *;omega
 intro cB;try simp only [df] at cB
 refine⟨?_,?_⟩
 . exact S.OQ _ h4
 exact S.OQ _ cB
theorem atg(y1:List B8)(y2:List (Int×Int×List (B8×List Int)))(hp:True)(hf:Vg.aL J.az0 (y1,y2)):œ y1 y2:=by
 unfold œ;have dX:Vg.hlen y1:=hf.1.1;have dY:Vg.hlen y2:=hf.2.1.1;clear hf;with_reducible and_intros
 iterate 2 trivial
 rfl
theorem ath(y1:List B8)(y2:List (Int×Int×List (B8×List Int)))(d:B8)(hp:True)(hf:Vg.aL J.az1 (y1,y2,d)):Ŕ y1 y2 d:=by
 delta Ŕ aa ah ai;have dX:Vg.hlen y1:=hf.1.1;have dY:Vg.hlen y2:=hf.2.1.1;have uJ:Vg.hlen d:=hf.2.2.1.1;clear hf;with_reducible and_intros
 trivial
 . intro h1;try simp only [dt] at h1
   with_reducible and_intros
   iterate 2 (rw [S.azj h1])
   rw [S.azj h1]
 intro h2;try simp only [df] at h2
 refine⟨?_,?_⟩
 . intro h3;try simp only [dt] at h3
   with_reducible and_intros
   iterate 2 (rw [S.azk h2 h3])
   rw [S.azk h2 h3]
 intro h4;try simp only [df] at h4
 with_reducible and_intros
 exact S.uA _ _
 . simp only [S.small];omega
 . have :=(S.ku y1 y2).1;simp only [J!];omega
 iterate 2 (rw [S.ajw h2 h4])
 rw [S.ajw h2 h4]
theorem ati(y1:List B8)(y2:List (Int×Int×List (B8×List Int)))(hp:True)(hf:Vg.aL J.az0 (y1,y2)):ŕ y1 y2:=by
 delta ŕ Ut aa;have dX:Vg.hlen y1:=hf.1.1;have dY:Vg.hlen y2:=hf.2.1.1;clear hf;with_reducible and_intros
 iterate 2 trivial
 . intro h1;try simp only [dt] at h1
   with_reducible and_intros
   iterate 2 (rw [S.azl h1])
   rw [S.azl h1]
 intro h2;try simp only [df] at h2
 refine⟨?_,?_⟩
 . intro h3;try simp only [dt] at h3
   with_reducible and_intros
   iterate 2 (rw [S.azm h2 h3])
   rw [S.azm h2 h3]
 intro h4;try simp only [df] at h4
 with_reducible and_intros
 trivial
 . intro h5;try simp only [nt,df] at h5
   with_reducible and_intros
   iterate 3 (exact absurd (by rw [S.azn h2]) h5)
 intro h6;try simp only [nf,dt] at h6
 with_reducible and_intros
 exact S.uA _ _
 . have :=(S.ku y1 y2).2.1;simp only [J!];omega
 iterate 2 (rw [S.azo h2 h4])
 rw [S.azo h2 h4]
theorem atl(y1:List B8)(y2:List (Int×Int×List (B8×List Int)))(hp:True)(hf:Vg.aL J.az0 (y1,y2)):Ř y1 y2:=by
 delta Ř rH aq Mg aa ah;have dX:Vg.hlen y1:=hf.1.1;have dY:Vg.hlen y2:=hf.2.1.1;clear hf;with_reducible and_intros
 trivial;iterate 2 omega
 . have :=(S.ku y1 y2).2.1;omega
 . refine⟨(nat_lit 0:Nat),?_⟩;try dsimp only
   with_reducible and_intros
   omega;rfl;omega
 intro x1 h2;refine⟨?_,?_⟩
 . intro h3;try simp only [dt] at h3
   with_reducible and_intros
   iterate 2 omega
   exact(S.wi y1 y2 (k:=x1) w!).2
   . have :=S.ES y1 y2 x1;simp only [J!];omega
   omega
   . have :=(S.ku y1 y2).2.1;omega
   refine⟨(x1+nat_lit 1),?_⟩;try dsimp only
   with_reducible and_intros
   omega;exact S.TM h3
   . simp only [S.gL,S.ag] at *;omega
   simp only [S.gL,S.ag] at *;omega
 intro h4;try simp only [df] at h4
 exact S.Ì h4
theorem atm(y1:List B8)(y2:List (Int×Int×List (B8×List Int)))(hp:True)(hf:Vg.aL J.az0 (y1,y2)):ř y1 y2:=by
 delta ř amX O9 amY uG aq aa ah ai;have dX:Vg.hlen y1:=hf.1.1;have dY:Vg.hlen y2:=hf.2.1.1;clear hf;with_reducible and_intros
 trivial
 . intro h1;try simp only [V.k7,nt,dt] at h1
   exact S.aIK h1
 intro h2;try simp only [V.dc,nf,df] at h2
 refine⟨?_,?_⟩
 . refine⟨(nat_lit 0:Nat),?_⟩;try dsimp only
   refine⟨?_,?_⟩
   . omega
   exact⟨h2.1,w!,fun i hi=>absurd hi (Nat.not_lt_zero i),K! _⟩
 intro x3 h4;refine⟨?_,?_⟩
 . intro h5;try simp only [dt] at h5
   with_reducible and_intros
   iterate 2 omega
   . intro h6;try simp only [dt] at h6
     refine⟨?_,?_⟩
     . intro h7;try simp only [nt,df,tn] at h7
       trivial
     intro h8;try simp only [nf,dt,tn] at h8
     refine⟨?_,?_⟩
     . intro h9;try simp only [dt] at h9
       with_reducible and_intros
       iterate 4 omega
       . intro b9;try simp only [nt,df,tn] at b9
         trivial
       intro eG;try simp only [nf,dt,tn] at eG
       trivial
     intro cB;try simp only [df] at cB
     trivial
   . intro gZ;try simp only [df] at gZ
     refine⟨?_,?_⟩
     . intro dK;try simp only [dt] at dK
       with_reducible and_intros
       iterate 4 omega
       . intro jS;try simp only [nt,df,tn] at jS
         trivial
       intro tL;try simp only [nf,dt,tn] at tL
       trivial
     intro vA;try simp only [df] at vA
     trivial
   . intro rl;exact S.Jb h5 (S.arf (S.ajx.symm.trans rl))
   intro yc;with_reducible and_intros
   iterate 2 omega
   exact S.qd (S.azt (S.ajx.symm.trans yc)).2;trivial
   . intro Fm;try simp only [nt] at Fm
     exact S.Jb h5 (S.aBW Fm)
   intro py;try simp only [nf] at py
   with_reducible and_intros
   iterate 2 omega
   refine⟨(x3+nat_lit 1),?_⟩;try dsimp only
   with_reducible and_intros
   omega;exact S.TJ h4 h5 (S.arh (S.azt (S.ajx.symm.trans yc)) py);simp only [S.ag,S.len,S.bS,S.nM,S.gL] at *;omega
 intro IL;try simp only [df] at IL
 exact S.É h4 IL
theorem atn(y1:List B8)(y2:List (Int×Int×List (B8×List Int)))(hp:True)(hf:Vg.aL J.az0 (y1,y2)):Ś y1 y2:=by
 unfold Ś;have dX:Vg.hlen y1:=hf.1.1;have dY:Vg.hlen y2:=hf.2.1.1;clear hf;with_reducible and_intros
 trivial
 . intro h1;refine⟨?_,?_⟩
   . rw [S.fY h1]
   rw [S.fY h1]
 intro h2;refine⟨?_,?_⟩
 . rw [S.ER h2]
 rw [S.ER h2]
theorem ato(y1:List B8)(y2:List (Int×Int×List (B8×List Int)))(hp:True)(hf:Vg.aL J.az0 (y1,y2)):ś y1 y2:=by
 delta ś aq aa ah;have dX:Vg.hlen y1:=hf.1.1;have dY:Vg.hlen y2:=hf.2.1.1;clear hf;with_reducible and_intros
 trivial
 . refine⟨(nat_lit 0:Nat),?_⟩;try dsimp only
   with_reducible and_intros
   omega;rfl;omega
 intro x1 h2;refine⟨?_,?_⟩
 . intro h3;try simp only [dt] at h3
   with_reducible and_intros
   iterate 3 omega
   . have :=(S.ku y1 y2).2.1;omega
   refine⟨(x1+nat_lit 1),?_⟩;try dsimp only
   with_reducible and_intros
   omega;exact S.OP _ _
   . simp only [S.ag,S.len,S.bS,S.nM,S.gL] at *;omega
   simp only [S.ag,S.len,S.bS,S.nM,S.gL] at *;omega
 intro h4;try simp only [df] at h4
 exact S.afx h2 h4
theorem atp(y1:List B8)(y2:List (Int×Int×List (B8×List Int)))(hp:True)(hf:Vg.aL J.az0 (y1,y2)):Ŝ y1 y2:=by
 delta Ŝ amZ aq aa ah;have dX:Vg.hlen y1:=hf.1.1;have dY:Vg.hlen y2:=hf.2.1.1;clear hf;with_reducible and_intros
 trivial
 . refine⟨(nat_lit 0:Nat),?_⟩;try dsimp only
   with_reducible and_intros
   omega;rfl;omega
 intro x1 h2;refine⟨?_,?_⟩
 . intro h3;try simp only [dt] at h3
   with_reducible and_intros
   iterate 2 omega
   exact(S.wi y1 y2 (k:=x1) w!).2;exact S.LG (S.wi y1 y2 (k:=x1) w!).1
   . have :=S.ES y1 y2 x1;simp only [J!];omega
   omega
   . have :=(S.ku y1 y2).2.1;omega
   refine⟨(x1+nat_lit 1),?_⟩;try dsimp only
   with_reducible and_intros
   omega;exact S.afy h3
   . simp only [S.ag,S.len,S.bS,S.nM,S.gL] at *;omega
   simp only [S.ag,S.len,S.bS,S.nM,S.gL] at *;omega
 intro h4;try simp only [df] at h4
 exact S.Ì h4
theorem atq(y1:List B8)(y2:List (Int×Int×List (B8×List Int)))(hp:S.small y2)(hf:Vg.aL J.az0 (y1,y2)):ŝ y1 y2:=by
 delta ŝ wA aq aa ah ai;have dX:Vg.hlen y1:=hf.1.1;have dY:Vg.hlen y2:=hf.2.1.1;clear hf;refine⟨?_,?_⟩
 . refine⟨(nat_lit 0:Nat),?_⟩;try dsimp only
   with_reducible and_intros
   omega;iterate 2 rfl
   simp only [S.ag,S.len,S.bS,S.gL,S.pL,S.pD] at *;omega
 intro x1 h2;refine⟨?_,?_⟩
 . intro h3;try simp only [dt] at h3
   with_reducible and_intros
   iterate 2 omega
   trivial
   . simp only [X!,J!,S.small] at *;omega
   iterate 2 omega
   refine⟨(x1+nat_lit 1),?_⟩;try dsimp only
   with_reducible and_intros
   omega;rfl;exact(S.ar y2 x1 (0,0,[]) w!).symm
   . simp only [S.ag,S.len,S.bS,S.gL,S.pL,S.pD] at *;omega
   simp only [S.ag,S.len,S.bS,S.gL,S.pL,S.pD] at *;omega
 intro h4;try simp only [df] at h4
 refine⟨?_,?_⟩
 . rfl
 exact J? w!
theorem ats(y1:List B8)(y2:List (Int×Int×List (B8×List Int)))(hp:True)(hf:Vg.aL J.az0 (y1,y2)):ş y1 y2:=by
 delta ş aq aa ah ai;have dX:Vg.hlen y1:=hf.1.1;have dY:Vg.hlen y2:=hf.2.1.1;clear hf;refine⟨?_,?_⟩
 . refine⟨(nat_lit 0:Nat),?_⟩;try dsimp only
   refine⟨?_,?_⟩
   . omega
   exact S.aIL _
 intro x1 h2;refine⟨?_,?_⟩
 . intro h3;try simp only [dt] at h3
   with_reducible and_intros
   iterate 2 omega
   trivial
   . intro h4;exact S.ari h3 h4
   intro h5;with_reducible and_intros
   iterate 2 omega
   refine⟨(x1+nat_lit 1),?_⟩;try dsimp only
   with_reducible and_intros
   omega;exact S.ajy h2 h3 h5;simp only [S.ag,S.len,S.bS,S.gL,S.pL,S.pD] at *;omega
 intro h6;try simp only [df] at h6
 refine⟨?_,?_⟩
 . trivial
 exact S.arj h2 h6
theorem atu(y1:Int)(y2:B8)(y3:List (Int×Int×Int×B8))(hp:True)(hf:Vg.aL J.gl (y1,y2,y3)):š y1 y2 y3:=by
 delta š aa ai;have dX:Vg.hint y1:=hf.1;have dY:Vg.hlen y2:=hf.2.1;have Dm:Vg.hlen y3:=hf.2.2.1.1;clear hf;with_reducible and_intros
 . intro h1;try simp only [dt] at h1
   refine⟨?_,?_⟩
   . intro h2;try simp only [dt] at h2
     refine⟨?_,?_⟩
     . intro h3;try simp only [dt] at h3
       trivial
     intro h4;try simp only [df] at h4
     trivial
   intro h5;try simp only [df] at h5
   trivial
 . intro h6;try simp only [df] at h6
   trivial
 exact S.ars _ _ _
theorem atv(y1:List B8)(y2:List (Int×Int×List (B8×List Int)))(hp:True)(hf:Vg.aL J.az0 (y1,y2)):Ţ y1 y2:=by
 delta Ţ aa ai;have dX:Vg.hlen y1:=hf.1.1;have dY:Vg.hlen y2:=hf.2.1.1;clear hf;with_reducible and_intros
 trivial
 . intro h1;try simp only [nt] at h1
   trivial
 . intro h2;try simp only [nf] at h2
   trivial
 . intro h3;try simp only [V.k7,nt,df] at h3
   with_reducible and_intros
   iterate 3 (rw [S.Ô h3])
   rw [S.Ô h3]
 intro h4;try simp only [V.dc,nf,dt] at h4
 with_reducible and_intros
 exact(S.C9 h4.1).1;exact(S.C9 h4.1).2
 . intro h5;try simp only [nt,df] at h5
   with_reducible and_intros
   iterate 4 (exact absurd (S.TR y1).1 h5)
 intro h6;try simp only [nf,dt] at h6
 with_reducible and_intros
 trivial;rw [S.zS h4];rw [S.zS h4,(S.TR y1).2];rw [S.zS h4];rw [S.zS h4]
theorem atw(v q:Int)(hp:S.dz v=false/\q=0)(hf:Vg.fH J.az2 v)(hg:Vg.cI.ok J.q6q (q,((),()))):ţ v q:=by
 delta ţ aa;have UF:Vg.hint v:=hf.1;have aAv:Vg.hint q:=hg.1.1;clear hf hg;refine⟨?_,?_⟩
 . intro h1;try simp only [dt] at h1
   with_reducible and_intros
   trivial;exact(S.Õ hp.1 []).1;exact(S.Õ hp.1 []).2
 intro h2;try simp only [df] at h2
 refine⟨?_,?_⟩
 . omega
 omega
theorem atx(v q:Int)(l:B8)(hp:S.dz v=false/\q=0/\l.length<=35184372088832)(hf:Vg.fH J.az2 v)(hg:Vg.cI.ok J.q7q (q,((),(l,())))):Ť v q l:=by
 delta Ť aa;have UF:Vg.hint v:=hf.1;have aAv:Vg.hint q:=hg.1.1;have dy:Vg.hlen l:=hg.2.2.1.1;clear hf hg;refine⟨?_,?_⟩
 . intro h1;try simp only [dt] at h1
   with_reducible and_intros
   omega;exact(S.Õ hp.1 l).1;exact(S.Õ hp.1 l).2
 intro h2;try simp only [df] at h2
 refine⟨?_,?_⟩
 . omega
 omega
theorem aty(d l:B8)(hp:l.length<=35184372088832/\d.length<=35184372088832)(hf:Vg.fH J.az3 d)(hg:Vg.cI.ok J.q8q ((),(l,()))):ť d l:=by
 delta ť bp;have uJ:Vg.hlen d:=hf.1;have dy:Vg.hlen l:=hg.2.1.1;clear hf hg;refine⟨?_,?_⟩
 . omega
 rfl
theorem atz(y1:Int)(y2:B8)(y3:List (Int×Int×Int×B8))(hp:True)(hf:Vg.aL J.gl (y1,y2,y3)):Ŧ y1 y2 y3:=by
 delta Ŧ nP aq aa ah ai;have dX:Vg.hint y1:=hf.1;have dY:Vg.hlen y2:=hf.2.1;have Dm:Vg.hlen y3:=hf.2.2.1.1;clear hf;with_reducible and_intros
 trivial
 . intro h1;try simp only [nt] at h1
   refine⟨?_,?_⟩
   . rw [S.QP h1]
   rw [S.QP h1]
 intro h2;try simp only [nf] at h2
 with_reducible and_intros
 . have q:=S.gU.1 h2;exact S.Da w! w!
 rfl
 . have :=S.bF y1;omega
 . have q:=(S.gU.1 h2).2.2.1;omega
 . have q:=(S.oJ (S.gU.1 h2).2.2.2).1;exact S.Da w! w!
 rfl
 . have :=S.bF y1;have q:=(S.gU.1 h2).2.2.1;rw [C!];omega
 . refine⟨(nat_lit 0:Nat),?_⟩;try dsimp only
   with_reducible and_intros
   omega;exact S.azu _ _ _;rfl;exact⟨h2,K! _⟩
 intro x3 h4;refine⟨?_,?_⟩
 . intro h5;try simp only [dt] at h5
   with_reducible and_intros
   iterate 2 omega
   exact(S.Db h4 h5).1;rfl
   . have :=S.A8 h4;omega
   exact(S.Db h4 h5).2.1;rfl
   . have q:=S.A8 h4;have q2:=S.bF (y3.getD (Int.toNat (x3:Int)) (0,0,0,[])).2.1;simp only [C!];omega
   . have q:=S.A8 h4;have q2:=S.bF (y3.getD (Int.toNat (x3:Int)) (0,0,0,[])).2.1;have q3:=S.bF (y3.getD (Int.toNat (x3:Int)) (0,0,0,[])).2.2.1;simp only [C!];omega
   exact f? (Nat.le_of_eq (S.Db h4 h5).2.2) (by decide);iterate 2 omega
   refine⟨(x3+nat_lit 1),?_⟩;try dsimp only
   with_reducible and_intros
   omega;exact S.TS h5;rfl;exact⟨h4.1,w!⟩;simp only [S.ag,S.len];omega
 intro h6;try simp only [df] at h6
 refine⟨?_,?_⟩
 . intro h7;try simp only [nt,df] at h7
   refine⟨?_,?_⟩
   . trivial
   trivial
 intro h8;try simp only [nf,dt] at h8
 refine⟨?_,?_⟩
 . rw [S.EU h2]
 rw [S.EU h2];exact S.QQ h6
theorem atA(r1:B8)(r2 r3:Int)(hp:r1.length<=140737488355328)(hf:Vg.fH J.az4 ())(hg:Vg.cI.ok J.yb ((r1,r2,r3),())):ŧ r1 r2 r3:=by
 delta ŧ bp;have oq:Vg.hlen r1:=hg.1.1.1;have ot:Vg.hint r2:=hg.1.2.1;have ou:Vg.hint r3:=hg.1.2.2.1;clear hf hg;with_reducible and_intros
 omega;rfl;exact(S.Jc _ _ _).1;iterate 2 rfl
theorem atB(r1:B8)(r2 r3:Int)(hp:r1.length<=140737488355328)(hf:Vg.fH J.az4 ())(hg:Vg.cI.ok J.yb ((r1,r2,r3),())):Ũ r1 r2 r3:=by
 delta Ũ bp;have oq:Vg.hlen r1:=hg.1.1.1;have ot:Vg.hint r2:=hg.1.2.1;have ou:Vg.hint r3:=hg.1.2.2.1;clear hf hg;with_reducible and_intros
 omega;rfl;exact(S.Jc _ _ _).2;iterate 2 rfl
theorem atC(a:Int)(r1:B8)(r2 r3:Int)(hp:r1.length<=140737488355328)(hf:Vg.fH J.az5 ())(hg:Vg.cI.ok J.az8 (a,((),((),((r1,r2,r3),()))))):ū a r1 r2 r3:=by
 delta ū Uu am0 bp;have Ah:Vg.hint a:=hg.1.1;have oq:Vg.hlen r1:=hg.2.2.2.1.1.1;have ot:Vg.hint r2:=hg.2.2.2.1.2.1;have ou:Vg.hint r3:=hg.2.2.2.1.2.2.1;clear hf hg;with_reducible and_intros
 iterate 3 omega
 iterate 10 rfl
theorem atD(b:B8)(hp:b.length<=140737488355328)(hf:Vg.aL J.ei b):Ŭ b:=by
 delta Ŭ ł Ad Pa Pb aq bp aa ah;have dJ:Vg.hlen b:=hf.1.1;clear hf;with_reducible and_intros
 iterate 3 omega
 . intro h1;try simp only [dt] at h1
   with_reducible and_intros
   iterate 3 (rw [S.TQ h1])
   rw [S.TQ h1]
 intro h2;try simp only [df] at h2
 refine⟨?_,?_⟩
 . refine⟨(nat_lit 0:Nat),?_⟩;try dsimp only
   with_reducible and_intros
   omega;iterate 9 rfl
   omega;exact Int.not_lt.1 h2
 intro x3 h4;refine⟨?_,?_⟩
 . intro h5;try simp only [dt] at h5
   with_reducible and_intros
   omega
   . have q:=S.aBZ b x3;have q2:=h4.2;have q3:(x3:Int)<(S.gh b).1.2.2:=h5;simp only [J!];omega
   omega
   . have q2:=h4.2;have q3:(x3:Int)<(S.gh b).1.2.2:=h5;omega
   refine⟨(x3+nat_lit 1),?_⟩;try dsimp only
   with_reducible and_intros
   omega;iterate 9 rfl
   exact S.ajG h5;omega;have q:=S.ajG h5;simp only [S.ag];omega
 intro h6;try simp only [df] at h6
 with_reducible and_intros
 trivial
 . intro h7;try simp only [nt,df] at h7
   with_reducible and_intros
   iterate 3 (rw [S.azv h2 h4.1 h6 h7])
   rw [S.azv h2 h4.1 h6 h7]
 intro h8;try simp only [nf,dt] at h8
 with_reducible and_intros
 trivial
 . intro h9;try simp only [nt] at h9
   with_reducible and_intros
   iterate 3 (rw [S.azw h2 h4.1 h6 h8 h9])
   rw [S.azw h2 h4.1 h6 h8 h9]
 intro b9;try simp only [nf] at b9
 with_reducible and_intros
 iterate 3 (rw [S.azx h2 h4.1 h6 h8 b9])
 rw [S.azx h2 h4.1 h6 h8 b9]
theorem atE(y1:List B8)(y2:List (Int×Int×List (B8×List Int)))(hp:True)(hf:Vg.aL J.az0 (y1,y2)):ŭ y1 y2:=by
 delta ŭ ai;have dX:Vg.hlen y1:=hf.1.1;have dY:Vg.hlen y2:=hf.2.1.1;clear hf;with_reducible and_intros
 trivial
 . intro h1;trivial
 . intro h2;trivial
 exact S.afz _ _
theorem atF(y1:List B8)(y2:List (Int×Int×List (B8×List Int)))(hp:S.bJ y1)(hf:Vg.aL J.az0 (y1,y2)):Ů y1 y2:=by
 delta Ů ai;have dX:Vg.hlen y1:=hf.1.1;have dY:Vg.hlen y2:=hf.2.1.1;clear hf;with_reducible and_intros
 omega;exact S.QO hp;trivial;iterate 3 rfl
theorem atI(d:List (B8×List Int))(t:B8)(hp:S.aQ d/\S.small t)(hf:Vg.aL J.Ce (d,t)):ű d t:=by
 delta ű rI Ae aq bp aa ah ai;have uJ:Vg.hlen d:=hf.1.1;have Ir:Vg.hlen t:=hf.2.1;clear hf;have dg:=hp.1;have gH:t.length<=1099511627776:=hp.2;with_reducible and_intros
 exact dg
 . intro h1;try simp only [nt,df] at h1
   trivial
 . intro h2;try simp only [nf,dt] at h2
   exact gH
 . intro h3;try simp only [V.k7,nt,df] at h3
   with_reducible and_intros
   iterate 6
    . rw [S.Ú (by first|assumption|simp_all)];try rfl
   rw [S.Ú (by first|assumption|simp_all)];try rfl
 intro h4;try simp only [V.dc,nf,dt] at h4
 with_reducible and_intros
 exact dg
 iterate 6
  . (have q:=S.TW dg (S.tm (And.left (by assumption))) t;omega)
 . (have q:=S.TW dg (S.tm (And.left (by assumption))) t;exact q.2.2.1)
 . (have q:=S.TW dg (S.tm (And.left (by assumption))) t;exact q.2.2.2.1)
 . intro h5;with_reducible and_intros
   exact dg;trivial
   iterate 6
    . have r:S.dE d=0/\S.isTerm t=true :=by assumption
      (rw [S.rh (S.tm r.1) r.2,S.LP dg (S.tm r.1)])<;>(simp only;try first|rw [R! (by assumption)]|rw [N! (by simp_all)])
   have r:S.dE d=0/\S.isTerm t=true :=by assumption
   (rw [S.rh (S.tm r.1) r.2,S.LP dg (S.tm r.1)])<;>(simp only;try first|rw [R! (by assumption)]|rw [N! (by simp_all)])
 intro h6;with_reducible and_intros
 iterate 6
  . have r:S.dE d=0/\S.isTerm t=true :=by assumption
    (rw [S.rh (S.tm r.1) r.2,S.LP dg (S.tm r.1)])<;>(simp only;try first|rw [R! (by assumption)]|rw [N! (by simp_all)])
 have r:S.dE d=0/\S.isTerm t=true :=by assumption
 (rw [S.rh (S.tm r.1) r.2,S.LP dg (S.tm r.1)])<;>(simp only;try first|rw [R! (by assumption)]|rw [N! (by simp_all)])
theorem atK(l:List B8)(hp:S.small l)(hf:Vg.fH J.H2 ())(hg:Vg.cI.ok J.Rf (l,())):ų l:=by
 delta ų aq aa ah ai;clear hf hg;have dg:l.length<=1099511627776:=hp;refine⟨?_,?_⟩
 . intro h1;try simp only [dt] at h1
   exact S.La h1
 intro h2;refine⟨?_,?_⟩
 . grind[S.aiF]
 intro x3 h4;refine⟨?_,?_⟩
 . intro h5;try simp only [dt] at h5
   with_reducible and_intros
   iterate 5 omega
   . have :=h4.1;omega
   iterate 2 omega
   . intro h6;try simp only [dt,tn] at h6
     with_reducible and_intros
     iterate 2 omega
     . refine⟨((x3),((nat_lit 1:Nat),((l),(x3)))),?_⟩;grind[S.À]
     intro x7 h8;refine⟨?_,?_⟩
     . intro h9;try simp at h9
       with_reducible and_intros
       iterate 2 omega
       . have q1:=h8.1.1;have q2:=h8.1.2.1;have q3:=h8.1.2.2.2.1;have q4:=h8.1.2.2.2.2.1;omega
       iterate 2 omega
       . have q1:=h8.1.1;omega
       omega
       . have q1:=h8.1.1;have q2:=h8.1.2.1;have q3:=h8.1.2.2.2.1;have q4:=h8.1.2.2.2.2.1;omega
       . intro b9;with_reducible and_intros
         iterate 2 omega
         . have q1:=h8.1.1;have q2:=h8.1.2.1;have q3:=h8.1.2.2.2.1;have q4:=h8.1.2.2.2.2.1;have q5:=h8.2;omega
         omega
         iterate 2
          . have q1:=h8.1.1;have q2:=h8.1.2.1;have q3:=h8.1.2.2.2.1;have q4:=h8.1.2.2.2.2.1;have q5:=h8.2;omega
         omega;have q1:=h8.1.1;have q2:=h8.1.2.1;have q3:=h8.1.2.2.2.1;omega
       . intro eG;trivial
       iterate 2 omega
       refine⟨((Int.toNat (bif !Decidable.decide (List.getD (Prod.fst (Prod.snd (Prod.snd x7))) (Int.toNat (↑x3:Int)+Int.toNat (↑(Prod.fst (Prod.snd x7)):Int)) []=List.getD (Prod.fst (Prod.snd (Prod.snd x7))) (Int.toNat (↑x3:Int)+Int.toNat ((↑(Prod.fst (Prod.snd x7)):Int)-(1:Int))) []) then(↑(Prod.fst x7):Int)+(1:Int) else(↑(Prod.fst x7):Int))),((Prod.fst (Prod.snd x7)+nat_lit 1),((bif !Decidable.decide (List.getD (Prod.fst (Prod.snd (Prod.snd x7))) (Int.toNat (↑x3:Int)+Int.toNat (↑(Prod.fst (Prod.snd x7)):Int)) []=List.getD (Prod.fst (Prod.snd (Prod.snd x7))) (Int.toNat (↑x3:Int)+Int.toNat ((↑(Prod.fst (Prod.snd x7)):Int)-(1:Int))) []) then List.set (Prod.fst (Prod.snd (Prod.snd x7))) (Int.toNat (↑(Prod.fst x7):Int)) (List.getD (Prod.fst (Prod.snd (Prod.snd x7))) (Int.toNat (↑x3:Int)+Int.toNat (↑(Prod.fst (Prod.snd x7)):Int)) []) else Prod.fst (Prod.snd (Prod.snd x7))),(x3)))),?_⟩;try dsimp only
       with_reducible and_intros
       . generalize (!decide (List.getD x7.2.2.1 (Int.toNat (x3:Int)+Int.toNat (x7.2.1:Int)) []=List.getD x7.2.2.1 (Int.toNat (x3:Int)+Int.toNat ((x7.2.1:Int)-1)) []))=c;cases c<;>simp<;>omega
       omega;trivial
       . have q1:=h8.1.1;have e3:x7.2.2.2=x3:=by have :=h8.2;omega
         have hi:=h8.1;rw [e3] at hi;have e1:Int.toNat (x3:Int)+Int.toNat (x7.2.1:Int)=x3+x7.2.1:=by omega
         have e2:Int.toNat (x3:Int)+Int.toNat ((x7.2.1:Int)-1)=x3+x7.2.1-1:=by omega
         rw [e1,e2];by_cases hd:List.getD x7.2.2.1 (x3+x7.2.1) []=List.getD x7.2.2.1 (x3+x7.2.1-1) []
         . rw [S? hd];exact S.Lb hi w! hd
         rw [a? hd];exact S.Ox hi w! hd
       omega;simp only [S.ag,S.len];omega
     intro cB;with_reducible and_intros
     omega
     iterate 2
      . have q1:=h8.1.2.1;have q2:=h8.1.2.2.2.1;have q3:=h8.1.2.2.2.2.1;omega
     omega
     . have q1:=h8.1.2.1;have q2:=h8.1.2.2.2.1;have q3:=h8.1.2.2.2.2.1;simp;omega
     have q1:=h8.1.2.1;have q2:=h8.1.2.2.2.1;have q3:=h8.1.2.2.2.2.1;grind[Int.toNat,S.HP,S.Oy]
   intro gZ;try simp only [df,tn] at gZ
   with_reducible and_intros
   iterate 2 omega
   refine⟨(x3+nat_lit 1),?_⟩;grind[S.Ov,S.ag,S.len]
 grind[df,S.S6]
theorem atL(l:List (Int×B8))(hp:S.lR l)(hf:Vg.aL J.O5 l):ŵ l:=by
 delta ŵ Ci am1 Ij aq aa ah ai;have dy:Vg.hlen l:=hf.1.1;clear hf;have dg:l.length<=1099511627776:=hp.1;have hq:=hp;clear hp;refine⟨?_,?_⟩
 . refine⟨(nat_lit 0:Nat),?_⟩;try dsimp only
   with_reducible and_intros
   iterate 3 rfl
   exact S.azy hq.1
 intro x1 h2;refine⟨?_,?_⟩
 . intro h3;try simp only [dt] at h3
   with_reducible and_intros
   iterate 2 omega
   . intro h4;try simp only [dt,tn] at h4
     with_reducible and_intros
     exact S.ajU hq _
     . intro h5;try simp only [nt] at h5
       exact S.T0 h3 h4 h5
     intro h6;try simp only [nf] at h6
     with_reducible and_intros
     iterate 6
      . have q:=S.jL l x1;have q2:S.jQ l x1=2*S.nW l x1-x1:=rfl;omega
     refine⟨(x1+nat_lit 1),?_⟩;try dsimp only
     with_reducible and_intros
     . have q:=S.jL l x1;have q2:S.jQ l x1=2*S.nW l x1-x1:=rfl;omega
     exact(S.ajM (by assumption)).symm;exact(S.Jd (by assumption)).symm;exact S.TZ h2 h3 h4 h6;grind [S.ag,S.len]
   intro h7;try simp only [df,tn] at h7
   refine⟨?_,?_⟩
   . intro h8;try simp only [dt,tn] at h8
     refine⟨?_,?_⟩
     . intro h9;try simp at h9
       exact S.zU h3 h7 (.inr (by assumption))
     intro b9;try simp only [V.dc,nf,dt,tn,df] at b9
     with_reducible and_intros
     iterate 4
      . have q:=S.jL l x1;have q2:S.jQ l x1=2*S.nW l x1-x1:=rfl;omega
     refine⟨(x1+nat_lit 1),?_⟩;try dsimp only
     with_reducible and_intros
     . have q:=S.jL l x1;have q2:S.jQ l x1=2*S.nW l x1-x1:=rfl;omega
     exact(S.QR (by assumption)).symm;exact(S.Gx (by assumption)).symm;exact S.E1 h2 h3 h7 w! (by assumption);grind [S.ag,S.len]
   intro eG;refine⟨?_,?_⟩
   . intro cB;try simp only [dt,tn] at cB
     refine⟨?_,?_⟩
     . intro gZ;try simp at gZ
       exact S.zU h3 h7 (.inr (by assumption))
     intro dK;try simp only [V.dc,nf,dt,tn,df] at dK
     with_reducible and_intros
     iterate 4
      . have q:=S.jL l x1;have q2:S.jQ l x1=2*S.nW l x1-x1:=rfl;omega
     refine⟨(x1+nat_lit 1),?_⟩;try dsimp only
     with_reducible and_intros
     . have q:=S.jL l x1;have q2:S.jQ l x1=2*S.nW l x1-x1:=rfl;omega
     exact(S.QR (by assumption)).symm;exact(S.Gx (by assumption)).symm;exact S.E1 h2 h3 h7 w! (by assumption);grind [S.ag,S.len]
   intro jS;refine⟨?_,?_⟩
   . intro tL;try simp only [dt,tn] at tL
     refine⟨?_,?_⟩
     . intro vA;try simp at vA
       exact S.zU h3 h7 (.inr (by assumption))
     intro rl;try simp only [V.dc,nf,dt,tn,df] at rl
     with_reducible and_intros
     iterate 4
      . have q:=S.jL l x1;have q2:S.jQ l x1=2*S.nW l x1-x1:=rfl;omega
     refine⟨(x1+nat_lit 1),?_⟩;try dsimp only
     with_reducible and_intros
     . have q:=S.jL l x1;have q2:S.jQ l x1=2*S.nW l x1-x1:=rfl;omega
     exact(S.QR (by assumption)).symm;exact(S.Gx (by assumption)).symm;exact S.E1 h2 h3 h7 w! (by assumption);grind [S.ag,S.len]
   grind[df,tn,S.zU]
 grind[df,S.Þ]
theorem atM(l:List (Int×B8))(hp:S.small l)(hf:Vg.aL J.O5 l):Ŷ l:=by
 delta Ŷ am2 aq aa ah ai;have dy:Vg.hlen l:=hf.1.1;clear hf;have dg:l.length<=1099511627776:=hp;clear hp;refine⟨?_,?_⟩
 . grind[S.ag,S.len,S.bS,S.azz]
 intro x1 h2;refine⟨?_,?_⟩
 . intro h3;try simp only [dt] at h3
   with_reducible and_intros
   iterate 2 (grind [S.ag,S.len,S.bS])
   . intro h4;try simp only [dt,tn] at h4
     with_reducible and_intros
     . (have q:=S.T2 dg h2 [];exact q.1)
     iterate 2 (grind [S.ag,S.len,S.bS])
     refine⟨(x1+nat_lit 1),?_⟩;try dsimp only
     with_reducible and_intros
     grind [S.ag,S.len,S.bS];exact S.T1 h3 h4;iterate 2 (grind [S.ag,S.len,S.bS])
   intro h5;try simp only [df,tn] at h5
   with_reducible and_intros
   iterate 2 (grind [S.ag,S.len,S.bS])
   refine⟨(x1+nat_lit 1),?_⟩;try dsimp only
   with_reducible and_intros
   grind [S.ag,S.len,S.bS];exact S.WW h3 h5;iterate 2 (grind [S.ag,S.len,S.bS])
 intro h6;try simp only [df] at h6
 with_reducible and_intros
 . (have q:=S.T2 dg h2 [];exact q.2.1)
 . (have q:=S.T2 dg h2 [];exact q.2.2.1)
 grind[S.ß]
theorem atN(b:B8)(hp:S.small b)(hf:Vg.aL J.ei b):ŷ b:=by
 delta ŷ aa ai;with_reducible and_intros
 omega
 . intro h1;simp only [dt] at h1;rw [show S.aY b= [] from R?.1 w!];rfl
 intro h2;simp only [df] at h2;with_reducible and_intros
 iterate 3 omega
 rfl
theorem atO(st:Int)(bb:B8)(at_:Int)(hp:st=0/\bb=S.zV/\at_=3)(hf:Vg.fH J.uE ())(hg:Vg.cI.ok J.aAb (st,((),(bb,(at_,()))))):Ÿ st bb at_:=by
 delta Ÿ aa ai;obtain⟨q1,q2,q3⟩:=hp;subst q1;subst q2;subst q3;refine⟨?_,?_⟩
 . intro h1;with_reducible and_intros
   iterate 2 omega
   decide;exact(show(List.drop 0 (List.take 3 S.zV)).length<=1099511627776 by decide);decide;iterate 4 rfl
 grind
theorem atP(b:B8)(hp:b=S.zV)(hf:Vg.aL J.ei b):Ź b:=by
 delta Ź am3 aq aa ah ai;clear hf;subst hp;with_reducible and_intros
 exact(show S.zV.length<=1099511627776 by decide)
 . refine⟨(nat_lit 0:Nat),?_⟩;with_reducible and_intros
   decide;rfl;iterate 2 decide
   exact K! _
 intro x1 h2;refine⟨?_,?_⟩
 . intro h3;try simp only [dt] at h3
   with_reducible and_intros
   iterate 3 omega
   trivial
   . intro h4;trivial
   . intro h5;trivial
   . intro h6;with_reducible and_intros
     trivial;omega
     . rcases S.wo h3 with rfl|rfl|rfl<;>first|exact absurd h7.1 (by decide)|decide
     omega
     . rcases S.wo h3 with rfl|rfl|rfl<;>first|exact absurd h7.1 (by decide)|decide
     refine⟨(x1+nat_lit 1),?_⟩;try dsimp only
     with_reducible and_intros
     omega;rfl
     iterate 2
      . rcases S.wo h3 with rfl|rfl|rfl<;>first|exact absurd h7.1 (by decide)|decide
     . unfold S.bM;have :x1<3:=by have :=S.wo h3;omega
       omega
     rcases S.wo h3 with rfl|rfl|rfl<;>first|exact absurd h7.1 (by decide)|decide
   intro h7;try simp at h7
   with_reducible and_intros
   . rcases S.wo h3 with rfl|rfl|rfl<;>first|exact absurd h7.1 (by decide)|decide
   with_reducible rfl
   . rcases S.wo h3 with rfl|rfl|rfl<;>first|exact absurd h7.1 (by decide)|decide
   . intro h8;with_reducible and_intros
     omega
     . rcases S.wo h3 with rfl|rfl|rfl<;>first|exact absurd h7.1 (by decide)|decide
     omega
     . rcases S.wo h3 with rfl|rfl|rfl<;>first|exact absurd h7.1 (by decide)|decide
     refine⟨(x1+nat_lit 1),?_⟩;try dsimp only
     with_reducible and_intros
     omega;rfl
     . rcases S.wo h3 with rfl|rfl|rfl<;>first|exact absurd h7.1 (by decide)|decide
     omega
     iterate 2
      . rcases S.wo h3 with rfl|rfl|rfl<;>first|exact absurd h7.1 (by decide)|decide
     rcases S.wo h3 with rfl|rfl|rfl<;>first|exact absurd h7.1 (by decide)|decide
   intro h9;refine⟨?_,?_⟩
   . intro b9;with_reducible and_intros
     . rcases S.wo h3 with rfl|rfl|rfl<;>first|exact absurd h7.1 (by decide)|decide
     omega
     . rcases S.wo h3 with rfl|rfl|rfl<;>first|exact absurd h7.1 (by decide)|decide
     omega
     . rcases S.wo h3 with rfl|rfl|rfl<;>first|exact absurd h7.1 (by decide)|decide
     refine⟨(x1+nat_lit 1),?_⟩;try dsimp only
     with_reducible and_intros
     omega;rfl
     . rcases S.wo h3 with rfl|rfl|rfl<;>first|exact absurd h7.1 (by decide)|decide
     omega
     iterate 2
      . rcases S.wo h3 with rfl|rfl|rfl<;>first|exact absurd h7.1 (by decide)|decide
     rcases S.wo h3 with rfl|rfl|rfl<;>first|exact absurd h7.1 (by decide)|decide
   intro eG;refine⟨?_,?_⟩
   . rcases S.wo h3 with rfl|rfl|rfl<;>first|exact absurd h7.1 (by decide)|decide
   rcases S.wo h3 with rfl|rfl|rfl<;>first|exact absurd h7.1 (by decide)|decide
 intro cB;try simp only [df] at cB
 with_reducible and_intros
 . (have hx:=S.ge3 h2 cB;subst hx;decide)
 with_reducible rfl
 . (have hx:=S.ge3 h2 cB;subst hx;decide)
 iterate 2 decide
theorem atQ(e:List (Int×Int×B8))(n w:Int)(hp:0<=n/\n<e.length)(hf:Vg.fH J.az4 ())(hg:Vg.cI.ok J.Fa ((e,n,w),())):ź e n w:=by
 delta ź aa ai;with_reducible and_intros
 iterate 2 omega
 iterate 6 rfl
theorem atS(e:List (Int×Int×B8))(n w:Int)(l:List (Int×B8))(hp:0<=n/\n<e.length)(hf:Vg.fH J.az4 ())(hg:Vg.cI.ok J.akQ ((e,n,w),(l,()))):Ż e n w l:=by
 delta Ż aa ai;with_reducible and_intros
 iterate 2 omega
 iterate 7 rfl
theorem atT(d:Int)(e:List (Int×Int×B8))(n w:Int)(hp:e=S.kE/\n=0/\w=0)(hf:Vg.fH J.O6 d)(hg:Vg.cI.ok J.Fa ((e,n,w),())):ż d e n w:=by
 delta ż aq aa ah ai;obtain⟨q1,q2,q3⟩:=hp;subst q1;subst q2;refine⟨⟨?_,?_⟩,⟨?_,?_⟩⟩
 . omega
 . decide
 . intro h1;refine⟨?_,?_⟩
   . grind
   intro h3;with_reducible and_intros
   iterate 4 omega
   decide;iterate 2 rfl
   iterate 2 omega
   decide
 intro h4;simp at h4;refine⟨?_,?_⟩
 . intro h5;refine⟨?_,?_⟩
   . intro h6;with_reducible and_intros
     exact absurd rfl h4;rfl;iterate 3 exact absurd rfl h4
   intro h7;with_reducible and_intros
   iterate 2 omega
   exact absurd rfl h4
 intro h8;refine⟨?_,?_⟩
 . intro h9;with_reducible and_intros
   exact absurd rfl h4;rfl;iterate 3 exact absurd rfl h4
 intro b9;with_reducible and_intros
 exact absurd rfl h4;rfl;iterate 3 exact absurd rfl h4
theorem atU(d:Int)(e:List (Int×Int×B8))(n w:Int)(hp:e=S.kE/\n=0/\w=0)(hf:Vg.fH J.O6 d)(hg:Vg.cI.ok J.Fa ((e,n,w),())):Ž d e n w:=by
 delta Ž aq aa ah ai;obtain⟨q1,q2,q3⟩:=hp;subst q1;subst q2;subst q3;with_reducible and_intros
 iterate 3 rfl
 grind;intro h2;refine⟨?_,?_⟩
 . grind
 intro x3 h4;with_reducible and_intros
 omega;decide
 . intro h5;with_reducible and_intros
   iterate 2 omega
   exact absurd h5 (by decide)
 intro h6;refine⟨?_,?_⟩
 . intro h7;with_reducible and_intros
   iterate 2 omega
   exact absurd h7 (by decide)
 grind
theorem atV(d:Int)(e:List (Int×Int×B8))(n w:Int)(hp:e=S.kE/\n=0/\w=0)(hf:Vg.fH J.O6 d)(hg:Vg.cI.ok J.Fa ((e,n,w),())):ž d e n w:=by
 delta ž aq aa ah ai;obtain⟨q1,q2,q3⟩:=hp;subst q1;subst q2;subst q3;with_reducible and_intros
 iterate 3 rfl
 grind;intro h2;refine⟨?_,?_⟩
 . grind
 intro x3 h4;with_reducible and_intros
 omega;decide
 . intro h5;with_reducible and_intros
   iterate 2 omega
   exact absurd h5 (by decide)
 grind
theorem atW(b:B8)(hp:b=S.zV)(hf:Vg.aL J.ei b):aaa b:=by
 delta aaa Uv Uw aa ah ai;subst hp;refine⟨?_,?_⟩
 . intro h1;with_reducible and_intros
   exact absurd h1 (by decide);rfl;exact absurd h1 (by decide)
 intro h2;with_reducible and_intros
 iterate 4 rfl
 . intro h3;refine⟨?_,?_⟩
   . omega
   decide
 grind
 . intro h5;simp at h5;with_reducible and_intros
   iterate 2 decide
   iterate 2 (exact absurd (by decide) h5)
   decide
 grind
theorem at1(v:Int)(d:Bool)(l:B8)(hp:l.length<=35184372088832)(hf:Vg.fH J.O6 v)(hg:Vg.cI.ok J.xR (d,(l,()))):aaf v d l:=by
 delta aaf bp aa;have UF:Vg.hint v:=hf.1;have dy:Vg.hlen l:=hg.2.1.1;clear hf hg;with_reducible and_intros
 grind
 . have :(S.kg (Vg.dw UInt8) v).length<=9:=S.arH v;omega
 exact S.aIV v d;rw [S.aIU v];rfl
theorem at2(b:B8)(m:Int)(d:Bool)(l:B8)(hp:l.length<=35184372088832/\b.length<=1099511627776)(hf:Vg.fH J.az6 (b,m))(hg:Vg.cI.ok J.xR (d,(l,()))):aag b m d l:=by
 delta aag bp ai;have dJ:Vg.hlen b:=hf.1.1;have Mz:Vg.hint m:=hf.2.1;have dy:Vg.hlen l:=hg.2.1.1;clear hf hg;have dg:=hp.1;have gH:=hp.2;refine⟨?_,?_⟩
 . intro h1;try simp only [dt] at h1
   refine⟨?_,?_⟩
   . rw [S.é h1];exact(u? d).symm
   rw [S.é h1];exact(A? l).symm
 intro h2;try simp only [df] at h2
 with_reducible and_intros
 exact⟨K! _,w!⟩
 . have :=S.vv b;simp only [z?];omega
 . rw [S.aj3 h2];exact(Bool.or_false d).symm
 rw [S.aj3 h2];rfl
theorem at3(y1:Int)(y2:B8)(y3:List (Int×Int×Int×B8))(d:Bool)(l:B8)(hp:l.length<=35184372088832)(hf:Vg.fH J.nc (y1,y2,y3))(hg:Vg.cI.ok J.xR (d,(l,()))):aah y1 y2 y3 d l:=by
 delta aah aa;have dX:Vg.hint y1:=hf.1;have dY:Vg.hlen y2:=hf.2.1;have Dm:Vg.hlen y3:=hf.2.2.1.1;have dy:Vg.hlen l:=hg.2.1.1;clear hf hg;with_reducible and_intros
 trivial
 . intro h1;try simp only [nt,df] at h1
   refine⟨?_,?_⟩
   . rw [S.aj4 h1];exact(u? d).symm
   rw [S.aj4 h1];exact(A? l).symm
 intro h2;try simp only [nf,dt] at h2
 with_reducible and_intros
 omega
 . have :=(S.Q0 h2).2;omega
 rw [(S.Q0 h2).1];rw [(S.Q0 h2).1]
theorem at4(p:List B8)(d:Bool)(l:B8)(hp:l.length<=17592186044416)(hf:Vg.fH J.az7 p)(hg:Vg.cI.ok J.xR (d,(l,()))):aai p d l:=by
 delta aai am4 aq bp aa ah ai;have UE:Vg.hlen p:=hf.1.1;have dy:Vg.hlen l:=hg.2.1.1;clear hf hg;refine⟨?_,?_⟩
 . intro h1;try simp only [dt] at h1
   refine⟨?_,?_⟩
   . rw [S.ajY h1];exact(u? d).symm
   rw [S.ajY h1];exact(A? l).symm
 intro h2;try simp only [df] at h2
 with_reducible and_intros
 omega
 . refine⟨(nat_lit 0:Nat),?_⟩;try dsimp only
   with_reducible and_intros
   omega
   . rw [S.QZ w!];exact Bool.or_false d
   . rw [S.QZ w!];unfold S.gW;simp [S.bytesOf]
   exact S.aIS h2
 intro x3 h4;refine⟨?_,?_⟩
 . intro h5;try simp only [dt] at h5
   with_reducible and_intros
   iterate 2 omega
   . intro h6;try simp only [nt,df,tn] at h6
     refine⟨?_,?_⟩
     . rw [S.ã h4 h5 h6];exact(u? d).symm
     rw [S.ã h4 h5 h6];rfl
   intro h7;try simp only [nf,dt,tn] at h7
   with_reducible and_intros
   . have q:=S.arF h4;rw [C!,tn];omega
   iterate 2 omega
   refine⟨(x3+nat_lit 1),?_⟩;try dsimp only
   with_reducible and_intros
   omega;rfl;rw [tn,U!,(S.T7 h4 h5 h7).2];exact(S.T7 h4 h5 h7).1;simp only [S.ag,S.len];omega
 intro h8;try simp only [df] at h8
 refine⟨?_,?_⟩
 . rw [S.ä h4 h8];exact(Bool.or_false d).symm
 rw [S.ä h4 h8];rfl
theorem at5(p1:Int)(p2 p3 p4:B8)(p5:List B8)(p6:B8)(d:Bool)(l:B8)(hp:l.length<=8796093022208/\p6.length<=1099511627776)(hf:Vg.fH J.az9 (p1,p2,p3,p4,p5,p6))(hg:Vg.cI.ok J.xR (d,(l,()))):aaj p1 p2 p3 p4 p5 p6 d l:=by
 delta aaj aa;have Xh:Vg.hint p1:=hf.1;have Xi:Vg.hlen p2:=hf.2.1;have Xj:Vg.hlen p3:=hf.2.2.1;have Xk:Vg.hlen p4:=hf.2.2.2.1;have Xl:Vg.hlen p5:=hf.2.2.2.2.1.1;have Xm:Vg.hlen p6:=hf.2.2.2.2.2.1.1;have dy:Vg.hlen l:=hg.2.1.1;clear hf hg;have dg:=hp.1;have gH:=hp.2;have a1:=S.LZ p1;have a2:=S.wx (S.jJ p2 p3 p4) (m:=200) (by decide);have a3:=S.Dh p5;have a4:=S.arI p2 p3 p4;with_reducible and_intros
 omega;trivial
 . intro h1;try simp only [nt,df] at h1
   refine⟨?_,?_⟩
   . rw [S.ê h1];exact(u? d).symm
   rw [S.ê h1];rfl
 intro h2;try simp only [nf,dt] at h2
 with_reducible and_intros
 . simp only [S.bytesOf,C!];omega
 omega
 iterate 2
  . simp only [S.bytesOf,C!];omega
 omega
 . rw [S.T8 h2];simp only [S.jM,S.cat,Bool.or_assoc]
 rw [S.T8 h2];simp only [S.bytesOf,S.cat,U!]
theorem at6(d:Bool)(l:B8)(hp:True)(hf:Vg.fH J.az4 ())(hg:Vg.cI.ok J.xR (d,(l,()))):aak d l:=by
 delta aak aa ah ai;have dy:Vg.hlen l:=hg.2.1.1;clear hf hg;refine⟨?_,?_⟩
 . intro h1;refine⟨?_,?_⟩
   . rw [h1];rfl
   rw [h1];rfl
 intro h2;refine⟨?_,?_⟩
 . intro h3;try simp only [dt] at h3
   refine⟨?_,?_⟩
   . rw [h2];unfold S.pF;rw [if_neg z!,if_pos h3]
   rw [h2];unfold S.ri;rw [if_neg z!,if_pos h3]
 intro h4;try simp only [df] at h4
 refine⟨?_,?_⟩
 . rw [h2];unfold S.pF;rw [if_neg z!,if_neg h4]
 rw [h2];unfold S.ri;rw [if_neg z!,if_neg h4]
theorem at7(a1:Int)(a2:B8)(a3:List (Int×Int×Int×B8))(a4:List (List (Int×B8×B8×B8×List B8×B8)))(hp:S.wv a4)(hf:Vg.aL J.xP (a1,a2,a3,a4)):aal a1 a2 a3 a4:=by
 delta aal Fe Mi aq aa ah ai;have MA:Vg.hint a1:=hf.1;have MB:Vg.hlen a2:=hf.2.1;have Ru:Vg.hlen a3:=hf.2.2.1.1;have anu:Vg.hlen a4:=hf.2.2.2.1.1;clear hf;with_reducible and_intros
 decide
 . intro h1;try simp only [nt,df] at h1
   refine⟨?_,?_⟩
   . rw [S.aj0 h1]
   rw [S.aj0 h1]
 intro h2;try simp only [nf,dt] at h2
 refine⟨?_,?_⟩
 . refine⟨(nat_lit 0:Nat),?_⟩;try dsimp only
   with_reducible and_intros
   omega;iterate 2 rfl
   exact S.aIT hp h2
 intro x3 h4;refine⟨?_,?_⟩
 . intro h5;try simp only [dt] at h5
   with_reducible and_intros
   iterate 2 omega
   . intro h6;try simp only [dt,tn] at h6
     refine⟨?_,?_⟩
     . rw [S.æ h5 h6]
     rw [S.æ h5 h6]
   intro h7;try simp only [df,tn] at h7
   with_reducible and_intros
   exact f? (S.è (n:=a1) (g:=a2) h4) (by decide)
   . refine⟨((nat_lit 0:Nat),(x3)),?_⟩;try dsimp only
     with_reducible and_intros
     omega
     iterate 2
      . rw [tn,S.QZ w!];rfl
     exact S.aB5 h4 h5 h7;with_reducible rfl
   intro x8 h9;refine⟨?_,?_⟩
   . intro b9;try simp only [dt,tn] at b9
     with_reducible and_intros
     omega;assumption;exact f? (S.aj2 (n:=a1) (g:=a2) h9.1) (by decide)
     . obtain⟨q,e⟩:=h9;have e':x8.2=x3:=by omega
       rw [e'] at q;rw [tn,tn];exact S.aj1 q b9
     iterate 2 omega
     refine⟨((Prod.fst x8+nat_lit 1),(x3)),?_⟩;try dsimp only
     with_reducible and_intros
     omega
     . obtain⟨q,e⟩:=h9;have e':x8.2=x3:=by omega
       rw [e',tn,tn];exact(S.azA _ rfl _ _ rfl rfl).1
     . obtain⟨q,e⟩:=h9;have e':x8.2=x3:=by omega
       rw [e',tn,tn];exact(S.azA _ rfl _ _ rfl rfl).2
     . obtain⟨q,e⟩:=h9;have e':x8.2=x3:=by omega
       rw [e'] at q;exact S.ajZ q b9
     with_reducible rfl
     obtain⟨q,e⟩:=h9;have e':x8.2=x3:=by omega
     rw [e'];have hh:(x8.1:Int)<((S.fg a4 x3).length:Int):=b9;simp only [S.ag,S.len];omega
   intro eG;try simp only [df,tn] at eG
   with_reducible and_intros
   iterate 2 omega
   refine⟨(x3+nat_lit 1),?_⟩;try dsimp only
   with_reducible and_intros
   omega
   iterate 2
    . obtain⟨q,e⟩:=h9;have e':x8.2=x3:=by omega
      rw [e'] at q |-;rw [(S.å (n:=a1) (g:=a2) q eG).2]
   . obtain⟨q,e⟩:=h9;have e':x8.2=x3:=by omega
     rw [e'] at q;exact(S.å (n:=a1) (g:=a2) q eG).1
   simp only [S.ag,S.len];omega
 intro cB;try simp only [df] at cB
 with_reducible and_intros
 trivial
 . rw [S.ç h4 cB];rfl
 rw [S.ç h4 cB];rfl
theorem aua(p1:Int)(p2:B8)(p3:List (Int×Int×Int×B8))(p4:Int)(p5:B8)(p6:List B8)(hp:p5.length<=1099511627776)(hf:Vg.aL J.aAa (p1,p2,p3,p4,p5,p6)):aam p1 p2 p3 p4 p5 p6:=by
 delta aam am5;have Xh:Vg.hint p1:=hf.1;have Xi:Vg.hlen p2:=hf.2.1;have Xj:Vg.hlen p3:=hf.2.2.1.1;have Xk:Vg.hint p4:=hf.2.2.2.1;have Xl:Vg.hlen p5:=hf.2.2.2.2.1.1;have Xm:Vg.hlen p6:=hf.2.2.2.2.2.1.1;clear hf;have a1:=S.Be p1 p2 p3;have a2:=S.LZ p4;have a3:=S.wx p5 (m:=2000) (by decide);with_reducible and_intros
 grind
 iterate 2
  . simp only [S.bytesOf,C!,J!];omega
 omega
 . simp only [S.bytesOf,C!,J!];omega
 trivial;iterate 2 rfl
theorem aub(s1:Int)(s2:B8)(s3:List (Int×Int×Int×B8))(s4:Int)(s5:B8)(s6:List (Int×Int×Int×B8))(s7:List B8)(hp:True)(hf:Vg.aL J.xQ (s1,s2,s3,s4,s5,s6,s7)):aan s1 s2 s3 s4 s5 s6 s7:=by
 unfold aan;have kB:Vg.hint s1:=hf.1;have kC:Vg.hlen s2:=hf.2.1;have tI:Vg.hlen s3:=hf.2.2.1.1;have GN:Vg.hint s4:=hf.2.2.2.1;have Rq:Vg.hlen s5:=hf.2.2.2.2.1;have Rr:Vg.hlen s6:=hf.2.2.2.2.2.1.1;have Rt:Vg.hlen s7:=hf.2.2.2.2.2.2.1.1;clear hf;have a1:=S.Be s1 s2 s3;have a2:=S.Be s4 s5 s6;with_reducible and_intros
 grind
 iterate 2
  . simp only [S.bytesOf,C!,J!];omega
 trivial;iterate 2 rfl
theorem auc(b:B8)(c:UInt8)(hp:S.eP b c=0)(hf:Vg.fH J.aAc (b,c))(hg:Vg.cI.ok J.Br ()):aao b c:=by
 delta aao Cj aa ah ai;have dJ:Vg.hlen b:=hf.1.1;clear hf hg;refine⟨?_,?_⟩
 . intro h1;try simp only [dt] at h1
   with_reducible and_intros
   iterate 3
    . exfalso;have q:=S.ë (c:=c) h1;omega
 intro h2;try simp only [df] at h2
 refine⟨?_,?_⟩
 . intro h3;try simp only [dt] at h3
   with_reducible and_intros
   iterate 3
    . exfalso;have q:=S.ì (c:=c) h2 h3;omega
 intro h4;try simp only [df] at h4
 with_reducible and_intros
 iterate 2 omega
 . intro h5;try simp only [nt,df] at h5
   with_reducible and_intros
   iterate 3
    . exfalso;have q:=S.aj5 (c:=c) h2 h4 h5;omega
 intro h6;try simp only [nf,dt] at h6
 with_reducible and_intros
 iterate 5 rfl
theorem aud(b:B8)(c:UInt8)(hp:¬S.eP b c=0)(hf:Vg.fH J.aAc (b,c))(hg:Vg.cI.ok J.Br ()):aap b c:=by
 delta aap Ck aa ai;have dJ:Vg.hlen b:=hf.1.1;clear hf hg;refine⟨?_,?_⟩
 . intro h1;try simp only [dt] at h1
   exact(S.ë h1).symm
 intro h2;try simp only [df] at h2
 refine⟨?_,?_⟩
 . intro h3;try simp only [dt] at h3
   exact(S.ì h2 h3).symm
 intro h4;try simp only [df] at h4
 with_reducible and_intros
 iterate 2 omega
 . intro h5;try simp only [nt,df] at h5
   exact(S.aj5 h2 h4 h5).symm
 intro h6;try simp only [nf,dt] at h6
 refine⟨?_,?_⟩
 . exfalso;exact hp (S.aj6 h2 h4 h6)
 exfalso;exact hp (S.aj6 h2 h4 h6)
theorem aue(r1:B8)(r2 r3:Int)(hp:r1.length<=140737488355328)(hf:Vg.fH J.az4 ())(hg:Vg.cI.ok J.yb ((r1,r2,r3),())):aaq r1 r2 r3:=by
 delta aaq bp;have oq:Vg.hlen r1:=hg.1.1.1;have ot:Vg.hint r2:=hg.1.2.1;have ou:Vg.hint r3:=hg.1.2.2.1;clear hf hg;with_reducible and_intros
 omega;rfl;exact(S.Jc r1 r2 r3).1;iterate 2 rfl
theorem auf(m:Int)(r1:B8)(r2 r3:Int)(hp:r1.length<=140737488355328)(hf:Vg.fH J.O6 m)(hg:Vg.cI.ok J.yb ((r1,r2,r3),())):aar m r1 r2 r3:=by
 delta aar bp;have Mz:Vg.hint m:=hf.1;have oq:Vg.hlen r1:=hg.1.1.1;have ot:Vg.hint r2:=hg.1.2.1;have ou:Vg.hint r3:=hg.1.2.2.1;clear hf hg;with_reducible and_intros
 omega;rfl;exact S.um r1 r2 r3 m;iterate 2 rfl
theorem aug(m:Int)(r1:B8)(r2 r3:Int)(hp:r1.length<=140737488355328)(hf:Vg.fH J.O6 m)(hg:Vg.cI.ok J.yb ((r1,r2,r3),())):aas m r1 r2 r3:=by
 delta aas bp aa;have Mz:Vg.hint m:=hf.1;have oq:Vg.hlen r1:=hg.1.1.1;have ot:Vg.hint r2:=hg.1.2.1;have ou:Vg.hint r3:=hg.1.2.2.1;clear hf hg;with_reducible and_intros
 omega
 . intro h1;try simp only [dt] at h1
   with_reducible and_intros
   rw [S.Q1 h1];rfl;rw [S.Q1 h1];rw [S.Q1 h1]
 intro h2;try simp only [df] at h2
 with_reducible and_intros
 rw [S.WY h2];rfl;rw [S.WY h2];rw [S.WY h2]
theorem auh(r1:B8)(r2 r3:Int)(hp:r1.length<=140737488355328)(hf:Vg.fH J.az4 ())(hg:Vg.cI.ok J.yb ((r1,r2,r3),())):aat r1 r2 r3:=by
 delta aat Ik bp aa;have oq:Vg.hlen r1:=hg.1.1.1;have ot:Vg.hint r2:=hg.1.2.1;have ou:Vg.hint r3:=hg.1.2.2.1;clear hf hg;with_reducible and_intros
 omega
 . intro h1;try simp only [nt,df] at h1
   with_reducible and_intros
   iterate 3 (rw [S.WZ h1])
   rfl;rw [S.WZ h1];rw [S.WZ h1]
 intro h2;try simp only [nf,dt] at h2
 with_reducible and_intros
 . have :=S.í r1 r2 r3 10000;omega
 iterate 3 (rw [S.Q2 h2])
 rfl;rw [S.Q2 h2];rw [S.Q2 h2]
theorem aui(r1:B8)(r2 r3:Int)(hp:r1.length<=140737488355328)(hf:Vg.fH J.az4 ())(hg:Vg.cI.ok J.yb ((r1,r2,r3),())):aau r1 r2 r3:=by
 delta aau am6 bp aa;have oq:Vg.hlen r1:=hg.1.1.1;have ot:Vg.hint r2:=hg.1.2.1;have ou:Vg.hint r3:=hg.1.2.2.1;clear hf hg;with_reducible and_intros
 omega
 . intro h1;try simp only [nt,df] at h1
   with_reducible and_intros
   iterate 3 (rw [S.W0 h1])
   rfl;rw [S.W0 h1];rw [S.W0 h1]
 intro h2;try simp only [nf,dt] at h2
 with_reducible and_intros
 . have :=S.í r1 r2 r3 200;omega
 iterate 3 (rw [S.Q3 h2])
 rfl;rw [S.Q3 h2];rw [S.Q3 h2]
theorem auj(r1:B8)(r2 r3:Int)(hp:r1.length<=140737488355328)(hf:Vg.fH J.az4 ())(hg:Vg.cI.ok J.yb ((r1,r2,r3),())):aav r1 r2 r3:=by
 delta aav Mj aq bp aa ah;have oq:Vg.hlen r1:=hg.1.1.1;have ot:Vg.hint r2:=hg.1.2.1;have ou:Vg.hint r3:=hg.1.2.2.1;clear hf hg;with_reducible and_intros
 omega
 . refine⟨(nat_lit 0:Nat),?_⟩;try dsimp only
   with_reducible and_intros
   omega;exact rfl;rfl;iterate 2 exact rfl
   exact K! _
 intro x1 h2;refine⟨?_,?_⟩
 . intro h3;try simp only [dt] at h3
   with_reducible and_intros
   omega
   . have :=S.arK r1 r2 r3 x1;have :=S.aj8 r1 r2 r3;have q:x1<=S.lS r1 r2 r3:=h2
     rw [J!];omega
   omega
   . have :=S.aj8 r1 r2 r3;have q:x1<=S.lS r1 r2 r3:=h2
     omega
   refine⟨(x1+nat_lit 1),?_⟩;try dsimp only
   with_reducible and_intros
   omega;exact rfl;exact(S.Jc _ _ _).2;iterate 2 exact rfl
   exact S.Q4 h3;have q:=S.Q4 h3;have e:S.lS r1 r2 r3=(S.ec r1 r2 r3 64).2.toNat:=rfl
   simp only [S.ag];omega
 intro h4;try simp only [df] at h4
 with_reducible and_intros
 . have e:=S.L0 h2 h4;rw [e];rfl
 rfl
 . have e:=S.L0 h2 h4;rw [e];rfl
 have e:=S.L0 h2 h4;rw [e];rfl
theorem auk(r1:B8)(r2 r3:Int)(hp:r1.length<=140737488355328)(hf:Vg.fH J.az4 ())(hg:Vg.cI.ok J.yb ((r1,r2,r3),())):aaz r1 r2 r3:=by
 delta aaz Cl Ff lx bp;have oq:Vg.hlen r1:=hg.1.1.1;have ot:Vg.hint r2:=hg.1.2.1;have ou:Vg.hint r3:=hg.1.2.2.1;clear hf hg;with_reducible and_intros
 iterate 4 omega
 iterate 6 exact rfl
 rfl;iterate 2 exact rfl
theorem aul(b:B8)(hp:b.length<=140737488355328/\S.eP b 1=0)(hf:Vg.aL J.ei b):aaA b:=by
 delta aaA am7 am8 am9 Fg Mk Fh aq bp aa ah;have dJ:Vg.hlen b:=hf.1.1;clear hf;have dg:=hp.1;have gH:=hp.2;with_reducible and_intros
 omega
 . intro h1;try simp only [nt,df] at h1
   with_reducible and_intros
   iterate 5 exact absurd trivial h1
 intro h2;try simp only [nf,dt] at h2
 with_reducible and_intros
 omega
 . refine⟨(nat_lit 0:Nat),?_⟩;try dsimp only
   with_reducible and_intros
   omega;rfl;iterate 6 exact rfl
   exact K! _
 intro x3 h4;refine⟨?_,?_⟩
 . intro h5;try simp only [dt] at h5
   with_reducible and_intros
   omega
   . refine⟨((nat_lit 0:Nat),(x3)),?_⟩;try dsimp only
     with_reducible and_intros
     omega;exact rfl;rfl;iterate 2 exact rfl
     iterate 3 rfl
     with_reducible rfl
     exact K! _;exact S.Q5 h5;with_reducible rfl
   intro x6 h7;refine⟨?_,?_⟩
   . intro h8;try simp only [dt] at h8
     with_reducible and_intros
     omega
     . rw [S.arL,J!];have :=S.aj9 b x6.2;have :x6.1<=S.pr b x6.2:=h7.1.1
       omega
     omega
     . have :=S.aj9 b x6.2;have :x6.1<=S.pr b x6.2:=h7.1.1
       omega
     refine⟨((Prod.fst x6+nat_lit 1),(x3)),?_⟩;try dsimp only
     with_reducible and_intros
     omega
     . have e':x6.2=x3:=by have :=h7.2;omega
       rw [e'];exact rfl
     rfl
     iterate 2
      . have e':x6.2=x3:=by have :=h7.2;omega
        rw [e'];exact rfl
     iterate 3 rfl
     . have e':x6.2=x3:=by have :=h7.2;omega
       rw [e']
     exact S.Q4 (by assumption);omega;with_reducible rfl
     have e':x6.2=x3:=by have :=h7.2;omega
     rw [e'];have q:=S.Q4 (by assumption);have w:S.pr b x3=(S.ec b (S.iV b x3).1.1 (S.iV b x3).1.2 16).2.toNat:=rfl
     simp only [S.ag];omega
   intro h9;try simp only [df] at h9
   with_reducible and_intros
   . rw [S.arM,J!];have :=S.aka b;have :=h7.1.2;omega
   omega
   . have :=S.aka b;have :=S.Q5 h5;omega
   refine⟨(x3+nat_lit 1),?_⟩;try dsimp only
   with_reducible and_intros
   omega;rfl
   iterate 2
    . have e':x6.2=x3:=by have :=h7.2;omega
      rw [e'];have q:x6.1=S.pr b x3:=S.L0 (e'▸h7.1.1) (by assumption)
      rw [q];exact rfl
   iterate 3 rfl
   . have e':x6.2=x3:=by have :=h7.2;omega
     rw [e'];have q:x6.1=S.pr b x3:=S.L0 (e'▸h7.1.1) (by assumption)
     rw [q];exact rfl
   exact S.Q5 h5;have :=S.Q5 h5;simp only [S.ag];omega
 intro b9;try simp only [df] at b9
 with_reducible and_intros
 trivial
 . intro eG;try simp only [nt,df] at eG
   with_reducible and_intros
   iterate 4 (rw [S.azC gH (S.Q6 h4 (by assumption)) (by assumption)])
   rw [S.azC gH (S.Q6 h4 (by assumption)) (by assumption)]
 intro cB;try simp only [nf,dt] at cB
 with_reducible and_intros
 iterate 4 (rw [S.azD gH (S.Q6 h4 (by assumption)) (by assumption)])
 rw [S.azD gH (S.Q6 h4 (by assumption)) (by assumption)]
theorem aum(b:B8)(hp:¬S.eP b 1=0)(hf:Vg.aL J.ei b):aaB b:=by
 delta aaB aa;have dJ:Vg.hlen b:=hf.1.1;clear hf;with_reducible and_intros
 . intro h1;omega
 . intro h2;try simp only [nt,df] at h2
   with_reducible and_intros
   iterate 4
    . rw [S.azB hp];done
   rw [S.azB hp];done
 intro h3;try simp only [nf,dt] at h3
 omega
theorem aur(y1:Int)(y2:B8)(y3:List (Int×Int×Int×B8))(hp:S.bm y1 y2 y3=true)(hf:Vg.aL J.gl (y1,y2,y3)):aaH y1 y2 y3:=by
 delta aaH ana aq bp aa ah ai;have dX:Vg.hint y1:=hf.1;have dY:Vg.hlen y2:=hf.2.1;have Dm:Vg.hlen y3:=hf.2.2.1.1;clear hf;have hb:=S.dJ hp;have n1:=S.bF y1;have n2:=S.bF (y3.length:Int);with_reducible and_intros
 iterate 3 omega
 . rw [C!];omega
 . refine⟨(nat_lit 0:Nat),?_⟩;try dsimp only
   with_reducible and_intros
   omega;exact S.azu y1 y2 y3;exact⟨hp,K! _⟩
 intro x1 h2;refine⟨?_,?_⟩
 . intro h3;try simp only [dt] at h3
   with_reducible and_intros
   iterate 2 omega
   . have q:=S.Db h2 h3;rw [tn];have :=S.Bg q.1;have :=S.Bg q.2.1;unfold S.sg at *;omega
   . have q:=S.A8 h2;have w:=S.Db h2 h3;have a1:=S.bF (y3.getD (Int.toNat (x1:Int)) (0,0,0,[])).2.1;have a2:=S.bF (y3.getD (Int.toNat (x1:Int)) (0,0,0,[])).2.2.1;have a3:(y3.getD (Int.toNat (x1:Int)) (0,0,0,[])).2.2.2.length=32:=w.2.2
     omega
   . have q:=S.Db h2 h3;rw [tn];have :=S.Bg q.1;have :=S.Bg q.2.1;unfold S.sg at *;omega
   iterate 2
    . have q:=S.A8 h2;have w:=S.Db h2 h3;have a1:=S.bF (y3.getD (Int.toNat (x1:Int)) (0,0,0,[])).2.1;have a2:=S.bF (y3.getD (Int.toNat (x1:Int)) (0,0,0,[])).2.2.1;have a3:(y3.getD (Int.toNat (x1:Int)) (0,0,0,[])).2.2.2.length=32:=w.2.2
      simp only [C!];omega
   iterate 2 omega
   refine⟨(x1+nat_lit 1),?_⟩;try dsimp only
   with_reducible and_intros
   omega
   . rw [tn];exact S.TS h3
   exact⟨hp,w!⟩;simp only [S.ag,S.len];omega
 intro h4;try simp only [df] at h4
 exact S.QQ h4
theorem aut(p:List B8)(hp:S.jo p)(hf:Vg.aL J.tE p):aaJ p:=by
 delta aaJ aq bp aa ah ai;have UE:Vg.hlen p:=hf.1.1;clear hf;have hq:=S.akg hp;with_reducible and_intros
 omega
 . refine⟨(nat_lit 0:Nat),?_⟩;try dsimp only
   with_reducible and_intros
   omega;exact S.aB7 p;exact K! _
 intro x1 h2;refine⟨?_,?_⟩
 . intro h3;try simp only [dt] at h3
   with_reducible and_intros
   iterate 2 omega
   . have :=(hq x1).1;have :=(hq x1).2 (Int.toNat (x1:Int));omega
   iterate 2 omega
   refine⟨(x1+nat_lit 1),?_⟩;try dsimp only
   with_reducible and_intros
   omega;exact S.afK h3
   . unfold S.bS;omega
   simp only [S.ag,S.len];omega
 intro h4;try simp only [df] at h4
 exact S.akh h2 h4
theorem auu(y1:Int)(y2:B8)(y3:List (Int×Int×Int×B8))(hp:S.bm y1 y2 y3=true)(hf:Vg.aL J.gl (y1,y2,y3)):aaK y1 y2 y3:=by
 unfold aaK;have dX:Vg.hint y1:=hf.1;have dY:Vg.hlen y2:=hf.2.1;have Dm:Vg.hlen y3:=hf.2.2.1.1;clear hf;with_reducible and_intros
 omega;exact(S.Q7 hp).2;rfl
theorem auz(s1:Int)(s2:B8)(s3:List (Int×Int×Int×B8))(s4:Int)(s5:B8)(s6:List (Int×Int×Int×B8))(s7:List B8)(hp:S.bm s1 s2 s3=true/\S.bm s4 s5 s6=true/\S.jo s7)(hf:Vg.aL J.xQ (s1,s2,s3,s4,s5,s6,s7)):aaO s1 s2 s3 s4 s5 s6 s7:=by
 delta aaO bp;have kB:Vg.hint s1:=hf.1;have kC:Vg.hlen s2:=hf.2.1;have tI:Vg.hlen s3:=hf.2.2.1.1;have GN:Vg.hint s4:=hf.2.2.2.1;have Rq:Vg.hlen s5:=hf.2.2.2.2.1;have Rr:Vg.hlen s6:=hf.2.2.2.2.2.1.1;have Rt:Vg.hlen s7:=hf.2.2.2.2.2.2.1.1;clear hf;obtain⟨m1,m2,m3⟩:=hp;have hh:=S.Jg m1;have hi:=S.Jg m2;have n3:=S.L1 m3;with_reducible and_intros
 exact m1
 . simp only [C!,J!];omega
 exact m2
 . simp only [C!,J!];omega
 exact m3
 . simp only [C!,J!];omega
 exact rfl
theorem auB(a b:B8)(hp:True)(hf:Vg.aL J.aAd (a,b)):aaQ a b:=by
 unfold aaQ;have Ah:Vg.hlen a:=hf.1.1;have dJ:Vg.hlen b:=hf.2.1.1;clear hf;grind [Go.S.L2]
theorem auD(t:B8)(dd:List (B8×List Int))(er:Int)(hp:S.aQ dd/\S.aI dd=true/\S.isTerm t=true/\er=0)(hf:Vg.fH J.aAe t)(hg:Vg.cI.ok J.akW (dd,(er,((),())))):aaS t dd er:=by
 delta aaS aa;have Ir:Vg.hlen t:=hf.1;have aE7:Vg.hlen dd:=hg.1.1.1;have anv:Vg.hint er:=hg.2.1.1;clear hf hg;obtain⟨q1,q2,q3,q4⟩:=hp;subst q4;with_reducible and_intros
 omega;exact S.HX q3
 . rw [J!];omega
 rfl
 . rw [S.rh q2 q3];rfl
 rw [S.rh q2 q3]
theorem auE(t:B8)(dd:List (B8×List Int))(er:Int)(l:List (Int×B8×B8×B8×List B8×B8))(hp:S.aQ dd/\S.aI dd=true/\S.isTerm t=true/\er=0/\l.length<=100000)(hf:Vg.fH J.aAe t)(hg:Vg.cI.ok J.akX (dd,(er,((),(l,()))))):aaT t dd er l:=by
 delta aaT aa;have Ir:Vg.hlen t:=hf.1;have aE7:Vg.hlen dd:=hg.1.1.1;have anv:Vg.hint er:=hg.2.1.1;have dy:Vg.hlen l:=hg.2.2.2.1.1;clear hf hg;obtain⟨q1,q2,q3,q4,q5⟩:=hp;subst q4;with_reducible and_intros
 omega;exact S.HX q3
 . rw [J!];omega
 rfl
 . rw [S.rh q2 q3];rfl
 rw [S.rh q2 q3]
theorem auF(d:List (B8×List Int))(er:Int)(ts:List B8)(hp:S.L3 d ts/\er=0)(hf:Vg.fH J.aAf d)(hg:Vg.cI.ok J.aAj (er,(ts,()))):aaU d er ts:=by
 delta aaU aq aa ah ai;have uJ:Vg.hlen d:=hf.1.1;have anv:Vg.hint er:=hg.1.1;have aLE:Vg.hlen ts:=hg.2.1.1.1;clear hf hg;obtain⟨gH,q4⟩:=hp;subst q4;refine⟨?_,?_⟩
 . refine⟨(nat_lit 0:Nat),?_⟩;try dsimp only
   with_reducible and_intros
   omega;rfl;exact S.azE d ts;with_reducible rfl
   rfl;exact K! _
 intro x1 h2;refine⟨?_,?_⟩
 . intro h3;try simp only [dt] at h3
   with_reducible and_intros
   iterate 2 omega
   exact gH.1;exact gH.2.1;exact S.aB8 gH h3;rfl
   . have :=S.ù d ts x1;have :=gH.2.2.1;omega
   iterate 2 omega
   refine⟨(x1+nat_lit 1),?_⟩;try dsimp only
   with_reducible and_intros
   omega;rfl;exact S.Ud h3;iterate 2 rfl
   . unfold S.bS;omega
   simp only [S.ag,S.len];omega
 intro h4;try simp only [df] at h4
 with_reducible and_intros
 exact S.ú h2 h4;iterate 2 rfl
theorem auG(y1:List B8)(y2:List (Int×Int×List (B8×List Int)))(l:List (Int×B8))(hp:S.lR l)(hf:Vg.aL J.Ē (y1,y2,l)):aaV y1 y2 l:=by
 delta aaV aq aa ah ai;have dX:Vg.hlen y1:=hf.1.1;have dY:Vg.hlen y2:=hf.2.1.1;have dy:Vg.hlen l:=hf.2.2.1.1;clear hf;with_reducible and_intros
 trivial
 . intro h1;try simp only [nt,df] at h1
   refine⟨?_,?_⟩
   . rw [S.ako h1]
   rw [S.ako h1]
 intro h2;try simp only [nf,dt] at h2
 with_reducible and_intros
 omega
 . intro h3;try simp only [nt] at h3
   refine⟨?_,?_⟩
   . rw [S.þ h2 h3]
   rw [S.þ h2 h3]
 intro h4;try simp only [nf] at h4
 with_reducible and_intros
 exact hp.1
 . refine⟨(nat_lit 0:Nat),?_⟩;try dsimp only
   with_reducible and_intros
   iterate 2 omega
   rfl;exact(S.lj h2).2.1;exact(S.lj h2).2.2.1;exact(S.lj h2).2.2.2;exact S.azF y2 _;exact K! _;exact(S.lj h2).1;omega
 intro x5 h6;refine⟨?_,?_⟩
 . intro h7;try simp only [dt] at h7
   with_reducible and_intros
   iterate 2 omega
   exact S.ý h6.2.1 h6.2.2 h7;rfl
   . have :=S.û y2 (S.aO l) x5;have :=S.wz h6.2.1;rw [J!];omega
   iterate 2 omega
   refine⟨(x5+nat_lit 1),?_⟩;try dsimp only
   with_reducible and_intros
   omega;iterate 5 rfl
   exact S.Ue h7
   . unfold S.bS;omega
   exact h6.2.1;omega;simp only [S.ag,S.len];omega
 intro h8;try simp only [df] at h8
 refine⟨?_,?_⟩
 . intro h9;try simp only [nt,df] at h9
   refine⟨?_,?_⟩
   . grind
   grind
 intro b9;try simp only [nf,dt] at b9
 with_reducible and_intros
 exact(S.Ra h6.2.1 h6.2.2 h6.1 h8).2;rw [(S.Ra h6.2.1 h6.2.2 h6.1 h8).1];rw [(S.Ra h6.2.1 h6.2.2 h6.1 h8).1]
theorem auH(y1:List B8)(y2:List (Int×Int×List (B8×List Int)))(i:Int)(hp:True)(hf:Vg.aL J.ē (y1,y2,i)):aaW y1 y2 i:=by
 delta aaW aa ai;have dX:Vg.hlen y1:=hf.1.1;have dY:Vg.hlen y2:=hf.2.1.1;have My:Vg.hint i:=hf.2.2.1;clear hf;with_reducible and_intros
 trivial
 . intro h1;try simp only [nt,df] at h1
   refine⟨?_,?_⟩
   . rw [S.akp h1]
   rw [S.akp h1]
 intro h2;try simp only [nf,dt] at h2
 refine⟨?_,?_⟩
 . intro h3;try simp only [V.k7,dt] at h3
   refine⟨?_,?_⟩
   . rw [S.ÿ h2 h3]
   rw [S.ÿ h2 h3]
 intro h4;try simp only [V.dc,df] at h4
 with_reducible and_intros
 exact(S.gf (S.lj h2).1).1;exact(S.gf (S.lj h2).1).2.1
 . intro h5;try simp only [nt,df] at h5
   refine⟨?_,?_⟩
   . exact absurd (S.E7 h2 h4).1 h5
   exact absurd (S.E7 h2 h4).1 h5
 intro h6;try simp only [nf,dt] at h6
 with_reducible and_intros
 iterate 2 omega
 exact(S.E7 h2 h4).2.2;rw [(S.E7 h2 h4).2.1];rw [(S.E7 h2 h4).2.1]
theorem auI(y1:List B8)(y2:List (Int×Int×List (B8×List Int)))(z1:List B8)(z2:List (Int×Int×List (B8×List Int)))(hp:True)(hf:Vg.aL J.Ĕ (y1,y2,z1,z2)):aaX y1 y2 z1 z2:=by
 delta aaX aq aa ah ai;have dX:Vg.hlen y1:=hf.1.1;have dY:Vg.hlen y2:=hf.2.1.1;have anw:Vg.hlen z1:=hf.2.2.1.1;have anx:Vg.hlen z2:=hf.2.2.2.1.1;clear hf;with_reducible and_intros
 trivial
 . intro h1;try simp only [nt,df] at h1
   refine⟨?_,?_⟩
   . rw [S.Rb (.inl h1)]
   rw [S.Rb (.inl h1)]
 intro h2;try simp only [nf,dt] at h2
 with_reducible and_intros
 trivial
 . intro h3;try simp only [nt,df] at h3
   refine⟨?_,?_⟩
   . rw [S.Rb (.inr h3)]
   rw [S.Rb (.inr h3)]
 intro h4;try simp only [nf,dt] at h4
 refine⟨?_,?_⟩
 . intro h5;try simp only [dt] at h5
   refine⟨?_,?_⟩
   . rw [S.Jh h2 h4 (S.Ā h5)]
   rw [S.Jh h2 h4 (S.Ā h5)]
 intro h6;try simp only [df] at h6
 refine⟨?_,?_⟩
 . refine⟨(nat_lit 0:Nat),?_⟩;try dsimp only
   refine⟨?_,?_⟩
   . omega
   exact S.aIX h6
 intro x7 h8;refine⟨?_,?_⟩
 . intro h9;try simp only [dt] at h9
   with_reducible and_intros
   iterate 4 omega
   trivial
   . intro b9;try simp only [nt] at b9
     refine⟨?_,?_⟩
     . rw [S.Jh h2 h4 (S.ā h8 h9 b9)]
     rw [S.Jh h2 h4 (S.ā h8 h9 b9)]
   intro eG;try simp only [nf] at eG
   with_reducible and_intros
   iterate 2 omega
   refine⟨(x7+nat_lit 1),?_⟩;try dsimp only
   with_reducible and_intros
   omega;exact S.akq h8 h9 eG;simp only [S.ag,S.len];omega
 intro cB;try simp only [df] at cB
 with_reducible and_intros
 exact(S.gf (S.lj h4).1).1;exact(S.gf (S.lj h4).1).2.1
 . intro gZ;try simp only [nt,df] at gZ
   refine⟨?_,?_⟩
   . exact absurd (S.Ji h2 h4 (S.Jj h8 cB)).2 gZ
   exact absurd (S.Ji h2 h4 (S.Jj h8 cB)).2 gZ
 intro dK;try simp only [nf,dt] at dK
 with_reducible and_intros
 trivial;rw [(S.Ji h2 h4 (S.Jj h8 cB)).1];rw [(S.Ji h2 h4 (S.Jj h8 cB)).1]
theorem auM(a b:List B8)(hp:True)(hf:Vg.aL J.ď (a,b)):aa1 a b:=by
 delta aa1 aa ai;have Ah:Vg.hlen a:=hf.1.1;have dJ:Vg.hlen b:=hf.2.1.1;clear hf;with_reducible and_intros
 . intro h1;try simp only [dt] at h1
   with_reducible and_intros
   iterate 2 omega
   trivial
 . intro h2;try simp only [df] at h2
   trivial
 exact S.aB9 a b
theorem auN(y1:List B8)(y2:List (Int×Int×List (B8×List Int)))(z1:List B8)(z2:List (Int×Int×List (B8×List Int)))(hp:S.aV y1 y2=true/\S.aV z1 z2=true/\S.jD y1 z1=true)(hf:Vg.aL J.Ĕ (y1,y2,z1,z2)):aa2 y1 y2 z1 z2:=by
 delta aa2 ai;have dX:Vg.hlen y1:=hf.1.1;have dY:Vg.hlen y2:=hf.2.1.1;have anw:Vg.hlen z1:=hf.2.2.1.1;have anx:Vg.hlen z2:=hf.2.2.2.1.1;clear hf;obtain⟨gH,xB,hp3⟩:=hp;with_reducible and_intros
 exact(S.gf gH).1;iterate 2 (exact(S.gf xB).1)
 exact S.arS xB hp3;iterate 6 rfl
 exact rfl
theorem auO(hp:True)(hf:Vg.aL J.q0p ()):aa3:=by
 delta aa3 Cm ũ Ū Ml Mm bp aa ah;clear hf;with_reducible and_intros
 grind;iterate 2 trivial
 grind;exact rfl;exact S.aIZ
 . rw [S.azG];exact S.k_2.1
 trivial
 . intro h1;try simp only [dt] at h1
   refine⟨?_,?_⟩
   . intro h2;try simp only [dt] at h2
     refine⟨?_,?_⟩
     . intro h3;try simp only [dt] at h3
       with_reducible and_intros
       iterate 2 omega
       . intro h4;try simp only [dt] at h4
         with_reducible and_intros
         iterate 4 omega
       intro h5;try simp only [df] at h5
       trivial
     intro h6;try simp only [df] at h6
     trivial
   intro h7;try simp only [df] at h7
   trivial
 . intro h8;try simp only [df] at h8
   trivial
 rw [S.azG,S.k_1,S.k_2.2.1,S.k_2.2.2,S.aI1];decide+kernel
theorem auR(y1:List B8)(y2:List (Int×Int×List (B8×List Int)))(z1:List B8)(z2:List (Int×Int×List (B8×List Int)))(hp:True)(hf:Vg.aL J.Ĕ (y1,y2,z1,z2)):aa6 y1 y2 z1 z2:=by
 delta aa6 anb aa ah;have dX:Vg.hlen y1:=hf.1.1;have dY:Vg.hlen y2:=hf.2.1.1;have anw:Vg.hlen z1:=hf.2.2.1.1;have anx:Vg.hlen z2:=hf.2.2.2.1.1;clear hf;with_reducible and_intros
 trivial
 . intro h1;trivial
 . intro h2;trivial
 . intro h3;try simp only [V.k7] at h3
   refine⟨?_,?_⟩
   . trivial
   rfl
 intro h4;try simp only [V.dc] at h4
 with_reducible and_intros
 trivial;exact(S.r7 h4.1).1;exact(S.r7 h4.2).1;trivial
 . intro h5;try simp only [nt] at h5
   trivial
 . intro h6;try simp only [nf] at h6
   trivial
 . intro h7;try simp only [V.k7,nt] at h7
   with_reducible and_intros
   . intro h8;try simp only [dt] at h8
     refine⟨?_,?_⟩
     . intro h9;try simp only [dt] at h9
       trivial
     intro b9;try simp only [df] at b9
     trivial
   . intro eG;try simp only [df] at eG
     trivial
   rw [S.aCi (by assumption)];rfl
 intro cB;try simp only [V.dc,nf] at cB
 with_reducible and_intros
 trivial
 . intro gZ;try simp only [nt] at gZ
   with_reducible and_intros
   . intro dK;try simp only [dt] at dK
     refine⟨?_,?_⟩
     . intro jS;try simp only [dt] at jS
       trivial
     intro tL;try simp only [df] at tL
     trivial
   . intro vA;try simp only [df] at vA
     trivial
   rw [S.aCj cB gZ];rfl
 intro rl;try simp only [nf] at rl
 with_reducible and_intros
 iterate 2 grind
 omega;exact S.ij cB.1;exact S.ij cB.2;exact S.aku cB.2
 . intro yc;try simp only [dt] at yc
   refine⟨?_,?_⟩
   . intro Fm;try simp only [dt] at Fm
     trivial
   intro py;try simp only [df] at py
   trivial
 . intro IL;try simp only [df] at IL
   trivial
 rw [S.aCk cB rl];simp
end Go

end
section
set_option linter.unusedVariables false
namespace Go.J
open Go Vg
def E0:Env:= {T:=gY,sig:=fun _=>none,lq:=G0}
abbrev FR:=Prop×AV×List AB
abbrev LR:=Nat->Option b6
def iN(k:Nat):AV:= .int .i64 (k:Int)
def aJx:akB->FR:=fun _=>(True, .own 0,[.row 275 [.int .u32] (S.xN) false])
def aAw:Env:=cS 251 q0p aJx E0
def aJy:azH->FR:=fun(x,n)=>(S.eS n, .int .u32 (S.right x n:Int),[])
def aAx:Env:=cS 252 q1p aJy aAw
def aJz:eF->FR:=fun b=>(b.length=64, .own 0,[.row 275 [.int .u32] (S.sched b 64) false])
def aJA:eF->LR:=fun b=>fun
    |0=>some ⟨Nat,[(4,fun k=> .int .i64 ((4*k:Nat):Int)),(3,fun k=> .own 300)],[(300,fun k=> .row 275 [.int .u32] (S.sched b k) false)],[(Vg.Loc.slot 3,300)],[110500,110501,110502,105,301],[],fun k=>S.bM k 16,fun k=>S.ag 16 k⟩
    |2=>some ⟨Nat,[(5,iN),(3,fun k=> .own 301)],[(301,fun k=> .row 275 [.int .u32] (S.sched b k) false)],[(Vg.Loc.slot 3,301)],[300,43,104300,104301,104302],[],fun k=>16<=k/\k<=64,fun k=>S.ag 64 k⟩
    |_=>none
def aAy:Env:=cS 250 ei aJz aAx
def aJB:azI->FR:=fun(l,p)=>(S.KI l p, .own 0,[.row 275 [.int .u32] (S.eT (S.block (S.vQ l) p)) false])
def aJC:azI->LR:=fun(l,p)=>fun
    |0=>some ⟨Nat,[(15,iN),(7,fun k=> .int .u32 (S.fc (S.sched p 64) (S.vQ l) k).1),(8,fun k=> .int .u32 (S.fc (S.sched p 64) (S.vQ l) k).2.1),(9,fun k=> .int .u32 (S.fc (S.sched p 64) (S.vQ l) k).2.2.1),(10,fun k=> .int .u32 (S.fc (S.sched p 64) (S.vQ l) k).2.2.2.1),(11,fun k=> .int .u32 (S.fc (S.sched p 64) (S.vQ l) k).2.2.2.2.1),(12,fun k=> .int .u32 (S.fc (S.sched p 64) (S.vQ l) k).2.2.2.2.2.1),(13,fun k=> .int .u32 (S.fc (S.sched p 64) (S.vQ l) k).2.2.2.2.2.2.1),(14,fun k=> .int .u32 (S.fc (S.sched p 64) (S.vQ l) k).2.2.2.2.2.2.2)],[],[],[],[],fun k=>S.bM k 64,fun k=>S.ag 64 k⟩
    |_=>none
def aAz:Env:=cS 204 q3p aJB aAy
def aJD:eF->FR:=fun b=>(S.small b, .own 0,[.row 5 [.int .u8] (S.tail b (S.nb b)) false])
def aJE:eF->LR:=fun b=>fun
    |0=>some ⟨Nat,[(3,fun k=> .own 300)],[(300,fun k=> .row 5 [.int .u8] (S.fA b k) false)],[(Vg.Loc.slot 3,300)],[11,101100,101101,101102],[],fun k=>S.cx b k,fun k=>S.ag (S.fT (S.len b)) k⟩
    |2=>some ⟨Nat,[(6,iN),(4,fun k=> .int .u64 (S.lN b k)),(5,fun k=> .own 301)],[(301,fun k=> .row 5 [.int .u8] (S.ke b k) false)],[(Vg.Loc.slot 5,301)],[],[],fun k=>S.bM k 8,fun k=>S.ag 8 k⟩
    |_=>none
def aAA:Env:=cS 203 ei aJD aAz
def aJF:eF->FR:=fun b=>(S.small b, .str (S.sum b),[])
def aJG:eF->LR:=fun b=>fun
    |0=>some ⟨Nat,[(5,fun k=> .int .i64 ((64*k:Nat):Int)),(3,fun k=> .own 300)],[(300,fun k=> .row 275 [.int .u32] (S.eT (S.proc S.H0 (S.tail b (S.nb b)) k)) false)],[(Vg.Loc.slot 3,300)],[8],[],fun k=>k<=S.blocks (S.tail b (S.nb b)),fun k=>S.ag (S.blocks (S.tail b (S.nb b))) k⟩
    |2=>some ⟨Nat,[(7,iN),(6,fun k=> .own 301)],[(301,fun k=> .row 5 [.int .u8] (S.nF (S.bt S.H0 (S.tail b (S.nb b))) k) false)],[(Vg.Loc.slot 6,301)],[],[],fun k=>S.bM k 8,fun k=>S.ag 8 k⟩
    |_=>none
def aAB:Env:=cS 149 ei aJF aAA
def aJH:azH->FR:=fun(x,k)=>(S.iY x k, .int .u32 (S.rotl x k:Int),[])
def aAC:Env:=cS 277 q1p aJH aAB
def aJI:akB->FR:=fun _=>(True, .agg [.int .u32 1779033703, .int .u32 3144134277, .int .u32 1013904242, .int .u32 2773480762, .int .u32 1359893119, .int .u32 2600822924, .int .u32 528734635, .int .u32 1541459225, .nil, .int .i64 0],[])
def aAD:Env:=cS 219 q0p aJI aAC
def aJJ:akC->FR:=fun(s1,s2,s3,s4,s5,s6,s7,s8,s9,aT)=>(True, .bool (S.bl s9 aT),[])
def aAE:Env:=cS 253 q4p aJJ aAD
def aJK:ĉ->FR:=fun(u1,u2,u3,u4,u5,u6,u7,u8,p)=>(S.Qk (u1,u2,u3,u4,u5,u6,u7,u8) p, .agg (aF [.int .u32, .int .u32, .int .u32, .int .u32, .int .u32, .int .u32, .int .u32, .int .u32] (S.block (u1,u2,u3,u4,u5,u6,u7,u8) p)),[])
def aJL:ĉ->LR:=fun(u1,u2,u3,u4,u5,u6,u7,u8,p)=>fun
    |0=>some ⟨Nat,[(26,iN)],[(5,fun k=> .arr [.int .u32] (S.bf p k))],[],[],[],fun k=>S.bM k 16,fun k=>S.ag 16 k⟩
    |2=>some ⟨Nat,[(7,iN)],[(5,fun k=> .arr [.int .u32] (S.bf p k))],[],[],[],fun k=>16<=k/\k<=64,fun k=>S.ag 64 k⟩
    |4=>some ⟨Nat,[(124,iN),(12,fun k=> .int .u32 (S.fc (S.sched p 64) (u1,u2,u3,u4,u5,u6,u7,u8) k).1),(13,fun k=> .int .u32 (S.fc (S.sched p 64) (u1,u2,u3,u4,u5,u6,u7,u8) k).2.1),(14,fun k=> .int .u32 (S.fc (S.sched p 64) (u1,u2,u3,u4,u5,u6,u7,u8) k).2.2.1),(15,fun k=> .int .u32 (S.fc (S.sched p 64) (u1,u2,u3,u4,u5,u6,u7,u8) k).2.2.2.1),(16,fun k=> .int .u32 (S.fc (S.sched p 64) (u1,u2,u3,u4,u5,u6,u7,u8) k).2.2.2.2.1),(17,fun k=> .int .u32 (S.fc (S.sched p 64) (u1,u2,u3,u4,u5,u6,u7,u8) k).2.2.2.2.2.1),(18,fun k=> .int .u32 (S.fc (S.sched p 64) (u1,u2,u3,u4,u5,u6,u7,u8) k).2.2.2.2.2.2.1),(19,fun k=> .int .u32 (S.fc (S.sched p 64) (u1,u2,u3,u4,u5,u6,u7,u8) k).2.2.2.2.2.2.2)],[],[],[],[],fun k=>S.bM k 64,fun k=>S.ag 64 k⟩
    |_=>none
def aAF:Env:=cS 272 q5p aJK aAE
def aE8:ĉ->FR:=fun(u1,u2,u3,u4,u5,u6,u7,u8,b)=>(S.vf (u1,u2,u3,u4,u5,u6,u7,u8), .bA [.agg (aF [.int .u32, .int .u32, .int .u32, .int .u32, .int .u32, .int .u32, .int .u32, .int .u32] (((S.bt (u1,u2,u3,u4,u5,u6,u7,u8) b,S.jv b)).1)), .sl [.int .u8] (((S.bt (u1,u2,u3,u4,u5,u6,u7,u8) b,S.jv b)).2)],[])
def aE9:ĉ->LR:=fun(u1,u2,u3,u4,u5,u6,u7,u8,b)=>fun
    |0=>some ⟨Nat,[(1,fun k=> .sl [.int .u8] (S.fU b k))],[(2,fun k=> .cells [.int .u32 (S.proc (u1,u2,u3,u4,u5,u6,u7,u8) b k).1, .int .u32 (S.proc (u1,u2,u3,u4,u5,u6,u7,u8) b k).2.1, .int .u32 (S.proc (u1,u2,u3,u4,u5,u6,u7,u8) b k).2.2.1, .int .u32 (S.proc (u1,u2,u3,u4,u5,u6,u7,u8) b k).2.2.2.1, .int .u32 (S.proc (u1,u2,u3,u4,u5,u6,u7,u8) b k).2.2.2.2.1, .int .u32 (S.proc (u1,u2,u3,u4,u5,u6,u7,u8) b k).2.2.2.2.2.1, .int .u32 (S.proc (u1,u2,u3,u4,u5,u6,u7,u8) b k).2.2.2.2.2.2.1, .int .u32 (S.proc (u1,u2,u3,u4,u5,u6,u7,u8) b k).2.2.2.2.2.2.2])],[],[],[],fun k=>64*k<=b.length,fun k=>S.ag (S.blocks b) k⟩
    |_=>none
def anz:Env:=cS 254 q5p aE8 aAF
def aFa:aJa->FR:=fun(s1,s2,s3,s4,s5,s6,s7,s8,s9,aT,b)=>(S.Qj (s1,s2,s3,s4,s5,s6,s7,s8) s9 aT b, .agg [.int .u32 (S.bt (s1,s2,s3,s4,s5,s6,s7,s8) b).1, .int .u32 (S.bt (s1,s2,s3,s4,s5,s6,s7,s8) b).2.1, .int .u32 (S.bt (s1,s2,s3,s4,s5,s6,s7,s8) b).2.2.1, .int .u32 (S.bt (s1,s2,s3,s4,s5,s6,s7,s8) b).2.2.2.1, .int .u32 (S.bt (s1,s2,s3,s4,s5,s6,s7,s8) b).2.2.2.2.1, .int .u32 (S.bt (s1,s2,s3,s4,s5,s6,s7,s8) b).2.2.2.2.2.1, .int .u32 (S.bt (s1,s2,s3,s4,s5,s6,s7,s8) b).2.2.2.2.2.2.1, .int .u32 (S.bt (s1,s2,s3,s4,s5,s6,s7,s8) b).2.2.2.2.2.2.2, .sl [.int .u8] (S.jv b), .int .i64 (S.nb b)],[])
def anA:Env:=cS 218 q6p aFa anz
def aFb:akC->FR:=fun(s1,s2,s3,s4,s5,s6,s7,s8,s9,aT)=>(S.I5 (s1,s2,s3,s4,s5,s6,s7,s8) s9 aT, .str (S.dig (S.bt (s1,s2,s3,s4,s5,s6,s7,s8) (S.tail s9 aT))),[])
def aFc:akC->LR:=fun(s1,s2,s3,s4,s5,s6,s7,s8,s9,aT)=>fun
    |0=>some ⟨Nat,[(3,fun k=> .own 300)],[(300,fun k=> .row 5 [.int .u8] (S.fA s9 k) false)],[(Vg.Loc.slot 3,300)],[101700,101701,101702,43,104300,102000,17,102001,102002,20,104301,104302,301],[],fun k=>S.cx s9 k,fun k=>S.ag (S.fT (S.len s9)) k⟩
    |2=>some ⟨Nat,[(32,iN),(3,fun k=> .own 301)],[(301,fun k=> .row 5 [.int .u8] (S.ob s9 aT k) false)],[(Vg.Loc.slot 3,301)],[300,101700,101701,101702,102700,102701,102702,102000,17,102001,102002,20,27],[],fun k=>S.bM k 8,fun k=>S.ag 8 k⟩
    |4=>some ⟨Nat,[(54,iN),(8,fun k=> .own 302)],[(302,fun k=> .row 5 [.int .u8] (S.nF (S.bt (s1,s2,s3,s4,s5,s6,s7,s8) (S.tail s9 aT)) k) false)],[(Vg.Loc.slot 8,302)],[52],[],fun k=>S.bM k 8,fun k=>S.ag 8 k⟩
    |_=>none
def anB:Env:=cS 217 q4p aFb anA
def aFd:eF->FR:=fun b=>(S.small b, .str (S.sum b),[])
def anC:Env:=cS 164 ei aFd anB
def aFe:oK->FR:=fun v=>(0<=v, .own 0,[.row 5 [.int .u8] (S.num v) false])
def aFf:oK->Nat:=fun v=>v.toNat
def anD:Env:=cS 49 oO aFe anC
def aFg:Ui->FR:=fun s=>(S.small s, .own 0,[.row 5 [.int .u8] (S.text s) false])
def anE:Env:=cS 50 Uh aFg anD
def aFk:eF->FR:=fun b=>(b.length<=140737488355328, .own 0,[.row 5 [.int .u8] (b) false])
def anH:Env:=cS 223 ei aFk anE
def aFl:O1->akE->bP:=fun v (l,())=>⟨S.Ep l v, .own 60000,[none],[.row 5 [.int .u8] (l++S.num v) false]⟩
def aFm:O1->akE->LR:=fun v (l,())=>fun
    |0=>some ⟨B8×Int,[(1,fun k=> .int .i64 k.2),(0,fun k=> .own 300)],[(300,fun k=> .row 5 [.int .u8] k.1 false)],[(Vg.Loc.slot 0,300)],[50000],[],fun k=>S.rU l v k.1 k.2,fun k=>k.2.toNat⟩
    |_=>none
def anI:Env:=cH 222 [true,false] Uj q0q aFl anH
def aFn:akD->akE->bP:=fun s (l,())=>⟨S.nG l s, .own 60000,[none],[.row 5 [.int .u8] (l++S.text s) false]⟩
def anJ:Env:=cH 224 [true,false] azJ q0q aFn anI
def aFo:aCm->FR:=fun(b,v)=>(b.length<=35184372088832, .bA [.own 0, .int .i64 (((S.kg b v,S.ug v)).2:Int)],[.row 5 [.int .u8] (((S.kg b v,S.ug v)).1) false])
def anK:Env:=cS 167 azK aFo anJ
def aFp:Re->FR:=fun(b,s)=>(S.nG b s, .own 0,[.row 5 [.int .u8] (b++S.text s) false])
def anL:Env:=cS 168 O2 aFp anK
def aFq:Mc->FR:=fun(r1,r2,r3)=>(True, .bool (S.inside r1 r2),[])
def anM:Env:=cS 148 Cc aFq anL
def aFr:Mc->FR:=fun(r1,r2,r3)=>(r1.length<=140737488355328, .agg (aF [.slice [.int .u8], .int .i64, .int .i64] ((r1,r2,S.bI r1 r2 r3))),[])
def anN:Env:=cS 202 Cc aFr anM
def aFs:aCm->FR:=fun(b,p)=>(S.dP b p, .bA (aF [.int .i64, .int .i64, .int .i64] (S.aZ b p)),[])
def aFt:aCm->LR:=fun(b,p)=>fun
    |0=>some ⟨Nat,[(7,fun k=> .int .i64 (S.gm b p k)),(8,iN)],[],[],[],[],fun k=>S.jx b p k,fun k=>S.ag 9 k⟩
    |_=>none
def anO:Env:=cS 206 azK aFs anN
def aFu:aCn->FR:=fun(b,p,bB)=>(S.dP b p, .bA (aF [.str, .int .i64, .int .i64] (S.cV b p bB)),[])
def anP:Env:=cS 207 azL aFu anO
def aFv:aCo->FR:=fun(r1,r2,r3,bB)=>(r1.length<=140737488355328, .bA [.agg (aF [.slice [.int .u8], .int .i64, .int .i64] ((S.az r1 r2 r3 bB).1)), .str ((S.az r1 r2 r3 bB).2)],[])
def anQ:Env:=cS 154 azM aFv anP
def aFw:Mc->FR:=fun(r1,r2,r3)=>(r1.length<=140737488355328, .bA [.agg (aF [.slice [.int .u8], .int .i64, .int .i64] ((S.an r1 r2 r3).1)), .int .i64 ((S.an r1 r2 r3).2:Int)],[])
def anR:Env:=cS 153 Cc aFw anQ
def aFx:Mc->FR:=fun(r1,r2,r3)=>(r1.length<=140737488355328, .bA [.agg (aF [.slice [.int .u8], .int .i64, .int .i64] ((S.aD r1 r2 r3).1)), .str ((S.aD r1 r2 r3).2)],[])
def anS:Env:=cS 147 Cc aFx anR
def aFy:Mc->FR:=fun(r1,r2,r3)=>(True, .int .i64 (S.done r1 r2 r3:Int),[])
def anT:Env:=cS 82 Cc aFy anS
def aFz:W6->FR:=fun(kind,b)=>(S.bj b, .own 0,[.row 5 [.int .u8] (S.iZ kind b) false])
def aFA:W6->LR:=fun(kind,b)=>fun
    |0=>some ⟨Nat,[(6,iN),(5,fun k=> .own 300)],[(300,fun k=> .row 5 [.int .u8] (S.iZ kind (b.take k)) false)],[(Vg.Loc.slot 5,300)],[9],[],fun k=>S.gp b k,fun k=>S.ag (S.len b) k⟩
    |_=>none
def anU:Env:=cS 182 Ċ aFz anT
def aFB:W6->FR:=fun(kind,b)=>(S.bj b, .str (S.oc kind b),[])
def anV:Env:=cS 128 Ċ aFB anU
def aFC:eF->FR:=fun b=>(S.bj b, .str (S.oc 0 b),[])
def anW:Env:=cS 116 ei aFC anV
def aFD:Md->FR:=fun(l,r)=>(S.bj (l++r), .str (S.oc 1 (l++r)),[])
def anX:Env:=cS 150 Cd aFD anW
def aFE:akF->FR:=fun(kind,parts)=>(S.kh parts, .own 0,[.row 5 [.int .u8] (S.fi kind parts) false])
def aFF:akF->LR:=fun(kind,parts)=>fun
    |0=>some ⟨Nat,[(12,iN),(5,fun k=> .own 300)],[(300,fun k=> .row 5 [.int .u8] (S.mQ kind parts k) false)],[(Vg.Loc.slot 5,300)],[9],[],fun k=>S.gp parts k,fun k=>S.ag (S.len parts) k⟩
    |_=>none
def anY:Env:=cS 221 azN aFE anX
def aFG:eF->FR:=fun b=>(S.bj b, .own 0,[.row 5 [.int .u8] (S.jh 0 b) false])
def anZ:Env:=cS 166 ei aFG anY
def aFH:Md->FR:=fun(l,r)=>(S.bj (l++r), .own 0,[.row 5 [.int .u8] (S.jh 1 (l++r)) false])
def an0:Env:=cS 273 Cd aFH anZ
def aFI:eF->FR:=fun b=>(S.bj b, .own 0,[.row 5 [.int .u8] (S.jh 2 b) false])
def an1:Env:=cS 265 ei aFI an0
def aFK:eF->FR:=fun b=>(S.bj b, .str (S.leaf b),[])
def an3:Env:=cS 103 ei aFK an1
def aFL:Md->FR:=fun(l,r)=>(True, .bA (aF [.str, .int .i64] ((S.eE l r,S.p8 l r))),[])
def an4:Env:=cS 255 Cd aFL an3
def aFM:eF->FR:=fun b=>(S.bj b, .str (S.mi 2 b),[])
def an5:Env:=cS 240 ei aFM an4
def aFO:oK->FR:=fun c=>(True, .bool (S.bR c),[])
def an7:Env:=cS 209 oO aFO an5
def aFP:oK->FR:=fun c=>(True, .int .i64 (S.en c:Int),[])
def an8:Env:=cS 210 oO aFP an7
def aFQ:oK->FR:=fun c=>(0<=c, .int .u8 ((S.more c).toNat:Int),[])
def an9:Env:=cS 211 oO aFQ an8
def aFR:oK->FR:=fun c=>(True, .bA [.own 0, .int .i64 (((S.fV c,S.xO c)).2:Int)],[.row 5 [.int .u8] (((S.fV c,S.xO c)).1) false])
def aoa:Env:=cS 160 oO aFR an9
def aFS:eF->FR:=fun b=>(0<b.length, .bA (aF [.int .i64, .int .i64] (S.aX b)),[])
def aFT:eF->LR:=fun b=>fun
    |1=>some ⟨Nat,[(42,iN),(4,fun k=> .int .i64 (S.ca b k))],[],[],[],[],fun k=>S.oB b k,fun k=>S.ag 4 k⟩
    |_=>none
def aob:Env:=cS 208 ei aFS aoa
def aFU:eF->FR:=fun b=>(S.small b, .own 0,[.row 3 [.int .i64] (S.decode b) false])
def aFV:eF->LR:=fun b=>fun
    |0=>some ⟨B8×List Int,[(0,fun k=> .sl [.int .u8] k.1),(3,fun k=> .own 300)],[(300,fun k=> .row 3 [.int .i64] k.2 false)],[(Vg.Loc.slot 3,300)],[],[],fun k=>S.jW b k.1 k.2,fun k=>S.len k.1⟩
    |_=>none
def aoc:Env:=cS 157 ei aFU aob
def aFW:oK->FR:=fun c=>(True, .bool (S.letter c),[])
def aFX:oK->LR:=fun c=>fun
    |0=>some ⟨Nat,[(6,iN)],[],[],[],[],fun k=>S.oA c k,fun k=>S.ag 9 k⟩
    |_=>none
def aod:Env:=cS 158 oO aFW aoc
def aFY:oK->FR:=fun c=>(True, .bool (S.digit c),[])
def aoe:Env:=cS 159 oO aFY aod
def aFZ:oK->FR:=fun c=>(True, .int .i64 (S.bc c:Int),[])
def aF0:oK->LR:=fun c=>fun
    |0=>some ⟨Nat,[(6,iN)],[],[],[],[],fun k=>S.o9 c k,fun k=>S.ag 7 k⟩
    |_=>none
def aof:Env:=cS 258 oO aFZ aoe
def aF1:aCp->FR:=fun(c,a,b)=>(True, .bool (S.cA c a b),[])
def aog:Env:=cS 188 azO aF1 aof
def aF2:oK->FR:=fun c=>(True, .bool (S.lO c),[])
def aoh:Env:=cS 184 oO aF2 aog
def aF3:oK->FR:=fun c=>(0<=c/\c<=1114111, .own 0,[.row 5 [.int .u8] (S.enc c) false])
def aoi:Env:=cS 185 oO aF3 aoh
def aF4:aCq->FR:=fun(a,b)=>(True, .int .i64 (S.mU a b:Int),[])
def aoj:Env:=cS 186 azP aF4 aoi
def aF5:oK->FR:=fun c=>(True, .bool (S.letter c),[])
def aok:Env:=cS 187 oO aF5 aoj
def aF6:oK->FR:=fun c=>(True, .int .i64 (S.bc c:Int),[])
def aol:Env:=cS 131 oO aF6 aok
def aF7:aCm->FR:=fun(b,n)=>(S.AR b n, .int .i64 (S.bX b n:Int),[])
def aF8:aCm->LR:=fun(b,n)=>fun
    |0=>some ⟨Nat,[(7,iN),(6,fun k=> .int .i64 (S.oD b n (k-1)))],[],[],[],[],fun k=>S.qx b n k,fun k=>S.ag n.toNat k⟩
    |_=>none
def aom:Env:=cS 183 azK aF7 aol
def aF9:eF->FR:=fun b=>(S.small b, .own 0,[.row 3 [.int .i64] (S.decode b) false])
def aGa:eF->LR:=fun b=>fun
    |0=>some ⟨Nat×List Int,[(4,fun k=> .int .i64 ((k.1:Nat):Int)),(3,fun k=> .own 300)],[(300,fun k=> .row 3 [.int .i64] k.2 false)],[(Vg.Loc.slot 3,300)],[],[],fun k=>S.jW b (b.drop k.1) k.2/\k.1<=b.length,fun k=>S.ag (S.len b) k.1⟩
    |2=>some ⟨Nat×Nat,[(7,fun k=> .int .i64 ((k.1+1:Nat):Int)),(5,fun k=> .int .i64 (S.gQ (b.drop k.2) k.1).1),(6,fun k=> .int .i64 (S.gQ (b.drop k.2) k.1).2)],[],[],[],[(4,fun k=> .int .i64 ((k.2:Nat):Int))],fun k=>k.1<=4,fun k=>S.ag 4 k.1⟩
    |_=>none
def aon:Env:=cS 129 ei aF9 aom
def aGb:om->FR:=fun u=>(S.NC u, .str (S.eU u),[])
def aGc:om->LR:=fun u=>fun
    |0=>some ⟨Nat×B8,[(10,fun k=> .int .i64 ((k.1:Nat):Int)),(3,fun k=> .own 300)],[(300,fun k=> .row 5 [.int .u8] k.2 false)],[(Vg.Loc.slot 3,300)],[],[],fun k=>S.kn u k.1 k.2,fun k=>S.ag (S.len u) k.1⟩
    |_=>none
def aoo:Env:=cS 228 rj aGb aon
def aGd:eF->FR:=fun b=>(S.small b, .own 0,[.row 9 [.str] (S.aY b) false])
def aGe:eF->LR:=fun b=>fun
    |0=>some ⟨Nat×List B8×List Int,[(10,fun k=> .int .i64 ((k.1:Nat):Int)),(3,fun k=> .own 300),(4,fun k=> .own 301)],[(300,fun k=> .row 9 [.str] k.2.1 false),(301,fun k=> .row 3 [.int .i64] k.2.2 false)],[(Vg.Loc.slot 3,300),(Vg.Loc.slot 4,301)],[104000,104001,104002,40],[],fun k=>S.jX (S.decode b) k.1 k.2.1 k.2.2,fun k=>S.ag (S.len (S.decode b)) k.1⟩
    |_=>none
def aop:Env:=cS 171 ei aGd aoo
def aGf:Ui->FR:=fun s=>(S.small s, .bool (S.isTerm s),[])
def aoq:Env:=cS 117 Uh aGf aop
def aGg:oK->FR:=fun c=>(True, .bool (S.e7 c),[])
def aor:Env:=cS 130 oO aGg aoq
def aGh:om->FR:=fun u=>(S.NC u, .str (S.eU u),[])
def aGi:om->LR:=fun u=>fun
    |0=>some ⟨Nat×B8,[(4,fun k=> .int .i64 ((k.1:Nat):Int)),(3,fun k=> .str k.2)],[],[],[],[],fun k=>S.kn u k.1 k.2,fun k=>S.ag (S.len u) k.1⟩
    |_=>none
def aos:Env:=cS 274 rj aGh aor
def aGj:eF->FR:=fun b=>(S.small b, .own 0,[.row 9 [.str] (S.aY b) false])
def aGk:eF->LR:=fun b=>fun
    |0=>some ⟨Nat×List B8,[(5,fun k=> .int .i64 ((k.1:Nat):Int)),(4,fun k=> .own 300)],[(300,fun k=> .row 9 [.str] k.2 false)],[(Vg.Loc.slot 4,300)],[],[],fun k=>S.mj (S.decode b) k.1 k.2,fun k=>S.ag (S.len (S.decode b)+1) k.1⟩
    |2=>some ⟨Nat×Nat,[(6,fun k=> .int .i64 ((k.1:Nat):Int))],[],[],[],[(5,fun k=> .int .i64 ((k.2:Nat):Int))],fun k=>S.rV (S.decode b) k.2 k.1,fun k=>S.ag (S.len (S.decode b)) k.1⟩
    |_=>none
def aot:Env:=cS 256 ei aGj aos
def aGl:ql->FR:=fun l=>(True, .int .i64 (((S.dH l:Nat):Int):Int),[])
def aGm:ql->LR:=fun l=>fun
    |0=>some ⟨Nat,[(4,iN),(3,fun k=> .int .i64 ((S.dG l k:Nat):Int))],[],[],[],[],fun k=>S.si l k,fun k=>S.ag (S.len l) k⟩
    |_=>none
def aou:Env:=cS 189 tE aGl aot
def aGn:Di->H3->bP:=fun _ (l,())=>⟨S.small l, .own 60000,[none],[.row 9 [.str] (S.sorted l) false]⟩
def aGo:Di->H3->LR:=fun _ (l,())=>fun
    |0=>some ⟨List B8×List B8,[(0,fun k=> .own 310),(3,fun k=> .own 300)],[(310,fun k=> .row 9 [.str] k.1 false),(300,fun k=> .row 9 [.str] k.2 false)],[(Vg.Loc.slot 0,310),(Vg.Loc.slot 3,300)],[50000,301],[],fun k=>S.qS l k.1 k.2,fun k=>S.len k.1⟩
    |2=>some ⟨Nat×List B8×List B8×B8,[(6,fun k=> .int .i64 ((k.1:Nat):Int)),(5,fun k=> .own 301)],[(301,fun k=> .row 9 [.str] k.2.1 false)],[(Vg.Loc.slot 5,301)],[],[(0,fun k=> .sl [.str] k.2.2.1),(4,fun k=> .str k.2.2.2)],fun k=>S.jy k.2.2.1 k.2.2.2 k.1 k.2.1,fun k=>S.ag (S.len k.2.2.1) k.1⟩
    |_=>none
def aov:Env:=cH 132 [true] H2 Rf aGn aou
def aGp:eF->FR:=fun b=>(S.small b, .own 0,[.row 9 [.str] (S.sorted (S.aY b)) false])
def aow:Env:=cS 226 ei aGp aov
def aGq:Re->FR:=fun(b,t)=>(S.small b, .own 0,[.row 3 [.int .i64] (S.places b t) false])
def aGr:Re->LR:=fun(b,t)=>fun
    |0=>some ⟨Nat×List Int,[(7,fun k=> .int .i64 ((k.1:Nat):Int)),(6,fun k=> .own 300)],[(300,fun k=> .row 3 [.int .i64] k.2 false)],[(Vg.Loc.slot 6,300)],[],[],fun k=>S.ko (S.aY b) t k.1 k.2,fun k=>S.ag (S.len (S.aY b)) k.1⟩
    |_=>none
def aox:Env:=cS 257 O2 aGq aow
def aGu:Ui->FR:=fun s=>(True, .bool false,[])
def aoz:Env:=cS 264 Uh aGu aox
def aGv:Md->FR:=fun(a,b)=>(True, .int .i64 (S.iR a b:Int),[])
def aoA:Env:=cS 245 Cd aGv aoz
def aGw:aCr->aJc->bP:=fun(a,b) ((),())=>⟨True, .bool (decide (a=b)),[some (.cells [.fn (.func 245) [] []])],[]⟩
def aoB:Env:=cH 270 [false,false,true] azQ q2q aGw aoA
def aGx:akG->azS->bP:=fun _ (l,((),()))=>⟨S.small l, .own 60000,[none,some (.cells [.fn (.func 245) [] []])],[.row 9 [.str] (S.bU l) false]⟩
def aGy:akG->azS->LR:=fun _ (l,((),()))=>fun
    |0=>some ⟨Nat,[(5,iN)],[(50001,fun k=> .cells [.fn (.func 245) [] []])],[],[],[],fun k=>S.mY l k,fun k=>S.ag (S.len l) k⟩
    |2=>some ⟨Nat×Nat×List B8×Nat,[(5,fun k=> .int .i64 ((k.1:Nat):Int)),(7,fun k=> .int .i64 ((k.2.1:Nat):Int))],[(50000,fun k=> .row 9 [.str] k.2.2.1 false),(50001,fun k=> .cells [.fn (.func 245) [] []])],[],[],[(30,fun k=> .int .i64 ((k.2.2.2:Nat):Int))],fun k=>S.iS l k.2.2.2 k.1 k.2.1 k.2.2.1,fun k=>S.ag (S.len l) k.2.1⟩
    |_=>none
def aoC:Env:=cH 269 [true,true] azR q3q aGx aoB
def aGz:ql->FR:=fun l=>(S.small l, .own 0,[.row 9 [.str] (l) false])
def aoD:Env:=cS 267 tE aGz aoC
def aGA:om->FR:=fun l=>(S.small l, .own 0,[.row 3 [.int .i64] (l) false])
def aoE:Env:=cS 142 rj aGA aoD
def aGB:aCs->H3->bP:=fun _ (l,())=>⟨S.small l, .bA [],[some (.row 9 [.str] (S.e8 l) false)],[]⟩
def aoF:Env:=cH 268 [true,true] aJe Rf aGB aoE
def aGC:aCt->Uk->bP:=fun l ()=>⟨S.small l, .own 60000,[],[.row 9 [.str] (S.bU (S.e8 l)) false]⟩
def aoG:Env:=cH 244 [false,true] azT Br aGC aoF
def aoH:eF->FR:=fun b=>(S.small b, .own 0,[.row 9 [.str] (S.sorted (S.aY b)) false])
def aoI:Env:=cS 194 ei aoH aoG
def aGD:ql->FR:=fun l=>(True, .bool (S.cz l),[])
def aGE:ql->LR:=fun l=>fun
    |0=>some ⟨Nat,[(7,iN)],[],[],[],[],fun k=>S.qU l k,fun k=>S.ag (S.len l) k⟩
    |_=>none
def aoJ:Env:=cS 99 tE aGD aoI
def aGF:Md->FR:=fun(a,b)=>(True, .str (S.eE a b),[])
def aoK:Env:=cS 220 Cd aGF aoJ
def aGG:Di->H3->bP:=fun _ (s,())=>⟨S.vZ s, .own 60000,[none],[.row 9 [.str] (S.comb s) false]⟩
def aoL:Env:=cH 165 [true] H2 Rf aGG aoK
def aGH:GI->FR:=fun l=>(S.bJ l, .own 0,[.row 9 [.str] (S.leaves l) false])
def aGI:GI->LR:=fun l=>fun
    |0=>some ⟨Nat,[(8,iN),(3,fun k=> .own 300)],[(300,fun k=> .row 9 [.str] (S.eV l k) false)],[(Vg.Loc.slot 3,300)],[],[],fun k=>S.gp l k,fun k=>S.ag (S.len l) k⟩
    |_=>none
def aoM:Env:=cS 43 O3 aGH aoL
def aGJ:ql->FR:=fun l=>(S.b7 l, .str (S.root l),[])
def aGK:ql->LR:=fun l=>fun
    |0=>some ⟨Nat×List B8,[(12,fun k=> .int .i64 ((k.1:Nat):Int)),(3,fun k=> .own 300)],[(300,fun k=> .row 9 [.str] k.2 false)],[(Vg.Loc.slot 3,300)],[302,35,103500,103501,103502,304],[],fun k=>S.pb l k.1 k.2,fun k=>S.ag (S.len l) k.1⟩
    |2=>some ⟨Nat×Nat×List B8×Nat,[(5,fun k=> .int .i64 ((k.2.1:Nat):Int)),(3,fun k=> .own 302)],[(302,fun k=> .row 9 [.str] k.2.2.1 false)],[(Vg.Loc.slot 3,302)],[35,103500,103501,103502,102100,102101,21,102102,300,304],[(4,fun k=> .int .i64 ((k.2.2.2:Nat):Int))],fun k=>S.nT l k.2.2.2 k.1 k.2.1 k.2.2.1,fun k=>k.2.1⟩
    |4=>some ⟨List B8,[(3,fun k=> .own 304)],[(304,fun k=> .row 9 [.str] k false)],[(Vg.Loc.slot 3,304)],[102100,102101,21,102102,102901,102900,102902,29,300,302],[],fun k=>S.pc l k,fun k=>S.len k⟩
    |_=>none
def aoN:Env:=cS 101 tE aGJ aoM
def aGL:ql->FR:=fun l=>(S.small l, .bA (aF [.str, .int .i64] ((S.iy l,S.lH l))),[])
def aoO:Env:=cS 97 tE aGL aoN
def aGM:oK->FR:=fun n=>(True, .int .i64 (S.split n:Int),[])
def aGN:oK->LR:=fun n=>fun
    |0=>some ⟨Nat×Int,[(3,fun k=> .int .i64 k.2)],[],[],[],[],fun k=>S.iL n k.2 k.1,fun k=>(n-k.2).toNat⟩
    |_=>none
def aoP:Env:=cS 115 oO aGM aoO
def aGO:ql->FR:=fun l=>(S.b7 l, .str (S.root l),[])
def aGP:ql->Nat:=fun l=>S.len l
def aoQ:Env:=cS 84 tE aGO aoP
def aGQ:GI->FR:=fun l=>(S.bJ l, .own 0,[.row 9 [.str] (S.leaves l) false])
def aGR:GI->LR:=fun l=>fun
    |0=>some ⟨Nat,[(4,iN),(3,fun k=> .own 300)],[(300,fun k=> .row 9 [.str] (S.eV l k) false)],[(Vg.Loc.slot 3,300)],[],[],fun k=>S.gp l k,fun k=>S.ag (S.len l) k⟩
    |_=>none
def aoR:Env:=cS 53 O3 aGQ aoQ
def aGS:oK->FR:=fun n=>(True, .int .i64 (S.split n:Int),[])
def aGT:oK->LR:=fun n=>fun
    |0=>some ⟨Nat×Int,[(3,fun k=> .int .i64 k.2)],[],[],[],[],fun k=>S.iL n k.2 k.1,fun k=>(n-k.2).toNat⟩
    |_=>none
def aoS:Env:=cS 100 oO aGS aoR
def aGU:Di->H3->bP:=fun _ (l,())=>⟨S.small l, .bA [],[some (.row 9 [.str] (S.LN l) false)],[]⟩
def aoT:Env:=cH 102 [true] H2 Rf aGU aoS
def aGV:GJ->FR:=fun(l,i)=>(S.nN l, .bA (aF [.slice [.str], .int .i64] ((S.my l i,S.qh l i))),[])
def aGW:GJ->LR:=fun(l,i)=>fun
    |0=>some ⟨List B8×Int×List B8,[(0,fun k=> .sl [.str] k.1),(1,fun k=> .int .i64 k.2.1),(6,fun k=> .own 300)],[(300,fun k=> .row 9 [.str] k.2.2 false)],[(Vg.Loc.slot 6,300)],[],[],fun k=>S.fZ l i k,fun k=>S.len k.1⟩
    |_=>none
def aoU:Env:=cS 42 H4 aGV aoT
def aGX:ql->FR:=fun l=>(S.small l, .str (S.iy l),[])
def aoV:Env:=cS 193 tE aGX aoU
def aGY:Rg->FR:=fun(l,n,p)=>(S.fC l n, .own 0,[.row 9 [.str] (S.dq l n p) false])
def aGZ:Rg->Nat:=fun(l,n,p)=>S.len l
def aoW:Env:=cS 138 ċ aGY aoV
def aG0:GJ->FR:=fun(l,m)=>(S.nN l, .bA (aF [.slice [.str], .int .i64] ((S.cb l m,S.kz l m))),[])
def aoX:Env:=cS 67 H4 aG0 aoW
def aG3:Rg->FR:=fun(l,n,w)=>(S.fC l n, .own 0,[.row 9 [.str] (S.mz l n w) false])
def aG4:Rg->Nat:=fun(l,n,w)=>S.len l
def aoZ:Env:=cS 139 ċ aG3 aoX
def aG5:GJ->FR:=fun(l,m)=>(S.rf l m, .sl [.str] (S.cb l m),[])
def ao0:Env:=cS 70 H4 aG5 aoZ
def aG6:om->FR:=fun l=>(True, .bool (S.bK l),[])
def aG7:om->LR:=fun l=>fun
    |0=>some ⟨Nat,[(8,iN),(3,fun k=> .int .i64 (S.fW l k))],[],[],[],[],fun k=>S.fX l k,fun k=>S.ag (S.len l) k⟩
    |_=>none
def ao1:Env:=cS 177 rj aG6 ao0
def auU:om->FR:=fun l=>(True, .bA [.own 0, .int .i64 (((S.nk l,S.og l)).2:Int)],[.row 5 [.int .u8] (((S.nk l,S.og l)).1) false])
def auV:om->LR:=fun l=>fun
    |0=>some ⟨Nat,[(22,iN),(6,fun k=> .int .i64 (S.fW l k)),(4,fun k=> .own 300)],[(300,fun k=> .row 5 [.int .u8] (S.dA l k) false)],[(Vg.Loc.slot 4,300)],[101700,101701,101702,17],[],fun k=>k<=l.length,fun k=>S.ag (S.len l) k⟩
    |_=>none
def aba:Env:=cS 123 rj auU ao1
def auW:om->FR:=fun l=>(True, .bA (aF [.str, .int .i64] ((S.vn l,S.og l))),[])
def abb:Env:=cS 175 rj auW aba
def auX:aCu->akH->bP:=fun(n,p,q) ((s1,s2),())=>⟨True, .bool (S.ti n s1 s2),[some (.cells [.int .i64 s1, .int .i64 s2])],[]⟩
def abc:Env:=cH 249 [false,false,false,true] azU q5q auX abb
def auY:akI->akH->bP:=fun(a,b) ((s1,s2),())=>⟨b.length=0, .own 60000,[some (.cells [.int .i64 s1, .int .i64 s2])],[.row 3 [.int .i64] (S.Lf a s1 s2) false]⟩
def auZ:akI->akH->LR:=fun(a,b) ((s1,s2),())=>fun
    |0=>some ⟨List Int×List Int,[(0,fun k=> .sl [.int .i64] k.1),(1,fun k=> .sl [.int .i64] S.iz),(7,fun k=> .own 300)],[(300,fun k=> .row 3 [.int .i64] k.2 false),(50000,fun k=> .cells [.int .i64 s1, .int .i64 s2])],[(Vg.Loc.slot 7,300)],[],[],fun k=>S.mn a s1 s2 k.1 k.2,fun k=>S.len k.1⟩
    |_=>none
def abd:Env:=cH 248 [false,false,true] azV q5q auY abc
def au0:aCv->FR:=fun(l,s1,s2)=>(True, .own 0,[.row 3 [.int .i64] (S.Lf l s1 s2) false])
def abe:Env:=cS 198 azW au0 abd
def au3:om->FR:=fun l=>(S.bK l=true, .own 0,[.row 5 [.int .u8] (S.ml l) false])
def au4:om->LR:=fun l=>fun
    |0=>some ⟨Nat,[(4,iN),(3,fun k=> .own 300)],[(300,fun k=> .row 5 [.int .u8] (S.dA l k) false)],[(Vg.Loc.slot 3,300)],[7,100700,100701,100702],[],fun k=>k<=l.length,fun k=>S.ag (S.len l) k⟩
    |_=>none
def abg:Env:=cS 136 rj au3 abe
def au5:om->FR:=fun l=>(S.bK l=true, .str (S.gE l),[])
def abh:Env:=cS 191 rj au5 abg
def au6:Rh->FR:=fun(a,b)=>(True, .bool (S.qb a b),[])
def au7:Rh->LR:=fun(a,b)=>fun
    |0=>some ⟨Nat,[(5,iN)],[],[],[],[],fun k=>S.uj a b k,fun k=>S.ag (S.len a) k⟩
    |_=>none
def abi:Env:=cS 225 Č au6 abh
def au8:qm->FR:=fun d=>(S.aQ d, .bool (S.aI d),[])
def au9:qm->LR:=fun d=>fun
    |0=>some ⟨Nat,[(7,iN)],[],[],[],[],fun k=>S.HI d k,fun k=>S.ag (S.len d) k⟩
    |_=>none
def abj:Env:=cS 174 rG au8 abi
def ava:akJ->FR:=fun(l1,l2,l3)=>(True, .bA (aF [.slice [.int .u8], .int .i64] ((S.jJ l1 l2 l3,S.pd l1 l2 l3))),[])
def abk:Env:=cS 176 č ava abj
def avb:eF->FR:=fun b=>(b.length<=140737488355328, .bA [.agg (aF [.str, .str, .str] ((S.bw b).1)), .int .i64 ((S.bw b).2:Int)],[])
def abl:Env:=cS 122 ei avb abk
def avc:qm->FR:=fun d=>(S.aQ d, .bA [.own 0, .int .i64 (((S.cc d,S.dE d)).2:Int)],[.row 28 [.slice [.int .u8]] (((S.cc d,S.dE d)).1) false])
def avd:qm->LR:=fun d=>fun
    |0=>some ⟨Nat,[(16,iN),(4,fun k=> .own 300)],[(300,fun k=> .row 28 [.slice [.int .u8]] (S.e6 d k) false)],[(Vg.Loc.slot 4,300)],[],[],fun k=>k<=d.length+1,fun k=>S.ag (S.len d+1) k⟩
    |_=>none
def abn:Env:=cS 120 rG avc abl
def ave:qm->FR:=fun d=>(S.aQ d, .bA (aF [.str, .int .i64] ((S.zv d,S.dE d))),[])
def abo:Env:=cS 216 rG ave abn
def avf:Dj->FR:=fun(d,t)=>(S.aQ d, .bA (aF [.int .i64, .bool] ((S.aU d t,S.eW d t))),[])
def avg:Dj->LR:=fun(d,t)=>fun
    |0=>some ⟨Nat,[(14,iN),(6,fun k=> .int .i64 (S.bY d t k))],[],[],[],[],fun k=>k<=d.length,fun k=>S.ag (S.len d) k⟩
    |_=>none
def abp:Env:=cS 121 Ce avf abo
def avh:Dj->FR:=fun(d,t)=>(S.aQ d, .sl [.int .i64] (S.gS d t),[])
def abq:Env:=cS 124 Ce avh abp
def avi:z7->FR:=fun(docs,s1,s2)=>(True, .bA (aF [.slice [.str, .slice [.int .i64]], .int .i64] (S.jK docs s1 s2)),[])
def abr:Env:=cS 140 z6 avi abq
def avl:z7->FR:=fun(docs,s1,s2)=>(True, .bool (S.c8 docs s1 s2),[])
def avn:z7->LR:=fun(docs,s1,s2)=>fun
    |0=>some ⟨Nat,[(5,iN)],[],[],[],[],fun k=>S.pe docs k,fun k=>S.ag (S.len docs) k⟩
    |_=>none
def abu:Env:=cS 109 z6 avl abr
def avo:Re->FR:=fun(b,t)=>(S.small b, .bool (S.tj b t),[])
def abv:Env:=cS 227 O2 avo abu
def avp:akJ->FR:=fun(l1,l2,l3)=>(S.fp l1 l2 l3=true, .sl [.int .u8] (S.e9 l1 l2 l3),[])
def abw:Env:=cS 137 č avp abv
def avr:qm->FR:=fun d=>(S.aQ d/\S.aI d=true, .own 0,[.row 28 [.slice [.int .u8]] (S.dh d) false])
def avt:qm->LR:=fun d=>fun
    |0=>some ⟨Nat,[(4,fun k=> .int .i64 (((k:Nat):Int)-1)),(3,fun k=> .own 300)],[(300,fun k=> .row 28 [.slice [.int .u8]] (S.e6 d k) false)],[(Vg.Loc.slot 3,300)],[],[],fun k=>k<=d.length+1,fun k=>S.ag (S.len d+1) k⟩
    |_=>none
def aby:Env:=cS 134 rG avr abw
def avu:qm->FR:=fun d=>(S.aQ d/\S.aI d=true, .str (S.nU d),[])
def abz:Env:=cS 205 rG avu aby
def avx:W7->FR:=fun(a,b)=>(True, .bool (S.ig a b),[])
def avy:W7->LR:=fun(a,b)=>fun
    |0=>some ⟨Nat,[(5,iN)],[],[],[],[],fun k=>S.lr a b k,fun k=>S.ag (S.len a) k⟩
    |_=>none
def abB:Env:=cS 169 Ď avx abz
def avz:W8->FR:=fun(a,b)=>(True, .bool (S.qc a b),[])
def avA:W8->LR:=fun(a,b)=>fun
    |0=>some ⟨Nat,[(5,iN)],[],[],[],[],fun k=>S.qW a b k,fun k=>S.ag (S.len a) k⟩
    |_=>none
def abC:Env:=cS 69 ď avz abB
def avB:z7->FR:=fun(docs,s1,s2)=>(S.gq docs s1 s2, .own 0,[.row 179 [.str, .slice [.int .i64]] (S.make docs s1 s2) false])
def avC:z7->LR:=fun(docs,s1,s2)=>fun
    |0=>some ⟨Nat,[(6,fun k=> .int .i64 (s1+(k:Nat))),(5,fun k=> .own 300)],[(300,fun k=> .row 9 [.str] (S.iA docs s1 k) false)],[(Vg.Loc.slot 5,300)],[102700,102701,102702,27],[],fun k=>S.fJ s1 s2 k,fun k=>S.ag (s2-s1).toNat k⟩
    |2=>some ⟨Nat,[(8,iN),(7,fun k=> .own 301)],[(301,fun k=> .row 179 [.str, .slice [.int .i64]] (S.lP docs s1 s2 k) false)],[(Vg.Loc.slot 7,301)],[302],[],fun k=>S.gp (S.cE docs s1 s2) k,fun k=>S.ag (S.len (S.cE docs s1 s2)) k⟩
    |4=>some ⟨Nat×B8,[(10,fun k=> .int .i64 (s1+(k.1:Nat)))],[(9,fun k=> .cells [.str k.2, .own 302]),(302,fun k=> .row 3 [.int .i64] (S.cm docs s1 k.2 k.1) false)],[(Vg.Loc.cell 9 1,302)],[],[(37,fun k=> .str k.2)],fun k=>S.fJ s1 s2 k.1,fun k=>S.ag (s2-s1).toNat k.1⟩
    |_=>none
def abD:Env:=cS 170 z6 avB abC
def avD:W9->FR:=fun(s1,s2)=>(True, .bool (S.jA s1 s2),[])
def abE:Env:=cS 197 Đ avD abD
def avE:Me->FR:=fun(s1,s2,s3)=>(S.aQ s3, .bool (S.dQ s1 s2 s3),[])
def avF:Me->LR:=fun(s1,s2,s3)=>fun
    |0=>some ⟨Nat,[(18,iN)],[],[],[],[],fun k=>S.ur s1 s2 s3 k,fun k=>S.ag (S.len s3) k⟩
    |_=>none
def abF:Env:=cS 144 H5 avE abE
def avG:Me->FR:=fun(s1,s2,s3)=>(S.aQ s3, .bA [.agg (aF [.int .i64, .int .i64, .int .i64, .str] ((S.ry s1 s2 s3).1)), .int .i64 ((S.ry s1 s2 s3).2:Int)],[])
def abG:Env:=cS 163 H5 avG abF
def avH:akK->FR:=fun(s1,s2,s3,s4)=>(True, .bool (S.lI s1 s2 s3 s4),[])
def abH:Env:=cS 266 đ avH abG
def avI:z7->FR:=fun(docs,s1,s2)=>(True, .bA [.agg (aF [.int .i64, .int .i64, .slice [.str, .slice [.int .i64]]] ((S.dB docs s1 s2).1)), .int .i64 ((S.dB docs s1 s2).2:Int)],[])
def abI:Env:=cS 73 z6 avI abH
def avJ:akL->FR:=fun(l,n)=>(True, .bool (S.pE l n),[])
def avK:akL->LR:=fun(l,n)=>fun
    |0=>some ⟨Nat,[(14,iN),(5,fun k=> .int .i64 (S.rowAt l k:Int))],[],[],[],[],fun k=>S.vO l k,fun k=>S.ag (S.len l) k⟩
    |_=>none
def abJ:Env:=cS 241 azX avJ abI
def avL:z7->FR:=fun(docs,s1,s2)=>(True, .bool (S.dn docs s1 s2),[])
def abK:Env:=cS 110 z6 avL abJ
def avM:z7->FR:=fun(docs,s1,s2)=>(S.gq docs s1 s2, .agg (aF [.int .i64, .int .i64, .slice [.str, .slice [.int .i64]]] ((s1,s2,S.make docs s1 s2))),[])
def abL:Env:=cS 112 z6 avM abK
def avN:Me->FR:=fun(s1,s2,s3)=>(S.aQ s3/\S.aI s3=true, .agg (aF [.int .i64, .int .i64, .int .i64, .str] (S.NF s1 s2 s3)),[])
def abM:Env:=cS 151 H5 avN abL
def avO:aCw->FR:=fun(a1,a2,a3,b1,b2,b3)=>(True, .bool (S.xu a1 a2 a3 b1 b2 b3),[])
def abN:Env:=cS 111 azY avO abM
def avP:qm->FR:=fun d=>(True, .bool (S.hX d),[])
def avQ:qm->LR:=fun d=>fun
    |0=>some ⟨Nat,[(3,iN)],[],[],[],[],fun k=>S.zF d k,fun k=>S.ag (S.len d) k⟩
    |_=>none
def abO:Env:=cS 37 rG avP abN
def avR:GI->FR:=fun docs=>(True, .bool (S.pg docs),[])
def avS:GI->LR:=fun docs=>fun
    |0=>some ⟨Nat,[(3,iN)],[],[],[],[],fun k=>S.zG docs k,fun k=>S.ag (S.len docs) k⟩
    |_=>none
def abP:Env:=cS 38 O3 avR abO
def avT:Me->FR:=fun(s1,s2,s3)=>(True, .agg (aF [.int .i64, .int .i64, .slice [.str, .slice [.int .i64]]] ((s1,s2,s3))),[])
def abQ:Env:=cS 45 H5 avT abP
def av6:eF->FR:=fun l=>(S.small l, .own 0,[.row 5 [.int .u8] (l) false])
def abX:Env:=cS 91 ei av6 abQ
def av7:qm->FR:=fun l=>(S.small l, .own 0,[.row 179 [.str, .slice [.int .i64]] (l) false])
def abY:Env:=cS 141 rG av7 abX
def av8:Rh->FR:=fun(a,b)=>(True, .bool (S.Gt a b),[])
def av9:Rh->LR:=fun(a,b)=>fun
    |0=>some ⟨Nat,[(13,iN)],[],[],[],[],fun k=>S.EP a b k,fun k=>S.ag (S.len a) k⟩
    |_=>none
def abZ:Env:=cS 215 Č av8 abY
def awa:GK->FR:=fun(a1,a2,b1,b2)=>(True, .bool (S.zN a1 a2 b1 b2),[])
def ab1:Env:=cS 214 O4 awa abZ
def awb:akM->Uk->bP:=fun(a,b) ()=>⟨True, .bool (S.ig a b),[],[]⟩
def awc:akM->Uk->LR:=fun(a,b) ()=>fun
    |0=>some ⟨Nat,[(17,iN)],[],[],[],[],fun k=>S.lr a b k,fun k=>S.ag (S.len a) k⟩
    |_=>none
def ab2:Env:=cH 213 [false,false,true] azZ Br awb ab1
def awd:W7->FR:=fun(a,b)=>(True, .bool (S.ig a b),[])
def ab3:Env:=cS 162 Ď awd ab2
def awe:aCx->FR:=fun(y1,y2)=>(True, .bool (S.ba y1 y2),[])
def awf:aCx->LR:=fun(y1,y2)=>fun
    |0=>some ⟨Nat,[(23,iN)],[],[],[],[],fun k=>S.LF y1 y2 k,fun k=>S.ag (S.len y1) k⟩
    |2=>some ⟨Nat,[(34,iN),(5,fun k=> .int .i64 (S.dV y2 k))],[],[],[],[],fun k=>S.tA y1 y2 k,fun k=>S.ag (S.len y2) k⟩
    |_=>none
def ab4:Env:=cS 95 az0 awe ab3
def awg:aCx->FR:=fun(y1,y2)=>(True, .agg (aF [.slice [.slice [.int .u8]], .slice [.int .i64, .int .i64, .slice [.str, .slice [.int .i64]]]] (S.al y1 y2)),[])
def ab5:Env:=cS 71 az0 awg ab4
def awh:aCx->FR:=fun(y1,y2)=>(True, .int .i64 (S.dp y2:Int),[])
def ab6:Env:=cS 72 az0 awh ab5
def awi:aCx->FR:=fun(y1,y2)=>(S.qD y1 y2, .agg [.own 0, .own 1],[.row 28 [.slice [.int .u8]] y1 false, .row 102 [.int .i64, .int .i64, .slice [.str, .slice [.int .i64]]] y2 false])
def awj:aCx->LR:=fun(y1,y2)=>fun
    |0=>some ⟨Nat,[(22,iN)],[(13,fun k=> .row 28 [.slice [.int .u8]] (S.eb [] y1 k) false)],[],[],[],fun k=>S.bS y1 k,fun k=>S.ag (S.len y1) k⟩
    |2=>some ⟨Nat,[(37,iN)],[(17,fun k=> .row 102 [.int .i64, .int .i64, .slice [.str, .slice [.int .i64]]] (S.eb (0,0,[]) y2 k) false)],[],[],[],fun k=>S.bS y2 k,fun k=>S.ag (S.len y2) k⟩
    |4=>some ⟨Nat×Nat×List S.ax,[(55,fun k=> .int .i64 ((k.1:Nat):Int))],[(17,fun k=> .jc 102 (some 104900) [.int .i64, .int .i64, .slice [.str, .slice [.int .i64]]] k.2.2 k.2.1),(104900,fun k=> .row 179 [.str, .slice [.int .i64]] (S.ao y2 k.2.1).2.2 false)],[],[],[(6,fun k=> .int .i64 ((k.2.1:Nat):Int))],fun k=>S.uz y2 k.2.2 k.2.1 k.1,fun k=>S.ag (S.nM y2 k.2.1) k.1⟩
    |_=>none
def ab7:Env:=cS 74 az0 awi ab6
def awl:aCx->FR:=fun(y1,y2)=>(True, .int .i64 (S.gT y1 y2:Int),[])
def ab9:Env:=cS 96 az0 awl ab7
def awm:akN->FR:=fun(y1,y2,d)=>(True, .bA [.agg (aF [.slice [.slice [.int .u8]], .slice [.int .i64, .int .i64, .slice [.str, .slice [.int .i64]]]] ((S.cn y1 y2 d).1)), .int .i64 ((S.cn y1 y2 d).2:Int)],[])
def aca:Env:=cS 39 az1 awm ab9
def awn:aCx->FR:=fun(y1,y2)=>(True, .bA [.agg (aF [.slice [.slice [.int .u8]], .slice [.int .i64, .int .i64, .slice [.str, .slice [.int .i64]]]] ((S.bo y1 y2).1)), .int .i64 ((S.bo y1 y2).2:Int)],[])
def acb:Env:=cS 28 az0 awn aca
def awr:aCx->FR:=fun(y1,y2)=>(True, .sl [.int .i64, .int .i64, .int .i64, .str] (S.aw y1 y2),[])
def aws:aCx->LR:=fun(y1,y2)=>fun
    |0=>some ⟨Nat,[(17,iN),(3,fun k=> .own 300)],[(300,fun k=> .row 174 [.int .i64, .int .i64, .int .i64, .str] (S.fo y1 y2 k) false)],[(Vg.Loc.slot 3,300)],[13],[],fun k=>k<=S.gL y1 y2,fun k=>S.ag (S.gL y1 y2) k⟩
    |_=>none
def acf:Env:=cS 98 az0 awr acb
def awt:aCx->FR:=fun(y1,y2)=>(True, .bool (S.ba y1 y2),[])
def awu:aCx->LR:=fun(y1,y2)=>fun
    |0=>some ⟨Nat,[(3,iN)],[],[],[],[],fun k=>S.tA y1 y2 k,fun k=>S.ag (S.len y2) k⟩
    |_=>none
def acg:Env:=cS 46 az0 awt acf
def awv:aCx->FR:=fun(y1,y2)=>(True, .agg (aF [.slice [.slice [.int .u8]], .slice [.int .i64, .int .i64, .slice [.str, .slice [.int .i64]]]] (S.al y1 y2)),[])
def ach:Env:=cS 113 az0 awv acg
def aww:aCx->FR:=fun(y1,y2)=>(True, .int .i64 (S.gT y1 y2:Int),[])
def awx:aCx->LR:=fun(y1,y2)=>fun
    |0=>some ⟨Nat,[(4,iN),(3,fun k=> .int .i64 (S.dV (S.al y1 y2).2 k))],[],[],[],[],fun k=>k<=S.gL y1 y2,fun k=>S.ag (S.gL y1 y2) k⟩
    |_=>none
def aci:Env:=cS 47 az0 aww ach
def awy:aCx->FR:=fun(y1,y2)=>(True, .sl [.int .i64, .int .i64, .int .i64, .str] (S.aw y1 y2),[])
def awz:aCx->LR:=fun(y1,y2)=>fun
    |0=>some ⟨Nat,[(4,iN),(3,fun k=> .own 300)],[(300,fun k=> .row 172 [.int .i64, .int .i64, .int .i64, .str] (S.fo y1 y2 k) false)],[(Vg.Loc.slot 3,300)],[],[],fun k=>k<=S.gL y1 y2,fun k=>S.ag (S.gL y1 y2) k⟩
    |_=>none
def acj:Env:=cS 85 az0 awy aci
def awA:aCx->FR:=fun(y1,y2)=>(S.small y2, .agg (aF [.slice [.slice [.int .u8]], .slice [.int .i64, .int .i64, .slice [.str, .slice [.int .i64]]]] ((y1,y2))),[])
def awB:aCx->LR:=fun(y1,y2)=>fun
    |0=>some ⟨Nat,[(4,iN)],[(3,fun k=> .cells [.sl [.slice [.int .u8]] y1, .own 300]),(300,fun k=> .row 118 [.int .i64, .int .i64, .slice [.str, .slice [.int .i64]]] (y2.take k) false)],[(Vg.Loc.cell 3 1,300)],[],[],fun k=>S.bS y2 k,fun k=>S.ag (S.len y2) k⟩
    |_=>none
def ack:Env:=cS 11 az0 awA acj
def awD:aCx->FR:=fun(y1,y2)=>(True, .bool (S.fq y1 y2),[])
def awE:aCx->LR:=fun(y1,y2)=>fun
    |0=>some ⟨Nat,[(3,iN)],[],[],[],[],fun k=>S.zO y2 k,fun k=>S.ag (S.len y2) k⟩
    |_=>none
def acn:Env:=cS 8 az0 awD ack
def awH:gn->FR:=fun(y1,y2,y3)=>(True, .bool (S.bm y1 y2 y3),[])
def acp:Env:=cS 178 gl awH acn
def awI:aCx->FR:=fun(y1,y2)=>(True, .bA [.agg (aF [.int .i64, .str, .slice [.int .i64, .int .i64, .int .i64, .str]] ((S.cX y1 y2).1)), .int .i64 ((S.cX y1 y2).2:Int)],[])
def acq:Env:=cS 41 az0 awI acp
def awJ:aCy->aJf->bP:=fun v (q,((),()))=>⟨S.dz v=false/\q=0, .bA [],[some (.cells [.int .i64 0]),some (.cells [.own 60000])],[.row 5 [.int .u8] (S.num v) false]⟩
def acr:jZ:=eA az2 q6q awJ
def Rv:jZ:=acr
def acs:Env:=Env.eN 179 [false,true,true] Rv acq
def awK:aCy->aJg->bP:=fun v (q,((),(l,())))=>⟨S.dz v=false/\q=0/\l.length<=35184372088832, .bA [],[some (.cells [.int .i64 0]),some (.cells [.own 60000]),none],[.row 5 [.int .u8] (l++S.num v) false]⟩
def acu:jZ:=eA az2 q7q awK
def acv:jZ:=AM acu Rv
def acw:Env:=Env.eN 179 [false,true,true] acv acs
def awL:aCz->aJi->bP:=fun d ((),(l,()))=>⟨l.length<=35184372088832/\d.length<=35184372088832, .bA [],[some (.cells [.own 60000]),none],[.row 5 [.int .u8] (l++d) false]⟩
def acx:Env:=cH 180 [false,true] az3 q8q awL acw
def awM:gn->FR:=fun(y1,y2,y3)=>(True, .bA [.own 0, .int .i64 ((S.hW y1 y2 y3).2:Int)],[.row 5 [.int .u8] ((S.hW y1 y2 y3).1) false])
def awN:gn->LR:=fun(y1,y2,y3)=>fun
    |0=>some ⟨Nat,[(31,iN)],[(4,fun k=> .cells [.own 300]),(300,fun k=> .row 5 [.int .u8] (S.rB y1 y2 y3 k) false),(5,fun k=> .cells [.int .i64 0])],[(Vg.Loc.cell 4 0,300)],[102700],[],fun k=>S.B7 y1 y2 y3 k,fun k=>S.ag (S.len y3) k⟩
    |_=>none
def acy:Env:=cS 126 gl awM acx
def awO:aCA->Cf->bP:=fun _ ((r1,r2,r3),())=>⟨r1.length<=140737488355328, .int .i64 (S.an r1 r2 r3).2,[some (.cells [.sl [.int .u8] r1, .int .i64 (S.an r1 r2 r3).1.2.1, .int .i64 (S.an r1 r2 r3).1.2.2])],[]⟩
def acz:Env:=cH 199 [true] az4 yb awO acy
def awP:aCA->Cf->bP:=fun _ ((r1,r2,r3),())=>⟨r1.length<=140737488355328, .str (S.aD r1 r2 r3).2,[some (.cells [.sl [.int .u8] r1, .int .i64 (S.aD r1 r2 r3).1.2.1, .int .i64 (S.aD r1 r2 r3).1.2.2])],[]⟩
def acA:Env:=cH 200 [true] az4 yb awP acz
def awQ:aCB->aCG->bP:=fun _ (a,((),((),((r1,r2,r3),()))))=>⟨r1.length<=140737488355328, .agg [.int .i64 a, .int .i64 (S.r8 r1 r2 r3 a).2.2.1, .int .i64 (S.r8 r1 r2 r3 a).2.2.2.1, .str (S.r8 r1 r2 r3 a).2.2.2.2],[some (.cells [.int .i64 (S.r8 r1 r2 r3 a).2.2.1]),some (.cells [.fn (.func 199) [] [.ref 50003 0]]),some (.cells [.fn (.func 200) [] [.ref 50003 0]]),some (.cells [.sl [.int .u8] r1, .int .i64 (S.r8 r1 r2 r3 a).1.1, .int .i64 (S.r8 r1 r2 r3 a).1.2])],[]⟩
def acB:Env:=cH 201 [true,true,true] az5 az8 awQ acA
def awR:eF->FR:=fun b=>(b.length<=140737488355328, .bA [.agg (aF [.int .i64, .str, .slice [.int .i64, .int .i64, .int .i64, .str]] ((S.hR b).1)), .int .i64 ((S.hR b).2:Int)],[])
def awS:eF->LR:=fun b=>fun
    |0=>some ⟨Nat,[(29,iN)],[(4,fun k=> .cells [.sl [.int .u8] b, .int .i64 (S.iC b k).1.1, .int .i64 (S.iC b k).1.2]),(7,fun k=> .cells [.int .i64 (S.iC b k).2.1]),(5,fun k=> .cells [.fn (.func 199) [] [.ref 4 0]]),(6,fun k=> .cells [.fn (.func 200) [] [.ref 4 0]]),(9,fun k=> .cells [.int .i64 (S.gh b).1.1, .str (S.gh b).1.2.1, .own 300]),(300,fun k=> .row 174 [.int .i64, .int .i64, .int .i64, .str] (S.iC b k).2.2 false)],[(Vg.Loc.cell 9 2,300)],[],[],fun k=>k<=S.pN b/\(S.gh b).1.2.2<=64,fun k=>S.ag (S.pN b) k⟩
    |_=>none
def acC:Env:=cS 146 ei awR acB
def awT:aCx->FR:=fun(y1,y2)=>(True, .bool (S.aV y1 y2),[])
def acD:Env:=cS 12 az0 awT acC
def awU:aCx->FR:=fun(y1,y2)=>(S.bJ y1, .agg (aF [.int .i64, .str, .slice [.int .i64, .int .i64, .int .i64, .str]] ((((S.len y1:Nat):Int),S.root (S.leaves y1),S.aw y1 y2))),[])
def acE:Env:=cS 32 az0 awU acD
def awZ:Dj->FR:=fun(d,t)=>(S.aQ d/\S.small t, .bA [.agg (aF [.int .i64, .str, .str, .str, .slice [.str], .slice [.int .u8]] ((S.tK d t).1)), .int .i64 ((S.tK d t).2:Int)],[])
def acH:Env:=cS 58 Ce awZ acE
def aw1:Di->H3->bP:=fun _ (l,())=>⟨S.small l, .bA [],[some (.row 9 [.str] (S.e8 l) false)],[]⟩
def acJ:Env:=cH 118 [true] H2 Rf aw1 acH
def aw2:Di->H3->bP:=fun _ (l,())=>⟨S.small l, .own 60000,[none],[.row 9 [.str] (S.bU l) false]⟩
def aw3:Di->H3->LR:=fun _ (l,())=>fun
    |0=>some ⟨Nat,[(3,iN)],[],[],[],[],fun k=>S.mY l k,fun k=>S.ag (S.len l) k⟩
    |2=>some ⟨Nat×Nat×List B8×Nat,[(3,fun k=> .int .i64 ((k.1:Nat):Int)),(5,fun k=> .int .i64 ((k.2.1:Nat):Int))],[(50000,fun k=> .row 9 [.str] k.2.2.1 false)],[],[],[(27,fun k=> .int .i64 ((k.2.2.2:Nat):Int))],fun k=>S.iS l k.2.2.2 k.1 k.2.1 k.2.2.1,fun k=>S.ag (S.len l) k.2.1⟩
    |_=>none
def acK:Env:=cH 119 [true] H2 Rf aw2 acJ
def aw4:Xa->FR:=fun l=>(S.lR l, .bool (S.bL l),[])
def aw5:Xa->LR:=fun l=>fun
    |0=>some ⟨Nat,[(9,iN),(3,fun k=> .int .i64 (S.jQ l k)),(4,fun k=> .int .i64 (S.nW l k))],[],[],[],[],fun k=>S.ji l k,fun k=>S.ag (S.len l) k⟩
    |_=>none
def acL:Env:=cS 54 O5 aw4 acK
def aw6:Xa->FR:=fun l=>(S.small l, .sl [.str] (S.aO l),[])
def aw7:Xa->LR:=fun l=>fun
    |0=>some ⟨Nat,[(8,iN),(3,fun k=> .own 300)],[(300,fun k=> .row 9 [.str] (S.br l k) false)],[(Vg.Loc.slot 3,300)],[],[],fun k=>S.bS l k,fun k=>S.ag (S.len l) k⟩
    |_=>none
def acM:Env:=cS 55 O5 aw6 acL
def aw8:eF->FR:=fun b=>(S.small b, .str (S.hdT (S.aY b)),[])
def acN:Env:=cS 156 ei aw8 acM
def aw9:vz->aCI->bP:=fun _ (st,((),(bb,(at_,()))))=>⟨st=0/\bb=S.zV/\at_=3, .bA [],[some (.cells [.int .i64 (-1)]),some (.cells [.own 60000]),some (.cells [.sl [.int .u8] bb]),some (.cells [.int .i64 at_])],[.row 187 [.int .i64, .int .i64, .str] S.T3 false]⟩
def acO:Env:=cH 155 [true,true,true,true] uE aAb aw9 acN
def axa:eF->FR:=fun b=>(b=S.zV, .sl [.int .i64, .int .i64, .str] S.kE,[])
def axb:eF->LR:=fun b=>fun
    |0=>some ⟨Nat,[(15,iN)],[(1,fun k=> .cells [.sl [.int .u8] b]),(3,fun k=> .cells [.nil]),(4,fun k=> .cells [.int .i64 ((k:Nat):Int)]),(5,fun k=> .cells [.int .i64 (S.r9 k)])],[],[],[],fun k=>S.bM k 3,fun k=>S.ag 3 k⟩
    |_=>none
def acP:Env:=cS 92 ei axa acO
def axc:aCA->GL->bP:=fun _ ((e,n,w),())=>⟨0<=n/\n<e.length, .agg [.int .i64 (S.pw e n).1, .int .i64 (S.pw e n).2.1, .str (S.pw e n).2.2],[some (.cells [.sl [.int .i64, .int .i64, .str] e, .int .i64 n, .int .i64 w, .nil])],[]⟩
def acQ:jZ:=eA az4 Fa axc
def Rw:jZ:=acQ
def acR:Env:=Env.eN 94 [true] Rw acP
def axd:aCA->aCJ->bP:=fun _ ((e,n,w),(l,()))=>⟨0<=n/\n<e.length, .agg [.int .i64 (S.pw e n).1, .int .i64 (S.pw e n).2.1, .str (S.pw e n).2.2],[some (.cells [.sl [.int .i64, .int .i64, .str] e, .int .i64 n, .int .i64 w, .own 50001]),some (.row 127 [.int .i64, .str] l false)],[]⟩
def acS:jZ:=eA az4 akQ axd
def acT:jZ:=AM acS Rw
def acU:Env:=Env.eN 94 [true] acT acR
def axe:akO->GL->bP:=fun d ((e,n,w),())=>⟨e=S.kE/\n=0/\w=0, .int .i64 0,[some (.cells [.sl [.int .i64, .int .i64, .str] e, .int .i64 1, .int .i64 1, .own 60000])],[.row 127 [.int .i64, .str] S.gk false]⟩
def acV:Env:=cH 212 [true,false] O6 Fa axe acU
def axf:akO->GL->bP:=fun d ((e,n,w),())=>⟨e=S.kE/\n=0/\w=0, .int .i64 0,[some (.cells [.sl [.int .i64, .int .i64, .str] e, .int .i64 1, .int .i64 1, .own 60000])],[.row 127 [.int .i64, .str] S.gk false]⟩
def axg:akO->GL->LR:=fun d ((e,n,w),())=>fun
    |0=>some ⟨Nat,[],[(50000,fun k=> .cells [.sl [.int .i64, .int .i64, .str] e, .int .i64 1, .int .i64 1, .own 300]),(300,fun k=> .row 127 [.int .i64, .str] S.gk false)],[(Vg.Loc.cell 50000 3,300)],[101000],[],fun k=>k=0,fun k=>k⟩
    |_=>none
def acW:Env:=cH 161 [true,false] O6 Fa axf acV
def axh:akO->GL->bP:=fun d ((e,n,w),())=>⟨e=S.kE/\n=0/\w=0, .int .i64 0,[some (.cells [.sl [.int .i64, .int .i64, .str] e, .int .i64 1, .int .i64 1, .own 60000])],[.row 127 [.int .i64, .str] S.gk false]⟩
def axi:akO->GL->LR:=fun d ((e,n,w),())=>fun
    |0=>some ⟨Nat,[],[(50000,fun k=> .cells [.sl [.int .i64, .int .i64, .str] e, .int .i64 1, .int .i64 1, .own 300]),(300,fun k=> .row 127 [.int .i64, .str] S.gk false)],[(Vg.Loc.cell 50000 3,300)],[100900],[],fun k=>k=0,fun k=>k⟩
    |_=>none
def acX:Env:=cH 93 [true,false] O6 Fa axh acW
def axj:eF->FR:=fun b=>(b=S.zV, .bA (aF [.slice [.int .i64, .str], .int .i64, .int .i64] ((S.gk,0,0))),[])
def acY:Env:=cS 40 ei axj acX
def axs:akO->Dk->bP:=fun v (d,(l,()))=>⟨l.length<=35184372088832, .bA [],[some (.cells [.own 60000, .bool (S.jM d (S.gV v))]),none],[.row 5 [.int .u8] (l++S.bytesOf (S.gV v)) false]⟩
def ac3:Env:=cH 105 [true,false] O6 xR axs acY
def axt:aCE->Dk->bP:=fun(b,m) (d,(l,()))=>⟨l.length<=35184372088832/\b.length<=1099511627776, .bA [],[some (.cells [.own 60000, .bool (S.jM d (S.fM b m))]),none],[.row 5 [.int .u8] (l++S.bytesOf (S.fM b m)) false]⟩
def ac4:Env:=cH 106 [true,false,false] az6 xR axt ac3
def axu:tF->Dk->bP:=fun(y1,y2,y3) (d,(l,()))=>⟨l.length<=35184372088832, .bA [],[some (.cells [.own 60000, .bool (S.jM d (S.dW y1 y2 y3))]),none],[.row 5 [.int .u8] (l++S.bytesOf (S.dW y1 y2 y3)) false]⟩
def ac5:Env:=cH 104 [true,false] nc xR axu ac4
def axv:aCF->Dk->bP:=fun p (d,(l,()))=>⟨l.length<=17592186044416, .bA [],[some (.cells [.own 60000, .bool (S.jM d (S.fb p))]),none],[.row 5 [.int .u8] (l++S.bytesOf (S.fb p)) false]⟩
def axw:aCF->Dk->LR:=fun p (d,(l,()))=>fun
    |0=>some ⟨Nat,[(18,iN)],[(50000,fun k=> .cells [.own 300, .bool d]),(300,fun k=> .row 5 [.int .u8] (l++S.gW p k) false)],[(Vg.Loc.cell 50000 0,300)],[101500],[],fun k=>S.lD p k,fun k=>S.ag (S.len p) k⟩
    |_=>none
def ac6:Env:=cH 107 [true,false] az7 xR axv ac5
def axx:akP->Dk->bP:=fun(p1,p2,p3,p4,p5,p6) (d,(l,()))=>⟨l.length<=8796093022208/\p6.length<=1099511627776, .bA [],[some (.cells [.own 60000, .bool (S.jM d (S.iD (p1,p2,p3,p4,p5,p6)))]),none],[.row 5 [.int .u8] (l++S.bytesOf (S.iD (p1,p2,p3,p4,p5,p6))) false]⟩
def ac7:Env:=cH 125 [true,false] az9 xR axx ac6
def axy:aCA->Dk->bP:=fun _ (d,(l,()))=>⟨True, .bA [.sl [.int .u8] (S.pF (l,d)), .int .i64 (S.ri (l,d))],[none,none],[]⟩
def ac8:Env:=cH 108 [true] az4 xR axy ac7
def axz:rC->FR:=fun(a1,a2,a3,a4)=>(S.wv a4, .bA (aF [.slice [.int .u8], .int .i64] (S.pG a1 a2 a3 a4)),[])
def axA:rC->LR:=fun(a1,a2,a3,a4)=>fun
    |0=>some ⟨Nat,[(25,iN)],[(4,fun k=> .cells [.own 300, .bool (S.lT (S.eY a1 a2 a3 a4 k))]),(300,fun k=> .row 5 [.int .u8] (S.bytesOf (S.eY a1 a2 a3 a4 k)) false)],[(Vg.Loc.cell 4 0,300)],[101300,302],[],fun k=>S.nO a3 a4 k,fun k=>S.ag (S.len a4) k⟩
    |2=>some ⟨Nat×Nat,[(37,fun k=> .int .i64 ((k.1:Nat):Int))],[(4,fun k=> .cells [.own 302, .bool (S.lT (S.gb a1 a2 a3 a4 k.2 k.1))]),(302,fun k=> .row 5 [.int .u8] (S.bytesOf (S.gb a1 a2 a3 a4 k.2 k.1)) false)],[(Vg.Loc.cell 4 0,302)],[103400,300],[(25,fun k=> .int .i64 ((k.2:Nat):Int))],fun k=>S.lE a3 a4 k.2 k.1,fun k=>S.ag (S.len (S.fg a4 k.2)) k.1⟩
    |_=>none
def ac9:Env:=cS 59 xP axz ac8
def axB:aCH->FR:=fun(p1,p2,p3,p4,p5,p6)=>(p5.length<=1099511627776, .bA (aF [.slice [.int .u8], .int .i64] (S.zW p1 p2 p3 p4 p5 p6)),[])
def ada:Env:=cS 44 aAa axB ac9
def axC:z8->FR:=fun(s1,s2,s3,s4,s5,s6,s7)=>(True, .bA (aF [.slice [.int .u8], .int .i64] (S.xD s1 s2 s3 s4 s5 s6 s7)),[])
def adb:Env:=cS 68 xQ axC ada
def Jk:aCK->Uk->bP:=fun(b,c) ()=>⟨S.eP b c=0, .bA [.ref 60000 0, .int .i64 0],[],[.cells [.sl [.int .u8] b, .int .i64 1, .int .i64 0]]⟩
def ade:jZ:=eA aAc Br Jk
def Rx:jZ:=ade
def adf:Env:=Env.eN 79 [false,false] Rx adb
def Jl:aCK->Uk->bP:=fun(b,c) ()=>⟨¬S.eP b c=0, .bA [.lp, .int .i64 (S.eP b c)],[],[]⟩
def adg:jZ:=eA aAc Br Jl
def adh:jZ:=AM adg Rx
def adi:Env:=Env.eN 79 [false,false] adh adf
def axD:aCA->Cf->bP:=fun _ ((r1,r2,r3),())=>⟨r1.length<=140737488355328, .int .i64 (S.an r1 r2 r3).2,[some (.cells [.sl [.int .u8] r1, .int .i64 (S.an r1 r2 r3).1.2.1, .int .i64 (S.an r1 r2 r3).1.2.2])],[]⟩
def adj:Env:=cH 89 [true] az4 yb axD adi
def axE:akO->Cf->bP:=fun m ((r1,r2,r3),())=>⟨r1.length<=140737488355328, .str (S.az r1 r2 r3 m).2,[some (.cells [.sl [.int .u8] r1, .int .i64 (S.az r1 r2 r3 m).1.2.1, .int .i64 (S.az r1 r2 r3 m).1.2.2])],[]⟩
def adk:Env:=cH 90 [true,false] O6 yb axE adj
def axF:akO->Cf->bP:=fun m ((r1,r2,r3),())=>⟨r1.length<=140737488355328, .int .i64 (S.ec r1 r2 r3 m).2,[some (.cells [.sl [.int .u8] r1, .int .i64 (S.ec r1 r2 r3 m).1.1, .int .i64 (S.ec r1 r2 r3 m).1.2])],[]⟩
def adl:Env:=cH 86 [true,false] O6 yb axF adk
def axG:aCA->Cf->bP:=fun _ ((r1,r2,r3),())=>⟨r1.length<=140737488355328, .agg [.int .i64 (S.cT r1 r2 r3).2.1, .str (S.cT r1 r2 r3).2.2.1, .sl [.int .i64, .int .i64, .int .i64, .str] (S.cT r1 r2 r3).2.2.2],[some (.cells [.sl [.int .u8] r1, .int .i64 (S.cT r1 r2 r3).1.1, .int .i64 (S.cT r1 r2 r3).1.2])],[]⟩
def adm:Env:=cH 80 [true] az4 yb axG adl
def axH:aCA->Cf->bP:=fun _ ((r1,r2,r3),())=>⟨r1.length<=140737488355328, .agg [.str (S.ik r1 r2 r3).2.1, .str (S.ik r1 r2 r3).2.2.1, .str (S.ik r1 r2 r3).2.2.2],[some (.cells [.sl [.int .u8] r1, .int .i64 (S.ik r1 r2 r3).1.1, .int .i64 (S.ik r1 r2 r3).1.2])],[]⟩
def adn:Env:=cH 152 [true] az4 yb axH adm
def axI:aCA->Cf->bP:=fun _ ((r1,r2,r3),())=>⟨r1.length<=140737488355328, .sl [.str] (S.pq r1 r2 r3).2,[some (.cells [.sl [.int .u8] r1, .int .i64 (S.pq r1 r2 r3).1.1, .int .i64 (S.pq r1 r2 r3).1.2])],[]⟩
def axJ:aCA->Cf->LR:=fun _ ((r1,r2,r3),())=>fun
    |0=>some ⟨Nat,[(7,iN),(3,fun k=> .own 300)],[(300,fun k=> .row 9 [.str] (S.ga r1 r2 r3 k).2 false),(50000,fun k=> .cells [.sl [.int .u8] r1, .int .i64 (S.ga r1 r2 r3 k).1.1, .int .i64 (S.ga r1 r2 r3 k).1.2])],[(Vg.Loc.slot 3,300)],[],[],fun k=>S.bM k (S.lS r1 r2 r3),fun k=>S.ag (S.lS r1 r2 r3) k⟩
    |_=>none
def ado:Env:=cH 81 [true] az4 yb axI adn
def axK:aCA->Cf->bP:=fun _ ((r1,r2,r3),())=>⟨r1.length<=140737488355328, .agg [.int .i64 (S.gG r1 r2 r3).2.1, .str (S.gG r1 r2 r3).2.2.1, .str (S.gG r1 r2 r3).2.2.2.1, .str (S.gG r1 r2 r3).2.2.2.2.1, .sl [.str] (S.gG r1 r2 r3).2.2.2.2.2.1, .sl [.int .u8] (S.gG r1 r2 r3).2.2.2.2.2.2],[some (.cells [.sl [.int .u8] r1, .int .i64 (S.gG r1 r2 r3).1.1, .int .i64 (S.gG r1 r2 r3).1.2])],[]⟩
def Jm:Env:=cH 87 [true] az4 yb axK ado
def axL:eF->FR:=fun b=>(b.length<=140737488355328/\S.eP b 1=0, .bA [.agg (aF [.int .i64, .str, .slice [.int .i64, .int .i64, .int .i64, .str], .slice [.slice [.int .i64, .str, .str, .str, .slice [.str], .slice [.int .u8]]]] ((S.fh b).1)), .int .i64 ((S.fh b).2:Int)],[])
def axM:eF->LR:=fun b=>fun
    |0=>some ⟨Nat,[(25,iN)],[(101100,fun k=> .cells [.sl [.int .u8] b, .int .i64 (S.iV b k).1.1, .int .i64 (S.iV b k).1.2]),(6,fun k=> .cells [.int .i64 (S.aH b).2.1, .str (S.aH b).2.2.1, .sl [.int .i64, .int .i64, .int .i64, .str] (S.aH b).2.2.2, .own 300]),(300,fun k=> .row 107 [.slice [.int .i64, .str, .str, .str, .slice [.str], .slice [.int .u8]]] (S.iV b k).2 false)],[(Vg.Loc.cell 6 3,300)],[301],[],fun k=>S.bM k (S.aN b),fun k=>S.ag (S.aN b) k⟩
    |2=>some ⟨Nat×Nat,[(29,fun k=> .int .i64 ((k.1:Nat):Int)),(7,fun k=> .own 301)],[(301,fun k=> .row 111 [.int .i64, .str, .str, .str, .slice [.str], .slice [.int .u8]] (S.pI b k.2 k.1).2 false),(101100,fun k=> .cells [.sl [.int .u8] b, .int .i64 (S.pI b k.2 k.1).1.1, .int .i64 (S.pI b k.2 k.1).1.2]),(6,fun k=> .cells [.int .i64 (S.aH b).2.1, .str (S.aH b).2.2.1, .sl [.int .i64, .int .i64, .int .i64, .str] (S.aH b).2.2.2, .own 300]),(300,fun k=> .row 107 [.slice [.int .i64, .str, .str, .str, .slice [.str], .slice [.int .u8]]] (S.iV b k.2).2 false)],[(Vg.Loc.slot 7,301)],[],[(25,fun k=> .int .i64 ((k.2:Nat):Int))],fun k=>S.bM k.1 (S.pr b k.2)/\k.2+1<=S.aN b,fun k=>S.ag (S.pr b k.2) k.1⟩
    |_=>none
def axN:Env:=Env.eN 79 [false,false] (eA aAc Br Jk) Jm
def axO:eF->FR:=fun b=>(¬S.eP b 1=0, .bA [.agg (aF [.int .i64, .str, .slice [.int .i64, .int .i64, .int .i64, .str], .slice [.slice [.int .i64, .str, .str, .str, .slice [.str], .slice [.int .u8]]]] ((S.fh b).1)), .int .i64 ((S.fh b).2:Int)],[])
def axP:Env:=Env.eN 79 [false,false] (eA aAc Br Jl) Jm
def axQ:eF->FR:=fun b=>(b.length<=140737488355328, .bA [.agg (aF [.int .i64, .str, .slice [.int .i64, .int .i64, .int .i64, .str], .slice [.slice [.int .i64, .str, .str, .str, .slice [.str], .slice [.int .u8]]]] ((S.fh b).1)), .int .i64 ((S.fh b).2:Int)],[])
def Jn:Env:=cS 33 ei axQ Jm
def ax1:gn->FR:=fun(y1,y2,y3)=>(S.bm y1 y2 y3=true, .own 0,[.row 5 [.int .u8] (S.hB y1 y2 y3) false])
def ax2:gn->LR:=fun(y1,y2,y3)=>fun
    |0=>some ⟨Nat,[(4,iN),(3,fun k=> .own 300)],[(300,fun k=> .row 5 [.int .u8] (S.rB y1 y2 y3 k) false)],[(Vg.Loc.slot 3,300)],[101700,101701,101702,11,17,101100,101101,101102],[],fun k=>S.B7 y1 y2 y3 k,fun k=>S.ag (S.len y3) k⟩
    |_=>none
def adq:Env:=cS 114 gl ax1 Jn
def ax4:ql->FR:=fun p=>(S.jo p, .own 0,[.row 5 [.int .u8] (S.cM p) false])
def ax5:ql->LR:=fun p=>fun
    |0=>some ⟨Nat,[(4,iN),(3,fun k=> .own 300)],[(300,fun k=> .row 5 [.int .u8] (S.iU p k) false)],[(Vg.Loc.slot 3,300)],[7,100700,100701,100702],[],fun k=>S.bS p k,fun k=>S.ag (S.len p) k⟩
    |_=>none
def ads:Env:=cS 51 tE ax4 adq
def ax6:gn->FR:=fun(y1,y2,y3)=>(S.bm y1 y2 y3=true, .own 0,[.row 5 [.int .u8] (S.bz y1 y2 y3) false])
def adt:Env:=cS 48 gl ax6 ads
def ayb:z8->FR:=fun(s1,s2,s3,s4,s5,s6,s7)=>(S.bm s1 s2 s3=true/\S.bm s4 s5 s6=true/\S.jo s7, .own 0,[.row 5 [.int .u8] (S.np s1 s2 s3 s4 s5 s6 s7) false])
def adx:Env:=cS 25 xQ ayb adt
def ayd:aCL->FR:=fun(a,b)=>(True, .bool (S.L2 a b),[])
def adz:Env:=cS 66 aAd ayd adx
def ayf:akR->aCP->bP:=fun t (dd,(er,((),())))=>⟨S.aQ dd/\S.aI dd=true/\S.isTerm t=true/\er=0, .bA [],[some (.cells [.sl [.str, .slice [.int .i64]] dd]),some (.cells [.int .i64 0]),some (.cells [.own 60000])],[.row 111 [.int .i64, .str, .str, .str, .slice [.str], .slice [.int .u8]] [S.cG dd t] false]⟩
def adB:jZ:=eA aAe akW ayf
def Ry:jZ:=adB
def adC:Env:=Env.eN 57 [false,true,true,true] Ry adz
def ayg:akR->aCQ->bP:=fun t (dd,(er,((),(l,()))))=>⟨S.aQ dd/\S.aI dd=true/\S.isTerm t=true/\er=0/\l.length<=100000, .bA [],[some (.cells [.sl [.str, .slice [.int .i64]] dd]),some (.cells [.int .i64 0]),some (.cells [.own 60000]),none],[.row 111 [.int .i64, .str, .str, .str, .slice [.str], .slice [.int .u8]] (l++ [S.cG dd t]) false]⟩
def adD:jZ:=eA aAe akX ayg
def adE:jZ:=AM adD Ry
def adF:Env:=Env.eN 57 [false,true,true,true] adE adC
def ayh:aCM->akZ->bP:=fun d (er,(ts,()))=>⟨S.L3 d ts/\er=0, .sl [.int .i64, .str, .str, .str, .slice [.str], .slice [.int .u8]] (S.II d ts),[some (.cells [.int .i64 0]),some (.cells [.sl [.str] ts])],[]⟩
def ayi:aCM->akZ->LR:=fun d (er,(ts,()))=>fun
    |0=>some ⟨Nat,[(12,iN)],[(3,fun k=> .cells [.sl [.str, .slice [.int .i64]] d]),(5,fun k=> .cells [.own 300]),(300,fun k=> .row 111 [.int .i64, .str, .str, .str, .slice [.str], .slice [.int .u8]] (S.iE d ts k) false),(50000,fun k=> .cells [.int .i64 0]),(50001,fun k=> .cells [.sl [.str] ts])],[(Vg.Loc.cell 5 0,300)],[],[],fun k=>S.bS ts k,fun k=>S.ag (S.len ts) k⟩
    |_=>none
def adG:Env:=cH 56 [false,true,true] aAf aAj ayh adF
def ayj:Ri->FR:=fun(y1,y2,l)=>(S.lR l, .bA (aF [.slice [.int .u8], .int .i64] (S.cQ y1 y2 l)),[])
def ayk:Ri->LR:=fun(y1,y2,l)=>fun
    |0=>some ⟨Nat,[(31,iN)],[(7,fun k=> .cells [.int .i64 0]),(8,fun k=> .cells [.sl [.str] (S.aO l)]),(10,fun k=> .cells [.int .i64 ((S.len y1:Nat):Int), .str (S.root (S.leaves y1)), .sl [.int .i64, .int .i64, .int .i64, .str] (S.aw y1 y2), .own 300]),(300,fun k=> .row 107 [.slice [.int .i64, .str, .str, .str, .slice [.str], .slice [.int .u8]]] (S.fD y2 (S.aO l) k) false)],[(Vg.Loc.cell 10 3,300)],[],[],fun k=>S.bS y2 k/\S.aV y1 y2=true/\S.bL l=true,fun k=>S.ag (S.len y2) k⟩
    |_=>none
def adH:Env:=cS 16 Ē ayj adG
def ayl:akS->FR:=fun(y1,y2,i)=>(True, .bA (aF [.slice [.int .u8], .int .i64] (S.bO y1 y2 i)),[])
def adI:Env:=cS 10 ē ayl adH
def aym:akT->FR:=fun(y1,y2,z1,z2)=>(True, .bA (aF [.slice [.int .u8], .int .i64] (S.b8 y1 y2 z1 z2)),[])
def ayn:akT->LR:=fun(y1,y2,z1,z2)=>fun
    |0=>some ⟨Nat,[(36,iN)],[],[],[],[],fun k=>S.xG y1 z1 k,fun k=>S.ag (S.len y1) k⟩
    |_=>none
def adJ:Env:=cS 23 Ĕ aym adI
def ays:W8->FR:=fun(a,b)=>(True, .bool (S.jD a b),[])
def adN:Env:=cS 24 ď ays adJ
def ayt:akT->FR:=fun(y1,y2,z1,z2)=>(S.aV y1 y2=true/\S.aV z1 z2=true/\S.jD y1 z1=true, .agg (aF [.int .i64, .str, .slice [.int .i64, .int .i64, .int .i64, .str], .int .i64, .str, .slice [.int .i64, .int .i64, .int .i64, .str], .slice [.str]] ((((S.len y1:Nat):Int),S.root (S.leaves y1),S.aw y1 y2,((S.len z1:Nat):Int),S.root (S.leaves z1),S.aw z1 z2,S.cb (S.leaves z1) ((S.len y1:Nat):Int)))),[])
def adO:Env:=cS 26 Ĕ ayt adN
def ayu:akB->FR:=fun _=>(True, .bool true,[])
def adP:Env:=cS 9 q0p ayu adO
def adU:akT->FR:=fun(y1,y2,z1,z2)=>(True, .bool true,[])
def adV:Env:=cS 5 Ĕ adU adP
end Go.J

end
section
namespace Go.Vg
open Go Go.Shelf Go.RowKit Go.Proofs
def encS(s:B8):Value:= .string ⟨s.toArray⟩
section
variable {w w':World} {A:Nat->Prop} {G:Nat->Option GD}
theorem Aj:∀(l:List B8) (cs:List Value),eu (bT w A [.str]) cs l->cs=l.map encS/\∀s∈l,s.length<=maxLen
 | [],cs,h=>by grind[eu]
 |s::l,cs,⟨c1,c2,hc,h1,h2⟩=>by
  subst hc;obtain⟨v,cK,rfl,hv,rfl⟩:=h1;obtain⟨g1,g2⟩:=Aj l c2 h2;obtain⟨rfl,hl⟩:=hv;refine⟨by rw [g1];rfl,fun s' mO=> ?_⟩;rcases P!.1 mO with rfl|mO
  . exact hl
  grind
theorem Bk:∀(l:List B8),(∀s∈l,s.length<=maxLen)->eu (bT w A [.str]) (l.map encS) l
 | [],_=>rfl
 |s::l,h=>⟨[encS s],l.map encS,rfl,by
   exact⟨_,[],rfl,by exact⟨rfl,h s z!⟩,rfl⟩,Bk l fun s' mO=>h s' x!⟩
theorem UI:∀(l:List Int) (cs:List Value),eu (bT w A [.int .i64]) cs l->cs=l.map (Value.int .i64)/\∀z∈l,lo .i64<=z/\z<=hi .i64
 | [],cs,h=>by grind[eu]
 |s::l,cs,⟨c1,c2,hc,h1,h2⟩=>by
  subst hc;obtain⟨v,cK,rfl,hv,rfl⟩:=h1;obtain⟨g1,g2⟩:=UI l c2 h2;obtain⟨rfl,hl⟩:=hv;refine⟨by rw [g1];rfl,fun s' mO=> ?_⟩;rcases P!.1 mO with rfl|mO
  . exact hl
  grind
theorem GO:∀(l:List Int),(∀z∈l,lo .i64<=z/\z<=hi .i64)->eu (bT w A [.int .i64]) (l.map (Value.int .i64)) l
 | [],_=>rfl
 |s::l,h=>⟨[.int .i64 s],l.map (Value.int .i64),rfl,by
   exact⟨_,[],rfl,by exact⟨rfl,h s z!⟩,rfl⟩,GO l fun s' mO=>h s' x!⟩
theorem Pl {e:Nat} {row:List Ty} {l:List (Row row)} {v:Value} {xs:List Value}(hA:∀b,A b->b<w.heap.size)(hb:Below w.heap.size w w')(ho:w'.ownsRow w.heap.size e row.length v l.length xs)(hr:eu (bT w' A row) xs l):
  ∃A' aS,lA w A w' v (.own 0) [.row e row l false] A' aS:=by
 have hblk:∀b,aB v=some b->w.heap.size<=b:=by
  intro b fv;rcases ho.2 with⟨rfl,_⟩|⟨g,cap,cur,rfl,hg,_⟩
  . cases fv
  grind[aB,Option.some.injEq]
 have h1:v.oneCell'=true :=by
  rcases ho.2 with⟨rfl,_⟩|⟨g,cap,cur,rfl,hg,_⟩<;>rfl
 have ho0:w'.ownsRow 0 e row.length v l.length xs:=by
  refine⟨ho.1,?_⟩;rcases ho.2 with h|⟨g,cap,cur,g1,g2,g3⟩
  . grind
  grind
 refine⟨A,fun _=>v,{os:=hb.os,tape:=hb.tape,output:=hb.output,size:=hb.size,same:=hb.block,mono:=fun _ h=>h,nh:=fun _ _ h=>h,bound:=fun b h=>Y? (hA b h) hb.size,res:= ?_,rows:= ?_,apart:= ?_}⟩
 . simp_all[af,trivial]
 . intro i ab hi;match i,hi with
   |0,hi=>
    simp at hi;subst hi;refine⟨⟨xs,ho0,hr,fun b fv=> ?_⟩,hblk⟩;grind
   |i+1,hi=>grind
 grind
end
theorem Rz {α γ:Type}(f:α->γ)(l:List α)(j:Nat)(d:γ)(hj:j<l.length):(l.map f).getD j d=f l[j]:=by
 grind
theorem Cq {P:Program} {f:FuncId} {args:Array Value} {w:World} {A:Nat->Prop} {e:Nat} {row:List Ty}(hA:∀b,A b->b<w.heap.size)
  (h:Calls P f args w fun e w'=>e= .returned (.slice none 0 0)/\w'=w):Calls P f args w fun ex w'=>∃v,ex= .returned v/\∃A' aS,lA w A w' v (.own 0) [.row e row [] false] A' aS:=
 h.mono fun ex w' ⟨he,hw⟩=>by
  subst hw;exact⟨_,he,Pl (xs:= []) hA (Below.refl _ _) ⟨z!, .inl ⟨rfl,rfl⟩⟩ rfl⟩
theorem qF {P:Program} {f:FuncId} {args:Array Value} {w:World} {A:Nat->Prop} {e:Nat} {row:List Ty} {l:List (Row row)} {xs:List Value}(hA:∀b,A b->b<w.heap.size)
  (hr:∀w',eu (bT w' A row) xs l)
  (h:Calls P f args w fun ex w'=>∃v',ex= .returned v'/\w'.ownsRow w.heap.size e row.length v' l.length xs/\v'≠ .slice none 0 0/\Below w.heap.size w w'):
  Calls P f args w fun ex w'=>∃v,ex= .returned v/\∃A' aS,lA w A w' v (.own 0) [.row e row l false] A' aS:=
 h.mono fun ex w' ⟨v',he,ho,_,hb⟩=>⟨v',he,Pl hA hb ho (hr w')⟩
theorem Pm {w:World} {A:Nat->Prop} {β:Nat->Value} {row:List Ty} {args:List Value} {l:List (Row row)}(h:ak w A β args [.sl row l]):∃a cap cs,args= [.slice a l.length cap]/\l.length<=cap/\cap<=maxLen/\eu (bT w A row) cs l/\
  (cs≠ []->∃b o,a=some ⟨b,o,none⟩/\A b/\w.rangeAt b o cs):=by
 simp [ak] at h;grind[af,Rd]
theorem GP {P:Program} {ρ:Ren} {G:Nat->Option GD}(L:SlLaysN.n42 P ρ) {F:Row (PS.flat [.one (.slice [.str])])->Prop×AV×List AB}
  (hF:∀l:List B8,F l=(l.length<=1099511627776, .own 0,[.row (ρ.t 26) [.str] l false])):Valid P G (ρ.f 42) (db [.one (.slice [.str])] F):=by
 intro w A β args cZ pre res bs hA hG cw hs hp;unfold db at hs;split at hs
 . rename_i x hx;have mO:=hs;rw [hF x] at mO;obtain⟨rfl,rfl,rfl⟩:=mO;obtain⟨g1,g2⟩:=xd _ hx cw;obtain⟨a,cap,cs,rfl,h1,h2,h3,h4⟩:=Pm (row:= [.str]) (l:=x) g1;obtain⟨rfl,hl⟩:=Aj x cs h3;cases x with
   |nil=>cases a with
    |none=>simp_all[Cq,AnyG.slices_Clone_string_nil]
    |some ad=>exact qF (xs:= []) hA (fun _=>rfl) (AnyG.slices_Clone_string_zero L ad cap w)
   |cons s x=>
    obtain⟨b,o,rfl,IF,hr⟩:=h4 z!;refine qF (xs:=(s::x).map encS) hA (fun _=>Bk _ hl) ?_
    have :=AnyG.slices_Clone_string L b o (s::x).length cap ((s::x).map fun s=>⟨s.toArray⟩) w z! w! (fun j hj=>by
     refine hr j _ ?_;simp at hj;rw [Rz _ _ _ _ hj,P?,E! hj];rfl)
    have e1:(((s::x).map fun s=>(⟨s.toArray⟩:ByteArray)).take (s::x).length).map Value.string=(s::x).map encS:=by
     rw [J? z!,List.map_map];rfl
    grind
 grind
theorem GQ {P:Program} {ρ:Ren} {G:Nat->Option GD}(L:SlLaysN.n41 P ρ) {F:Row (PS.flat [.one (.slice [.int .i64])])->Prop×AV×List AB}
  (hF:∀l:List Int,F l=(l.length<=1099511627776, .own 0,[.row (ρ.t 23) [.int .i64] l false])):Valid P G (ρ.f 41) (db [.one (.slice [.int .i64])] F):=by
 intro w A β args cZ pre res bs hA hG cw hs hp;unfold db at hs;split at hs
 . rename_i x hx;have mO:=hs;rw [hF x] at mO;obtain⟨rfl,rfl,rfl⟩:=mO;obtain⟨g1,g2⟩:=xd _ hx cw;obtain⟨a,cap,cs,rfl,h1,h2,h3,h4⟩:=Pm (row:= [.int .i64]) (l:=x) g1;obtain⟨rfl,hl⟩:=UI x cs h3;cases x with
   |nil=>cases a with
    |none=>simp_all[Cq,AnyG.slices_Clone_int_nil]
    |some ad=>exact qF (xs:= []) hA (fun _=>rfl) (AnyG.slices_Clone_int_zero L ad cap w)
   |cons s x=>
    obtain⟨b,o,rfl,IF,hr⟩:=h4 z!;refine qF (xs:=(s::x).map (Value.int .i64)) hA (fun _=>GO _ hl) ?_
    have :=AnyG.slices_Clone_int L b o (s::x).length cap (s::x) w z! w! (fun j hj=>by
     refine hr j _ ?_;grind)
    grind
 grind
end Go.Vg

end
section
namespace Go.Vg
open Go Go.Shelf Go.RowKit Go.Proofs Go.Sort Go.Lib
theorem Ak(a b:B8):ltOf S.iR a b=Op.bytesLess a b:=by
 grind[ltOf,S.iR,Op.bytesLess]
theorem afS:SWO (ltOf S.iR) where
 irrefl x:=by grind[Ak,S.cD]
 trans x y z h1 h2:=by grind[Ak,S.mV]
 ntrans x y z h1 h2:=by
  grind[Ak,S.jz,S.mV]
theorem UJ(x y:B8)(h1:ltOf S.iR x y=false)(h2:ltOf S.iR y x=false):x=y:=by
 grind[Ak,S.jz]
theorem Fo {α:Type} [Inhabited α](enc:α->Value)(w:World)(rX off:Nat)(d:Array α) {c:Array Value} {e:TypeId} {fr:Nat×Nat}(h:w.heap[rX]? =some (.cells c e fr)):
  (putRow enc w rX off d).heap[rX]? =some (.cells (putCells enc off d c) e fr):=by
 grind[putRow,mapBlock,onCells]
theorem xW {α:Type} [Inhabited α](enc:α->Value)(w:World)(rX off k:Nat)(d:Array α)(h:k≠rX):(putRow enc w rX off d).heap[k]? =w.heap[k]? :=by
 simp_all[putRow,mapBlock,Array.getElem?_modify,Ne.symm]
theorem size_putRow {α:Type} [Inhabited α](enc:α->Value)(w:World)(rX off:Nat)(d:Array α):(putRow enc w rX off d).heap.size=w.heap.size:=by
 simp_all
theorem Al(l:List B8)(c:Array Value)(h:l.length<=c.size):(putCells encS 0 l.toArray c).toList.take l.length=l.map encS:=by
 apply List.ext_getElem?;intro k;by_cases hk:k<l.length
 . grind[putCells,Array.getElem?_eq_getElem]
 grind
theorem Am {α:Type} [Inhabited α](enc:α->Value)(d:Array α)(c:Array Value):(putCells enc 0 d c).size=c.size:=by simp [putCells]
theorem IM {P:Program} {ρ:Ren} {G:Nat->Option GD}(L:SlLaysF.n6 P ρ) {g e:Nat}(eg:∀args w,(callFunc g args).run P w= .ok (.enter g args) w)
  (aJM:∀(x y:B8) (w:World),Calls P g #[encS x,encS y] w fun e w'=>e= .returned (.int .i64 (S.iR x y))/\w'=w)
  {F:Row (TA.ez [.own 50000, .fn (.func g) [] []])->cI [.row e [.str]]->bP}
  (hF:∀l:List B8,F () (l,())= {pre:=l.length<=1099511627776,res:= .bA [],heap:= [some (.row e [.str] (S.e8 l) false)],new:= []}):
  cg P G (ρ.f 6) (eA [.own 50000, .fn (.func g) [] []] [.row e [.str]] F):=by
 intro w A β args cZ hs r hA hG cw iu ID p7 hp hlen KE;unfold eA at p7;split at p7
 . rename_i cs fx;split at p7
   . rename_i x y hx hy;obtain⟨l,u⟩:=y;simp only [Option.some.injEq] at p7;have hxu:x=():=rfl;subst hxu;rw [hF l] at p7;subst p7;obtain⟨g1,g2⟩:=AN fx hx cw;obtain⟨q1,q2,q3⟩:=En (w:=w) (A:=A) (β:=β) [.row e [.str]] hs (l,u) 50000 hy iu;have hb:=q2 0 (.row e [.str] l false) rfl;have ao2:hs.length=1:=by grind
     simp only [TA.pA,TA.put,ak] at g1;obtain⟨v0,cK,rfl,Xn,v1,aJN,rfl,hv1,rfl⟩:=g1;simp only [af] at Xn hv1;obtain⟨Xn,ma⟩:=Xn;obtain⟨a1,a2,rfl,ha1,ha2⟩:=hv1;simp only [TA.pA,ak,List.drop_nil,List.take_nil] at ha1 ha2;have ea1:a1= #[]:=by grind
     have ea2:a2= #[]:=by grind
     subst ea1;subst ea2;obtain⟨xs,ho,rM,l9⟩:=hb;obtain⟨rfl,hl⟩:=Aj l xs rM;have FZ:∀s∈S.e8 l,s.length<=maxLen:=fun s mO=>hl s ((List.mergeSort_perm l _).subset mO);have MC:(S.e8 l).length=l.length:=(List.mergeSort_perm l _).length_eq;simp only [H?,h?] at l9;rcases ho.2 with⟨RU,hn2⟩|⟨g0,cap,cur,hv,_,RA,NZ,RB,fj,Cx⟩
     . 
      have Pv:l= []:=R?.1 hn2;subst Pv;rw [Xn,RU];have Ve:S.e8 []= []:=R?.1 MC;rw [Ve];refine(AnyF.slices_SortFunc_none {L with} none 0 (.func (.func g) #[] #[]) w).mono fun ex w' ⟨he,hw⟩=> ?_;subst hw;refine⟨_,he,A,β,{os:=rfl,tape:=rfl,output:=rfl,size:=O! _,same:=fun _ _ _=>rfl,mono:=fun b h=>⟨h,rfl⟩,nh:=fun _ _ h=> .inl h,bound:=hA,res:=by simp only [af];exact⟨#[],rfl,by rfl⟩,kept:= ?_,rows:= ?_,apart:= ?_}⟩
      . intro i ab hi;match i,hi with
        |0,hi=>
         simp only [List.getElem?_cons_zero,Option.some.injEq] at hi;subst hi;exact⟨⟨_,ho,rM,x!⟩,rfl⟩
        |i+1,hi=>simp at hi
      . grind
      . intro k k' b hk gg _ _;rcases hk with⟨i,ab,rfl,_,hi⟩|⟨j,_,hj⟩
        . rcases gg with⟨i',FI,rfl,_,jO⟩|⟨j,_,hj⟩
          . grind
          grind
        . simp at hj
     . have RC:g0<w.heap.size:=(E?.1 RA).1;simp only [F?,List.length_nil,q?,Nat.mul_one] at fj Cx
       have ao3:∀j,j<l.length->cur[j]? =some (encS (l.toArray)[j]!):=fun j hj=>by
        have h1:(cur.toList.take l.length)[j]? =some (encS l[j]):=by rw [Cx,P?,E! hj];rfl
        rw [m?,R! hj,c?] at h1;rw [h1];simp [hj]
       have hH:Holds encS w g0 0 l.toArray:=fun j hj=>by
        have lU:j<l.length:=by simpa using hj
        refine⟨?_,?_⟩
        . simp only [World.cell?,RA];simpa using ao3 j lU
        . simp only [World.frozen?,RA];simp
       rw [Xn,hv];have hc:=Any.slices_SortFunc_total L encS (fun _=>rfl) S.iR afS g #[] g0 0 cap l.toArray w eg (fun m os dk _ x y=>(aJM x y _).mono fun ex w' ⟨he,hw⟩=>⟨he,0, #[],by rw [hw];rfl⟩) hH RC x! UJ
       have e1:(l.toArray.toList.mergeSort fun x y=> !(ltOf S.iR) y x)=S.e8 l:=by
        unfold S.e8;simp only [List.toList_toArray,Ak]
       rw [e1] at hc;refine hc.mono fun ex w' ⟨he,n,os,hw⟩=> ?_;have hw0:(putRow encS (Go.Sort.ahead w n) g0 0 (S.e8 l).toArray).heap[g0]? =some (.cells (putCells encS 0 (S.e8 l).toArray cur) e (0,0)):=Fo encS (Go.Sort.ahead w n) g0 0 _ RA
       have hg1:w'.heap[g0]? =some (.cells (putCells encS 0 (S.e8 l).toArray cur) e (0,0)):=by
        grind[sortWorld,grow,Array.getElem?_append_left,size_putRow]
       have yk:∀b,b<w.heap.size->b≠g0->w'.heap[b]? =w.heap[b]? :=fun b hb gI=>by
        grind[sortWorld,grow,Array.getElem?_append_left,size_putRow,xW,encS,Go.Sort.ahead]
       have oT:w.heap.size<=w'.heap.size:=by
        rw [hw];unfold sortWorld grow;simp only [Array.size_append,size_putRow];exact Nat.le_add_right _ _
       have hHM:HM β 1 g0:=⟨0,w!,by rw [show β (50000+0)=β 50000 from rfl,hv];rfl⟩;have aAG:¬A g0:=l9 g0 (by rw [hv];rfl);refine⟨_,he,A,β,{os:=by rw [hw];rfl,tape:=by rw [hw];rfl,output:=by rw [hw];rfl,size:=oT,same:= ?_,mono:= ?_,nh:=fun _ _ h=> .inl h,bound:=fun b h=>Y? (hA b h) oT,res:=by simp only [af];exact⟨#[],rfl,by rfl⟩,kept:= ?_,rows:= ?_,apart:= ?_}⟩
       . grind
       . grind
       . intro i ab hi;match i,hi with
         |0,hi=>
          simp only [List.getElem?_cons_zero,A!] at hi;subst hi;refine⟨⟨(S.e8 l).map encS,⟨z!, .inr ⟨g0,cap,_,?_,K! _,hg1,w!,RB,by rw [Am];simpa using fj,?_⟩⟩,Bk _ FZ,by simpa using l9⟩,rfl⟩
          . rw [MC];exact hv
          grind[Al]
         |i+1,hi=>simp at hi
       . intro j ab hj;simp at hj
       . intro k k' b hk gg _ _;rcases hk with⟨i,ab,rfl,_,hi⟩|⟨j,_,hj⟩
         . rcases gg with⟨i',FI,rfl,_,jO⟩|⟨j,_,hj⟩
           . match i,i',hi,jO with
             |0,0,_,_=>rfl
             |i+1,_,hi,_=>simp at hi
             |0,i+1,_,jO=>simp at jO
           . simp at hj
         . simp at hj
   grind
 grind
end Go.Vg

end
section
namespace Go.Vg
open Go Go.Shelf Go.RowKit Go.Proofs Go.Sort Go.Lib
theorem Xo {P:Program} {f:FuncId} {args:Array Value} {w:World} {A:Nat->Prop} {β:Nat->Value} {e nn:Nat} {l m:List B8}(hm:m.Perm l)(hA:∀b,A b->b<w.heap.size)(hn:nn=1)
  (hb:BR w A β 50000 (.row e [.str] l false)) (hlen:l.length<=1099511627776)
  (pU:β 50000= .slice none 0 0->l= []->Calls P f args w fun ex w'=>ex= .returned (.tuple #[])/\w'=w)
  (ao5:∀g0 cap,β 50000= .slice (some ⟨g0,0,none⟩) l.length cap->Holds encS w g0 0 l.toArray->g0<w.heap.size->l.length<4611686018427387904->Calls P f args w fun ex w'=>ex= .returned (.tuple #[])/\∃n os,w'=grow (putRow encS (Go.Sort.ahead w n) g0 0 m.toArray) os):
  Calls P f args w fun ex w'=>∃v,ex= .returned v/\∃A' aS,JR w A β nn w' v {pre:=l.length<=1099511627776,res:= .bA [],heap:= [some (.row e [.str] m false)],new:= []} A' aS:=by
 obtain⟨xs,ho,rM,l9⟩:=hb;obtain⟨rfl,hl⟩:=Aj l xs rM;have FZ:∀s∈m,s.length<=maxLen:=fun s mO=>hl s (hm.subset mO);have MC:m.length=l.length:=hm.length_eq;simp only [H?,h?] at l9;rcases ho.2 with⟨RU,hn2⟩|⟨g0,cap,cur,hv,_,RA,NZ,RB,fj,Cx⟩
 . 
  have Pv:l= []:=R?.1 hn2;subst Pv;have Ve:m= []:=R?.1 MC;rw [Ve];refine(pU RU rfl).mono fun ex w' ⟨he,hw⟩=> ?_;subst hw;refine⟨_,he,A,β,{os:=rfl,tape:=rfl,output:=rfl,size:=O! _,same:=fun _ _ _=>rfl,mono:=fun b h=>⟨h,rfl⟩,nh:=fun _ _ h=> .inl h,bound:=hA,res:=by simp only [af];exact⟨#[],rfl,by rfl⟩,kept:= ?_,rows:= ?_,apart:= ?_}⟩
  . intro i ab hi;match i,hi with
    |0,hi=>
     simp only [List.getElem?_cons_zero,Option.some.injEq] at hi;subst hi;exact⟨⟨_,ho,rM,x!⟩,rfl⟩
    |i+1,hi=>grind
  . grind
  . intro k k' b hk gg _ _;rcases hk with⟨i,ab,rfl,_,hi⟩|⟨j,_,hj⟩
    . rcases gg with⟨i',FI,rfl,_,jO⟩|⟨j,_,hj⟩
      . match i,i',hi,jO with
        |0,0,_,_=>rfl
        |i+1,_,hi,_=>simp at hi
        |0,i+1,_,jO=>simp at jO
      . simp at hj
    grind
 . have RC:g0<w.heap.size:=(E?.1 RA).1;simp only [F?,List.length_nil,q?,Nat.mul_one] at fj Cx
   have ao3:∀j,j<l.length->cur[j]? =some (encS (l.toArray)[j]!):=fun j hj=>by
    have h1:(cur.toList.take l.length)[j]? =some (encS l[j]):=by rw [Cx,P?,E! hj];rfl
    rw [m?,R! hj,c?] at h1;rw [h1];simp [hj]
   have hH:Holds encS w g0 0 l.toArray:=fun j hj=>by
    have lU:j<l.length:=by simpa using hj
    refine⟨?_,?_⟩
    . simp only [World.cell?,RA];simpa using ao3 j lU
    . simp only [World.frozen?,RA];simp
   refine(ao5 g0 cap hv hH RC w!).mono fun ex w' ⟨he,n,os,hw⟩=> ?_;have hw0:(putRow encS (Go.Sort.ahead w n) g0 0 m.toArray).heap[g0]? =some (.cells (putCells encS 0 m.toArray cur) e (0,0)):=Fo encS (Go.Sort.ahead w n) g0 0 _ RA
   have hg1:w'.heap[g0]? =some (.cells (putCells encS 0 m.toArray cur) e (0,0)):=by
    rw [hw];unfold grow;simp only;rw [Array.getElem?_append_left (by rw [size_putRow];exact RC)];exact hw0
   have yk:∀b,b<w.heap.size->b≠g0->w'.heap[b]? =w.heap[b]? :=fun b hb gI=>by
    rw [hw];unfold grow;simp only;rw [Array.getElem?_append_left (by rw [size_putRow];exact hb),xW encS (Go.Sort.ahead w n) g0 0 b _ gI];rfl
   have oT:w.heap.size<=w'.heap.size:=by
    rw [hw];unfold grow;simp only [Array.size_append,size_putRow];exact Nat.le_add_right _ _
   have hHM:HM β 1 g0:=⟨0,w!,by rw [show β (50000+0)=β 50000 from rfl,hv];rfl⟩;have aAG:¬A g0:=l9 g0 (by rw [hv];rfl);refine⟨_,he,A,β,{os:=by rw [hw];rfl,tape:=by rw [hw];rfl,output:=by rw [hw];rfl,size:=oT,same:= ?_,mono:= ?_,nh:=fun _ _ h=> .inl h,bound:=fun b h=>Y? (hA b h) oT,res:=by simp only [af];exact⟨#[],rfl,by simp [ak]⟩,kept:= ?_,rows:= ?_,apart:= ?_}⟩
   . intro b hb gI;rw [hn] at gI;exact yk b hb (fun h=>gI (h▸hHM))
   . intro b IF;exact⟨IF,yk b (hA b IF) (fun h=>aAG (h▸IF))⟩
   . intro i ab hi;match i,hi with
     |0,hi=>
      simp only [List.getElem?_cons_zero,A!] at hi;subst hi;refine⟨⟨m.map encS,⟨z!, .inr ⟨g0,cap,_,?_,K! _,hg1,w!,RB,by rw [Am];simpa using fj,?_⟩⟩,Bk _ FZ,by simpa using l9⟩,rfl⟩
      . rw [MC];exact hv
      . have :=Al m cur w!;simpa using this
     |i+1,hi=>simp at hi
   . intro j ab hj;simp at hj
   . intro k k' b hk gg _ _;rcases hk with⟨i,ab,rfl,_,hi⟩|⟨j,_,hj⟩
     . rcases gg with⟨i',FI,rfl,_,jO⟩|⟨j,_,hj⟩
       . match i,i',hi,jO with
         |0,0,_,_=>rfl
         |i+1,_,hi,_=>simp at hi
         |0,i+1,_,jO=>simp at jO
       . simp at hj
     . simp at hj
theorem Is {P:Program} {f:FuncId} {G:Nat->Option GD} {e:Nat} {m:List B8->List B8}(hm:∀l,(m l).Perm l)
  {F:Row (TA.ez [.own 50000])->cI [.row e [.str]]->bP}
  (hF:∀l:List B8,F () (l,())= {pre:=l.length<=1099511627776,res:= .bA [],heap:= [some (.row e [.str] (m l) false)],new:= []})
  (pU:∀w,Calls P f #[.slice none 0 0] w fun ex w'=>ex= .returned (.tuple #[])/\w'=w)
  (ao5:∀(l:List B8) w g0 cap,Holds encS w g0 0 l.toArray->g0<w.heap.size->l.length<4611686018427387904->Calls P f #[.slice (some ⟨g0,0,none⟩) l.length cap] w fun ex w'=>ex= .returned (.tuple #[])/\∃n os,w'=grow (putRow encS (Go.Sort.ahead w n) g0 0 (m l).toArray) os):
  cg P G f (eA [.own 50000] [.row e [.str]] F):=by
 intro w A β args cZ hs r hA hG cw iu ID p7 hp hlen KE;unfold eA at p7;split at p7
 . rename_i cs fx;split at p7
   . rename_i x y hx hy;obtain⟨l,u⟩:=y;simp only [Option.some.injEq] at p7;have hxu:x=():=rfl;subst hxu;rw [hF l] at p7;subst p7;obtain⟨g1,g2⟩:=AN fx hx cw;obtain⟨q1,q2,q3⟩:=En (w:=w) (A:=A) (β:=β) [.row e [.str]] hs (l,u) 50000 hy iu;have hb:=q2 0 (.row e [.str] l false) rfl;have ao2:hs.length=1:=by grind
     simp only [TA.pA,TA.put,ak] at g1;obtain⟨v0,cK,rfl,Xn,rfl⟩:=g1;simp [af] at Xn;refine Xo (hm l) hA ao2 hb hp (fun RU _=> ?_) (fun g0 cap hv hH hg hl=> ?_)
     . grind
     grind
   grind
 grind
theorem afT(l:List B8):(l.mergeSort fun x y=>decide (x<=y))=S.e8 l:=by
 grind[S.e8,bytesLess_eq,decide_eq_true,decide_eq_false]
theorem IN {P:Program} {ρ:Ren} {G:Nat->Option GD}(L:SlLaysM.n6 P ρ) {e:Nat} {F:Row (TA.ez [.own 50000])->cI [.row e [.str]]->bP}
  (hF:∀l:List B8,F () (l,())= {pre:=l.length<=1099511627776,res:= .bA [],heap:= [some (.row e [.str] (S.e8 l) false)],new:= []}):
  cg P G (ρ.f 6) (eA [.own 50000] [.row e [.str]] F):=
 Is S.zp hF (AnyM.slices_Sort_string_none L none 0) (fun l w g0 cap hH hg hl=>by
  have hc:=AnyM.slices_Sort_string L g0 0 cap l w hH hg hl;rw [afT] at hc;exact hc)
theorem MD {P:Program} {ρ:Ren} {G:Nat->Option GD}(L:SlLaysN.n36 P ρ) {e:Nat} {F:Row (TA.ez [.own 50000])->cI [.row e [.str]]->bP}
  (hF:∀l:List B8,F () (l,())= {pre:=l.length<=1099511627776,res:= .bA [],heap:= [some (.row e [.str] (S.LN l) false)],new:= []}):
  cg P G (ρ.f 36) (eA [.own 50000] [.row e [.str]] F):=
 Is List.reverse_perm hF (AnyG.slices_Reverse_string_empty L none 0) (fun l w g0 cap hH hg hl=>
  (AnyG.slices_Reverse_string L g0 0 cap l w hH w!).mono fun ex w' ⟨he,n,hw⟩=>⟨he,n, #[],by rw [hw];rfl⟩)
end Go.Vg

end
section
namespace Go.Proofs
open Go.Shelf
def Tryz.It:Go.Shelf.Ren:=⟨fun|7=>196|10=>247|n=>n,fun|23=>265|26=>9|3=>177|28=>268|0=>0|27=>267|33=>137|4=>4|n=>n,fun|n=>n⟩
theorem Tryz.adZ:Go.Proofs.SlLaysZ.n7 Tryz.prog Tryz.It:= {
 mixed:=by kernel_rfl
 f7:=⟨Tryz.f196.name,by decide,Tryz.func196.trans (congrArg some y!)⟩
 f10:=⟨Tryz.f247.name,by decide,Tryz.func247.trans (congrArg some y!)⟩
 t0:=Tryz.underlying0
 a0:=Tryz.isAgg0
 z0:=Tryz.sizeOf0
 v0:=Tryz.zeroValue0
 t4:=Tryz.underlying4
 a4:=Tryz.isAgg4
 z4:=Tryz.sizeOf4
 v4:=Tryz.zeroValue4
 t23:=Tryz.underlying265
 a23:=Tryz.isAgg265
 z23:=Tryz.sizeOf265
 v23:=Tryz.zeroValue265
 t26:=Tryz.underlying9
 a26:=Tryz.isAgg9
 z26:=Tryz.sizeOf9
 v26:=Tryz.zeroValue9
 t27:=Tryz.underlying267
 a27:=Tryz.isAgg267
 z27:=Tryz.sizeOf267
 v27:=Tryz.zeroValue267
 t28:=Tryz.underlying268
 a28:=Tryz.isAgg268
 z28:=Tryz.sizeOf268
 v28:=Tryz.zeroValue268
 t33:=Tryz.underlying137
 a33:=Tryz.isAgg137
 z33:=Tryz.sizeOf137
 v33:=Tryz.zeroValue137}
def Tryz.Cr:Go.Shelf.Ren:=⟨fun|6=>195|8=>246|9=>118|11=>271|13=>173|12=>172|23=>238|24=>239|14=>229|15=>230|16=>231|17=>232|18=>233|19=>234|20=>235|21=>236|22=>237|25=>259|26=>260|27=>261|28=>262|29=>263|30=>264|31=>275|n=>n,fun|26=>9|28=>268|24=>41|0=>0|3=>3|37=>245|48=>275|50=>312|4=>4|40=>304|39=>303|45=>150|5=>5|9=>9|51=>328|55=>332|57=>343|58=>283|33=>137|n=>n,fun|n=>n⟩
theorem Tryz.afU:Go.Proofs.SlLaysZ.n6 Tryz.prog Tryz.Cr:= {
 mixed:=by kernel_rfl
 f6:=⟨Tryz.f195.name,by decide,Tryz.func195.trans (congrArg some y!)⟩
 f8:=⟨Tryz.f246.name,by decide,Tryz.func246.trans (congrArg some y!)⟩
 f11:=⟨Tryz.f271.name,by decide,Tryz.func271.trans (congrArg some y!)⟩
 t0:=Tryz.underlying0
 a0:=Tryz.isAgg0
 z0:=Tryz.sizeOf0
 v0:=Tryz.zeroValue0
 t24:=Tryz.underlying41
 a24:=Tryz.isAgg41
 z24:=Tryz.sizeOf41
 v24:=Tryz.zeroValue41
 t26:=Tryz.underlying9
 a26:=Tryz.isAgg9
 z26:=Tryz.sizeOf9
 v26:=Tryz.zeroValue9
 t28:=Tryz.underlying268
 a28:=Tryz.isAgg268
 z28:=Tryz.sizeOf268
 v28:=Tryz.zeroValue268
 i26:=by kernel_rfl}
def Tryz.UK:Go.Shelf.Ren:=⟨fun|6=>118|8=>173|9=>172|19=>238|20=>239|21=>229|22=>230|23=>231|24=>232|25=>233|26=>234|27=>235|28=>236|29=>237|36=>259|31=>260|32=>261|37=>262|38=>263|39=>264|41=>275|n=>n,fun|27=>41|29=>9|3=>3|32=>245|26=>41|0=>0|44=>275|46=>312|4=>4|36=>304|35=>303|41=>150|5=>5|9=>9|53=>328|57=>332|63=>343|64=>283|n=>n,fun|n=>n⟩
theorem Tryz.RD:Go.Proofs.SlLaysM.n6 Tryz.prog Tryz.UK:= {
 mixed:=by kernel_rfl
 f6:=⟨Tryz.f118.name,by decide,Tryz.func118.trans (congrArg some y!)⟩
 f8:=Tryz.func173.trans (congrArg some y!)
 f9:=⟨Tryz.f172.name,by decide,Tryz.func172.trans (congrArg some y!)⟩
 f19:=Tryz.func238.trans (congrArg some y!)
 f20:=Tryz.func239.trans (congrArg some y!)
 f21:=⟨Tryz.f229.name,by decide,Tryz.func229.trans (congrArg some y!)⟩
 f22:=⟨Tryz.f230.name,by decide,Tryz.func230.trans (congrArg some y!)⟩
 f23:=⟨Tryz.f231.name,by decide,Tryz.func231.trans (congrArg some y!)⟩
 f24:=⟨Tryz.f232.name,by decide,Tryz.func232.trans (congrArg some y!)⟩
 f25:=⟨Tryz.f233.name,by decide,Tryz.func233.trans (congrArg some y!)⟩
 f26:=⟨Tryz.f234.name,by decide,Tryz.func234.trans (congrArg some y!)⟩
 f27:=⟨Tryz.f235.name,by decide,Tryz.func235.trans (congrArg some y!)⟩
 f28:=⟨Tryz.f236.name,by decide,Tryz.func236.trans (congrArg some y!)⟩
 f29:=⟨Tryz.f237.name,by decide,Tryz.func237.trans (congrArg some y!)⟩
 f31:=Tryz.func260.trans (congrArg some y!)
 f32:=Tryz.func261.trans (congrArg some y!)
 f36:=⟨Tryz.f259.name,by decide,Tryz.func259.trans (congrArg some y!)⟩
 f37:=⟨Tryz.f262.name,by decide,Tryz.func262.trans (congrArg some y!)⟩
 f38:=⟨Tryz.f263.name,by decide,Tryz.func263.trans (congrArg some y!)⟩
 f39:=⟨Tryz.f264.name,by decide,Tryz.func264.trans (congrArg some y!)⟩
 f41:=⟨Tryz.f275.name,by decide,Tryz.func275.trans (congrArg some y!)⟩
 t0:=Tryz.underlying0
 a0:=Tryz.isAgg0
 z0:=Tryz.sizeOf0
 v0:=Tryz.zeroValue0
 t3:=Tryz.underlying3
 a3:=Tryz.isAgg3
 z3:=Tryz.sizeOf3
 v3:=Tryz.zeroValue3
 t4:=Tryz.underlying4
 a4:=Tryz.isAgg4
 z4:=Tryz.sizeOf4
 v4:=Tryz.zeroValue4
 t5:=Tryz.underlying5
 a5:=Tryz.isAgg5
 z5:=Tryz.sizeOf5
 v5:=Tryz.zeroValue5
 t9:=Tryz.underlying9
 a9:=Tryz.isAgg9
 z9:=Tryz.sizeOf9
 v9:=Tryz.zeroValue9
 t26:=Tryz.underlying41
 a26:=Tryz.isAgg41
 z26:=Tryz.sizeOf41
 v26:=Tryz.zeroValue41
 t27:=Tryz.underlying41
 a27:=Tryz.isAgg41
 z27:=Tryz.sizeOf41
 v27:=Tryz.zeroValue41
 t29:=Tryz.underlying9
 a29:=Tryz.isAgg9
 z29:=Tryz.sizeOf9
 v29:=Tryz.zeroValue9
 t32:=Tryz.underlying245
 a32:=Tryz.isAgg245
 z32:=Tryz.sizeOf245
 v32:=Tryz.zeroValue245
 t35:=Tryz.underlying303
 a35:=Tryz.isAgg303
 z35:=Tryz.sizeOf303
 v35:=Tryz.zeroValue303
 t36:=Tryz.underlying304
 a36:=Tryz.isAgg304
 z36:=Tryz.sizeOf304
 v36:=Tryz.zeroValue304
 t41:=Tryz.underlying150
 a41:=Tryz.isAgg150
 z41:=Tryz.sizeOf150
 v41:=Tryz.zeroValue150
 t44:=Tryz.underlying275
 a44:=Tryz.isAgg275
 z44:=Tryz.sizeOf275
 v44:=Tryz.zeroValue275
 t46:=Tryz.underlying312
 a46:=Tryz.isAgg312
 z46:=Tryz.sizeOf312
 v46:=Tryz.zeroValue312
 t53:=Tryz.underlying328
 a53:=Tryz.isAgg328
 z53:=Tryz.sizeOf328
 v53:=Tryz.zeroValue328
 t57:=Tryz.underlying332
 a57:=Tryz.isAgg332
 z57:=Tryz.sizeOf332
 v57:=Tryz.zeroValue332
 t63:=Tryz.underlying343
 a63:=Tryz.isAgg343
 z63:=Tryz.sizeOf343
 v63:=Tryz.zeroValue343
 t64:=Tryz.underlying283
 a64:=Tryz.isAgg283
 z64:=Tryz.sizeOf283
 v64:=Tryz.zeroValue283}
def Tryz.ME:Go.Shelf.Ren:=⟨fun|42=>267|n=>n,fun|25=>41|26=>9|4=>4|n=>n,fun|n=>n⟩
theorem Tryz.Xp:Go.Proofs.SlLaysN.n42 Tryz.prog Tryz.ME:= {
 mixed:=by kernel_rfl
 f42:=⟨Tryz.f267.name,by decide,Tryz.func267.trans (congrArg some y!)⟩
 t4:=Tryz.underlying4
 a4:=Tryz.isAgg4
 z4:=Tryz.sizeOf4
 v4:=Tryz.zeroValue4
 t25:=Tryz.underlying41
 a25:=Tryz.isAgg41
 z25:=Tryz.sizeOf41
 v25:=Tryz.zeroValue41
 t26:=Tryz.underlying9
 a26:=Tryz.isAgg9
 z26:=Tryz.sizeOf9
 v26:=Tryz.zeroValue9
 i26:=by kernel_rfl}
def Tryz.MF:Go.Shelf.Ren:=⟨fun|41=>142|n=>n,fun|22=>177|23=>3|4=>4|n=>n,fun|n=>n⟩
theorem Tryz.Xq:Go.Proofs.SlLaysN.n41 Tryz.prog Tryz.MF:= {
 mixed:=by kernel_rfl
 f41:=⟨Tryz.f142.name,by decide,Tryz.func142.trans (congrArg some y!)⟩
 t4:=Tryz.underlying4
 a4:=Tryz.isAgg4
 z4:=Tryz.sizeOf4
 v4:=Tryz.zeroValue4
 t22:=Tryz.underlying177
 a22:=Tryz.isAgg177
 z22:=Tryz.sizeOf177
 v22:=Tryz.zeroValue177
 t23:=Tryz.underlying3
 a23:=Tryz.isAgg3
 z23:=Tryz.sizeOf3
 v23:=Tryz.zeroValue3
 i23:=by kernel_rfl}
def Tryz.Xr:Go.Shelf.Ren:=⟨fun|6=>268|15=>173|14=>276|28=>238|29=>239|20=>278|21=>279|22=>280|23=>281|24=>282|25=>283|26=>284|27=>285|46=>286|47=>260|48=>261|49=>287|50=>288|57=>289|n=>n,fun|22=>41|24=>9|25=>317|3=>3|39=>245|0=>0|53=>275|55=>312|4=>4|46=>304|45=>303|50=>150|5=>5|9=>9|66=>328|70=>332|76=>343|77=>283|n=>n,fun|n=>n⟩
theorem Tryz.aHa:Go.Proofs.SlLaysF.n6 Tryz.prog Tryz.Xr:= {
 mixed:=by kernel_rfl
 f6:=⟨Tryz.f268.name,by decide,Tryz.func268.trans (congrArg some y!)⟩
 f14:=⟨Tryz.f276.name,by decide,Tryz.func276.trans (congrArg some y!)⟩
 f15:=Tryz.func173.trans (congrArg some y!)
 f20:=⟨Tryz.f278.name,by decide,Tryz.func278.trans (congrArg some y!)⟩
 f21:=⟨Tryz.f279.name,by decide,Tryz.func279.trans (congrArg some y!)⟩
 f22:=⟨Tryz.f280.name,by decide,Tryz.func280.trans (congrArg some y!)⟩
 f23:=⟨Tryz.f281.name,by decide,Tryz.func281.trans (congrArg some y!)⟩
 f24:=⟨Tryz.f282.name,by decide,Tryz.func282.trans (congrArg some y!)⟩
 f25:=⟨Tryz.f283.name,by decide,Tryz.func283.trans (congrArg some y!)⟩
 f26:=⟨Tryz.f284.name,by decide,Tryz.func284.trans (congrArg some y!)⟩
 f27:=⟨Tryz.f285.name,by decide,Tryz.func285.trans (congrArg some y!)⟩
 f28:=Tryz.func238.trans (congrArg some y!)
 f29:=Tryz.func239.trans (congrArg some y!)
 f46:=⟨Tryz.f286.name,by decide,Tryz.func286.trans (congrArg some y!)⟩
 f47:=Tryz.func260.trans (congrArg some y!)
 f48:=Tryz.func261.trans (congrArg some y!)
 f49:=⟨Tryz.f287.name,by decide,Tryz.func287.trans (congrArg some y!)⟩
 f50:=⟨Tryz.f288.name,by decide,Tryz.func288.trans (congrArg some y!)⟩
 f57:=⟨Tryz.f289.name,by decide,Tryz.func289.trans (congrArg some y!)⟩
 t0:=Tryz.underlying0
 a0:=Tryz.isAgg0
 z0:=Tryz.sizeOf0
 v0:=Tryz.zeroValue0
 t3:=Tryz.underlying3
 a3:=Tryz.isAgg3
 z3:=Tryz.sizeOf3
 v3:=Tryz.zeroValue3
 t4:=Tryz.underlying4
 a4:=Tryz.isAgg4
 z4:=Tryz.sizeOf4
 v4:=Tryz.zeroValue4
 t5:=Tryz.underlying5
 a5:=Tryz.isAgg5
 z5:=Tryz.sizeOf5
 v5:=Tryz.zeroValue5
 t9:=Tryz.underlying9
 a9:=Tryz.isAgg9
 z9:=Tryz.sizeOf9
 v9:=Tryz.zeroValue9
 t22:=Tryz.underlying41
 a22:=Tryz.isAgg41
 z22:=Tryz.sizeOf41
 v22:=Tryz.zeroValue41
 a24:=Tryz.isAgg9
 z24:=Tryz.sizeOf9
 t25:=Tryz.underlying317
 a25:=Tryz.isAgg317
 z25:=Tryz.sizeOf317
 v25:=Tryz.zeroValue317
 t39:=Tryz.underlying245
 a39:=Tryz.isAgg245
 z39:=Tryz.sizeOf245
 v39:=Tryz.zeroValue245
 t45:=Tryz.underlying303
 a45:=Tryz.isAgg303
 z45:=Tryz.sizeOf303
 v45:=Tryz.zeroValue303
 t46:=Tryz.underlying304
 a46:=Tryz.isAgg304
 z46:=Tryz.sizeOf304
 v46:=Tryz.zeroValue304
 t50:=Tryz.underlying150
 a50:=Tryz.isAgg150
 z50:=Tryz.sizeOf150
 v50:=Tryz.zeroValue150
 t53:=Tryz.underlying275
 a53:=Tryz.isAgg275
 z53:=Tryz.sizeOf275
 v53:=Tryz.zeroValue275
 t55:=Tryz.underlying312
 a55:=Tryz.isAgg312
 z55:=Tryz.sizeOf312
 v55:=Tryz.zeroValue312
 t66:=Tryz.underlying328
 a66:=Tryz.isAgg328
 z66:=Tryz.sizeOf328
 v66:=Tryz.zeroValue328
 t70:=Tryz.underlying332
 a70:=Tryz.isAgg332
 z70:=Tryz.sizeOf332
 v70:=Tryz.zeroValue332
 t76:=Tryz.underlying343
 a76:=Tryz.isAgg343
 z76:=Tryz.sizeOf343
 v76:=Tryz.zeroValue343
 t77:=Tryz.underlying283
 a77:=Tryz.isAgg283
 z77:=Tryz.sizeOf283
 v77:=Tryz.zeroValue283}
def Tryz.UL:Go.Shelf.Ren:=⟨fun|36=>102|n=>n,fun|25=>41|26=>9|3=>3|4=>4|0=>0|n=>n,fun|n=>n⟩
theorem Tryz.ayx:Go.Proofs.SlLaysN.n36 Tryz.prog Tryz.UL:= {
 mixed:=by kernel_rfl
 f36:=⟨Tryz.f102.name,by decide,Tryz.func102.trans (congrArg some y!)⟩
 t0:=Tryz.underlying0
 a0:=Tryz.isAgg0
 z0:=Tryz.sizeOf0
 v0:=Tryz.zeroValue0
 t3:=Tryz.underlying3
 a3:=Tryz.isAgg3
 z3:=Tryz.sizeOf3
 v3:=Tryz.zeroValue3
 t4:=Tryz.underlying4
 a4:=Tryz.isAgg4
 z4:=Tryz.sizeOf4
 v4:=Tryz.zeroValue4
 t25:=Tryz.underlying41
 a25:=Tryz.isAgg41
 z25:=Tryz.sizeOf41
 v25:=Tryz.zeroValue41
 t26:=Tryz.underlying9
 a26:=Tryz.isAgg9
 z26:=Tryz.sizeOf9
 v26:=Tryz.zeroValue9}
end Go.Proofs

end
section
namespace Go.Proofs
open Go.RowKit Go.Maps Go.Sort Go.Shelf
theorem Tryz.ao6(m:Nat):AnyZ.SortsIn Tryz.prog Tryz.Cr Fence.wide m:=
 ⟨fun rX off cap ss W hH hblk fj=>callsIn_wide.2 (AnyM.slices_Sort_string Tryz.RD rX off cap ss W hH hblk fj),
  fun p cap W=>callsIn_wide.2 (AnyM.slices_Sort_string_none Tryz.RD p cap W)⟩
theorem Tryz.NJ(mb:Option Nat)(W:World):CallsIn Fence.wide 5 Tryz.prog 196 #[.map mb] W fun e w'=>e= .returned (.func (.func 247) #[] #[.pointer (some ⟨W.heap.size,0,none⟩)])/\w'=W.alloc (.cells #[.map mb] 265):=
 AnyZ.keys_in Tryz.adZ Fence.wide 5 trivial rfl mb W
set_option maxHeartbeats 1000000 in
theorem Tryz.tM {H:Type}(b nn:Nat)(D0:DataW H)(R:Value->Option (DataW H×List MemPlace))(w:World)(jN:w.ownsMap Tryz.prog 9 R b nn D0)(ZQ:Maps.size D0<=maxLen)(Aw:Maps.size D0*16<=140737488355328):
  CallsIn Fence.wide 5 Tryz.prog 195 #[.func (.func 247) #[] #[.pointer (some ⟨w.heap.size,0,none⟩)]] (w.alloc (.cells #[.map (some b)] 265)) fun e w'=>∃(v:Value) (ss:List B8),e= .returned v/\ss.Perm (strKeys D0)/\
   w'.ownsRow (w.alloc (.cells #[.map (some b)] 265)).heap.size 9 1 v ss.length ((ss.mergeSort (fun x y=>decide (x<=y))).map encStr)/\(v= .slice none 0 0↔ss= [])/\Below (w.alloc (.cells #[.map (some b)] 265)).heap.size (w.alloc (.cells #[.map (some b)] 265)) w':=by
 have Bq:=jN.lt
 have aJP:SeqGives Fence.wide 2 Tryz.prog 247 #[.pointer (some ⟨w.heap.size,0,none⟩)] encStr (fun ss=>ss.Perm (strKeys D0)) (Maps.size D0) (w.alloc (.cells #[.map (some b)] 265)):=
  AnyZ.keys_gives (ρ:=Tryz.It) {Tryz.adZ with} Fence.wide _ trivial rfl w! w.heap.size b nn D0 _ z! z! (by
   obtain⟨es,clock,hb,Ft,hs,hD⟩:=jN;exact⟨es,clock,(Below.heap_alloc _ _ b Bq).trans hb,Ft,hs,hD⟩)
 exact AnyZ.sorted_in Tryz.afU Fence.wide 5 trivial trivial trivial trivial rfl w! (Tryz.ao6 _) (enters_of Tryz.func118 y! rfl) 247 #[.pointer (some ⟨w.heap.size,0,none⟩)] trivial (enters_of Tryz.func247 y! rfl) _ _ ZQ Aw _ aJP
end Go.Proofs

end
section
namespace Go.Proofs
open Go.Shelf Go.RowKit Go.Lib Go.Sort
theorem ayy {x y:B8}(h:Op.bytesLess x y=true):S.iR x y= -1:=by unfold S.iR;rw [if_pos h]
theorem ayz {x y:B8}(h:Op.bytesLess x y=false)(h2:(!x==y)=true):S.iR x y=1:=by
 have gI:x≠y:=by simpa using h2
 unfold S.iR;rw [h];rcases S.jz x y with t|t|t
 . rw [t] at h;cases h
 . exact absurd t gI
 . rw [t];rfl
theorem ayA {x y:B8}(h:Op.bytesLess x y=false)(h2:(!x==y)=false):S.iR x y=0:=by
 have he:x=y:=by simpa using h2
 subst he;unfold S.iR;rw [h];rfl
theorem Tryz.Xs(x:ByteArray)(w:World):Calls Tryz.prog 264 #[.string x] w fun e w'=>e= .returned (.bool false)/\w'=w:=by
 go_enter Tryz.func264,Tryz.ntmps264
 go_wp2
 go_ret
 exact⟨z!,rfl⟩
set_option maxHeartbeats 1000000 in
theorem Tryz.RE(x y:B8)(w:World):Calls Tryz.prog 245 #[Vg.encS x,Vg.encS y] w fun e w'=>e= .returned (.int .i64 (S.iR x y))/\w'=w:=by
 unfold Vg.encS;go_enter Tryz.func245,Tryz.ntmps245
 go_wp2_with (go_at_call 264;refine(Tryz.Xs _ _).mono ?_;rintro e w' ⟨rfl,rfl⟩)
 all_goals go_ret
 all_goals refine⟨?_,rfl⟩
 all_goals first
  |(rw [ayy (by assumption)];rfl)
  |(rw [ayz (by assumption) (by assumption)];rfl)
  |(rw [ayA (by assumption) (by assumption)];rfl)
theorem Tryz.ayB {G:Nat->Option Vg.GD} {F:Vg.Row (Vg.TA.ez [.own 50000, .fn (.func 245) [] []])->Vg.cI [.row 9 [.str]]->Vg.bP}
  (hF:∀l:List B8,F () (l,())= {pre:=l.length<=1099511627776,res:= .bA [],heap:= [some (.row 9 [.str] (S.e8 l) false)],new:= []}):
  Vg.cg Tryz.prog G 268 (Vg.eA [.own 50000, .fn (.func 245) [] []] [.row 9 [.str]] F):=
 Vg.IM Tryz.aHa (enters_of Tryz.func245 y! rfl) Tryz.RE hF
end Go.Proofs

end
section
namespace Go.Proofs
open Go.Shelf Go.RowKit Go.Lib Go.Sort
theorem Tryz.ao7 {G:Nat->Option Vg.GD} {F:Vg.Row (Vg.TA.ez [.own 50000])->Vg.cI [.row 9 [.str]]->Vg.bP}
 (hF:∀l:List B8,F () (l,())= {pre:=l.length<=1099511627776,res:= .bA [],heap:= [some (.row 9 [.str] (S.e8 l) false)],new:= []}):
 Vg.cg Tryz.prog G 118 (Vg.eA [.own 50000] [.row 9 [.str]] F):=Vg.IN Tryz.RD hF
theorem Tryz.aHb {G:Nat->Option Vg.GD} {F:Vg.Row (Vg.TA.ez [.own 50000])->Vg.cI [.row 9 [.str]]->Vg.bP}
 (hF:∀l:List B8,F () (l,())= {pre:=l.length<=1099511627776,res:= .bA [],heap:= [some (.row 9 [.str] (S.LN l) false)],new:= []}):
 Vg.cg Tryz.prog G 102 (Vg.eA [.own 50000] [.row 9 [.str]] F):=Vg.MD Tryz.ayx hF
end Go.Proofs

end
section
namespace Go.DM
open Go Go.Vg Go.Maps Go.RowKit Go.ChangeShapes
section
variable {H:Type}
def items:DataW H->List Int
 | .slice ls _=>ls.filterMap fun d=>match d with| .lit (.int _ z)=>some z|_=>none
 |_=> []
theorem UM(zs:List Int):items (H:=H) (.slice (lits .i64 zs) [])=zs:=by
 induction zs with
 |nil=>rfl
 |cons z zs ih=>
  simp only [items,lits,V?,List.filterMap_cons] at ih |-;rw [ih]
theorem Dn {w:World} {base:Nat} {e:TypeId} {v:Value} {zs:List Int}(h:w.ownsInts base e .i64 v zs):items (H:=H) (rowDatum .i64 v zs)=zs:=by
 rcases h.datum (H:=H) with⟨h1,h2⟩|h1
 . rw [h1,h2];rfl
 . rw [h1];exact UM zs
def Repr(D:DataW H)(m:B8->List Int):Prop :=IsMap D/\∀s,items (D.atKey (.string s) .nil)=m s/\(has D (.string s)=true↔m s≠ [])
theorem Repr.empty:Repr (H:=H) (.map []) (fun _=> []):=⟨isMap_empty,fun s=>⟨rfl,by simp [has]⟩⟩
theorem Repr.ext {D:DataW H} {m m':B8->List Int}(h:Repr D m)(e:∀s,m s=m' s):Repr D m':=by
 rw [<-funext e];exact h
theorem Repr.put {D:DataW H} {m m':B8->List Int}(h:Repr D m) {t:B8} {w:World} {base:Nat} {e:TypeId} {v:Value} {zs:List Int}(ho:w.ownsInts base e .i64 v zs)(hz:zs≠ [])
  (h1:m' t=zs) (h2:∀s,s≠t->m' s=m s):Repr (D.put (.string t) (rowDatum .i64 v zs)) m':=by
 refine⟨h.1.put _ _,fun s=> ?_⟩;by_cases hs:s=t
 . subst hs;refine⟨?_,?_⟩
   . rw [atKey_put_same h.1 (by trivial),Dn ho,h1]
   . rw [has_put_same h.1 (by trivial),h1];simp [hz]
 . have gI:Lit.string s≠Lit.string t:=fun hh=>hs (by injection hh);rw [atKey_put_other gI,has_put_other gI,h2 s hs];exact h.2 s
theorem ao8 {w:World} {Q:Nat->Prop} {base:Nat} {e:TypeId} {v:Value} {zs:List Int}(h:w.ownsInts base e .i64 v zs)(hq:∀g,v.ownBlock=some g->Q g):Rd w Q (.slice [.int .i64]) v zs:=by
 obtain⟨ho,hw⟩:=h
 have hz:∀z∈zs,lo .i64<=z/\z<=hi .i64:=fun z hz=>by
  have :=hw z hz;simp [Lit.wf,IntKind.min,IntKind.max,IntKind.signed,IntKind.bits] at this;simp only [lo,hi];omega
 simp only [Rd];rcases ho.2 with⟨rfl,h0⟩|⟨g,cap,cur,rfl,hg,hh,hn,hc,fj,Cx⟩
 . have :zs= []:=R?.1 h0;subst this;exact⟨none,0,[],rfl,O! _,K! _,rfl,fun h=>absurd rfl h⟩
 . refine⟨some ⟨g,0,none⟩,cap,zs.map (Value.int .i64),rfl,hn,hc,GO zs hz,fun _=>⟨g,0,rfl,hq g rfl,fun j v hj=> ?_⟩⟩;have :=ho.cells (g:=g) rfl j v hj;rwa [Addr.add_mid] at this
end
end Go.DM
namespace Go.DM
open Go Go.Vg Go.Maps Go.RowKit Go.ChangeShapes
section
variable {H:Type} {P:Program}
theorem Fp(w:World)(c:Array Value)(e:TypeId)(o:Obj)(j:Nat):((w.alloc (.cells c e)).alloc o).cell? ⟨w.heap.size,j,none⟩=c[j]? :=by
 have h1:((w.alloc (.cells c e)).alloc o).heap[w.heap.size]? =some (.cells c e (0,0)):=by
  rw [((World.grownBy_alloc (w.alloc (.cells c e)) o none).block w.heap.size z! z!)];exact(MapKept.heap_alloc w _).1
 simp [World.cell?,h1]
theorem GR {w:World} {base:Nat} {e:TypeId} {size:Nat} {v:Value} {n:Nat} {xs:List Value}(h:w.ownsRow base e size v n xs):∃av cp,v= .slice av n cp/\(0<n->∃g,av=some ⟨g,0,none⟩/\base<=g/\g<w.heap.size):=by
 have hl:=h.lt;rcases h.2 with⟨rfl,h0⟩|⟨g,cap,cur,rfl,hg,_⟩
 . exact⟨none,0,by rw [h0],fun h=>by omega⟩
 . exact⟨_,cap,rfl,fun _=>⟨g,rfl,hl g rfl⟩⟩
theorem xX {w w':World}(h:Below w.heap.size w w'):w.grownBy w' none:=⟨h.os,h.tape,h.output,h.size,fun i hi _=>h.block i hi⟩
theorem vB {w w':World} {k:TypeId} {base:Nat} {e:TypeId} {q:IntKind} {b n:Nat} {D:DataW H}(h:w.ownsGroups P k base e q b n D)(hb:Below w.heap.size w w'):w'.ownsGroups P k base e q b n D:=
 h.kept (xX hb) z! (fun es clock _ x _=>by cases x.val.ownBlock<;>simp)
theorem Xt {w:World} {k:TypeId} {base:Nat} {e:TypeId} {q:IntKind} {b n:Nat} {D:DataW H}(h:w.ownsGroups P k base e q b n D):b<w.heap.size:=by
 obtain⟨es,clock,hb,_⟩:=h;exact(E?.1 hb).1
theorem MG {w w':World} {k:TypeId} {base:Nat} {e:TypeId} {q:IntKind} {b n:Nat} {D:DataW H}(h:w.ownsGroups P k base e q b n D)(hb:Below w.heap.size w w') {No:Nat->Prop}(hn:∀g,No g->w.heap.size<=g):w'.Shuns b No:=by
 have h1:w.Shuns b (fun _=>False):=fun _ _ _ _ _ _ _ hf=>hf;exact(h1.reno (No':=No) h (fun g hg=> .inr (hn g hg))).kept (xX hb) (Xt h) z!
theorem Pn {w:World} {base:Nat} {e:TypeId} {g cp n:Nat} {l:List B8}(h:w.ownsRow base e 1 (.slice (some ⟨g,0,none⟩) n cp) n (l.map encS)) {j:Nat}(hj:j<l.length):w.cell? ⟨g,0+j,none⟩=some (encS (l.getD j [])):=by
 have :=h.cells (g:=g) rfl j (encS (l.getD j [])) (by rw [P?,E! hj,I!,E! hj];rfl);rwa [Addr.add_mid] at this
end
end Go.DM
namespace Go.DM
open Go Go.Vg Go.Maps Go.RowKit Go.ChangeShapes
section
variable {H:Type} {P:Program}
theorem UN {w w':World} {row:Option Nat}(h:w.grownBy w' row) {a:Addr} {v:Value}(hl:a.block<w.heap.size)(hn:some a.block≠row)(hc:w.cell? a=some v):w'.cell? a=some v:=
 (World.cell?_of_block (h.block _ hl hn)).trans hc
theorem UO {k:TypeId}(hk:P.underlying k=some .string) {s:B8}(h:s.length<=maxLen):keyOf P k (.string ⟨s.toArray⟩)=some (.string s):=by
 have :=Go.WideMaps.keyOf_string_mk (P:=P) (k:=k) (s:=⟨s.toArray⟩) hk (by simpa [ByteArray.size] using h);simpa using this
theorem ayC {wr:World} {b g:Nat} {v v':Value} {o:Obj} {n cp:Nat}(PK:∀No:Nat->Prop,wr.Shuns b No->∀g,v.ownBlock=some g->¬No g)(hs:wr.Shuns b (fun g'=>(Value.slice (some ⟨g,0,none⟩) n cp).ownBlock=some g'))
  (Hr:v'.ownBlock=v.ownBlock\/v'.ownBlock=some (wr.alloc o).heap.size) (hg:g<wr.heap.size):∀g',v'.ownBlock=some g'->¬((Value.slice (some ⟨g,0,none⟩) n cp).ownBlock=some g'):=fun g' CQ hh=>by
 rcases Hr with h|h
 . rw [h] at CQ;exact PK _ hs g' CQ hh
 . rw [h] at CQ;simp only [Value.ownBlock,A!] at CQ hh;simp at CQ;omega
end
end Go.DM
namespace Go.DM
open Go Go.Vg Go.Maps Go.RowKit Go.ChangeShapes
section
variable {H:Type} {P:Program}
theorem MH {w:World} {k:TypeId} {base:Nat} {e:TypeId} {q:IntKind} {b n:Nat} {D:DataW H}(h:w.ownsGroups P k base e q b n D):w.ownsMap P k (rowElem w base e q) b n D:=by
 obtain⟨es,clock,hb,F,hs,hD,_⟩:=h;exact⟨es,clock,hb,F,hs,hD⟩
theorem GS {w:World} {k:TypeId} {R:Value->Option (DataW H×List MemPlace)} {b n:Nat} {D:DataW H}(h:w.ownsMap P k R b n D):Maps.size D<=n:=by
 obtain⟨es,clock,hb,F,hs,rfl⟩:=h;rw [size_eq,length_sorted];simpa using hs
theorem Xu(docs:List B8)(a b:Int)(x:B8):x∈S.cE docs a b↔S.ya docs a (b-a).toNat 0 x≠ []:=by
 unfold S.cE;rw [S.gR,S.C1];simp [S.ya]
theorem afV {w:World} {R:Value->Option (DataW H×List MemPlace)} {k:TypeId} {b n:Nat} {D:DataW H}(h:w.ownsMap P k R b n D)(K:Keyed P k)(hk:P.underlying k=some .string) {docs:List B8} {f t:Int}
  (hr:Repr D (S.ya docs f (t-f).toNat 0)) {ss:List B8} (hs:ss.Perm (strKeys D)):ss.mergeSort (fun x y=>decide (x<=y))=S.cE docs f t/\ss.length=(S.cE docs f t).length/\(∀s∈S.cE docs f t,s.length<=maxLen)/\(S.cE docs f t).length<=n:=by
 obtain⟨es,hD,hpw,_⟩:=h.entries K;obtain⟨es',hD',hko⟩:=h.keysOf;have hle:=strKeys_le h hk;have fj:=GS h;obtain rfl :es=es':=by rw [hD] at hD';simpa using hD'
 subst hD;have hi:S.pC (S.cE docs f t):=S.mX _;have dg:=perm_strKeys hpw (fun p hp=>by obtain⟨v,hv⟩:=hko p hp;obtain⟨x,_,hx,_⟩:=Maps.keyOf_str hk hv;exact⟨x,hx⟩) (S.zD hi) (fun x=>by rw [Xu,(hr.2 x).2]);have gH:=hs.trans dg.symm
 have hlen:(S.cE docs f t).length<=n:=by
  rw [dg.length_eq];simpa [strKeys,size_eq] using fj
 refine⟨?_,gH.length_eq,fun s mO=>hle s (dg.subset mO),hlen⟩;have e1:ss.mergeSort leB=(S.cE docs f t).mergeSort leB:=mergeSort_of_perm gH
 have e2:(S.cE docs f t).mergeSort leB=S.cE docs f t:=by
  refine List.mergeSort_of_pairwise (hi.imp fun {a b} mE=> ?_);rw [Go.Proofs.bytesLess_eq] at mE;simp only [leB,H!] at mE |-;exact List.le_of_lt mE
 exact e1.trans e2
end
end Go.DM
namespace Go.DM
open Go Go.Vg Go.Maps Go.RowKit Go.ChangeShapes
section
variable {H:Type} {P:Program}
theorem J0 {w:World} {base:Nat} {e:TypeId} {q:IntKind} {v:Value} {zs:List Int}(h:w.ownsInts base e q v zs):v.oneCell'=true :=by
 rcases h.1.2 with⟨rfl,_⟩|⟨g,cap,cur,rfl,_⟩<;>rfl
theorem afW {w:World} {Q:Nat->Prop} {s:B8} {v:Value} {zs:List Int}(hs:s.length<=maxLen)(hv:Rd w Q (.slice [.int .i64]) v zs):bT w Q [.str, .slice [.int .i64]] [.string ⟨s.toArray⟩,v] (s,zs):=by
 simp only [bT];refine⟨_,[v],rfl,?_,v,[],rfl,hv,rfl⟩;simp only [Rd];exact⟨rfl,hs⟩
theorem Po {α:Type} {R:List Value->α->Prop}:∀(l:List α) (cs c:List Value) (x:α),eu R cs l->R c x->eu R (cs++c) (l++ [x])
 | [],cs,c,x,h,hx=>by
   simp only [eu] at h;subst h;exact⟨c,[],z!,hx,rfl⟩
 |y::l,cs,c,x,⟨c1,c2,hc,h1,h2⟩,hx=>by
  subst hc;exact⟨c1,c2++c,z!,h1,Po l c2 c x h2 hx⟩
theorem ao9 {w w':World} {base:Nat} {e:TypeId} {v:Value} {zs:List Int} {Q:Nat->Prop}(h:w'.ownsInts base e .i64 v zs)(hb:Below w.heap.size w w')(hl:∀g,v.ownBlock=some g->g<w.heap.size)(hq:∀g,base<=g->g<w.heap.size->Q g):Rd w Q (.slice [.int .i64]) v zs:=by
 have h':w.ownsInts base e .i64 v zs:=by
  refine⟨⟨h.1.1,?_⟩,h.2⟩;rcases h.1.2 with hn|⟨g,cap,cur,rfl,hg,hh,rest⟩
  . exact .inl hn
  . exact .inr ⟨g,cap,cur,rfl,hg,(hb.block g (hl g rfl)).symm.trans hh,rest⟩
 exact ao8 h' (fun g hg=>hq g (h'.1.lt g hg).1 (hl g hg))
theorem RF(w:World)(a b:Value)(t:TypeId):∀j u,[a,b][j]? =some u->(w.alloc (.cells #[a,b] t)).cell? ((⟨w.heap.size,0,none⟩:Addr).add j)=some u:=by
 intro j u hj;rw [Addr.add_mid,q?];have h1:(w.alloc (.cells #[a,b] t)).heap[w.heap.size]? =some (.cells #[a,b] t (0,0)):=(MapKept.heap_alloc w _).1;simp only [World.cell?,h1];simpa using hj
end
end Go.DM

end
