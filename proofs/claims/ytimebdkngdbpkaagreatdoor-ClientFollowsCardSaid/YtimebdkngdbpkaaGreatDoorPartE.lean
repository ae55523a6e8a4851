import Derived.Test.YtimebdkngdbpkaaGreatDoorPartD
set_option linter.unusedVariables false
set_option linter.unusedSimpArgs false
set_option linter.unusedSectionVars false
set_option linter.defProp false
set_option linter.unusedVariables false
namespace Go
open List (length getD take drop replicate)
open Int (toNat)
variable {p:Prop}{α:Type}{b:Bool}
theorem df[Decidable p]:decide p=false↔¬p:=q?
theorem dt[Decidable p]:(decide p=true)=p:=H!
theorem lc{a:α}{l:List α}:(a::l).length=l.length+1:=O?
theorem ln:([]:List α).length=0:=List.length_nil
theorem tn(n:Nat):(n:Int).toNat=n:=X! n
theorem nf:((!b)=false)=(b=true):=Bool.not_eq_false' b
theorem nt:((!b)=true)=(b=false):=M? b
def aIv(x k:Int)(hp:S.tu x k):aGr (aQY k) 32 (aGr (Cg (32-aQY k)) 32 (Vg.cy (x*q51 2 (aQY k)%4294967296) (x/q51 2 (Cg (32-aQY k)))=S.rotl x k)):=by
 refine aE ?_;grind[S.ap2,S.tu,S.ap1]
def aIw:Ei 1779033703 3144134277 (Ei 1013904242 2773480762 (Ei 1359893119 2600822924 (Ei 528734635 1541459225 aWT))):=by
 refine aE ?_;omega
def aIx(s1 s2 s3 s4 s5 s6 s7 s8:Int)(s9:B8)(dm:Int):q17 (decide (0<=dm)) (fX (decide (dm<=1099511627776)) (0<=dm) ((0:Int)<64) True) True/\cK (decide (0<=dm)) (cK (decide (dm<=1099511627776)) (decide (b6 s9=dm%64)))=S.qo s9 dm:=by
 refine aE ?_;grind[S.qo]
def aIy(u1 u2 u3 u4 u5 u6 u7 u8:Int)(p:B8)(hp:S.Ue (u1,u2,u3,u4,u5,u6,u7,u8) p)(hf:Vg.gq J.q3p (u1,u2,u3,u4,u5,u6,u7,u8,p)):(∃(x1:Nat),((0:Int)=x1/\q75 0 (q75 0 (q75 0 (q75 0 (q75 0 (q75 0 (q75 0 (q75 0 (q75 0 (q75 0 (q75 0 (q75 0 (q75 0 (q75 0 (q75 0 (q75 0 [])))))))))))))))=S.aK p x1)/\S.cc x1 16)/\(∀(x2:Nat),S.cc x2 16->q29 (decide ((x2:Int)<16)) (q26 (4*x2)) (q86 0 (4*x2) (b6 p) (aT5 24 32) (q26 (4*x2)/\q97 (4*x2+1) 0 (b6 p) (aT5 16 32) (q26 (4*x2)/\q97 (4*x2+2) 0 (b6 p) (aT5 8 32) (q26 (4*x2)/\aZQ (4*x2+3) (b6 p) (q86 0 x2 a0d (0+toNat x2*1<length (S.aK p x2)) (q81 x2 (∃(x3:Nat),((x2:Int)+1=x3/\List.set (S.aK p x2) (0+toNat x2*1) (Vg.cy (Vg.cy (Vg.cy (aJz p (4*x2) 0*q51 2 24%4294967296) (aJz p (4*x2+1) 0*q51 2 16%4294967296)) (aJz p (4*x2+2) 0*q51 2 8%4294967296)) (aJz p (4*x2+3) 0))=S.aK p x3)/\S.cc x3 16/\q53 16 x3 x2))))))) (∃(x4:Nat),((16:Int)=x4/\S.aK p x2=S.aK p x4)/\16<=x4/\x4<=64) (∀(x5:Nat),16<=x5/\x5<=64->dj (decide ((x5:Int)<64)) (q26 (x5-15)) (q86 0 (x5-15) a0d (zH x5<length (S.aK p x5)) (q97 (x5-2) 0 a0d (zJ x5<length (S.aK p x5)) (aWK (ya (S.aK p x5) (zH x5)) 7/\aWK (ya (S.aK p x5) (zH x5)) 18/\aGr 3 32 (aWK (ya (S.aK p x5) (zJ x5)) 17/\aWK (ya (S.aK p x5) (zJ x5)) 19/\aGr 10 32 (q97 (x5-16) 0 a0d (0+toNat (x5-16)*1<length (S.aK p x5)) (q97 (x5-7) 0 a0d (0+toNat (x5-7)*1<length (S.aK p x5)) (q86 0 x5 a0d (0+toNat x5*1<length (S.aK p x5)) (q81 x5 (∃(x6:Nat),aZz x5 x6 (List.set (S.aK p x5) (0+toNat x5*1) (aSc (aSc (aSc (ya (S.aK p x5) (0+toNat (x5-16)*1)) (a0p (ya (S.aK p x5) (zH x5)) 7 18 (ya (S.aK p x5) (zH x5)/q51 2 3))) (getD (S.aK p x5) (0+toNat (x5-7)*1) 0)) (a0p (ya (S.aK p x5) (zJ x5)) 17 19 (ya (S.aK p x5) (zJ x5)/q51 2 10)))=S.aK p x6) (16<=x6/\x6<=64) 64))))))))) ((0:Int)<=0/\0<aZc) (aVI 1 aZc) (az6 0 2 aZc 3 (az6 0 4 aZc 5 (((0:Int)<=6/\6<aZc)/\q86 0 7 aZc (∃(x7:Nat),((0:Int)=x7/\u1=(S.aL (zI p) (u1,u2,u3,u4,u5,u6,u7,u8) x7).1/\u2=(S.aL (zI p) (u1,u2,u3,u4,u5,u6,u7,u8) x7).2.1/\u3=(S.aL (zI p) (u1,u2,u3,u4,u5,u6,u7,u8) x7).2.2.1/\u4=(S.aL (zI p) (u1,u2,u3,u4,u5,u6,u7,u8) x7).2.2.2.1/\u5=(S.aL (zI p) (u1,u2,u3,u4,u5,u6,u7,u8) x7).2.2.2.2.1/\u6=(S.aL (zI p) (u1,u2,u3,u4,u5,u6,u7,u8) x7).2.2.2.2.2.1/\u7=(S.aL (zI p) (u1,u2,u3,u4,u5,u6,u7,u8) x7).2.2.2.2.2.2.1/\u8=(S.aL (zI p) (u1,u2,u3,u4,u5,u6,u7,u8) x7).2.2.2.2.2.2.2)/\S.cc x7 64) (∀(x8:Nat),S.cc x8 64->dj (decide ((x8:Int)<64)) (aWK (S.aL (zI p) (u1,u2,u3,u4,u5,u6,u7,u8) x8).2.2.2.2.1 6) (aWK (S.aL (zI p) (u1,u2,u3,u4,u5,u6,u7,u8) x8).2.2.2.2.1 11/\aWK (S.aL (zI p) (u1,u2,u3,u4,u5,u6,u7,u8) x8).2.2.2.2.1 25/\64=length S.xU/\((0:Int)<=x8/\x8<q60 S.xU)/\q86 0 x8 a0d (0+toNat x8*1<length (S.aK p x5)) (aWK (S.aL (zI p) (u1,u2,u3,u4,u5,u6,u7,u8) x8).1 2/\aWK (S.aL (zI p) (u1,u2,u3,u4,u5,u6,u7,u8) x8).1 13/\aWK (S.aL (zI p) (u1,u2,u3,u4,u5,u6,u7,u8) x8).1 22/\q81 x8 (∃(x9:Nat),((x8:Int)+1=x9/\aSc (aSc (aSc (aSc (aSc (S.aL (zI p) (u1,u2,u3,u4,u5,u6,u7,u8) x8).2.2.2.2.2.2.2 (a0p (S.aL (zI p) (u1,u2,u3,u4,u5,u6,u7,u8) x8).2.2.2.2.1 6 11 (S.rotl (S.aL (zI p) (u1,u2,u3,u4,u5,u6,u7,u8) x8).2.2.2.2.1 (-25)))) (Vg.eP (Vg.aM (S.aL (zI p) (u1,u2,u3,u4,u5,u6,u7,u8) x8).2.2.2.2.1 (S.aL (zI p) (u1,u2,u3,u4,u5,u6,u7,u8) x8).2.2.2.2.2.1) (Vg.aM (4294967296-1-(S.aL (zI p) (u1,u2,u3,u4,u5,u6,u7,u8) x8).2.2.2.2.1) (S.aL (zI p) (u1,u2,u3,u4,u5,u6,u7,u8) x8).2.2.2.2.2.2.1))) (getD S.xU (toNat x8) 0)) (getD (S.aK p x5) (0+toNat x8*1) 0)) (aSc (a0p (S.aL (zI p) (u1,u2,u3,u4,u5,u6,u7,u8) x8).1 2 13 (S.rotl (S.aL (zI p) (u1,u2,u3,u4,u5,u6,u7,u8) x8).1 (-22))) (Vg.eP (Vg.eP (Vg.aM (S.aL (zI p) (u1,u2,u3,u4,u5,u6,u7,u8) x8).1 (S.aL (zI p) (u1,u2,u3,u4,u5,u6,u7,u8) x8).2.1) (Vg.aM (S.aL (zI p) (u1,u2,u3,u4,u5,u6,u7,u8) x8).1 (S.aL (zI p) (u1,u2,u3,u4,u5,u6,u7,u8) x8).2.2.1)) (Vg.aM (S.aL (zI p) (u1,u2,u3,u4,u5,u6,u7,u8) x8).2.1 (S.aL (zI p) (u1,u2,u3,u4,u5,u6,u7,u8) x8).2.2.1)))=(S.aL (zI p) (u1,u2,u3,u4,u5,u6,u7,u8) x9).1/\(S.aL (zI p) (u1,u2,u3,u4,u5,u6,u7,u8) x8).1=(S.aL (zI p) (u1,u2,u3,u4,u5,u6,u7,u8) x9).2.1/\(S.aL (zI p) (u1,u2,u3,u4,u5,u6,u7,u8) x8).2.1=(S.aL (zI p) (u1,u2,u3,u4,u5,u6,u7,u8) x9).2.2.1/\(S.aL (zI p) (u1,u2,u3,u4,u5,u6,u7,u8) x8).2.2.1=(S.aL (zI p) (u1,u2,u3,u4,u5,u6,u7,u8) x9).2.2.2.1/\aSc (S.aL (zI p) (u1,u2,u3,u4,u5,u6,u7,u8) x8).2.2.2.1 (aSc (aSc (aSc (aSc (S.aL (zI p) (u1,u2,u3,u4,u5,u6,u7,u8) x8).2.2.2.2.2.2.2 (a0p (S.aL (zI p) (u1,u2,u3,u4,u5,u6,u7,u8) x8).2.2.2.2.1 6 11 (S.rotl (S.aL (zI p) (u1,u2,u3,u4,u5,u6,u7,u8) x8).2.2.2.2.1 (-25)))) (Vg.eP (Vg.aM (S.aL (zI p) (u1,u2,u3,u4,u5,u6,u7,u8) x8).2.2.2.2.1 (S.aL (zI p) (u1,u2,u3,u4,u5,u6,u7,u8) x8).2.2.2.2.2.1) (Vg.aM (4294967296-1-(S.aL (zI p) (u1,u2,u3,u4,u5,u6,u7,u8) x8).2.2.2.2.1) (S.aL (zI p) (u1,u2,u3,u4,u5,u6,u7,u8) x8).2.2.2.2.2.2.1))) (getD S.xU (toNat x8) 0)) (getD (S.aK p x5) (0+toNat x8*1) 0))=(S.aL (zI p) (u1,u2,u3,u4,u5,u6,u7,u8) x9).2.2.2.2.1/\(S.aL (zI p) (u1,u2,u3,u4,u5,u6,u7,u8) x8).2.2.2.2.1=(S.aL (zI p) (u1,u2,u3,u4,u5,u6,u7,u8) x9).2.2.2.2.2.1/\(S.aL (zI p) (u1,u2,u3,u4,u5,u6,u7,u8) x8).2.2.2.2.2.1=(S.aL (zI p) (u1,u2,u3,u4,u5,u6,u7,u8) x9).2.2.2.2.2.2.1/\(S.aL (zI p) (u1,u2,u3,u4,u5,u6,u7,u8) x8).2.2.2.2.2.2.1=(S.aL (zI p) (u1,u2,u3,u4,u5,u6,u7,u8) x9).2.2.2.2.2.2.2)/\S.cc x9 64/\q53 64 x9 x8))) ((0:Int)<=0/\0<aZc) (aVI 1 aZc) (az6 0 2 aZc 3 (az6 0 4 aZc 5 (az6 0 6 aZc 7 (aSc u1 (S.aL (zI p) (u1,u2,u3,u4,u5,u6,u7,u8) x8).1=(S.block (u1,u2,u3,u4,u5,u6,u7,u8) p).1/\aSc u2 (S.aL (zI p) (u1,u2,u3,u4,u5,u6,u7,u8) x8).2.1=(S.block (u1,u2,u3,u4,u5,u6,u7,u8) p).2.1/\aSc u3 (S.aL (zI p) (u1,u2,u3,u4,u5,u6,u7,u8) x8).2.2.1=(S.block (u1,u2,u3,u4,u5,u6,u7,u8) p).2.2.1/\aSc u4 (S.aL (zI p) (u1,u2,u3,u4,u5,u6,u7,u8) x8).2.2.2.1=(S.block (u1,u2,u3,u4,u5,u6,u7,u8) p).2.2.2.1/\aSc u5 (S.aL (zI p) (u1,u2,u3,u4,u5,u6,u7,u8) x8).2.2.2.2.1=(S.block (u1,u2,u3,u4,u5,u6,u7,u8) p).2.2.2.2.1/\aSc u6 (S.aL (zI p) (u1,u2,u3,u4,u5,u6,u7,u8) x8).2.2.2.2.2.1=(S.block (u1,u2,u3,u4,u5,u6,u7,u8) p).2.2.2.2.2.1/\aSc u7 (S.aL (zI p) (u1,u2,u3,u4,u5,u6,u7,u8) x8).2.2.2.2.2.2.1=(S.block (u1,u2,u3,u4,u5,u6,u7,u8) p).2.2.2.2.2.2.1/\aSc u8 (S.aL (zI p) (u1,u2,u3,u4,u5,u6,u7,u8) x8).2.2.2.2.2.2.2=(S.block (u1,u2,u3,u4,u5,u6,u7,u8) p).2.2.2.2.2.2.2)))))))))):=by
 refine aE ?_;have aKI:0<=u1/\u1<=4294967295:=hf.1;have aKJ:0<=u2/\u2<=4294967295:=hf.2.1;have aKK:0<=u3/\u3<=4294967295:=hf.2.2.1;have aKL:0<=u4/\u4<=4294967295:=hf.2.2.2.1;have aKM:0<=u5/\u5<=4294967295:=hf.2.2.2.2.1;have aKN:0<=u6/\u6<=4294967295:=hf.2.2.2.2.2.1;have aKO:0<=u7/\u7<=4294967295:=hf.2.2.2.2.2.2.1;have aKP:0<=u8/\u8<=4294967295:=hf.2.2.2.2.2.2.2.1;clear hf;obtain⟨qg,TF⟩:=hp;refine⟨?_,?_⟩
 . refine⟨0,?_⟩;try dsimp only
   with_reducible and_intros
   omega;rfl;grind[S.cc,S.ag]
 intro x1 h2;refine V.dI (λh3=>?_) λh4=>?_
 . with_reducible and_intros
   iterate 30 omega
   . rw [S.uy _ _ w!];omega
   iterate 2 omega
   refine⟨(x1+1),?_⟩;try dsimp only
   with_reducible and_intros
   omega;exact S.apY _ _ w!
   . simp only [S.cc,S.ag] at *;omega
   simp only [S.cc,S.ag] at *;omega
 refine⟨?_,?_⟩
 . refine⟨16,?_⟩;try dsimp only
   with_reducible and_intros
   omega
   . simp only [S.cc] at h2;rw [show x1=16 by omega]
   iterate 2 omega
 intro x5 h6;refine V.dI (λh7=>?_) λh8=>?_
 . with_reducible and_intros
   iterate 4 omega
   . rw [S.uy _ _ w!];omega
   iterate 4 omega
   . rw [S.uy _ _ w!];omega
   iterate 2 (with_reducible exact S.W5 _ _ _ _ w!)
   iterate 2 omega
   iterate 2 (with_reducible exact S.W5 _ _ _ _ w!)
   iterate 6 omega
   . rw [S.uy _ _ w!];omega
   iterate 4 omega
   . rw [S.uy _ _ w!];omega
   iterate 2 omega
   . rw [S.uy _ _ w!];omega
   iterate 2 omega
   refine⟨(x5+1),?_⟩;try dsimp only
   with_reducible and_intros
   omega;exact S.apZ _ _ w! w!;iterate 2 omega
   simp only [S.cc,S.ag] at *;omega
 with_reducible and_intros
 iterate 16 omega
 . refine⟨0,?_⟩;try dsimp only
   with_reducible and_intros
   omega;iterate 8 rfl
   simp only [S.cc,S.ag] at *;omega
 intro x9 de;refine⟨?_,?_⟩
 . intro fC;try simp only [dt] at fC
   with_reducible and_intros
   iterate 3 (with_reducible exact S.aAB (S.Bv _ _ qg _) _ w!)
   with_reducible exact S.IH
   omega
   . rw [<-S.IH];simp only [S.cc] at *;omega
   iterate 2 omega
   . rw [S.uy _ _ w!];omega
   iterate 3 (with_reducible exact S.aAA (S.Bv _ _ qg _) _ w!)
   iterate 2 omega
   refine⟨(x9+1),?_⟩;try dsimp only
   with_reducible and_intros
   omega
   . rw [show x5=64 by omega,S.abh];simp only [S.aL,tn,r?,Nat.mul_one];rfl
   iterate 3 rfl
   . rw [show x5=64 by omega,S.abh];simp only [S.aL,tn,r?,Nat.mul_one];rfl
   iterate 3 rfl
   . simp only [S.cc,S.ag] at *;omega
   simp only [S.cc,S.ag] at *;omega
 grind[df,S.cc,S.block,S.abg]
def aCs(u1 u2 u3 u4 u5 u6 u7 u8:Int)(b:B8)(hp:S.xa (u1,u2,u3,u4,u5,u6,u7,u8)):(∃(x1:Nat),(b=S.fx b x1/\u1=(S.proc (u1,u2,u3,u4,u5,u6,u7,u8) b x1).1/\u2=(S.proc (u1,u2,u3,u4,u5,u6,u7,u8) b x1).2.1/\u3=(S.proc (u1,u2,u3,u4,u5,u6,u7,u8) b x1).2.2.1/\u4=(S.proc (u1,u2,u3,u4,u5,u6,u7,u8) b x1).2.2.2.1/\u5=(S.proc (u1,u2,u3,u4,u5,u6,u7,u8) b x1).2.2.2.2.1/\u6=(S.proc (u1,u2,u3,u4,u5,u6,u7,u8) b x1).2.2.2.2.2.1/\u7=(S.proc (u1,u2,u3,u4,u5,u6,u7,u8) b x1).2.2.2.2.2.2.1/\u8=(S.proc (u1,u2,u3,u4,u5,u6,u7,u8) b x1).2.2.2.2.2.2.2)/\64*x1<=length b)/\(∀(x2:Nat),64*x2<=length b->q29 (decide (64<=b6 (S.fx b x2))) (aT5 64 (b6 (S.fx b x2))) (S.Ue ((S.proc (u1,u2,u3,u4,u5,u6,u7,u8) b x2).1,(S.proc (u1,u2,u3,u4,u5,u6,u7,u8) b x2).2.1,(S.proc (u1,u2,u3,u4,u5,u6,u7,u8) b x2).2.2.1,(S.proc (u1,u2,u3,u4,u5,u6,u7,u8) b x2).2.2.2.1,(S.proc (u1,u2,u3,u4,u5,u6,u7,u8) b x2).2.2.2.2.1,(S.proc (u1,u2,u3,u4,u5,u6,u7,u8) b x2).2.2.2.2.2.1,(S.proc (u1,u2,u3,u4,u5,u6,u7,u8) b x2).2.2.2.2.2.2.1,(S.proc (u1,u2,u3,u4,u5,u6,u7,u8) b x2).2.2.2.2.2.2.2) (xu b x2)/\aGr 64 (b6 (S.fx b x2)) (∃(x3:Nat),(drop (toNat 64) (S.fx b x2)=S.fx b x3/\(S.block ((S.proc (u1,u2,u3,u4,u5,u6,u7,u8) b x2).1,(S.proc (u1,u2,u3,u4,u5,u6,u7,u8) b x2).2.1,(S.proc (u1,u2,u3,u4,u5,u6,u7,u8) b x2).2.2.1,(S.proc (u1,u2,u3,u4,u5,u6,u7,u8) b x2).2.2.2.1,(S.proc (u1,u2,u3,u4,u5,u6,u7,u8) b x2).2.2.2.2.1,(S.proc (u1,u2,u3,u4,u5,u6,u7,u8) b x2).2.2.2.2.2.1,(S.proc (u1,u2,u3,u4,u5,u6,u7,u8) b x2).2.2.2.2.2.2.1,(S.proc (u1,u2,u3,u4,u5,u6,u7,u8) b x2).2.2.2.2.2.2.2) (xu b x2)).1=(S.proc (u1,u2,u3,u4,u5,u6,u7,u8) b x3).1/\(S.block ((S.proc (u1,u2,u3,u4,u5,u6,u7,u8) b x2).1,(S.proc (u1,u2,u3,u4,u5,u6,u7,u8) b x2).2.1,(S.proc (u1,u2,u3,u4,u5,u6,u7,u8) b x2).2.2.1,(S.proc (u1,u2,u3,u4,u5,u6,u7,u8) b x2).2.2.2.1,(S.proc (u1,u2,u3,u4,u5,u6,u7,u8) b x2).2.2.2.2.1,(S.proc (u1,u2,u3,u4,u5,u6,u7,u8) b x2).2.2.2.2.2.1,(S.proc (u1,u2,u3,u4,u5,u6,u7,u8) b x2).2.2.2.2.2.2.1,(S.proc (u1,u2,u3,u4,u5,u6,u7,u8) b x2).2.2.2.2.2.2.2) (xu b x2)).2.1=(S.proc (u1,u2,u3,u4,u5,u6,u7,u8) b x3).2.1/\(S.block ((S.proc (u1,u2,u3,u4,u5,u6,u7,u8) b x2).1,(S.proc (u1,u2,u3,u4,u5,u6,u7,u8) b x2).2.1,(S.proc (u1,u2,u3,u4,u5,u6,u7,u8) b x2).2.2.1,(S.proc (u1,u2,u3,u4,u5,u6,u7,u8) b x2).2.2.2.1,(S.proc (u1,u2,u3,u4,u5,u6,u7,u8) b x2).2.2.2.2.1,(S.proc (u1,u2,u3,u4,u5,u6,u7,u8) b x2).2.2.2.2.2.1,(S.proc (u1,u2,u3,u4,u5,u6,u7,u8) b x2).2.2.2.2.2.2.1,(S.proc (u1,u2,u3,u4,u5,u6,u7,u8) b x2).2.2.2.2.2.2.2) (xu b x2)).2.2.1=(S.proc (u1,u2,u3,u4,u5,u6,u7,u8) b x3).2.2.1/\(S.block ((S.proc (u1,u2,u3,u4,u5,u6,u7,u8) b x2).1,(S.proc (u1,u2,u3,u4,u5,u6,u7,u8) b x2).2.1,(S.proc (u1,u2,u3,u4,u5,u6,u7,u8) b x2).2.2.1,(S.proc (u1,u2,u3,u4,u5,u6,u7,u8) b x2).2.2.2.1,(S.proc (u1,u2,u3,u4,u5,u6,u7,u8) b x2).2.2.2.2.1,(S.proc (u1,u2,u3,u4,u5,u6,u7,u8) b x2).2.2.2.2.2.1,(S.proc (u1,u2,u3,u4,u5,u6,u7,u8) b x2).2.2.2.2.2.2.1,(S.proc (u1,u2,u3,u4,u5,u6,u7,u8) b x2).2.2.2.2.2.2.2) (xu b x2)).2.2.2.1=(S.proc (u1,u2,u3,u4,u5,u6,u7,u8) b x3).2.2.2.1/\(S.block ((S.proc (u1,u2,u3,u4,u5,u6,u7,u8) b x2).1,(S.proc (u1,u2,u3,u4,u5,u6,u7,u8) b x2).2.1,(S.proc (u1,u2,u3,u4,u5,u6,u7,u8) b x2).2.2.1,(S.proc (u1,u2,u3,u4,u5,u6,u7,u8) b x2).2.2.2.1,(S.proc (u1,u2,u3,u4,u5,u6,u7,u8) b x2).2.2.2.2.1,(S.proc (u1,u2,u3,u4,u5,u6,u7,u8) b x2).2.2.2.2.2.1,(S.proc (u1,u2,u3,u4,u5,u6,u7,u8) b x2).2.2.2.2.2.2.1,(S.proc (u1,u2,u3,u4,u5,u6,u7,u8) b x2).2.2.2.2.2.2.2) (xu b x2)).2.2.2.2.1=(S.proc (u1,u2,u3,u4,u5,u6,u7,u8) b x3).2.2.2.2.1/\(S.block ((S.proc (u1,u2,u3,u4,u5,u6,u7,u8) b x2).1,(S.proc (u1,u2,u3,u4,u5,u6,u7,u8) b x2).2.1,(S.proc (u1,u2,u3,u4,u5,u6,u7,u8) b x2).2.2.1,(S.proc (u1,u2,u3,u4,u5,u6,u7,u8) b x2).2.2.2.1,(S.proc (u1,u2,u3,u4,u5,u6,u7,u8) b x2).2.2.2.2.1,(S.proc (u1,u2,u3,u4,u5,u6,u7,u8) b x2).2.2.2.2.2.1,(S.proc (u1,u2,u3,u4,u5,u6,u7,u8) b x2).2.2.2.2.2.2.1,(S.proc (u1,u2,u3,u4,u5,u6,u7,u8) b x2).2.2.2.2.2.2.2) (xu b x2)).2.2.2.2.2.1=(S.proc (u1,u2,u3,u4,u5,u6,u7,u8) b x3).2.2.2.2.2.1/\(S.block ((S.proc (u1,u2,u3,u4,u5,u6,u7,u8) b x2).1,(S.proc (u1,u2,u3,u4,u5,u6,u7,u8) b x2).2.1,(S.proc (u1,u2,u3,u4,u5,u6,u7,u8) b x2).2.2.1,(S.proc (u1,u2,u3,u4,u5,u6,u7,u8) b x2).2.2.2.1,(S.proc (u1,u2,u3,u4,u5,u6,u7,u8) b x2).2.2.2.2.1,(S.proc (u1,u2,u3,u4,u5,u6,u7,u8) b x2).2.2.2.2.2.1,(S.proc (u1,u2,u3,u4,u5,u6,u7,u8) b x2).2.2.2.2.2.2.1,(S.proc (u1,u2,u3,u4,u5,u6,u7,u8) b x2).2.2.2.2.2.2.2) (xu b x2)).2.2.2.2.2.2.1=(S.proc (u1,u2,u3,u4,u5,u6,u7,u8) b x3).2.2.2.2.2.2.1/\(S.block ((S.proc (u1,u2,u3,u4,u5,u6,u7,u8) b x2).1,(S.proc (u1,u2,u3,u4,u5,u6,u7,u8) b x2).2.1,(S.proc (u1,u2,u3,u4,u5,u6,u7,u8) b x2).2.2.1,(S.proc (u1,u2,u3,u4,u5,u6,u7,u8) b x2).2.2.2.1,(S.proc (u1,u2,u3,u4,u5,u6,u7,u8) b x2).2.2.2.2.1,(S.proc (u1,u2,u3,u4,u5,u6,u7,u8) b x2).2.2.2.2.2.1,(S.proc (u1,u2,u3,u4,u5,u6,u7,u8) b x2).2.2.2.2.2.2.1,(S.proc (u1,u2,u3,u4,u5,u6,u7,u8) b x2).2.2.2.2.2.2.2) (xu b x2)).2.2.2.2.2.2.2=(S.proc (u1,u2,u3,u4,u5,u6,u7,u8) b x3).2.2.2.2.2.2.2)/\64*x3<=length b/\q53 (S.blocks b) x3 x2)) ((S.proc (u1,u2,u3,u4,u5,u6,u7,u8) b x2).1=(S.aI (u1,u2,u3,u4,u5,u6,u7,u8) b).1) ((S.proc (u1,u2,u3,u4,u5,u6,u7,u8) b x2).2.1=(S.aI (u1,u2,u3,u4,u5,u6,u7,u8) b).2.1/\(S.proc (u1,u2,u3,u4,u5,u6,u7,u8) b x2).2.2.1=(S.aI (u1,u2,u3,u4,u5,u6,u7,u8) b).2.2.1/\(S.proc (u1,u2,u3,u4,u5,u6,u7,u8) b x2).2.2.2.1=(S.aI (u1,u2,u3,u4,u5,u6,u7,u8) b).2.2.2.1/\(S.proc (u1,u2,u3,u4,u5,u6,u7,u8) b x2).2.2.2.2.1=(S.aI (u1,u2,u3,u4,u5,u6,u7,u8) b).2.2.2.2.1/\(S.proc (u1,u2,u3,u4,u5,u6,u7,u8) b x2).2.2.2.2.2.1=(S.aI (u1,u2,u3,u4,u5,u6,u7,u8) b).2.2.2.2.2.1/\(S.proc (u1,u2,u3,u4,u5,u6,u7,u8) b x2).2.2.2.2.2.2.1=(S.aI (u1,u2,u3,u4,u5,u6,u7,u8) b).2.2.2.2.2.2.1/\(S.proc (u1,u2,u3,u4,u5,u6,u7,u8) b x2).2.2.2.2.2.2.2=(S.aI (u1,u2,u3,u4,u5,u6,u7,u8) b).2.2.2.2.2.2.2/\S.fx b x2=S.kn b)):=by
 refine aE ?_;refine⟨?_,?_⟩
 . refine⟨0,?_⟩;try dsimp only
   with_reducible and_intros
   iterate 9 rfl
   omega
 intro x1 h2;refine V.dI (λh3=>?_) λh4=>?_
 . with_reducible and_intros
   iterate 2 omega
   exact⟨S.NP _ _ hp _,x!⟩;iterate 2 omega
   refine⟨(x1+1),?_⟩;grind[S.fx,List.drop_drop,S.ap4,List.length_drop,S.ag,S.blocks]
 with_reducible and_intros
 iterate 8
  . rw [show x1=S.blocks b by grind[S.fx,List.length_drop,S.blocks]];rfl
 rw [show x1=S.blocks b by grind[S.fx,List.length_drop,S.blocks]];rfl
def aCt(s1 s2 s3 s4 s5 s6 s7 s8:Int)(s9:B8)(dm:Int)(b:B8)(hp:S.Ud (s1,s2,s3,s4,s5,s6,s7,s8) s9 dm b):q98 (oI (Bool.not (S.qo s9 dm)) (q26 (1099511627776-dm))) (aP6 (Ė b dm s9)/\q26 (length (sP b dm s9)+length b)/\((0:Int)<=0/\aT5 (length (sP b dm s9)+length b) (azH aZR))/\q21 (length (aZa 0 0)+length (sP b dm s9))/\q21 (length (aZa 0 0++sP b dm s9)+length b)/\S.xa (aXi (Ė b dm s9) s1 s2 s3 s4 s5 s6 s7 s8)/\q32 (S.kn (aZa 0 0++sP b dm s9++b))/\q26 ((bif Ė b dm s9 then 0 else dm)+length b)/\(S.aI (aXi (Ė b dm s9) s1 s2 s3 s4 s5 s6 s7 s8) (aZa 0 0++sP b dm s9++b)).1=(S.aI (s1,s2,s3,s4,s5,s6,s7,s8) b).1/\(S.aI (aXi (Ė b dm s9) s1 s2 s3 s4 s5 s6 s7 s8) (aZa 0 0++sP b dm s9++b)).2.1=(S.aI (s1,s2,s3,s4,s5,s6,s7,s8) b).2.1/\(S.aI (aXi (Ė b dm s9) s1 s2 s3 s4 s5 s6 s7 s8) (aZa 0 0++sP b dm s9++b)).2.2.1=(S.aI (s1,s2,s3,s4,s5,s6,s7,s8) b).2.2.1/\(S.aI (aXi (Ė b dm s9) s1 s2 s3 s4 s5 s6 s7 s8) (aZa 0 0++sP b dm s9++b)).2.2.2.1=(S.aI (s1,s2,s3,s4,s5,s6,s7,s8) b).2.2.2.1/\(S.aI (aXi (Ė b dm s9) s1 s2 s3 s4 s5 s6 s7 s8) (aZa 0 0++sP b dm s9++b)).2.2.2.2.1=(S.aI (s1,s2,s3,s4,s5,s6,s7,s8) b).2.2.2.2.1/\(S.aI (aXi (Ė b dm s9) s1 s2 s3 s4 s5 s6 s7 s8) (aZa 0 0++sP b dm s9++b)).2.2.2.2.2.1=(S.aI (s1,s2,s3,s4,s5,s6,s7,s8) b).2.2.2.2.2.1/\(S.aI (aXi (Ė b dm s9) s1 s2 s3 s4 s5 s6 s7 s8) (aZa 0 0++sP b dm s9++b)).2.2.2.2.2.2.1=(S.aI (s1,s2,s3,s4,s5,s6,s7,s8) b).2.2.2.2.2.2.1/\(S.aI (aXi (Ė b dm s9) s1 s2 s3 s4 s5 s6 s7 s8) (aZa 0 0++sP b dm s9++b)).2.2.2.2.2.2.2=(S.aI (s1,s2,s3,s4,s5,s6,s7,s8) b).2.2.2.2.2.2.2/\S.kn (aZa 0 0++sP b dm s9++b)=S.kn b/\(bif Ė b dm s9 then(0:Int) else dm)+length b=S.pO b):=by
 refine aE ?_;obtain⟨Lh,rfl,rfl,hs⟩:=hp;simp [S.small] at hs;have hv:S.qo [] 0=true:=by decide
 have hd:decide ((1099511627776:Int)-0<(b.length:Int))=false:=by grind
 simp only [hv,hd,Bool.not_true,O!,L!,ln,Int.toNat_zero];with_reducible and_intros
 trivial;grind;omega;iterate 2 grind
 iterate 5 omega
 iterate 2 grind
 omega
 . simp [List.replicate_zero,k?,H?,S.vY,S.pO,ln,K!] at *;omega
 iterate 2 omega
 iterate 9 rfl
 simp only [List.replicate_zero,k?,H?,S.vY,S.pO,ln,K!] at *;omega
def aCu(s1 s2 s3 s4 s5 s6 s7 s8:Int)(s9:B8)(dm:Int)(hp:S.LJ (s1,s2,s3,s4,s5,s6,s7,s8) s9 dm):q98 (aP6 (Jv dm s9)) (q21 (length (bif Jv dm s9 then([]:B8) else s9))/\q21 (length (bif Jv dm s9 then([]:B8) else s9)+length [(128:UInt8)])/\(∃(x1:Nat),(bif Jv dm s9 then([]:B8) else s9)++[(128:UInt8)]=S.gh s9 x1/\S.cG s9 x1)/\(∀(x2:Nat),S.cG s9 x2->(0:Int)<=(length (S.gh s9 x2):Int)/\(0:Int)<(64:Int)/\q29 (q19 ((length (S.gh s9 x2):Int)%(64:Int)) (56:Int)) (q21 (length (S.gh s9 x2)+length [(0:UInt8)])) (∃(x3:Nat),S.gh s9 x2++[(0:UInt8)]=S.gh s9 x3/\S.cG s9 x3/\q53 (S.ib (S.len s9)) x3 x2) (∃(x4:Nat),((0:Int)=(x4:Int)/\S.gh s9 x2=S.jX s9 dm x4)/\S.cc x4 (8:Nat)) (∀(x5:Nat),S.cc x5 (8:Nat)->dj (decide ((x5:Int)<(8:Int))) (q26 ((8:Int)*(x5:Int))) (aFu ((56:Int)-(8:Int)*(x5:Int)) (0:Int) (64:Int) (aZU (S.jX s9 dm x5) (a04 dm s9 x5) (q81 (x5:Int) (∃(x6:Nat),((x5:Int)+(1:Int)=(x6:Int)/\S.jX s9 dm x5++a04 dm s9 x5=S.jX s9 dm x6)/\S.cc x6 (8:Nat)/\q53 (8:Nat) x6 x5)))) (S.xa (aXi (Jv dm s9) s1 s2 s3 s4 s5 s6 s7 s8)) ((0:Int)<=(0:Int)/\aT5 (32:Int) (azH aZR)) ((∃(x7:Nat),((0:Int)=(x7:Int)/\aZa (0:Int) (0:UInt8)=S.oU (S.aI (s1,s2,s3,s4,s5,s6,s7,s8) (S.tail s9 dm)) x7)/\S.cc x7 (8:Nat))/\(∀(x8:Nat),S.cc x8 (8:Nat)->oH (decide ((x8:Int)<(8:Int))) (0:Int) (x8:Int) aZc (aGr (24:Int) (32:Int) (aGr (16:Int) (32:Int) (aGr (8:Int) (32:Int) (aZU (S.oU (S.aI (s1,s2,s3,s4,s5,s6,s7,s8) (S.tail s9 dm)) x8) [HJ (Cm dm s1 s2 s3 s4 s5 s6 s7 s8 s9 x5 x8/q51 (2:Int) (24:Int)%(256:Int)),HJ (Cm dm s1 s2 s3 s4 s5 s6 s7 s8 s9 x5 x8/q51 (2:Int) (16:Int)%(256:Int)),HJ (Cm dm s1 s2 s3 s4 s5 s6 s7 s8 s9 x5 x8/q51 (2:Int) (8:Int)%(256:Int)),HJ (Cm dm s1 s2 s3 s4 s5 s6 s7 s8 s9 x5 x8%(256:Int))] (q81 (x8:Int) (∃(x9:Nat),((x8:Int)+(1:Int)=(x9:Int)/\S.oU (S.aI (s1,s2,s3,s4,s5,s6,s7,s8) (S.tail s9 dm)) x8++[HJ (Cm dm s1 s2 s3 s4 s5 s6 s7 s8 s9 x5 x8/q51 (2:Int) (24:Int)%(256:Int)),HJ (Cm dm s1 s2 s3 s4 s5 s6 s7 s8 s9 x5 x8/q51 (2:Int) (16:Int)%(256:Int)),HJ (Cm dm s1 s2 s3 s4 s5 s6 s7 s8 s9 x5 x8/q51 (2:Int) (8:Int)%(256:Int)),HJ (Cm dm s1 s2 s3 s4 s5 s6 s7 s8 s9 x5 x8%(256:Int))]=S.oU (S.aI (s1,s2,s3,s4,s5,s6,s7,s8) (S.tail s9 dm)) x9)/\S.cc x9 (8:Nat)/\q53 (8:Nat) x9 x8)))))) (S.oU (S.aI (s1,s2,s3,s4,s5,s6,s7,s8) (S.tail s9 dm)) x8=S.dig (S.aI (s1,s2,s3,s4,s5,s6,s7,s8) (S.tail s9 dm)))))))):=by
 refine aE ?_;have hv:=S.ags hp;obtain⟨Lh,h01,h02,h03⟩:=hp;simp only [hv,Bool.not_true,O!];with_reducible and_intros
 trivial;iterate 2 grind
 omega;grind
 . refine⟨0,?_⟩;refine⟨?_,?_⟩
   . exact S.W7 _
   simp only [S.dc,S.jD,S.cG,S.ib,S.cc,S.ag,S.len,lc,ln] at *;omega
 intro x3 h4;refine⟨?_,?_,?_,?_⟩;iterate 2 omega
 . intro h5;try simp at h5
   refine⟨?_,?_⟩
   . simp [S.dc,S.jD,S.cG,S.ib,S.cc,S.ag,S.len,lc,ln] at *;omega
   refine⟨(x3+1),?_⟩;refine⟨?_,?_,?_⟩;grind[S.Kl];grind[S.NR];simp only [S.dc,S.jD,S.cG,S.ib,S.cc,S.ag,S.len,lc,ln] at *;omega
 intro h6;refine⟨?_,?_⟩
 . refine⟨0,?_⟩;try dsimp only
   with_reducible and_intros
   omega;grind[S.akj,S.RQ];simp only [S.dc,S.jD,S.cG,S.ib,S.cc,S.ag,S.len,lc,ln] at *;omega
 intro x7 h8;refine V.dI (λh9=>?_) λde=>?_
 . with_reducible and_intros
   iterate 6 omega
   . simp only [S.dc,S.jD,S.cG,S.ib,S.cc,S.ag,S.len,lc,ln] at *;omega
   iterate 2 omega
   refine⟨(x7+1),?_⟩;try dsimp only
   with_reducible and_intros
   omega;exact S.W8 s9 dm x7 h01 h02 w!
   . simp only [S.dc,S.jD,S.cG,S.ib,S.cc,S.ag,S.len,lc,ln] at *;omega
   simp only [S.dc,S.jD,S.cG,S.ib,S.cc,S.ag,S.len,lc,ln] at *;omega
 with_reducible and_intros
 iterate 4 omega
 . refine⟨0,?_⟩;try dsimp only
   with_reducible and_intros
   omega;rfl;simp only [S.dc,S.jD,S.cG,S.ib,S.cc,S.ag,S.len,lc,ln] at *;omega
 intro x11 gY;refine V.dI (λjM=>?_) λjZ=>?_
 . with_reducible and_intros
   iterate 8 omega
   . rw [S.IJ _ _ (by simp only [S.cc] at *;omega)];simp;omega
   iterate 2 omega
   refine⟨(x11+1),?_⟩;try dsimp only
   with_reducible and_intros
   omega
   . rw [show x7=8 by(simp only [S.cc] at *;omega)];exact S.ap3 _ x11 w!
   . simp only [S.dc,S.jD,S.cG,S.ib,S.cc,S.ag,S.len,lc,ln] at *;omega
   simp only [S.dc,S.jD,S.cG,S.ib,S.cc,S.ag,S.len,lc,ln] at *;omega
 rw [show x11=8 by(simp only [S.cc] at *;omega)];rfl
def aCv(b:B8)(hp:S.small b):q98 (S.Ud aZe q80 0 b) (S.LJ (a1y b) (S.kn b) (S.pO b)/\S.dig (S.aI (a1y b) (S.tail (S.kn b) (S.pO b)))=S.sum b):=by
 refine aE ?_;refine⟨?_,?_,?_,?_⟩;trivial;exact⟨S.Z0,rfl,rfl,hp⟩
 . simp [S.small] at hp;exact⟨S.NP _ _ S.Z0 _,by grind[S.pO],by grind[S.pO],by grind[S.vY,S.pO]⟩
 exact congrArg S.dig (S.Z1 b _)
def aCA(b:B8)(hp:b.length<=140737488355328):q32 b/\b=b:=by
 refine aE ?_;grind
def aCB(v:Int)(l:B8)(hp:S.GZ l v)(hf:Vg.akd J.q6p v):(∃(x1:B8×Int),(v=x1.2/\l=x1.1)/\S.tv l v x1.1 x1.2)/\(∀(x2:B8×Int),S.tv l v x2.1 x2.2->q29 (decide (127<x2.2)) (0<=x2.2) ((0:Int)<=127/\q21 (length x2.1+length [HJ (Vg.cy (Vg.aM x2.2 127%256) 128)])/\aGr 7 64 (∃(x3:B8×Int),(x2.2/q51 2 7=x3.2/\x2.1++[HJ (Vg.cy (Vg.aM x2.2 127%256) 128)]=x3.1)/\S.tv l v x3.1 x3.2/\cx x3.2 x2.2)) (q21 (length x2.1+length [HJ (x2.2%256)])) (x2.1++[HJ (x2.2%256)]=l++S.num v)):=by
 refine aE ?_;have aIz:Vg.hint v:=hf.1;obtain⟨qg,TF⟩:=hp;refine⟨?_,?_⟩
 . refine⟨((l),(v)),?_⟩;with_reducible and_intros
   omega;rfl;exact⟨qg,Int.le_refl _,rfl⟩
 intro x1 h2;refine V.dI (λh3=>?_) λh4=>?_
 . with_reducible and_intros
   iterate 2 omega
   . (have hl:=S.G2 h2;grind)
   iterate 2 omega
   refine⟨((x1.1++[UInt8.ofNat (toNat (Vg.cy (Vg.aM (x1.2) (127:Int)%(256:Int)) (128:Int)))]),(x1.2/(2:Int)^toNat (7:Int))),?_⟩;grind[S.G2,S.abl,S.agy]
 refine⟨?_,?_⟩
 . (have hl:=S.G2 h2;grind)
 grind[S.G2,S.abl,S.aks]
def aCC(s l:B8)(hp:S.oV l s):S.GZ l (length s)/\q21 (length (l++S.num (length s))+length s)/\l++S.num (length s)++s=l++S.text s:=by
 refine aE ?_;obtain⟨qg,TF⟩:=hp;grind[S.cX,S.GZ,List.length_append,S.text]
def aCD(b:B8)(v:Int)(hp:b.length<=35184372088832):dj (aVr v 0 4611686018427387904) (1=S.xV v) ([]=S.mn b v) (q32 b) (S.GZ b v) (0=S.xV v/\b++S.num v=S.mn b v):=by
 refine aE ?_;refine⟨?_,?_⟩
 . simp_all[V.IG,dt,S.mn,S.xV,S.fT]
 intro h2;simp at h2;refine⟨?_,?_,?_,?_⟩;omega;exact⟨w!,w!⟩;iterate 2 (grind[S.mn,S.xV,S.fT])
def aCE(b s:B8)(hp:S.oV b s):q32 b/\S.oV b s/\b++S.text s=b++S.text s:=by
 refine aE ?_;grind[S.oV]
def aCF(r1:B8)(r2 r3:Int):mw 0 r2 (b6 r1)=S.inside r1 r2:=by
 refine aE ?_;grind[S.inside,decide]
def aCG(r1:B8)(r2 r3:Int)(hp:r1.length<=140737488355328):q32 r1/\aP6 (YG r3)/\r1=r1/\(bif cK (YG r3) (Bool.not (S.inside r1 r2)) then r2 else r2)=r2/\(bif cK (YG r3) (Bool.not (S.inside r1 r2)) then(1:Int) else r3)=S.bX r1 r2 r3:=by
 refine aE ?_;grind[S.bX,S.inside]
def aCH(b:B8)(p:Int)(hp:S.dF b p)(hf:Vg.gq J.ć (b,p)):(∃(x1:Nat),(0=S.gu b p x1/\(0:Int)=x1)/\S.ko b p x1)/\(∀(x2:Nat),S.ko b p x2->mY (decide ((x2:Int)=9)) (0=(S.aO b p).1) (0=(S.aO b p).2.1/\2=(S.aO b p).2.2) (b6 b-p) (dj (decide (x2=b6 b-p)) (0=(S.aO b p).1) (0=(S.aO b p).2.1/\4=(S.aO b p).2.2) (q26 (p+x2)) (aVI (p+x2) (b6 b)) (aFu (7*x2) 0 64 (q26 (azN b p x2)/\0<=S.gu b p x2/\0<=azN b p x2/\q81 x2 (fX (decide (aJz b (p+x2) 0<128)) (fX (decide ((1:Int)<x2+1)) (q26 (p+(x2+1))) (q26 (p+(x2+1)-1)/\aVI (p+(x2+1)-1) (b6 b)) True) (mY (bif decide ((1:Int)<x2+1) then q30 (YG (aJz b (p+(x2+1)-1) 0)) (decide (4611686018427387904<Vg.cy (S.gu b p x2) (azN b p x2))) else decide (4611686018427387904<Vg.cy (S.gu b p x2) (azN b p x2))) (0=(S.aO b p).1) (0=(S.aO b p).2.1/\2=(S.aO b p).2.2) (p+(x2+1)) (Vg.cy (S.gu b p x2) (azN b p x2)=(S.aO b p).1/\p+(x2+1)=(S.aO b p).2.1/\0=(S.aO b p).2.2)) (∃(x3:Nat),(Vg.cy (S.gu b p x2) (azN b p x2)=S.gu b p x3/\(x2:Int)+1=x3)/\S.ko b p x3/\q53 9 x3 x2)))))):=by
 refine aE ?_;have pT:Vg.hlen b:=hf.1.1;clear hf;have Bn:=hp;simp only [S.dF] at Bn;refine⟨?_,?_⟩
 . refine⟨0,?_⟩;try dsimp only
   with_reducible and_intros
   exact(S.aGI b p).symm;omega;exact S.aGH hp
 intro x1 h2;refine V.dI (λh3=>?_) λh4=>?_
 . refine⟨?_,?_,?_⟩;iterate 3 (grind [S.akp,S.W9])
 with_reducible and_intros
 iterate 2 omega
 . intro h5;refine⟨?_,?_,?_⟩;iterate 3 (grind [S.akp,S.W9])
 intro h6;try simp at h6
 with_reducible and_intros
 omega
 . (have hg:=S.gV h2;omega)
 omega
 . (have hg:=S.gV h2;omega)
 omega
 . (have hg:=S.gV h2;omega)
 omega
 . (have hg:=S.gV h2;omega)
 iterate 2
  . have hg:=S.gV h2;have hn:=S.nz ((b.getD (p+(x1:Int)).toNat 0).toNat:Int) w!;have hs:=S.abk (Vg.aM ((b.getD (p+(x1:Int)).toNat 0).toNat:Int) 127) x1 w! w! w!;try clear h8
    try clear h9
    clear hn;omega
 . (have hg:=S.gV h2;have hv:=S.ap7 (b:=b) (p:=p) hg.1;exact hv.1)
 . (have hg:=S.gV h2;have hn:=S.nz ((b.getD (p+(x1:Int)).toNat 0).toNat:Int) w!;have hs:=S.abk (Vg.aM ((b.getD (p+(x1:Int)).toNat 0).toNat:Int) 127) x1 w! w! w!;exact hs.1)
 omega
 . (have hg:=S.gV h2;omega)
 . intro h7;try simp only [dt] at h7
   with_reducible and_intros
   . intro h8;with_reducible and_intros
     omega
     . have hg:=S.gV h2;have hn:=S.nz ((b.getD (p+(x1:Int)).toNat 0).toNat:Int) w!;try clear h8
       try clear h9
       clear hn;omega
     omega
     . have hg:=S.gV h2;have hn:=S.nz ((b.getD (p+(x1:Int)).toNat 0).toNat:Int) w!;try clear h8
       try clear h9
       clear hn;omega
     omega;have hg:=S.gV h2;have hn:=S.nz ((b.getD (p+(x1:Int)).toNat 0).toNat:Int) w!;try clear h8
     try clear h9
     clear hn;omega
   . intro h9;trivial
   . intro de;refine⟨?_,?_,?_⟩
     . exact(S.IM hp h2 (by have hg:=S.gV h2;omega) w! w! de).1
     . exact(S.IM hp h2 (by have hg:=S.gV h2;omega) w! w! de).2.1
     . exact(S.IM hp h2 (by have hg:=S.gV h2;omega) w! w! de).2.2
   intro fC;with_reducible and_intros
   omega
   . clear fC;have hg:=S.gV h2;omega
   . exact(S.IN hp h2 (by have hg:=S.gV h2;omega) w! w! fC).1
   . exact(S.IN hp h2 (by have hg:=S.gV h2;omega) w! w! fC).2.1
   . exact(S.IN hp h2 (by have hg:=S.gV h2;omega) w! w! fC).2.2
 intro gY;try simp only [df] at gY
 refine⟨(x1+1),?_⟩;try dsimp only
 with_reducible and_intros
 . (have hg:=S.gV h2;exact S.abj hp h2 w!)
 omega
 . (have hg:=S.gV h2;exact S.agx hp h2 w! w! w!)
 . (have hg:=S.gV h2;simp only [S.ag];omega)
def aCI(b:B8)(p cd:Int)(hp:S.dF b p)(hf:Vg.gq J.aHM (b,p,cd)):S.dF b p/\fX (z7 (S.aO b p).2.2) ([]=(S.di b p cd).1) (0=(S.di b p cd).2.1/\(S.aO b p).2.2=(S.di b p cd).2.2) (mY (decide (cd<(S.aO b p).1)) ([]=(S.di b p cd).1) (0=(S.di b p cd).2.1/\2=(S.di b p cd).2.2) (b6 b-(S.aO b p).2.1) (dj (decide (b6 b-(S.aO b p).2.1<(S.aO b p).1)) ([]=(S.di b p cd).1) (0=(S.di b p cd).2.1/\4=(S.di b p cd).2.2) (q26 ((S.aO b p).2.1+(S.aO b p).1)) (aUD 0 (S.aO b p).2.1 ((S.aO b p).2.1+(S.aO b p).1) (b6 b)) (q26 ((S.aO b p).2.1+(S.aO b p).1)/\wM (S.aO b p).2.1 ((S.aO b p).2.1+(S.aO b p).1) b=(S.di b p cd).1/\(S.aO b p).2.1+(S.aO b p).1=(S.di b p cd).2.1/\0=(S.di b p cd).2.2))):=by
 refine aE ?_;have pT:Vg.hlen b:=hf.1.1;have hb:=S.NY hp;refine⟨?_,?_,?_⟩;omega;grind[nt,df,S.di];intro h2;refine⟨?_,?_⟩
 . simp_all[dt,S.di]
 intro h4;with_reducible and_intros
 iterate 2 omega
 grind[S.di];grind[df,S.di]
def aCJ(r1:B8)(r2 r3 cd:Int)(hp:r1.length<=140737488355328):q32 r1/\q29 (z7 (S.bX r1 r2 r3)) (r1=(S.an r1 r2 r3 cd).1.1) (r2=(S.an r1 r2 r3 cd).1.2.1/\S.bX r1 r2 r3=(S.an r1 r2 r3 cd).1.2.2/\[]=(S.an r1 r2 r3 cd).2) (S.dF r1 r2) (fX (z7 (S.di r1 r2 cd).2.2) (r1=(S.an r1 r2 r3 cd).1.1) (r2=(S.an r1 r2 r3 cd).1.2.1/\(S.di r1 r2 cd).2.2=(S.an r1 r2 r3 cd).1.2.2/\[]=(S.an r1 r2 r3 cd).2) (r1=(S.an r1 r2 r3 cd).1.1/\(S.di r1 r2 cd).2.1=(S.an r1 r2 r3 cd).1.2.1/\S.bX r1 r2 r3=(S.an r1 r2 r3 cd).1.2.2/\(S.di r1 r2 cd).1=(S.an r1 r2 r3 cd).2)):=by
 refine aE ?_;refine⟨?_,?_,?_⟩;omega;grind[nt,df,S.an,S.dF,S.bX,S.inside];intro h2;refine⟨?_,?_,?_⟩;grind[S.an,S.dF,S.bX,S.inside];grind[nt,df,S.an,S.dF,S.bX,S.inside];simp_all[nf,dt,S.an,S.dF,S.bX,S.inside]
def aCK(r1:B8)(r2 r3:Int)(hp:r1.length<=140737488355328):q32 r1/\q29 (z7 (S.bX r1 r2 r3)) (r1=(S.af r1 r2 r3).1.1) (r2=(S.af r1 r2 r3).1.2.1/\S.bX r1 r2 r3=(S.af r1 r2 r3).1.2.2/\0=(S.af r1 r2 r3).2) (S.dF r1 r2) (fX (z7 (S.aO r1 r2).2.2) (r1=(S.af r1 r2 r3).1.1) (r2=(S.af r1 r2 r3).1.2.1/\(S.aO r1 r2).2.2=(S.af r1 r2 r3).1.2.2/\0=(S.af r1 r2 r3).2) (r1=(S.af r1 r2 r3).1.1/\(S.aO r1 r2).2.1=(S.af r1 r2 r3).1.2.1/\S.bX r1 r2 r3=(S.af r1 r2 r3).1.2.2/\(S.aO r1 r2).1=(S.af r1 r2 r3).2)):=by
 refine aE ?_;refine⟨?_,?_,?_⟩;omega;grind[nt,df,S.af,S.dF,S.bX,S.inside];intro h2;refine⟨?_,?_,?_⟩;grind[S.af,S.dF,S.bX,S.inside];grind[nt,df,S.af,S.dF,S.bX,S.inside];simp_all[nf,dt,S.af,S.dF,S.bX,S.inside]
def aCL(r1:B8)(r2 r3:Int)(hp:r1.length<=140737488355328)(hf:Vg.gq J.aHL (r1,r2,r3)):q21 (length r1)/\mY (z7 (S.bX r1 r2 r3)) (r1=(S.ar r1 r2 r3).1.1) (r2=(S.ar r1 r2 r3).1.2.1/\S.bX r1 r2 r3=(S.ar r1 r2 r3).1.2.2/\[]=(S.ar r1 r2 r3).2) (length r1-r2) (dj (decide (length r1-r2<32)) (r1=(S.ar r1 r2 r3).1.1) (r2=(S.ar r1 r2 r3).1.2.1/\4=(S.ar r1 r2 r3).1.2.2/\[]=(S.ar r1 r2 r3).2) (q26 (r2+32)) (aUD 0 r2 (r2+32) (length r1)) (q26 (r2+32)/\r1=(S.ar r1 r2 r3).1.1/\r2+32=(S.ar r1 r2 r3).1.2.1/\S.bX r1 r2 r3=(S.ar r1 r2 r3).1.2.2/\wM r2 (r2+32) r1=(S.ar r1 r2 r3).2)):=by
 refine aE ?_;have aKS:Vg.hint r2:=hf.2.1;refine⟨?_,?_,?_⟩;omega;grind[nt,df,S.ar,S.dF,S.bX,S.inside];intro h2;with_reducible and_intros
 omega;grind[S.ar,S.dF,S.bX,S.inside];simp_all[dt,S.ar,S.dF,S.bX,S.inside]
 grind[df,S.ar,S.dF,S.bX,S.inside,S.agz,List.drop_take]
def aCM(r1:B8)(r2 r3:Int):q17 (z7 r3) (r3=S.done r1 r2 r3) (gE (q17 (Bool.not (S.inside r1 r2)) (1=S.done r1 r2 r3) (q17 (a0b r2 r1) (2=S.done r1 r2 r3) (0=S.done r1 r2 r3)))):=by
 refine aE ?_;simp_all[nt,df,S.done,nf,dt]
def aCR(kind:UInt8)(parts:List B8)(hp:S.oW parts)(hf:Vg.gq J.ay2 (kind,parts)):(∃(x1:Nat),((0:Int)=x1/\[HJ (vB kind)]=S.og kind parts x1)/\S.ny parts x1)/\(∀(x2:Nat),S.ny parts x2->oH (decide (x2<pb parts)) 0 x2 (pb parts) (aZU (S.og kind parts x2) (lG parts x2) (q81 x2 (∃(x3:Nat),aZz x2 x3 (S.og kind parts x2++lG parts x2=S.og kind parts x3) (S.ny parts x3) (S.len parts)))) (S.og kind parts x2=S.gM kind parts)):=by
 refine aE ?_;have aFz:Vg.hlen parts:=hf.2.1.1;clear hf;refine⟨?_,?_⟩
 . grind[S.agB,S.ny,S.ag,S.len]
 intro x1 h2;refine⟨?_,?_⟩
 . intro h3;try simp only [dt] at h3
   with_reducible and_intros
   iterate 2 omega
   exact S.Z6 kind hp w!;iterate 2 omega
   refine⟨(x1+1),?_⟩;try dsimp only
   with_reducible and_intros
   omega;exact S.Ug _ _ _ w!
   . simp only [S.ny,S.ag,S.len] at *;omega
   simp only [S.ny,S.ag,S.len] at *;omega
 grind[df,S.Xb]
def aCS(b:B8)(hp:S.aC b):a0H [b] 0 0 b:=by
 refine aE ?_;grind[S.oW,S.aC,S.gM,S.oE]
def aCT(l r:B8)(hp:S.aC (l++r)):a0H [l,r] 1 1 (l++r):=by
 refine aE ?_;grind[S.oW,S.aC,List.length_append,S.gM,S.oE]
def aCU(b:B8)(hp:S.aC b):a0H [b] 2 2 b:=by
 refine aE ?_;grind[S.oW,S.aC,S.gM,S.oE]
def aCV(b:B8)(hp:S.aC b):a0H [b] 3 3 b:=by
 refine aE ?_;grind[S.oW,S.aC,S.gM,S.oE]
def aCW(b:B8)(hp:S.aC b):a1S b (S.oE 0 b) (S.leaf b):=by
 refine aE ?_;refine⟨?_,?_,?_⟩;omega;exact hp;rfl
def aCX(l r:B8):dj (q30 (aZb l) (aZb r)) ([]=S.aT l r) (1=S.uz l r) (S.aC (l++r)) (S.small (S.oE 1 (l++r))) (S.sum (S.oE 1 (l++r))=S.aT l r/\0=S.uz l r):=by
 refine aE ?_;refine⟨?_,?_⟩
 . grind[S.aT,S.uz,S.NZ,S.Z5,S.mF]
 intro h2;refine⟨?_,?_,?_,?_⟩;iterate 2 (grind[S.small,S.oE,S.aC,lc,List.length_append])
 iterate 2 (grind[S.aT,S.uz,S.NZ,S.Z5,S.mF])
def aCY(b:B8)(hp:S.aC b):a1S b (S.oE 2 b) (S.mF 2 b):=by
 refine aE ?_;refine⟨?_,?_,?_⟩;omega;exact hp;rfl
def aCZ(b:B8)(hp:S.aC b):a1S b (S.oE 3 b) (S.mF 3 b):=by
 refine aE ?_;refine⟨?_,?_,?_⟩;omega;exact hp;rfl
def aC0(c:Int):aPZ 0 c (aPZ c 1114111 (aVr c 55296 57343))=S.cA c:=by
 refine aE ?_;grind[S.cA]
def aC1(c:Int):q17 (decide (c<128)) (1=S.eX c) (q17 (decide (c<2048)) (2=S.eX c) (q17 (decide (c<65536)) (3=S.eX c) (4=S.eX c))):=by
 refine aE ?_;refine⟨?_,?_⟩
 . simp_all[dt,S.eX]
 intro h2;refine⟨?_,?_⟩
 . simp_all[dt,S.eX]
 intro h4;refine⟨?_,?_⟩
 . grind [S.eX]
 grind[df,S.eX]
def aC2(c:Int)(hp:0<=c):0<=c/\(0:Int)<=63/\Vg.cy 128 (Vg.aM c 63%256)=vB (S.more c):=by
 refine aE ?_;have e:Vg.aM c 63%256=c%64:=by grind[S.NM]
 grind[S.Bu,S.ap9]
def aC3(c:Int):gE (q29 (aGt c) (1=S.zY c) ([]=S.iU c) True (fX (decide (S.eX c=1)) (0=S.zY c) ([HJ (c%256)]=S.iU c) (fX (decide (S.eX c=2)) (aT5 6 64) (0<=c/\0=S.zY c/\HJ (Vg.cy 192 (c/q51 2 6%256))::Jw c=S.iU c) (q29 (decide (S.eX c=3)) (aT5 12 64) (aGr 6 64 (0<=c/q51 2 6/\0<=c/\0=S.zY c/\HJ (Vg.cy 224 (c/q51 2 12%256))::HJ (vB (S.more (c/q51 2 6)))::Jw c=S.iU c)) (aT5 18 64) (aGr 12 64 (0<=c/q51 2 12/\aGr 6 64 (0<=c/q51 2 6/\0<=c/\0=S.zY c/\HJ (Vg.cy 240 (c/q51 2 18%256))::HJ (vB (S.more (c/q51 2 12)))::HJ (vB (S.more (c/q51 2 6)))::Jw c=S.iU c))))))):=by
 refine aE ?_;refine⟨?_,?_,?_⟩;trivial;grind[nt,S.zY,S.iU];intro h2;simp at h2;refine⟨?_,?_,?_⟩;trivial
 . intro h3;refine⟨?_,?_⟩
   . grind[S.fl,S.zY]
   (have hc:=S.fl h2;(simp [S.iU,h2,if_true];grind[S.aqa,S.eX]))
 intro h4;refine V.dI (λh5=>?_) λh6=>?_
 . with_reducible and_intros
   iterate 2 omega
   simp_all[S.fl]
   grind[S.fl,S.zY]
   . (have hc:=S.fl h2;(simp only [S.iU,h2,if_true];grind[S.aqe,S.eX]))
 refine V.dI (λh7=>?_) λh8=>?_
 . with_reducible and_intros
   iterate 4 omega
   . (have hc:=S.fl h2;grind)
   simp_all[S.fl]
   grind[S.fl,S.zY]
   . (have hc:=S.fl h2;(simp only [S.iU,h2,if_true];grind[S.aqf,S.eX]))
 with_reducible and_intros
 iterate 4 omega
 . (have hc:=S.fl h2;grind)
 iterate 2 omega
 . (have hc:=S.fl h2;grind)
 simp_all[S.fl]
 grind[S.fl,S.zY]
 . (have hc:=S.fl h2;(simp only [S.iU,h2,if_true];grind[S.aqg,S.eX]))
def aC4(b:B8)(hp:0<b.length)(hf:Vg.gq J.q5p b):((0:Int)<=0/\0<b6 b)/\q29 (decide (aJz b 0 0<128)) (aJz b 0 0=(S.aR b).1) (1=(S.aR b).2) (aT5 5 64) (q29 (decide (aJz b 0 0/q51 2 5=6)) (0<=aJz b 0 0) ((0:Int)<=31/\dj (decide (b6 b<2)) (65533=(S.aR b).1) (1=(S.aR b).2) (aUD 0 1 2 (b6 b)) (∃(x1:Nat),((0:Int)=x1/\Vg.aM (aJz b 0 0) 31=S.bV b x1)/\S.rb b x1) (∀(x2:Nat),S.rb b x2->dj (decide (x2<b6 (wM 1 2 b))) ((0:Int)<=x2/\x2<b6 (wM 1 2 b)) (aGr 6 8 (q29 (q19 (aJz (wM 1 2 b) x2 0/q51 2 6) 2) (65533=(S.aR b).1) (1=(S.aR b).2) (aT5 6 64) (q26 (S.bV b x2*q51 2 6)/\0<=S.bV b x2*q51 2 6/\0<=Vg.aM (aJz (wM 1 2 b) x2 0) 63/\q81 x2 (∃(x3:Nat),aT7 x2 x3 (S.bV b x2*q51 2 6) (Vg.aM (aJz (wM 1 2 b) x2 0) 63) b 4)))) True (aP6 (aGt (S.bV b x2))) (q29 (q30 (aGt (S.bV b x2)) (q19 (S.eX (S.bV b x2)) 2)) (65533=(S.aR b).1) (1=(S.aR b).2) (S.bV b x2=(S.aR b).1) (2=(S.aR b).2)))) (aT5 4 64) (q29 (decide (aJz b 0 0/q51 2 4=14)) (0<=aJz b 0 0) ((0:Int)<=15/\dj (decide (b6 b<3)) (65533=(S.aR b).1) (1=(S.aR b).2) (aUD 0 1 3 (b6 b)) (∃(x4:Nat),((0:Int)=x4/\Vg.aM (aJz b 0 0) 15=S.bV b x4)/\S.rb b x4) (∀(x5:Nat),S.rb b x5->dj (decide (x5<b6 (wM 1 3 b))) ((0:Int)<=x5/\x5<b6 (wM 1 3 b)) (aGr 6 8 (q29 (q19 (aJz (wM 1 3 b) x5 0/q51 2 6) 2) (65533=(S.aR b).1) (1=(S.aR b).2) (aT5 6 64) (q26 (S.bV b x5*q51 2 6)/\0<=S.bV b x5*q51 2 6/\0<=Vg.aM (aJz (wM 1 3 b) x5 0) 63/\q81 x5 (∃(x6:Nat),aT7 x5 x6 (S.bV b x5*q51 2 6) (Vg.aM (aJz (wM 1 3 b) x5 0) 63) b 4)))) True (aP6 (aGt (S.bV b x5))) (q29 (q30 (aGt (S.bV b x5)) (q19 (S.eX (S.bV b x5)) 3)) (65533=(S.aR b).1) (1=(S.aR b).2) (S.bV b x5=(S.aR b).1) (3=(S.aR b).2)))) (aT5 3 64) (q29 (decide (aJz b 0 0/q51 2 3=30)) (0<=aJz b 0 0) ((0:Int)<=7/\dj (decide (b6 b<4)) (65533=(S.aR b).1) (1=(S.aR b).2) (aUD 0 1 4 (b6 b)) (∃(x7:Nat),((0:Int)=x7/\Vg.aM (aJz b 0 0) 7=S.bV b x7)/\S.rb b x7) (∀(x8:Nat),S.rb b x8->dj (decide (x8<b6 (wM 1 4 b))) ((0:Int)<=x8/\x8<b6 (wM 1 4 b)) (aGr 6 8 (q29 (q19 (aJz (wM 1 4 b) x8 0/q51 2 6) 2) (65533=(S.aR b).1) (1=(S.aR b).2) (aT5 6 64) (q26 (S.bV b x8*q51 2 6)/\0<=S.bV b x8*q51 2 6/\0<=Vg.aM (aJz (wM 1 4 b) x8 0) 63/\q81 x8 (∃(x9:Nat),aT7 x8 x9 (S.bV b x8*q51 2 6) (Vg.aM (aJz (wM 1 4 b) x8 0) 63) b 4)))) True (aP6 (aGt (S.bV b x8))) (q29 (q30 (aGt (S.bV b x8)) (q19 (S.eX (S.bV b x8)) 4)) (65533=(S.aR b).1) (1=(S.aR b).2) (S.bV b x8=(S.aR b).1) (4=(S.aR b).2)))) (65533=(S.aR b).1) (1=(S.aR b).2)))):=by
 refine aE ?_;have pT:Vg.hlen b:=hf.1.1;clear hf;have Bn:(0:Int)<b.length:=by omega
 with_reducible and_intros
 iterate 2 omega
 simp_all[dt,S.uf1]
 intro h2;try simp only [df] at h2
 with_reducible and_intros
 iterate 2 omega
 . intro h3;try simp only [dt] at h3
   refine⟨?_,?_,?_,?_⟩;iterate 2 omega
   . intro h4;try simp only [dt] at h4
     refine⟨?_,?_⟩
     . (have hn:=S.uA (b:=b) w! w!;simp_all[S.tN])
     (have hn:=S.uA (b:=b) w! w!;simp_all[S.tN])
   intro h5;try simp only [df] at h5
   with_reducible and_intros
   iterate 3 omega
   . refine⟨0,?_⟩;try dsimp only
     with_reducible and_intros
     omega;grind[S.uA,S.aGJ]
     . (have hn:=S.uA (b:=b) w! w!;simp_all[S.Z7])
   intro x6 h7;refine V.dI (λh8=>?_) λfC=>?_
   . with_reducible and_intros
     iterate 4 omega
     . intro h9;try simp only [nt,df,tn] at h9
       refine⟨?_,?_⟩
       . have hn:=S.uA (b:=b) v! v!;have hb:=S.bP h7;have hx:(x6:Int)+1<2:=by(have hc:=S.cv b 2 w! w!;simp only [hc,show toNat 2=2 by rfl] at *;omega)
         simp only [S.lB b 2 x6 hx,S.oq b 2 x6 hx] at *;rw [S.xX hn h7 w! v!]
       have hn:=S.uA (b:=b) v! v!;have hb:=S.bP h7;have hx:(x6:Int)+1<2:=by(have hc:=S.cv b 2 w! w!;simp only [hc,show toNat 2=2 by rfl] at *;omega)
       simp only [S.lB b 2 x6 hx,S.oq b 2 x6 hx] at *;rw [S.xX hn h7 w! v!]
     intro de;try simp only [nf,dt,tn] at de
     with_reducible and_intros
     iterate 2 omega
     iterate 3
      . (have hn:=S.uA (b:=b) v! v!;(have hb:=S.bP h7;(try simp only [S.cv b 2 w! w!,show toNat 2=2 by rfl] at *);simp only [show toNat 6=6 by rfl,S.ag] at *;omega))
     exact Int.natCast_nonneg _;omega
     . (have hn:=S.uA (b:=b) v! v!;(have hb:=S.bP h7;(try simp only [S.cv b 2 w! w!,show toNat 2=2 by rfl] at *);omega))
     refine⟨(x6+1),?_⟩;try dsimp only
     with_reducible and_intros
     omega
     . have hn:=S.uA (b:=b) v! v!;have hb:=S.bP h7;have hx:(x6:Int)+1<2:=by(have hc:=S.cv b 2 w! w!;simp only [hc,show toNat 2=2 by rfl] at *;omega)
       rw [S.lB b 2 x6 hx];exact S.Z9 h7 w!
     . have hn:=S.uA (b:=b) v! v!;have hb:=S.bP h7;have hx:(x6:Int)+1<2:=by(have hc:=S.cv b 2 w! w!;simp only [hc,show toNat 2=2 by rfl] at *;omega)
       simp only [S.lB b 2 x6 hx,S.oq b 2 x6 hx] at *;exact S.Ui h7 v! w!
     . (have hn:=S.uA (b:=b) v! v!;(have hb:=S.bP h7;(try simp only [S.cv b 2 w! w!,show toNat 2=2 by rfl] at *);simp only [show toNat 6=6 by rfl,S.ag] at *;omega))
   with_reducible and_intros
   trivial
   . intro gY;try simp only [nt] at gY
     trivial
   . intro jM;try simp only [nf] at jM
     trivial
   . intro jZ;try simp only [V.IG,nt,df] at jZ
     refine⟨?_,?_⟩
     . have hn:=S.uA (b:=b) v! v!;have hb:=S.bP h7;have hc:=S.cv b 2 w! w!;rw [hc] at fC;have hx:x6+1=2:=by omega
       rw [S.xY hn h7 hx jZ rfl]
     have hn:=S.uA (b:=b) v! v!;have hb:=S.bP h7;have hc:=S.cv b 2 w! w!;rw [hc] at fC;have hx:x6+1=2:=by omega
     rw [S.xY hn h7 hx jZ rfl]
   intro Cq;try simp only [V.ajY,nf,dt] at Cq
   refine⟨?_,?_⟩
   . have hn:=S.uA (b:=b) v! v!;have hb:=S.bP h7;have hc:=S.cv b 2 w! w!;rw [hc] at fC;have hx:x6+1=2:=by omega
     rw [S.xZ hn h7 hx Cq rfl]
   have hn:=S.uA (b:=b) v! v!;have hb:=S.bP h7;have hc:=S.cv b 2 w! w!;rw [hc] at fC;have hx:x6+1=2:=by omega
   rw [S.xZ hn h7 hx Cq rfl]
 intro zP;try simp only [df] at zP
 with_reducible and_intros
 iterate 2 omega
 . intro HV;try simp only [dt] at HV
   refine⟨?_,?_,?_,?_⟩;iterate 2 omega
   . intro QW;try simp only [dt] at QW
     refine⟨?_,?_⟩
     . (have hn:=S.v7 (b:=b) v! v! v!;rw [S.tN hn w! w!])
     (have hn:=S.v7 (b:=b) v! v! v!;rw [S.tN hn w! w!])
   intro h19;try simp only [df] at h19
   with_reducible and_intros
   iterate 3 omega
   . refine⟨0,?_⟩;try dsimp only
     with_reducible and_intros
     omega
     (exact S.aGK v! v!)
     . (have hn:=S.v7 (b:=b) v! v! v!;exact S.Z7 hn w! w!)
   intro Dt xA;refine V.dI (λh22=>?_) λh25=>?_
   . with_reducible and_intros
     iterate 4 omega
     . intro h23;try simp only [nt,df,tn] at h23
       refine⟨?_,?_⟩
       . have hn:=S.v7 (b:=b) v! v! v!;have hb:=S.bP xA;have hx:(Dt:Int)+1<3:=by(have hc:=S.cv b 3 w! w!;simp only [hc,show toNat 3=3 by rfl] at *;omega)
         simp only [S.lB b 3 Dt hx,S.oq b 3 Dt hx] at *;rw [S.xX hn xA w! v!]
       have hn:=S.v7 (b:=b) v! v! v!;have hb:=S.bP xA;have hx:(Dt:Int)+1<3:=by(have hc:=S.cv b 3 w! w!;simp only [hc,show toNat 3=3 by rfl] at *;omega)
       simp only [S.lB b 3 Dt hx,S.oq b 3 Dt hx] at *;rw [S.xX hn xA w! v!]
     intro h24;try simp only [nf,dt,tn] at h24
     with_reducible and_intros
     iterate 2 omega
     iterate 3
      . (have hn:=S.v7 (b:=b) v! v! v!;(have hb:=S.bP xA;(try simp only [S.cv b 3 w! w!,show toNat 3=3 by rfl] at *);simp only [show toNat 6=6 by rfl,S.ag] at *;omega))
     exact Int.natCast_nonneg _;omega
     . (have hn:=S.v7 (b:=b) v! v! v!;(have hb:=S.bP xA;(try simp only [S.cv b 3 w! w!,show toNat 3=3 by rfl] at *);omega))
     refine⟨(Dt+1),?_⟩;try dsimp only
     with_reducible and_intros
     omega
     . have hn:=S.v7 (b:=b) v! v! v!;have hb:=S.bP xA;have hx:(Dt:Int)+1<3:=by(have hc:=S.cv b 3 w! w!;simp only [hc,show toNat 3=3 by rfl] at *;omega)
       rw [S.lB b 3 Dt hx];exact S.Z9 xA w!
     . have hn:=S.v7 (b:=b) v! v! v!;have hb:=S.bP xA;have hx:(Dt:Int)+1<3:=by(have hc:=S.cv b 3 w! w!;simp only [hc,show toNat 3=3 by rfl] at *;omega)
       simp only [S.lB b 3 Dt hx,S.oq b 3 Dt hx] at *;exact S.Ui xA v! w!
     . (have hn:=S.v7 (b:=b) v! v! v!;(have hb:=S.bP xA;(try simp only [S.cv b 3 w! w!,show toNat 3=3 by rfl] at *);simp only [show toNat 6=6 by rfl,S.ag] at *;omega))
   with_reducible and_intros
   trivial
   . intro h26;try simp only [nt] at h26
     trivial
   . intro h27;try simp only [nf] at h27
     trivial
   . intro h28;try simp only [V.IG,nt,df] at h28
     refine⟨?_,?_⟩
     . have hn:=S.v7 (b:=b) v! v! v!;have hb:=S.bP xA;have hc:=S.cv b 3 w! w!;rw [hc] at h25;have hx:Dt+1=3:=by omega
       rw [S.xY hn xA hx h28 rfl]
     have hn:=S.v7 (b:=b) v! v! v!;have hb:=S.bP xA;have hc:=S.cv b 3 w! w!;rw [hc] at h25;have hx:Dt+1=3:=by omega
     rw [S.xY hn xA hx h28 rfl]
   intro h29;try simp only [V.ajY,nf,dt] at h29
   refine⟨?_,?_⟩
   . have hn:=S.v7 (b:=b) v! v! v!;have hb:=S.bP xA;have hc:=S.cv b 3 w! w!;rw [hc] at h25;have hx:Dt+1=3:=by omega
     rw [S.xZ hn xA hx h29 rfl]
   have hn:=S.v7 (b:=b) v! v! v!;have hb:=S.bP xA;have hc:=S.cv b 3 w! w!;rw [hc] at h25;have hx:Dt+1=3:=by omega
   rw [S.xZ hn xA hx h29 rfl]
 intro h30;try simp only [df] at h30
 with_reducible and_intros
 iterate 2 omega
 . intro h31;try simp only [dt] at h31
   refine⟨?_,?_,?_,?_⟩;iterate 2 omega
   . intro h32;try simp only [dt] at h32
     refine⟨?_,?_⟩
     . (have hn:=S.v8 (b:=b) v! v! v! v!;rw [S.tN hn w! w!])
     (have hn:=S.v8 (b:=b) v! v! v! v!;rw [S.tN hn w! w!])
   intro h33;try simp only [df] at h33
   with_reducible and_intros
   iterate 3 omega
   . refine⟨0,?_⟩;try dsimp only
     with_reducible and_intros
     omega
     (exact S.aGL v! v!)
     . (have hn:=S.v8 (b:=b) v! v! v! v!;exact S.Z7 hn w! w!)
   intro Du zQ;refine V.dI (λh36=>?_) λh39=>?_
   . with_reducible and_intros
     iterate 4 omega
     . intro h37;try simp only [nt,df,tn] at h37
       refine⟨?_,?_⟩
       . have hn:=S.v8 (b:=b) v! v! v! v!;have hb:=S.bP zQ;have hx:(Du:Int)+1<4:=by(have hc:=S.cv b 4 w! w!;simp only [hc,show toNat 4=4 by rfl] at *;omega)
         simp only [S.lB b 4 Du hx,S.oq b 4 Du hx] at *;rw [S.xX hn zQ w! v!]
       have hn:=S.v8 (b:=b) v! v! v! v!;have hb:=S.bP zQ;have hx:(Du:Int)+1<4:=by(have hc:=S.cv b 4 w! w!;simp only [hc,show toNat 4=4 by rfl] at *;omega)
       simp only [S.lB b 4 Du hx,S.oq b 4 Du hx] at *;rw [S.xX hn zQ w! v!]
     intro h38;try simp only [nf,dt,tn] at h38
     with_reducible and_intros
     iterate 2 omega
     iterate 3
      . (have hn:=S.v8 (b:=b) v! v! v! v!;(have hb:=S.bP zQ;(try simp only [S.cv b 4 w! w!,show toNat 4=4 by rfl] at *);simp only [show toNat 6=6 by rfl,S.ag] at *;omega))
     exact Int.natCast_nonneg _;omega
     . (have hn:=S.v8 (b:=b) v! v! v! v!;(have hb:=S.bP zQ;(try simp only [S.cv b 4 w! w!,show toNat 4=4 by rfl] at *);omega))
     refine⟨(Du+1),?_⟩;try dsimp only
     with_reducible and_intros
     omega
     . have hn:=S.v8 (b:=b) v! v! v! v!;have hb:=S.bP zQ;have hx:(Du:Int)+1<4:=by(have hc:=S.cv b 4 w! w!;simp only [hc,show toNat 4=4 by rfl] at *;omega)
       rw [S.lB b 4 Du hx];exact S.Z9 zQ w!
     . have hn:=S.v8 (b:=b) v! v! v! v!;have hb:=S.bP zQ;have hx:(Du:Int)+1<4:=by(have hc:=S.cv b 4 w! w!;simp only [hc,show toNat 4=4 by rfl] at *;omega)
       simp only [S.lB b 4 Du hx,S.oq b 4 Du hx] at *;exact S.Ui zQ v! w!
     . (have hn:=S.v8 (b:=b) v! v! v! v!;(have hb:=S.bP zQ;(try simp only [S.cv b 4 w! w!,show toNat 4=4 by rfl] at *);simp only [show toNat 6=6 by rfl,S.ag] at *;omega))
   with_reducible and_intros
   trivial
   . intro h40;try simp only [nt] at h40
     trivial
   . intro h41;try simp only [nf] at h41
     trivial
   . intro h42;try simp only [V.IG,nt,df] at h42
     refine⟨?_,?_⟩
     . have hn:=S.v8 (b:=b) v! v! v! v!;have hb:=S.bP zQ;have hc:=S.cv b 4 w! w!;rw [hc] at h39;have hx:Du+1=4:=by omega
       rw [S.xY hn zQ hx h42 rfl]
     have hn:=S.v8 (b:=b) v! v! v! v!;have hb:=S.bP zQ;have hc:=S.cv b 4 w! w!;rw [hc] at h39;have hx:Du+1=4:=by omega
     rw [S.xY hn zQ hx h42 rfl]
   intro h43;try simp only [V.ajY,nf,dt] at h43
   refine⟨?_,?_⟩
   . have hn:=S.v8 (b:=b) v! v! v! v!;have hb:=S.bP zQ;have hc:=S.cv b 4 w! w!;rw [hc] at h39;have hx:Du+1=4:=by omega
     rw [S.xZ hn zQ hx h43 rfl]
   have hn:=S.v8 (b:=b) v! v! v! v!;have hb:=S.bP zQ;have hc:=S.cv b 4 w! w!;rw [hc] at h39;have hx:Du+1=4:=by omega
   rw [S.xZ hn zQ hx h43 rfl]
 grind[df,S.uf0]
def aDa(b:B8)(hp:S.small b):(∃(x1:B8×List Int),(b=x1.1/\[]=x1.2)/\S.tw b x1.1 x1.2)/\(∀(x2:B8×List Int),S.tw b x2.1 x2.2->fX (aQW (length x2.1)) (0<length x2.1) (aZy x2.2 [(S.aR x2.1).1]/\aGr (S.aR x2.1).2 (length x2.1) (∃(x3:B8×List Int),(drop (toNat (S.aR x2.1).2) x2.1=x3.1/\x2.2++[(S.aR x2.1).1]=x3.2)/\S.tw b x3.1 x3.2/\S.len x3.1<S.len x2.1)) (x2.2=S.decode b)):=by
 refine aE ?_;simp [S.small] at hp;refine⟨?_,?_⟩
 . refine⟨((b),([])),?_⟩;grind[S.aAC]
 intro x1 h2;refine⟨?_,?_⟩
 . intro h3;simp at h3;with_reducible and_intros
   omega
   . (have hd:=S.Uj h2 w!;grind)
   iterate 2
    . (have hd:=S.Uj h2 w!;omega)
   refine⟨((drop (toNat ((S.aR (x1.1)).2)) (x1.1)),(x1.2++[(S.aR (x1.1)).1])),?_⟩;dsimp only;with_reducible and_intros
   iterate 2 rfl
   grind[S.agC]
   . (have hd:=S.Uj h2 w!;grind[S.len,List.length_drop,lc,ln])
 grind[df,S.akt]
def aDb(c:Int):(∃(x1:Nat),(0:Int)=x1/\S.pQ c x1)/\(∀(x2:Nat),S.pQ c x2->oH (decide ((x2:Int)<9)) 0 x2 ((9:Nat):Int) (q17 (mw (getD [65,97,192,216,248,913,931,945,1024] (toNat x2) 0) c (getD [90,122,214,246,255,929,937,969,1119] (toNat x2) 0)) (true=S.letter c) (q81 x2 (∃(x3:Nat),aYP x2 x3 (S.pQ c x3) 9))) (false=S.letter c)):=by
 refine aE ?_;refine⟨?_,?_⟩
 . refine⟨(nat_lit 0:Nat),?_⟩;grind[S.pQ]
 intro x1 h2;refine⟨?_,?_⟩
 . intro h3;simp at h3;with_reducible and_intros
   iterate 2 omega
   . intro h4;simp at h4;exact S.Á (x:=x1) w! (S.Ä h4)
   intro h5;simp only [V.ze,df,tn] at h5;with_reducible and_intros
   iterate 2 omega
   refine⟨(x1+nat_lit 1),?_⟩;dsimp only;refine⟨?_,?_,?_⟩;omega;exact S.Â (x:=x1) h2 w! (S.aku h5);simp [S.ag];omega
 grind[df,S.Ã]
def aDc(c:Int):mw 48 c 57=S.digit c:=by
 refine aE ?_;grind[S.digit]
def aDd(c:Int):(∃(x1:Nat),(0:Int)=x1/\S.qs c x1)/\(∀(x2:Nat),S.qs c x2->oH (decide ((x2:Int)<7)) 0 x2 ((7:Nat):Int) (mY (mw (getD [65,192,216,913,931,1024,1040] (toNat x2) 0) c (getD [90,214,222,929,937,1039,1071] (toNat x2) 0)) (q26 (c+ya (q75 32 [32,80,32]) (toNat x2))) (c+ya (q75 32 [32,80,32]) (toNat x2)=S.bT c) (x2+1) (∃(x3:Nat),aYP x2 x3 (S.qs c x3) 7)) (c=S.bT c)):=by
 refine aE ?_;refine⟨?_,?_⟩
 . refine⟨(nat_lit 0:Nat),?_⟩;grind[S.qs]
 intro x1 h2;refine⟨?_,?_⟩
 . intro h3;simp at h3;with_reducible and_intros
   iterate 2 omega
   . intro h4;simp at h4;with_reducible and_intros
     iterate 2
      . have hs:=(S.RX (c:=c) (x:=x1) h2 h3 (S.Ä h4)).2;omega
     exact(S.RX (x:=x1) h2 w! (S.Ä h4)).1
   intro h5;simp only [V.ze,df,tn] at h5;with_reducible and_intros
   iterate 2 omega
   refine⟨(x1+nat_lit 1),?_⟩;dsimp only;refine⟨?_,?_,?_⟩;omega;exact S.agE (x:=x1) h2 w! (S.aku h5);simp [S.ag];omega
 grind[df,S.agF]
def aDe(u:List Int)(hp:S.okC u):(∃(x1:Nat×B8),((0:Int)=x1.1/\[]=x1.2)/\S.qt u x1.1 x1.2)/\(∀(x2:Nat×B8),S.qt u x2.1 x2.2->oH (decide (x2.1<q60 u)) 0 x2.1 (q60 u) (gE (gE (q26 (length x2.2+length (Fv u x2))/\q17 (decide ((64:Int)<length x2.2+length (Fv u x2))) (x2.2=S.jN u) (q21 (length x2.2+length (Fv u x2))/\q26 (x2.1+1)/\(∃(x3:Nat×B8),((x2.1:Int)+1=x3.1/\x2.2++Fv u x2=x3.2)/\S.qt u x3.1 x3.2/\q53 (S.len u) x3.1 x2.1))))) (x2.2=S.jN u)):=by
 refine aE ?_;have hq:=hp.1;refine⟨?_,?_⟩
 . refine⟨(0,([])),?_⟩;grind[S.aqi]
 intro x1 h2;refine⟨?_,?_⟩
 . intro h3;simp at h3;with_reducible and_intros
   iterate 2 omega
   iterate 2 trivial
   omega
   . have:=h2.2.2;grind[S.agK]
   grind[S.É];intro h5;with_reducible and_intros
   grind;iterate 2 omega
   refine⟨((x1.1+1),(x1.2++S.iU (S.bT (getD u (toNat (↑(x1.1):Int)) (0:Int))))),?_⟩;grind[S.È,S.ag,S.len]
 grind[df,S.agJ]
def aDf(b:B8)(hp:S.small b):S.small b/\(∃(x1:Nat×List B8×List Int),((0:Int)=x1.1/\[]=x1.2.1/\[]=x1.2.2)/\S.k8 (S.decode b) x1.1 x1.2.1 x1.2.2)/\(∀(x2:Nat×List B8×List Int),S.k8 (S.decode b) x2.1 x2.2.1 x2.2.2->oH (decide ((x2.1:Int)<length (S.decode b))) 0 x2.1 (length (S.decode b)) (toNat x2.1<length (S.decode b)/\q98 (aP6 (S.letter (ya (S.decode b) (toNat x2.1)))) (fX (q30 (S.letter (ya (S.decode b) (toNat x2.1))) (S.digit (ya (S.decode b) (toNat x2.1)))) (q79 (length x2.2.2+length [ya (S.decode b) (toNat x2.1)])) (q26 (x2.1+1)/\(∃(x3:Nat×List B8×List Int),((x2.1:Int)+1=x3.1/\x2.2.1=x3.2.1/\x2.2.2++[ya (S.decode b) (toNat x2.1)]=x3.2.2)/\S.k8 (S.decode b) x3.1 x3.2.1 x3.2.2/\q44 (S.len (S.decode b)) x3.1 (S.ag (S.len (S.decode b)) x2.1))) (mY (aQW (length x2.2.2)) (S.okC x2.2.2) (aZH x2.2.1 [S.jN x2.2.2]/\q26 (x2.1+1)/\(∃(x4:Nat×List B8×List Int),((x2.1:Int)+1=x4.1/\x2.2.1++[S.jN x2.2.2]=x4.2.1/\[]=x4.2.2)/\S.k8 (S.decode b) x4.1 x4.2.1 x4.2.2/\q44 (S.len (S.decode b)) x4.1 (S.ag (S.len (S.decode b)) x2.1))) (x2.1+1) (∃(x5:Nat×List B8×List Int),((x2.1:Int)+1=x5.1/\x2.2.1=x5.2.1/\x2.2.2=x5.2.2)/\S.k8 (S.decode b) x5.1 x5.2.1 x5.2.2/\q44 (S.len (S.decode b)) x5.1 (S.ag (S.len (S.decode b)) x2.1))))) (fX (aQW (length x2.2.2)) (S.okC x2.2.2) (aZH x2.2.1 [S.jN x2.2.2]/\x2.2.1++[S.jN x2.2.2]=S.bM b) (x2.2.1=S.bM b))):=by
 refine aE ?_;have lI:b.length<=1099511627776:=hp;refine⟨?_,?_,?_⟩;omega
 . refine⟨(0,(([]),([]))),?_⟩;grind[S.aAK]
 intro x1 h2;refine V.dI (λh3=>?_) λde=>?_
 . with_reducible and_intros
   iterate 3 omega
   trivial;iterate 2 grind
   . intro h6;try simp only [V.IG] at h6
     with_reducible and_intros
     . (have hq:=S.r6 h2 lI;grind)
     omega
     . (have hq:=S.r6 h2 lI;omega)
     refine⟨((x1.1+1),((x1.2.1),(x1.2.2++[getD (S.decode b) (toNat (↑(x1.1):Int)) (0:Int)]))),?_⟩;grind[S.agL,S.akD,S.r6,S.ag,S.len]
   intro h7;try simp only [V.ajY] at h7
   refine V.dI (λh8=>?_) λh9=>?_
   . with_reducible and_intros
     iterate 2
      . (have hq:=S.r6 h2 lI;grind)
     omega
     . (have hq:=S.r6 h2 lI;omega)
     refine⟨((x1.1+1),((x1.2.1++[S.jN (x1.2.2)]),([]))),?_⟩;grind[S.akC,S.Xi,S.r6,S.ag,S.len]
   with_reducible and_intros
   omega
   . (have hq:=S.r6 h2 lI;omega)
   refine⟨((x1.1+1),((x1.2.1),(x1.2.2))),?_⟩;grind[S.agM,S.Xi,S.r6,S.ag,S.len]
 refine⟨?_,?_⟩
 . intro fC;refine⟨?_,?_,?_⟩
   . (have hq:=S.r6 h2 lI;grind)
   . (have hq:=S.r6 h2 lI;simp;omega)
   grind[S.agN]
 grind[df,S.agO]
def aDg(s:B8)(hp:S.small s):S.small s/\fX (decide ((length (S.bM s):Int)=1)) ((0:Int)<=0/\(0:Int)<length (S.bM s)) (toNat 0<length (S.bM s)) True/\Ce (decide ((length (S.bM s):Int)=1)) (lG (S.bM s) 0) s=S.isTerm s:=by
 refine aE ?_;grind[S.agP]
def aDh(s:B8):Bool.not (decide (s=s))=false:=by
 grind
def aDi(a b:B8):gE (gE (q17 false (q17 false (0=S.lL a b) (-1=S.lL a b)) (q17 false (1=S.lL a b) (q17 (Op.bytesLess a b) (-1=S.lL a b) (q17 (Bool.not (Op.bytesLess a b||decide (a=b))) (1=S.lL a b) (0=S.lL a b)))))):=by
 refine aE ?_;grind[S.lL,S.eS,S.pd,S.CV,nt,nf]
def aDj(a b:B8):gE (YG (S.lL a b)=decide (a=b)):=by
 refine aE ?_;grind[S.aqk]
def aDk(l:List B8)(hp:S.small l):q17 (decide ((aYY l:Int)<2)) (l=S.bW l) ((∃(x1:Nat),(1:Int)=x1/\S.ot l x1)/\(∀(x2:Nat),S.ot l x2->oH (decide ((x2:Int)<aYY l)) 0 x2 (aYY l) (PK x2<aYY l/\q97 (x2-1) 0 (aYY l) (toNat (x2-1)<aYY l) (gE (mY (decide (HH l (PK x2)=HH l (toNat (x2-1)))) (aT5 x2 (aYY l)) ((∃(x3:Nat×Nat×List B8×Nat),((x2:Int)=x3.1/\(1:Int)=x3.2.1/\l=x3.2.2.1)/\S.jF l x3.2.2.2 x3.1 x3.2.1 x3.2.2.1/\(x2:Int)=x3.2.2.2)/\(∀(x4:Nat×Nat×List B8×Nat),S.jF l x4.2.2.2 x4.1 x4.2.1 x4.2.2.1/\(x2:Int)=x4.2.2.2->dj (decide ((x4.2.1:Int)<((aYY l-PK x2:Nat):Int))) (aVI x4.2.1 ((aYY l-PK x2:Nat):Int)) (PK x2+toNat x4.2.1<PL x4/\q97 (x4.2.1-1) 0 ((aYY l-PK x2:Nat):Int) (PK x2+toNat (x4.2.1-1)<PL x4) (q98 (oH (Eg (HH x4.2.2.1 (PK x2+toNat x4.2.1)) (HH x4.2.2.1 (PK x2+toNat (x4.2.1-1)))) 0 x4.2.1 ((aYY l-PK x2:Nat):Int) (PK x2+toNat x4.2.1<PL x4/\q86 0 x4.1 (PL x4) (zK x4<PL x4) (q26 (x4.1+1))) True) (q26 (x4.2.1+1)/\(∃(x5:Nat×Nat×List B8×Nat),((bif Eg (HH x4.2.2.1 (PK x2+toNat x4.2.1)) (HH x4.2.2.1 (PK x2+toNat (x4.2.1-1))) then(x4.1:Int)+1 else(x4.1:Int))=x5.1/\(x4.2.1:Int)+1=x5.2.1/\(bif Eg (HH x4.2.2.1 (PK x2+toNat x4.2.1)) (HH x4.2.2.1 (PK x2+toNat (x4.2.1-1))) then List.set x4.2.2.1 (zK x4) (HH x4.2.2.1 (PK x2+toNat x4.2.1)) else x4.2.2.1)=x5.2.2.1)/\(S.jF l x5.2.2.2 x5.1 x5.2.1 x5.2.2.1/\(x2:Int)=x5.2.2.2)/\q53 (S.len l) x5.2.1 x4.2.1)))) (aT5 x4.1 (PL x4)) (zK x4+(PL x4-zK x4)<=PL x4) (aGr x4.1 (pb (sQ x4)) (take (zK x4) (sQ x4)=S.bW l)))) (x2+1) (∃(x6:Nat),aYP x2 x6 (S.ot l x6) (S.len l))))) (l=S.bW l))):=by
 refine aE ?_;have lI:l.length<=1099511627776:=hp;refine V.dI (λh1=>?_) λh2=>?_
 . exact S.N7 h1
 refine⟨?_,?_⟩
 . grind[S.akF]
 intro x3 h4;refine⟨?_,?_⟩
 . intro h5;try simp only [dt] at h5
   with_reducible and_intros
   iterate 5 omega
   . have:=h4.1;omega
   iterate 2 omega
   trivial
   . intro h6;try simp only [dt,tn] at h6
     with_reducible and_intros
     iterate 2 omega
     . refine⟨((x3),(1,((l),(x3)))),?_⟩;grind[S.abn]
     intro x7 h8;refine⟨?_,?_⟩
     . intro h9;try simp at h9
       with_reducible and_intros
       iterate 2 omega
       . have q1:=h8.1.1;have q2:=h8.1.2.1;have q3:=h8.1.2.2.2.1;have q4:=h8.1.2.2.2.2.1;have q5:=h8.2;omega
       iterate 2 omega
       . have q1:=h8.1.1;have q2:=h8.1.2.1;have q3:=h8.1.2.2.2.1;have q4:=h8.1.2.2.2.2.1;have q5:=h8.2;omega
       omega
       . have q1:=h8.1.1;have q2:=h8.1.2.1;have q3:=h8.1.2.2.2.1;have q4:=h8.1.2.2.2.2.1;have q5:=h8.2;omega
       trivial
       . intro de;with_reducible and_intros
         iterate 2 omega
         . have q1:=h8.1.1;have q2:=h8.1.2.1;have q3:=h8.1.2.2.2.1;have q4:=h8.1.2.2.2.2.1;have q5:=h8.2;omega
         omega
         iterate 2
          . have q1:=h8.1.1;have q2:=h8.1.2.1;have q3:=h8.1.2.2.2.1;have q4:=h8.1.2.2.2.2.1;have q5:=h8.2;omega
         omega;have q1:=h8.1.1;have q2:=h8.1.2.1;have q3:=h8.1.2.2.2.1;have q4:=h8.1.2.2.2.2.1;have q5:=h8.2;omega
       . intro fC;trivial
       iterate 2 omega
       refine⟨((toNat (bif !Decidable.decide (getD (x7.2.2.1) (toNat (↑x3:Int)+toNat (↑(x7.2.1):Int)) []=getD (x7.2.2.1) (toNat (↑x3:Int)+toNat ((↑(x7.2.1):Int)-(1:Int))) []) then(↑(x7.1):Int)+(1:Int) else(↑(x7.1):Int))),((x7.2.1+1),((bif !Decidable.decide (getD (x7.2.2.1) (toNat (↑x3:Int)+toNat (↑(x7.2.1):Int)) []=getD (x7.2.2.1) (toNat (↑x3:Int)+toNat ((↑(x7.2.1):Int)-(1:Int))) []) then List.set (x7.2.2.1) (toNat (↑(x7.1):Int)) (getD (x7.2.2.1) (toNat (↑x3:Int)+toNat (↑(x7.2.1):Int)) []) else Prod.fst (x7.2.2)),(x3)))),?_⟩;try dsimp only
       with_reducible and_intros
       . generalize (!decide (getD x7.2.2.1 (toNat (x3:Int)+toNat (x7.2.1:Int)) []=getD x7.2.2.1 (toNat (x3:Int)+toNat ((x7.2.1:Int)-1)) []))=c;cases c<;>simp only [L!,O!]<;>omega
       omega;trivial
       . have q1:=h8.1.1;have e3:x7.2.2.2=x3:=by have:=h8.2;omega
         have hi:=h8.1;rw [e3] at hi;have e1:toNat (x3:Int)+toNat (x7.2.1:Int)=x3+x7.2.1:=by omega
         have e2:toNat (x3:Int)+toNat ((x7.2.1:Int)-1)=x3+x7.2.1-1:=by omega
         rw [e1,e2];by_cases hd:getD x7.2.2.1 (x3+x7.2.1) []=getD x7.2.2.1 (x3+x7.2.1-1) []
         . rw [K? hd];exact S.N8 hi w! hd
         rw [Y? hd];exact S.R3 hi w! hd
       omega;simp only [S.ag,S.len];omega
     intro gY;with_reducible and_intros
     omega
     iterate 2
      . have q1:=h8.1.2.1;have q2:=h8.1.2.2.2.1;have q3:=h8.1.2.2.2.2.1;omega
     omega
     . have q1:=h8.1.2.1;have q2:=h8.1.2.2.2.1;have q3:=h8.1.2.2.2.2.1;simp;omega
     have q1:=h8.1.2.1;have q2:=h8.1.2.2.2.1;have q3:=h8.1.2.2.2.2.1;grind[toNat,S.KA,S.R4]
   intro jM;try simp only [df,tn] at jM
   with_reducible and_intros
   iterate 2 omega
   refine⟨(x3+1),?_⟩;grind[S.R1,S.ag,S.len]
 grind[df,S.Xl]
def aDl(l:List B8)(hp:S.small l):S.small l/\S.small l/\S.small (S.fm l)/\S.bW (S.fm l)=S.bW (S.fm l):=by
 grind[S.Us]
def aDm(b:B8)(hp:S.small b):S.small b/\S.small (S.bM b)/\S.bW (S.fm (S.bM b))=S.sorted (S.bM b):=by
 grind[S.Ur,S.N9]
def aDn(l:List B8)(hf:Vg.gq J.aHO l):(∃(x1:Nat),(0:Int)=x1/\S.fg l x1)/\(∀(x2:Nat),S.fg l x2->oH (decide (x2<pb l)) 0 x2 (pb l) (aRJ (aZb (lG l x2)) (S.bQ l) x2 (∃(x3:Nat),aYP x2 x3 (S.fg l x3) (S.len l))) (true=S.bQ l)):=by
 refine aE ?_;have PN:Vg.hlen l:=hf.1.1;refine⟨?_,?_⟩
 . grind[S.abo]
 intro x1 h2;refine⟨?_,?_⟩
 . intro h3;simp only [dt] at h3;with_reducible and_intros
   iterate 2 omega
   . intro h4;simp at h4;exact S.agU h3 h4
   intro h5;simp at h5;with_reducible and_intros
   iterate 2 omega
   refine⟨(x1+nat_lit 1),?_⟩;dsimp only;refine⟨?_,?_,?_⟩;omega;exact S.Ð h2 h3 h5;simp [S.ag,S.len];omega
 grind[df,S.agV]
def aDo(a b:B8):gE (S.aT a b=S.aT a b):=by
 refine aE ?_;grind
def aDp(s:List B8)(hp:S.aUz s):q97 (Fx s-2) 0 (Fx s) (toNat (Fx s-2)<Fx s) (q97 (Fx s-2+1) 0 (Fx s) (toNat (Fx s-2+1)<Fx s) (gE (q86 0 (Fx s-2) (Fx s) (toNat (Fx s-2)<Fx s) (aFu (Fx s-2+1) 0 (pb (Fw s)) (take (toNat (Fx s-2+1)) (Fw s)=S.comb s))))):=by
 refine aE ?_;have h1:=hp.1;have h2:=hp.2;with_reducible and_intros
 iterate 10 omega
 trivial;iterate 6 omega
 grind;exact S.aqn hp
def aDq(l:List B8)(hp:S.l8 l)(hf:Vg.gq J.aHS l):(∃(x1:Nat),((0:Int)=x1/\[]=S.jr l x1)/\S.ny l x1)/\(∀(x2:Nat),S.ny l x2->oH (decide (x2<pb l)) 0 x2 (pb l) (S.aC (lG l x2)/\aZH (S.jr l x2) [S.leaf (lG l x2)]/\q81 x2 (∃(x3:Nat),aZz x2 x3 (S.jr l x2++[S.leaf (lG l x2)]=S.jr l x3) (S.ny l x3) (S.len l))) (S.jr l x2=S.leaves l)):=by
 refine aE ?_;have PN:Vg.hlen l:=hf.1.1;clear hf;have h1:=hp.1;refine⟨?_,?_⟩
 . refine⟨0,?_⟩;try dsimp only
   with_reducible and_intros
   omega;rfl;grind[S.ny,S.ag,S.len]
 intro x1 h2;refine⟨?_,?_⟩
 . intro h3;try simp only [dt] at h3
   with_reducible and_intros
   iterate 2 omega
   exact S.Xo hp v!
   . have:=S.QQ l x1;simp only [lc,ln];omega
   iterate 2 omega
   refine⟨(x1+1),?_⟩;try dsimp only
   with_reducible and_intros
   omega;exact S.Un v!
   . simp only [S.ny,S.ag,S.len] at *;omega
   simp only [S.ny,S.ag,S.len] at *;omega
 grind[df,S.Xn]
def aDr(l:List B8)(hp:S.nC l):q29 (YG (pb l)) (S.small q80) (S.sum q80=S.root l) (∃(x1:Nat×List B8),((0:Int)=x1.1/\[]=x1.2)/\S.qu l x1.1 x1.2) (∀(x2:Nat×List B8),aYQ (S.qu l x2.1 x2.2) (decide (x2.1<pb l)) x2.1 (pb l) (aZH x2.2 [lG l x2.1]/\(∃(x3:Nat×Nat×List B8×Nat),((x2.1:Int)=x3.2.1/\x2.2++[lG l x2.1]=x3.2.2.1)/\S.pe l x3.2.2.2 x3.1 x3.2.1 x3.2.2.1/\(x2.1:Int)=x3.2.2.2)/\(∀(x4:Nat×Nat×List B8×Nat),S.pe l x4.2.2.2 x4.1 x4.2.1 x4.2.2.1/\(x2.1:Int)=x4.2.2.2->(0:Int)<=x4.2.1/\(0:Int)<=1/\mY (decide (Vg.aM x4.2.1 1=1)) (S.aUz x4.2.2.1) (aGr 1 64 (∃(x5:Nat×Nat×List B8×Nat),(x4.2.1/q51 2 1=x5.2.1/\S.comb x4.2.2.1=x5.2.2.1)/\(S.pe l x5.2.2.2 x5.1 x5.2.1 x5.2.2.1/\(x2.1:Int)=x5.2.2.2)/\x5.2.1<x4.2.1)) (x2.1+1) (∃(x6:Nat×List B8),((x2.1:Int)+1=x6.1/\x4.2.2.1=x6.2)/\S.qu l x6.1 x6.2/\q53 (S.len l) x6.1 x2.1))) (∃(x7:List B8),x2.2=x7/\S.qv l x7) (∀(x8:List B8),S.qv l x8->dj (decide ((1:Int)<length x8)) (S.aUz x8) (∃(x9:List B8),S.comb x8=x9/\S.qv l x9/\S.len x9<S.len x8) ((0:Int)<=0/\(0:Int)<length x8) (toNat 0<length x8) (lG x8 0=S.root l))):=by
 refine aE ?_;have lI:=hp.2;refine V.dI (λh1=>?_) λh2=>?_
 . refine⟨?_,?_⟩
   . exact U! _
   exact S.agW h1
 refine⟨?_,?_⟩
 . refine⟨(0,([])),?_⟩;grind[S.aql]
 intro x3 h4;refine V.dI (λh5=>?_) λde=>?_
 . with_reducible and_intros
   iterate 2 omega
   . have:=S.Xp h4;simp;omega
   . refine⟨(0,x3.1,x3.2++[getD l (toNat (x3.1:Int)) []],x3.1),?_⟩;try dsimp only
     with_reducible and_intros
     omega;with_reducible rfl
     exact S.aAM h4 h5;omega
   intro x6 h7;refine⟨?_,?_,?_,?_⟩;iterate 2 omega
   . intro h8;try simp at h8
     with_reducible and_intros
     exact S.akM (S.LM h7) h8 hp;iterate 2 omega
     refine⟨(x6.1+1,x6.2.1/2,S.comb x6.2.2.1,x3.1),?_⟩;try dsimp only
     with_reducible and_intros
     . simp only [show toNat 1=1 by rfl];omega
     with_reducible rfl
     exact(S.IX (S.LM h7) h8).1;omega;exact(S.IX (S.LM h7) h8).2.1
   intro h9;try simp at h9
   with_reducible and_intros
   iterate 2 omega
   refine⟨((x3.1+1),(x6.2.2.1)),?_⟩;try dsimp only
   with_reducible and_intros
   omega;with_reducible rfl
   exact S.akH (S.LM h7) h9;simp only [S.ag,S.len];omega
 refine⟨?_,?_⟩
 . refine⟨(x3.2),?_⟩;refine⟨?_,?_⟩
   . rfl
   exact S.aAN h4 de h2
 intro x11 gY;refine⟨?_,?_⟩
 . intro jM;simp at jM;refine⟨?_,?_⟩
   . have:=S.akL gY;exact⟨w!,w!⟩
   refine⟨(S.comb x11),?_⟩;refine⟨?_,?_,?_⟩;rfl;exact(S.R8 gY jM).1;exact(S.R8 gY jM).2
 grind[df,S.akK]
def aDs(l:List B8)(hp:S.small l):gE (dj (Bool.not (S.bQ l)) ([]=S.zp l) (1=S.xe l) (S.nC l) (S.root l=S.zp l) (0=S.xe l)):=by
 refine aE ?_;have lI:l.length<=1099511627776:=hp;grind[nt,S.zp,S.xe,S.nC,nf]
def aDu(n:Int):q17 (aVr n 2 1099511627776) (0=S.split n) ((∃(x1:Nat×Int),1=x1.2/\S.jq n x1.2 x1.1)/\(∀(x2:Nat×Int),S.jq n x2.2 x2.1->q26 (2*x2.2)/\fX (decide (2*x2.2<n)) (q26 (x2.2*2)) (∃(x3:Nat×Int),x2.2*2=x3.2/\S.jq n x3.2 x3.1/\cx (n-x3.2) (n-x2.2)) (x2.2=S.split n))):=by
 refine aE ?_;refine⟨?_,?_⟩
 . grind[S.Xm]
 intro h2;simp at h2;refine⟨?_,?_⟩
 . refine⟨(0,1),?_⟩;grind[S.Kt]
 intro x3 h4;with_reducible and_intros
 iterate 2
  . (have:=S.kp h4;omega)
 . intro h5;simp at h5;with_reducible and_intros
   . (have:=S.kp h4;omega)
   omega;refine⟨(x3.1+1,2*x3.2),?_⟩;grind[S.kp,S.BE]
 grind[df,S.kp,S.D4]
def aDv(l:List B8)(i:Int)(hp:S.dM l):gE (q29 (q30 (Bool.not (S.bQ l)) (SN i 0 (pb l))) ([]=S.rK l i) (1=S.BW l i) (∃(x1:List B8×Int×List B8),(l=x1.1/\i=x1.2.1/\[]=x1.2.2)/\S.gj l i x1) (∀(x2:List B8×Int×List B8),S.gj l i x2->dj (decide (1<pb x2.1)) True (fX (decide (x2.2.1<S.split (pb x2.1))) (aT5 (S.split (pb x2.1)) (pb x2.1)) (S.nC (drop (toNat (S.split (pb x2.1))) x2.1)/\nb (length x2.2.2+length [S.root (drop (toNat (S.split (pb x2.1))) x2.1)])/\aGr (S.split (pb x2.1)) (pb x2.1) (∃(x3:List B8×Int×List B8),(take (toNat (S.split (pb x2.1))) x2.1=x3.1/\x2.2.1=x3.2.1/\x2.2.2++[S.root (drop (toNat (S.split (pb x2.1))) x2.1)]=x3.2.2)/\S.gj l i x3/\S.len x3.1<S.len x2.1)) (aGr (S.split (pb x2.1)) (pb x2.1) (S.nC (take (toNat (S.split (pb x2.1))) x2.1)/\nb (length x2.2.2+length [S.root (take (toNat (S.split (pb x2.1))) x2.1)])/\aGr (S.split (pb x2.1)) (pb x2.1) (q26 (x2.2.1-S.split (pb x2.1))/\(∃(x4:List B8×Int×List B8),(drop (toNat (S.split (pb x2.1))) x2.1=x4.1/\x2.2.1-S.split (pb x2.1)=x4.2.1/\x2.2.2++[S.root (take (toNat (S.split (pb x2.1))) x2.1)]=x4.2.2)/\S.gj l i x4/\S.len x4.1<S.len x2.1))))) (S.small x2.2.2) (S.OH x2.2.2=S.rK l i) (0=S.BW l i))):=by
 refine aE ?_;have lI:l.length<=1099511627776:=hp;refine⟨?_,?_,?_⟩;trivial
 . intro h1;grind[S.aA0]
 intro h2;refine⟨?_,?_⟩
 . refine⟨((l),((i),([]))),?_⟩;grind[S.ahx]
 intro x3 h4;refine⟨?_,?_⟩
 . intro h5;try simp only [dt] at h5
   refine⟨?_,?_,?_⟩;trivial
   . intro h6;with_reducible and_intros
     iterate 2
      . (have q:=S.Hp lI h4 h5;omega)
     iterate 2
      . (have q:=S.Hp lI h4 h5;grind)
     iterate 2
      . (have q:=S.Hp lI h4 h5;omega)
     refine⟨((take (toNat (S.split (↑(length (x3.1)):Int))) (x3.1)),((x3.2.1),(x3.2.2++[S.root (drop (toNat (S.split (↑(length (x3.1)):Int))) (x3.1))]))),?_⟩;try dsimp only
     with_reducible and_intros
     iterate 3 rfl
     grind[S.aA1]
     . (have q:=S.Hp lI h4 h5;omega)
   intro h7;try simp only [df] at h7
   with_reducible and_intros
   iterate 2
    . (have q:=S.Hp lI h4 h5;omega)
   . (have q:=S.Hp lI h4 h5;grind)
   . (have q:=S.Hp lI h4 h5;exact q.2.2.2.1 _)
   iterate 4
    . (have q:=S.Hp lI h4 h5;omega)
   refine⟨((drop (toNat (S.split (↑(length (x3.1)):Int))) (x3.1)),((x3.2.1-S.split (↑(length (x3.1)):Int)),(x3.2.2++[S.root (take (toNat (S.split (↑(length (x3.1)):Int))) (x3.1))]))),?_⟩;try dsimp only
   with_reducible and_intros
   iterate 3 with_reducible rfl
   exact S.aA2 lI h4 h5 h7
   . (have q:=S.Hp lI h4 h5;omega)
 grind[df,S.aA3,S.aqT]
def a6d(l:List B8)(hp:S.small l):S.small l/\S.zp l=S.zp l:=by
 grind
def a6e(m:Nat)(l:List B8)(n:Int)(p:Bool)(hm:S.len l<m+1)(hp:S.aT0 l n)(hf:Vg.gq J.ay5 (l,n,p)):q17 (decide (n=pb l)) (q17 (Bool.not p) ([]=S.il l n p) (S.small l/\[S.zp l]=S.il l n p)) (gE (fX (decide (n<=S.split (pb l))) (aT5 (S.split (pb l)) (pb l)) ((S.len (aWV l)<m/\S.aT0 (aWV l) n)/\aGr (S.split (pb l)) (pb l) (S.small (aWW l)/\aZH (S.il (aWV l) n p) [S.zp (aWW l)]/\S.il (aWV l) n p++[S.zp (aWW l)]=S.il l n p)) (aGr (S.split (pb l)) (pb l) (q26 (n-S.split (pb l))/\(S.len (aWW l)<m/\S.aT0 (aWW l) (n-S.split (pb l)))/\aGr (S.split (pb l)) (pb l) (S.small (aWV l)/\aZH (S.il (aWW l) (n-S.split (pb l)) true) [S.zp (aWV l)]/\S.il (aWW l) (n-S.split (pb l)) true++[S.zp (aWV l)]=S.il l n p))))):=by
 refine aE ?_;clear hf;have qg:l.length<=1099511627776:=hp.1.2;have hd:=hp.1.1;refine V.dI (λh1=>?_) λh4=>?_
 . refine⟨?_,?_⟩
   . grind[nt,S.aZA]
   intro h3;try simp only [nf] at h3
   refine⟨?_,?_⟩
   . exact qg
   grind[S.aZA,S.zp]
 refine⟨?_,?_,?_⟩;trivial
 . intro h5;with_reducible and_intros
   iterate 3
    . (have q:=S.aY9 hp w!;omega)
   simp_all[S.aY9]
   iterate 2
    . (have q:=S.aY9 hp w!;omega)
   . (have q:=S.aY9 hp w!;grind)
   . (have q:=S.aY9 hp w!;exact q.2.2.1 _ _)
   . (have q:=S.aY9 hp w!;grind)
 intro h6;try simp only [df] at h6
 with_reducible and_intros
 iterate 2
  . (have q:=S.aY9 hp w!;omega)
 omega;simp_all[S.aY9]
 . (have q:=S.aY9 hp w!;omega)
 simp_all[S.aY9]
 iterate 2
  . (have q:=S.aY9 hp w!;omega)
 . (have q:=S.aY9 hp w!;grind)
 . (have q:=S.aY9 hp w!;simp_all)
 . (have q:=S.aY9 hp w!;grind)
def a6f(l:List B8)(m:Int)(hp:S.dM l):S.small l/\HN (q30 (z7 (S.xe l)) (aVr m 0 (pb l))) ([]=S.afY l m) (1=S.aT1 l m) (YG m) (0=S.aT1 l m) (S.aT0 l m) (S.il l m false=S.afY l m/\0=S.aT1 l m):=by
 refine aE ?_;have lI:l.length<=1099511627776:=hp;refine⟨?_,?_,?_⟩;exact lI;grind[S.a5L];simp_all[V.ajY,nf,dt,df,S.a4q]
def aDw(l:List Int)(hf:Vg.gq J.Pm l):(∃(x1:Nat),((0:Int)=x1/\-1=S.gi l x1)/\S.mo l x1)/\(∀(x2:Nat),S.mo l x2->oH (decide (x2<q60 l)) 0 x2 (q60 l) (aRJ (q30 (decide (aYW l x2<=S.gi l x2)) (decide (1000<=aYW l x2))) (S.bK l) x2 (∃(x3:Nat),((x2:Int)+1=x3/\aYW l x2=S.gi l x3)/\S.mo l x3/\q53 (S.len l) x3 x2)) (true=S.bK l)):=by
 refine aE ?_;have PN:Vg.hlen l:=hf.1.1;refine⟨?_,?_⟩
 . grind[S.yd,S.aqo]
 intro x1 h2;refine⟨?_,?_⟩
 . intro h3;simp only [dt] at h3;with_reducible and_intros
   iterate 2 omega
   . intro h4;simp at h4;exact S.agX h3 h4
   intro h5;simp only [V.ajY,df,tn] at h5;with_reducible and_intros
   iterate 2 omega
   refine⟨(x1+nat_lit 1),?_⟩;dsimp only;with_reducible and_intros
   omega;rw [S.lM,tn];exact S.Ñ h2 h3 h5;simp [S.ag,S.len];omega
 grind[df,S.agY]
def aDx(l:List Int)(hf:Vg.gq J.Pm l):gE (dj (Bool.not (S.bK l)) (1=S.qx l) ([]=S.qw l) (q59 q80) (∃(x1:Nat),((0:Int)=x1/\-1=S.gi l x1/\S.mn q80 (length l)=S.jb l x1)/\x1<=length l) (∀(x2:Nat),aYQ (x2<=length l) (decide ((x2:Int)<length l)) x2 (length l) (q26 (aYW l x2-S.gi l x2)/\q26 (aYW l x2-S.gi l x2-1)/\q59 q80/\aZU (S.jb l x2) (S.mn q80 (aYW l x2-S.gi l x2-1)) (q81 x2 (∃(x3:Nat),((x2:Int)+1=x3/\aYW l x2=S.gi l x3/\S.jb l x2++S.mn q80 (aYW l x2-S.gi l x2-1)=S.jb l x3)/\x3<=length l/\q53 (S.len l) x3 x2))) (0=S.qx l) (S.jb l x2=S.qw l))):=by
 refine aE ?_;have PN:Vg.hlen l:=hf.1.1;clear hf;refine⟨?_,?_,?_⟩;trivial;grind[nt,S.qx,S.qw];intro h2;try simp only [nf] at h2
 refine⟨?_,?_,?_⟩;grind;grind[S.yd,S.ou,S.Sb,S.Sa];intro x3 h4;refine⟨?_,?_⟩
 . intro h5;try simp only [dt] at h5
   with_reducible and_intros
   iterate 2 omega
   iterate 4
    . have:=S.Sc h2 h5;omega
   exact U! _
   . have:=(S.QR h2 h5 (getD l (toNat (x3:Int)) 0-S.gi l x3-1)).1;omega
   iterate 2 omega
   refine⟨(x3+1),?_⟩;try dsimp only
   with_reducible and_intros
   omega;rw [S.lM,tn];exact S.Od h2 h5;omega;simp only [S.ag,S.len];omega
 grind[df,S.qx,S.agZ]
def aDy(l:List Int):gE (dj (z7 (S.qx l)) ([]=S.aNO l) (S.qx l=S.qx l) (S.aC (S.qw l)) (S.mF 2 (S.qw l)=S.aNO l) (0=S.qx l)):=by
 refine aE ?_;refine⟨?_,?_,?_⟩;trivial;grind[nt,df,S.bK,absurd,S.qx,S.aNO];intro h2;simp at h2;refine⟨?_,?_,?_⟩
 . have hq:S.bK l=true:=by
    grind[S.bK,S.qx,absurd]
   have hl:=S.Oe hq;simp [S.qw,S.aNO,hq,Q?,S.aC];omega
 . have hq:S.bK l=true:=by
    grind[S.bK,S.qx,absurd]
   simp_all[S.Oe,S.qw,S.aNO,Q?,S.aC]
 omega
def aDz(n:Int)(p q:Bool)(s1 s2:Int):aPZ s1 n (decide (n<s2))=S.xf n s1 s2/\s1=s1/\s2=s2:=by
 refine aE ?_;grind[S.xf]
def aDA(a b:List Int)(s1 s2:Int)(hp:b.length=0):aJB (∃(x1:List Int×List Int),aJE a x1.1 b S.sa ([]=x1.2/\s1=s1/\s2=s2)/\S.nE a s1 s2 x1.1 x1.2) (∀(x2:List Int×List Int),S.nE a s1 s2 x2.1 x2.2->dj (q30 (aQW (q60 x2.1)) (decide (0<Ci))) (aZI (aQW (q60 x2.1)) (YG Ci) 0 (q60 x2.1) Ci) (aZI (aQW Ci) (YG (q60 x2.1)) 0 Ci (q60 x2.1)/\aZG (aGd x2) 0 (q60 x2.1) 1/\aZG (aGe x2) 0 Ci 1/\gE (fX (S.xf (ahP (aGe x2) (aXa 0) (aGd x2) (aUf x2) 0) s1 s2) (aZy x2.2 [ahP (aGe x2) (aXa 0) (aGd x2) (aUf x2) 0]) (∃(x3:List Int×List Int),(azI (aGd x2) 1 x2.1=x3.1/\azI (aGe x2) 1 S.sa=S.sa/\x2.2++[ahP (aGe x2) (aXa 0) (aGd x2) (aUf x2) 0]=x3.2/\s1=s1/\s2=s2)/\S.nE a s1 s2 x3.1 x3.2/\S.len x3.1<S.len x2.1) (∃(x4:List Int×List Int),(azI (aGd x2) 1 x2.1=x4.1/\azI (aGe x2) 1 S.sa=S.sa/\x2.2=x4.2/\s1=s1/\s2=s2)/\S.nE a s1 s2 x4.1 x4.2/\S.len x4.1<S.len x2.1))) (s1=s1) (s2=s2) (x2.2=S.Oc a s1 s2)):=by
 refine aE ?_;have hb:b=[]:=V! hp;subst hb;refine⟨trivial,trivial,?_,?_⟩
 . refine⟨(S.vv a,[]),⟨?_,?_,rfl,rfl,rfl⟩,S.aqp a s1 s2⟩
   . grind[S.vv,S.bK]
   rfl
 rintro⟨r,out⟩ h;have hl:=h.2;cases r with
 |nil=>grind[S.sa,S.ag1]
 |cons n r=>
  simp [S.sa];refine⟨w!,λhn=>⟨?_,?_⟩,λhn=>?_⟩
  . grind
  . exact⟨r,out++[n],⟨rfl,rfl⟩,S.ag0 h hn,by simp [S.len]⟩
  exact⟨r,out,⟨rfl,rfl⟩,S.akO h hn,by simp [S.len]⟩
def aDB(l:List Int)(s1 s2:Int):length (Vg.ur Int)=0/\S.Oc l s1 s2=S.Oc l s1 s2:=by
 grind
def aDC(a b:List Int)(hf:Vg.gq J.amP (a,b)):anl (q19 (q60 a) (q60 b)) (S.sH a b) ((∃(x1:Nat),(0:Int)=x1/\S.wb a b x1)/\(∀(x2:Nat),S.wb a b x2->oH (decide (x2<q60 a)) 0 x2 (q60 a) (((0:Int)<=x2/\x2<q60 b)/\aRJ (q19 (getD a (toNat x2) 0) (getD b (toNat x2) 0)) (S.sH a b) x2 (∃(x3:Nat),aYP x2 x3 (S.wb a b x3) (S.len a))) (true=S.sH a b))):=by
 refine aE ?_;have azs:Vg.hlen a:=hf.1.1;refine⟨?_,?_⟩
 . grind[nt,df,S.ag3]
 intro h2;simp at h2;refine⟨?_,?_⟩
 . grind[S.aqq]
 intro x3 h4;refine⟨?_,?_⟩
 . intro h5;simp only [dt] at h5;with_reducible and_intros
   iterate 4 omega
   . intro h6;simp at h6;exact S.ag2 h6
   intro h7;simp at h7;with_reducible and_intros
   iterate 2 omega
   refine⟨(x3+nat_lit 1),?_⟩;dsimp only;refine⟨?_,?_,?_⟩;omega;exact S.Ò h4 h5 h7;simp [S.ag,S.len];omega
 grind[df,S.ag4]
def aDD(d:List (B8×List Int))(hp:S.bn d):(∃(x1:Nat),(0:Int)=x1/\S.Ku d x1)/\(∀(x2:Nat),S.Ku d x2->oH (decide (x2<HK d)) 0 x2 (HK d) (fX (aQW x2) (q26 (x2-1)) (aVI (x2-1) (HK d)) True/\anl (cK (aQW x2) (a1Q (aT2 d x2).1 (aT2 d (x2-1)).1)) (S.bg d) (oI (YG (q60 (aT2 d x2).2)) (gE (oI (Bool.not (S.bK (aT2 d x2).2)) (S.small (aT2 d x2).1)))/\aRJ (q30 (YG (q60 (aT2 d x2).2)) (aL5 (Bool.not (S.bK (aT2 d x2).2)) (S.isTerm (aT2 d x2).1))) (S.bg d) x2 (∃(x3:Nat),aYP x2 x3 (S.Ku d x3) (S.len d)))) (true=S.bg d)):=by
 refine aE ?_;have lI:=hp.1;refine⟨?_,?_⟩
 . grind[S.aGO]
 intro x1 h2;refine⟨?_,?_⟩
 . intro h3;simp only [dt] at h3;with_reducible and_intros
   iterate 2 omega
   iterate 2 grind
   . intro h6;simp only [V.abe,dt] at h6;refine S.abq h3 ((S.Of _ _).2 (.inl ⟨w!,?_⟩));have e:toNat ((x1:Int)-1)=x1-1:=by omega
     have h62:=h6.2;rw [e] at h62;exact h62
   intro h7;simp only [V.ze,df] at h7;with_reducible and_intros
   grind
   . intro h9;refine⟨?_,?_,?_⟩;trivial;grind;intro fC;exact S.ag5 hp
   . intro gY;simp only [V.IG,dt,tn,nt] at gY;exact S.abq h3 ((S.Of _ _).2 (.inr (gY.imp (λq=>by grind[S.jS]) id)))
   intro jM;simp at jM;with_reducible and_intros
   iterate 2 omega
   refine⟨(x1+nat_lit 1),?_⟩;dsimp only;refine⟨?_,?_,?_⟩;omega
   . refine S.akP h2 h3 ((S.uJ _ _).2 ⟨?_,?_,jM.2.1,jM.2.2⟩);rotate_left
     . grind[S.jS]
     rcases h7 with h7|h7
     . omega
     right;have e:toNat ((x1:Int)-1)=x1-1:=by omega
     rw [e] at h7;exact h7
   grind[S.ag,S.len]
 grind[df,S.aqr]
def arS(l1 l2 l3:B8):dj (q73 64 (b6 l1) (q73 64 (b6 l2) (q19 (length l3) 32))) ([]=S.fW l1 l2 l3) (1=S.kM l1 l2 l3) (S.oV q80 l1) (S.oV ([]++S.text l1) l2) (q21 (length ([]++S.text l1++S.text l2)+length l3)/\[]++S.text l1++S.text l2++l3=S.fW l1 l2 l3/\0=S.kM l1 l2 l3):=by
 refine aE ?_;refine⟨?_,?_⟩
 . simp_all[V.IG,dt,nt,df,S.Ø,S.fW,S.kM]
 intro h2;simp only [V.ajY,df,nf,dt] at h2;with_reducible and_intros
 exact S.Kv (U! _) w!
 . have t1:=S.IY (s:=l1);exact S.Kv (by rw [k?];omega) w!
 grind[S.BN,S.wc,S.IY,List.length_append,ln]
 . have hq:=S.BN h2;simp only [S.fW,hq,Q?];rfl
 simp_all[S.BN,S.wc,S.IY,S.kM,Q?]
def arT(b:B8)(hp:b.length<=140737488355328):q32 b/\q32 (S.an b 0 0 64).1.1/\q32 (azP b).1.1/\gE (dj (z7 (S.done (ajS b).1.1 (ajS b).1.2.1 (ajS b).1.2.2)) ([]=(S.bj b).1.1) ([]=(S.bj b).1.2.1/\[]=(S.bj b).1.2.2/\S.done (ajS b).1.1 (ajS b).1.2.1 (ajS b).1.2.2=(S.bj b).2) ((S.an b 0 0 64).2=(S.bj b).1.1) ((azP b).2=(S.bj b).1.2.1) ((ajS b).2=(S.bj b).1.2.2/\0=(S.bj b).2)):=by
 refine aE ?_;refine⟨hp,?_,?_,trivial,λh=>?_,λh=>?_⟩
 . grind[S.BM]
 . grind[S.BM]
 . have h':(!decide (S.done (S.uI b).1.1 (S.uI b).1.2.1 (S.uI b).1.2.2=0))=true:=h
   have e:S.bj b=(([],[],[]),S.done (S.uI b).1.1 (S.uI b).1.2.1 (S.uI b).1.2.2):=by
    simp_all[S.bj,J!,K?]
   rw [e];exact⟨rfl,rfl,rfl,rfl⟩
 have h':(!decide (S.done (S.uI b).1.1 (S.uI b).1.2.1 (S.uI b).1.2.2=0))=false:=h
 have e:S.bj b=(((S.Ó b).2,(S.Up b).2,(S.uI b).2),0):=by
  grind[S.bj]
 rw [e];exact⟨rfl,rfl,rfl,rfl⟩
def arU(d:List (B8×List Int))(hp:S.bn d):S.bn d/\dj (Bool.not (S.bg d)) (1=S.dE d) ([]=S.bU d) (q26 (apB d+1)) (∃(x1:Nat),((0:Int)=x1/\[]=S.iV d x1)/\x1<=apB d+1) (∀(x2:Nat),x2<=apB d+1->q29 (decide ((x2:Int)<apB d+1)) (fX (aQW x2) (q26 (x2-1)) (((0:Int)<=x2-1/\(x2:Int)-1<apB d)/\q26 (x2-1)/\aVI (x2-1) (apB d)) True) (fX (decide ((x2:Int)<apB d)) ((0:Int)<=x2) ((x2:Int)<apB d) True/\aJB (ajb (length (S.iV d x2)+length (aAk d x2))) (q81 x2 (∃(x3:Nat),aZz x2 x3 (S.iV d x2++aAk d x2=S.iV d x3) (x3<=apB d+1) (S.len d+1)))) (0=S.dE d) (S.iV d x2=S.bU d)):=by
 refine aE ?_;have lI:=hp.1;refine⟨?_,?_,?_⟩;omega;grind[nt,S.dE,S.bU];intro h2;simp at h2;with_reducible and_intros
 iterate 2 omega
 . refine⟨(nat_lit 0:Nat),?_⟩;dsimp only;with_reducible and_intros
   omega;rfl;omega
 intro x3 h4;refine V.dI (λh5=>?_) λde=>?_
 . with_reducible and_intros
   . intro h6;simp at h6;with_reducible and_intros
     iterate 8 omega
   . intro h7;trivial
   . intro h8;try simp at h8
     refine⟨?_,?_⟩
     . omega
     omega
   . intro h9;trivial
   iterate 2 trivial
   . rw [S.Oh];simp;omega
   iterate 2 omega
   refine⟨(x3+nat_lit 1),?_⟩;try dsimp only
   with_reducible and_intros
   omega;rw [S.aqu h2 w!,S.Xq];omega;simp [S.ag,S.len];omega
 refine⟨?_,?_⟩
 . simp only [S.dE,h2];rfl
 simp [S.bU,h2,Q?];rw [show x3=d.length+1 by omega];rfl
def arV(d:List (B8×List Int))(hp:S.bn d):S.bn d/\dj (z7 (S.dE d)) ([]=S.BI d) (S.dE d=S.dE d) (S.l8 (S.bU d)) (S.small (S.leaves (S.bU d))) (S.zp (S.leaves (S.bU d))=S.BI d/\S.xe (S.leaves (S.bU d))=S.dE d):=by
 refine aE ?_;refine⟨?_,?_,?_⟩;omega;grind[nt,df,S.BI,S.aGP];intro h2;simp at h2;refine⟨?_,?_,?_,?_⟩
 . have hr:=S.Hf h2;have hq:=S.pz hp hr;simp_all[S.bU,S.ie,Q?]
 . have hr:=S.Hf h2;have hq:=S.pz hp hr;have e:S.bU d=S.ie d:=by simp_all[S.bU,Q?]
   rw [e];exact hq.2.2
 . have hr:=S.Hf h2;have hq:=S.pz hp hr;have e:S.bU d=S.ie d:=by simp_all[S.bU,Q?]
   rw [e];simp [S.BI,S.zp,hr,hq.2.1,Q?];rfl
 have hr:=S.Hf h2;have hq:=S.pz hp hr;have e:S.bU d=S.ie d:=by simp_all[S.bU,Q?]
 rw [e];simp [S.dE,S.xe,hr,hq.2.1,Q?]
def arW(d:List (B8×List Int))(t:B8)(hp:S.bn d):S.bn d/\q29 (Bool.not (S.bg d)) (-1=S.bt d t) (false=S.k9 d t) (∃(x1:Nat),((0:Int)=x1/\-1=S.ek d t x1)/\x1<=length d) (∀(x2:Nat),aYQ (x2<=length d) (decide ((x2:Int)<length d)) x2 (length d) (q81 x2 (∃(x3:Nat),((x2:Int)+1=x3/\(bif a1Q (aT2 d x2).1 t then(x2:Int) else S.ek d t x2)=S.ek d t x3)/\x3<=length d/\q53 (S.len d) x3 x2)) (fX (decide (0<=S.ek d t x2)) (0<=S.ek d t x2) (S.ek d t x2<length d) True) ((bif decide (0<=S.ek d t x2) then S.ek d t x2 else S.ek d t x2)=S.bt d t/\Ce (decide (0<=S.ek d t x2)) (aT2 d (S.ek d t x2)).1 t=S.k9 d t)):=by
 refine aE ?_;have lI:=hp.1;refine⟨?_,?_,?_⟩;omega
 . intro h1;simp at h1;refine⟨?_,?_⟩
   . exact(S.Sd h1).1
   exact(S.Sd h1).2
 intro h2;simp at h2;refine⟨?_,?_⟩
 . refine⟨(nat_lit 0:Nat),?_⟩;dsimp only;with_reducible and_intros
   omega;rfl;omega
 intro x3 h4;refine V.dI (λh5=>?_) λh6=>?_
 . with_reducible and_intros
   iterate 4 omega
   refine⟨(x3+nat_lit 1),?_⟩;dsimp only;with_reducible and_intros
   omega;exact S.aqv d t x3;omega;simp [S.ag,S.len];omega
 with_reducible and_intros
 . intro h7;simp at h7;refine⟨?_,?_⟩
   . omega
   have:=(S.He (d:=d) (t:=t) x3).2;omega
 . intro h8;trivial
 . rw [show x3=d.length by omega,S.akQ h2];cases decide (0<=S.bt d t)<;>rfl
 rw [show x3=d.length by omega];exact S.akR h2
def arX(d:List (B8×List Int))(t:B8)(hp:S.bn d):S.bn d/\q17 (Bool.not (S.k9 d t)) ([]=S.qz d t) (q86 0 (S.bt d t) (HK d) (S.small (aT2 d (S.bt d t)).2) ((aT2 d (S.bt d t)).2=S.qz d t)):=by
 refine aE ?_;grind[nt,S.aqz,nf,S.LN,S.aqA]
def arY(s1 s2:Int):aPZ 0 s1 (cK (decide (s1<s2)) (decide (s2<=1000)))=S.jO s1 s2:=by
 refine aE ?_;grind[S.jO,S.uD]
def arZ(s1 s2:Int)(s3:List (B8×List Int))(hp:S.bn s3)(hf:Vg.gq J.amS (s1,s2,s3)):q98 (oI (Bool.not (S.jO s1 s2)) (S.bn s3)) (anl (aL5 (Bool.not (S.jO s1 s2)) (S.bg s3)) (S.amC s1 s2 s3) ((∃(x1:Nat),(0:Int)=x1/\S.we s1 s2 s3 x1)/\(∀(x2:Nat),S.we s1 s2 s3 x2->oH (decide (x2<HK s3)) 0 x2 (HK s3) (gE (aRJ (q19 (q60 (S.Oc (aT2 s3 x2).2 s1 s2)) (q60 (aT2 s3 x2).2)) (S.amC s1 s2 s3) x2 (∃(x3:Nat),aYP x2 x3 (S.we s1 s2 s3 x3) (S.len s3)))) (true=S.amC s1 s2 s3)))):=by
 refine aE ?_;have aDE:Vg.hlen s3:=hf.2.2.1.1;with_reducible and_intros
 trivial;iterate 2 grind
 . intro h3;simp at h3;exact S.aqx h3
 intro h4;refine⟨?_,?_⟩
 . grind[S.aAQ]
 intro x5 h6;refine⟨?_,?_⟩
 . intro h7;simp only [dt] at h7;with_reducible and_intros
   iterate 2 omega
   trivial
   . intro h8;simp at h8;exact S.akV h7 (Y? h8)
   intro h9;simp at h9;with_reducible and_intros
   iterate 2 omega
   refine⟨(x5+nat_lit 1),?_⟩;dsimp only;refine⟨?_,?_,?_⟩;omega;exact S.ahc h6 h7 (decide_eq_true h9);simp [S.ag,S.len];omega
 grind[df,S.akW]
def ar0(s1 s2:Int)(s3:List (B8×List Int))(hp:S.bn s3):S.bn s3/\q29 (Bool.not (S.amC s1 s2 s3)) (0=(S.sJ s1 s2 s3).1.1) (0=(S.sJ s1 s2 s3).1.2.1/\0=(S.sJ s1 s2 s3).1.2.2.1/\[]=(S.sJ s1 s2 s3).1.2.2.2/\1=(S.sJ s1 s2 s3).2) (S.bn s3) (mY (z7 (S.dE s3)) (0=(S.sJ s1 s2 s3).1.1) (0=(S.sJ s1 s2 s3).1.2.1/\0=(S.sJ s1 s2 s3).1.2.2.1/\[]=(S.sJ s1 s2 s3).1.2.2.2/\1=(S.sJ s1 s2 s3).2) (HK s3+1) (s1=(S.sJ s1 s2 s3).1.1/\s2=(S.sJ s1 s2 s3).1.2.1/\HK s3+1=(S.sJ s1 s2 s3).1.2.2.1/\S.BI s3=(S.sJ s1 s2 s3).1.2.2.2/\0=(S.sJ s1 s2 s3).2)):=by
 refine aE ?_;have lI:=hp.1;refine⟨?_,?_,?_⟩;omega;grind[nt,S.Ú];intro h2;refine⟨?_,?_,?_⟩;omega;grind[nt,df,S.Kz];grind[S.Kz]
def ar1(s1 s2 s3:Int)(s4:B8):gE (cK (S.jO s1 s2) (aPZ 1 s3 (aPZ s3 1099511627776 (decide (b6 s4=32))))=S.jH s1 s2 s3 s4):=by
 refine aE ?_;grind[S.jH,S.uD]
def ar2(docs:List B8)(s1 s2:Int):gE (HN (z7 (S.lD docs s1 s2).2) (0=(S.cm docs s1 s2).1.1) (0=(S.cm docs s1 s2).1.2.1/\[]=(S.cm docs s1 s2).1.2.2/\(S.lD docs s1 s2).2=(S.cm docs s1 s2).2) (decide (s1=s2)) (0=(S.cm docs s1 s2).1.2.1/\[]=(S.cm docs s1 s2).1.2.2/\1=(S.cm docs s1 s2).2) (s1=(S.cm docs s1 s2).1.1) (s2=(S.cm docs s1 s2).1.2.1/\(S.lD docs s1 s2).1=(S.cm docs s1 s2).1.2.2/\0=(S.cm docs s1 s2).2)):=by
 refine aE ?_;simp_all[nt,df,S.ak0,nf,dt,S.ak2,S.ak3]
def ar3(l:List (Int×Int×Int×B8))(n:Int):anl (decide ((64:Int)<length l)) (S.kW l n) ((∃(x1:Nat),((0:Int)=x1/\0=S.rowAt l x1)/\S.xT l x1)/\(∀(x2:Nat),S.xT l x2->oH (decide ((x2:Int)<length l)) 0 x2 (length l) (aP6 (Bool.not (Bool.rec false (Bool.rec false (decide ((Ju l x2).2.2.2=(Ju l x2).2.2.2)) (decide ((Ju l x2).2.2.1=(Ju l x2).2.2.1))) (Bool.rec false (decide ((Ju l x2).2.1=(Ju l x2).2.1)) (decide ((Ju l x2).1=S.rowAt l x2)))))/\aRJ (aL5 (Bool.not (Bool.rec false (Bool.rec false (decide ((Ju l x2).2.2.2=(Ju l x2).2.2.2)) (decide ((Ju l x2).2.2.1=(Ju l x2).2.2.1))) (Bool.rec false (decide ((Ju l x2).2.1=(Ju l x2).2.1)) (decide ((Ju l x2).1=S.rowAt l x2))))) (S.jH (Ju l x2).1 (Ju l x2).2.1 (Ju l x2).2.2.1 (Ju l x2).2.2.2)) (S.kW l n) x2 (∃(x3:Nat),((x2:Int)+1=x3/\(Ju l x2).2.1=S.rowAt l x3)/\S.xT l x3/\q53 (S.len l) x3 x2)) (decide (S.rowAt l x2=n)=S.kW l n))):=by
 refine aE ?_;refine V.dI (λh1=>?_) λh2=>?_
 . exact S.ak4 h1
 refine⟨?_,?_⟩
 . grind[S.Om,S.aqy]
 intro x3 h4;refine⟨?_,?_⟩
 . intro h5;simp only [dt] at h5;with_reducible and_intros
   iterate 2 omega
   . intro h6;trivial
   . intro h7;trivial
   . intro h8;refine S.ahh h4 h5 (S.Xz ?_);simpa [S.Xx,S.sg] using h8
   intro h9;with_reducible and_intros
   iterate 2 omega
   refine⟨(x3+nat_lit 1),?_⟩;dsimp only;with_reducible and_intros
   omega;exact(S.Xy l x3).symm
   . refine S.Û h4 h5 (S.Ü ?_);simpa [S.Xx,S.sg] using h9
   simp [S.ag,S.len];omega
 grind[df,S.ahi]
def aPa(l:List (Int×Int×List (B8×List Int)))(hp:S.apu l)(hf:Vg.gq J.amX l):a0G 0 (aF9 l) aZc/\(∃(x1:Nat),([]=S.Lr l x1/\replicate (toNat (aF9 l)) 0=S.akE l x1)/\x1<=S.uL l)/\(∀(x2:Nat),x2<=S.uL l->(∃(x3:Nat×Nat),((0:Int)=x3.1/\-1=S.af2 l (S.akE l x3.2) x3.1)/\(x3.1<=aF9 l/\x3.2<=S.uL l)/\S.akE l x2=S.akE l x3.2)/\(∀(x4:Nat×Nat),(x4.1<=aF9 l/\x4.2<=S.uL l)/\S.akE l x2=S.akE l x4.2->oH (decide ((x4.1:Int)<aF9 l)) 0 x4.1 (aF9 l) (q86 0 x4.1 (length (S.akE l x2)) (aGb x4<length (S.akE l x2)) (q29 (decide (ya (S.akE l x2) (aGb x4)=HK (getD l (aGb x4) (0,0,[])).2.2)) (q26 (x4.1+1)) (∃(x5:Nat×Nat),((x4.1:Int)+1=x5.1/\aVl l x4=S.af2 l (S.akE l x5.2) x5.1)/\((x5.1<=aF9 l/\x5.2<=S.uL l)/\S.akE l x2=S.akE l x5.2)/\q44 (S.len l) x5.1 (S.ag (S.len l) x4.1)) (oI (decide (aVl l x4<0)) (q86 0 x4.1 (length (S.akE l x2)) (aGb x4<length (S.akE l x2)) ((0<=ya (S.akE l x2) (aGb x4)/\ya (S.akE l x2) (aGb x4)<HK (getD l (aGb x4) (0,0,[])).2.2)/\(0<=aVl l x4/\aVl l x4<aF9 l)/\q86 0 (aVl l x4) (length (S.akE l x2)) (toNat (aVl l x4)<length (S.akE l x2)) (aVI (ya (S.akE l x2) (toNat (aVl l x4))) (HK (ep l x4)))))) (q26 (x4.1+1)/\(∃(x6:Nat×Nat),((x4.1:Int)+1=x6.1/\(bif q30 (decide (aVl l x4<0)) (Op.bytesLess (aT2 (getD l (aGb x4) (0,0,[])).2.2 (ya (S.akE l x2) (aGb x4))).1 (aT2 (ep l x4) (ya (S.akE l x2) (toNat (aVl l x4)))).1) then(x4.1:Int) else aVl l x4)=S.af2 l (S.akE l x6.2) x6.1)/\((x6.1<=aF9 l/\x6.2<=S.uL l)/\S.akE l x2=S.akE l x6.2)/\q44 (S.len l) x6.1 (S.ag (S.len l) x4.1))))) (q17 (decide (aVl l x4<0)) (S.Lr l x2=S.Ux l) ((0<=aVl l x4/\aVl l x4<aF9 l)/\q86 0 (aVl l x4) (length (S.akE l x2)) (toNat (aVl l x4)<length (S.akE l x2)) (q86 0 (ya (S.akE l x2) (toNat (aVl l x4))) (HK (ep l x4)) (∃(x7:Nat×Nat),((0:Int)=x7.1/\S.akE l x2=S.eu l x7.2 x7.1/\(aT2 (ep l x4) (ya (S.akE l x2) (toNat (aVl l x4)))).1=S.uAt l x7.2/\[]=S.afS l (S.uAt l x7.2) x7.1)/\(x7.1<=aF9 l/\x7.2<S.uL l)/\S.Lr l x2=S.Lr l x7.2) (∀(x8:Nat×Nat),aYQ ((x8.1<=aF9 l/\x8.2<S.uL l)/\S.Lr l x2=S.Lr l x8.2) (decide ((x8.1:Int)<aF9 l)) x8.1 (aF9 l) (q86 0 x8.1 (length (aKG l x8)) (aUs x8<length (aKG l x8)) (oH (decide (ya (aKG l x8) (aUs x8)<HK (azU l x8))) 0 x8.1 (length (aKG l x8)) (aUs x8<length (aKG l x8)/\aVI (ya (aKG l x8) (aUs x8)) (HK (azU l x8))) True/\mY (Ce (decide (ya (aKG l x8) (aUs x8)<HK (azU l x8))) (aT2 (azU l x8) (ya (aKG l x8) (aUs x8))).1 (S.uAt l x8.2)) (aVI x8.1 (length (aKG l x8))) (aUs x8<length (aKG l x8)/\q86 0 (ya (aKG l x8) (aUs x8)) (HK (azU l x8)) (aZy (S.afS l (S.uAt l x8.2) x8.1) (aT2 (azU l x8) (ya (aKG l x8) (aUs x8))).2) (q86 0 x8.1 (length (aKG l x8)) (aUs x8<length (aKG l x8)) (q26 (ya (aKG l x8) (aUs x8)+1)/\q86 0 x8.1 (length (aKG l x8)) (aUs x8<length (aKG l x8)) (q26 (x8.1+1)/\(∃(x9:Nat×Nat),((x8.1:Int)+1=x9.1/\List.set (aKG l x8) (aUs x8) (ya (aKG l x8) (aUs x8)+1)=S.eu l x9.2 x9.1/\S.uAt l x8.2=S.uAt l x9.2/\S.afS l (S.uAt l x8.2) x8.1++(aT2 (azU l x8) (ya (aKG l x8) (aUs x8))).2=S.afS l (S.uAt l x9.2) x9.1)/\((x9.1<=aF9 l/\x9.2<S.uL l)/\S.Lr l x2=S.Lr l x9.2)/\q44 (S.len l) x9.1 (S.ag (S.len l) x8.1)))))) (x8.1+1) (∃(FE:Nat×Nat),((x8.1:Int)+1=FE.1/\aKG l x8=S.eu l FE.2 FE.1/\S.uAt l x8.2=S.uAt l FE.2/\S.afS l (S.uAt l x8.2) x8.1=S.afS l (S.uAt l FE.2) FE.1)/\((FE.1<=aF9 l/\FE.2<S.uL l)/\S.Lr l x2=S.Lr l FE.2)/\q44 (S.len l) FE.1 (S.ag (S.len l) x8.1)))) (aWJ (length (S.Lr l x2)+length [(S.uAt l x8.2,S.afS l (S.uAt l x8.2) x8.1)])) (∃(x11:Nat),(S.Lr l x2++[(S.uAt l x8.2,S.afS l (S.uAt l x8.2) x8.1)]=S.Lr l x11/\aKG l x8=S.akE l x11)/\x11<=S.uL l/\q53 (S.uL l) x11 x2))))))):=by
 refine aE ?_;have PN:Vg.hlen l:=hf.1.1;with_reducible and_intros
 iterate 2 omega
 . have:=hp.1;omega
 . refine⟨0,?_⟩;with_reducible and_intros
   rfl;exact S.aOR l;omega
 intro x1 h2;refine⟨?_,?_⟩
 . refine⟨(0,x1),?_⟩;with_reducible and_intros
   omega;rfl;iterate 2 omega
   rfl
 intro x3 h4;refine V.dI (λh5=>?_) λde=>?_
 . with_reducible and_intros
   iterate 3 omega
   iterate 2
    . rw [S.agq];omega
   . intro h6;try simp only [dt,tn] at h6
     with_reducible and_intros
     iterate 2 omega
     refine⟨(x3.1+1,x3.2),?_⟩;try dsimp only
     with_reducible and_intros
     omega
     . rw [<-h4.2];exact S.aNx h6
     iterate 2 omega
     exact h4.2;simp only [S.ag,S.len];omega
   intro h7;try simp only [df,tn] at h7
   with_reducible and_intros
   . intro h8;try simp only [dt] at h8
     trivial
   . intro h9;try simp only [df] at h9
     with_reducible and_intros
     omega
     iterate 2
      . rw [S.agq];omega
     exact S.aNw l _ _;exact S.aSh h5 h7;omega
     . rw [<-h4.2] at h9 |-;first|exact(S.age h4.1.1 h9).1|exact(S.age h4.1.1 h9).2.1|exact(S.age h4.1.1 h9).2.2.1|exact(S.age h4.1.1 h9).2.2.2
     omega
     iterate 2
      . rw [<-h4.2] at h9 |-;first|exact(S.age h4.1.1 h9).1|exact(S.age h4.1.1 h9).2.1|exact(S.age h4.1.1 h9).2.2.1|exact(S.age h4.1.1 h9).2.2.2
     exact S.aNw l _ _;rw [<-h4.2] at h9 |-;first|exact(S.age h4.1.1 h9).1|exact(S.age h4.1.1 h9).2.1|exact(S.age h4.1.1 h9).2.2.1|exact(S.age h4.1.1 h9).2.2.2
   iterate 2 omega
   refine⟨(x3.1+1,x3.2),?_⟩;try dsimp only
   with_reducible and_intros
   omega
   . rw [<-h4.2];exact S.aNy h7
   iterate 2 omega
   exact h4.2;simp only [S.ag,S.len];omega
 refine V.dI (λfC=>?_) λgY=>?_
 . rw [<-h4.2] at fC;exact S.aQK hp h4.1.1 de fC
 with_reducible and_intros
 omega;first|exact(S.age h4.1.1 gY).1|exact(S.age h4.1.1 gY).2.1|exact(S.age h4.1.1 gY).2.2.1|exact(S.age h4.1.1 gY).2.2.2
 omega
 iterate 2
  . rw [<-h4.2] at gY |-;first|exact(S.age h4.1.1 gY).1|exact(S.age h4.1.1 gY).2.1|exact(S.age h4.1.1 gY).2.2.1|exact(S.age h4.1.1 gY).2.2.2
 exact S.aNw l _ _
 . rw [<-h4.2] at gY |-;first|exact(S.age h4.1.1 gY).1|exact(S.age h4.1.1 gY).2.1|exact(S.age h4.1.1 gY).2.2.1|exact(S.age h4.1.1 gY).2.2.2
 . refine⟨(0,x1),?_⟩;with_reducible and_intros
   omega;exact S.aQJ l x1
   . rw [<-h4.2] at gY |-;exact(S.aLd hp h4.1.1 de gY).2
   rfl;omega
   . rw [<-h4.2] at gY;exact(S.aLd hp h4.1.1 de gY).1
   rfl
 intro JB jZ;refine V.dI (λCq=>?_) λh20=>?_
 . with_reducible and_intros
   iterate 3 omega
   exact(S.aqG Cq).1;exact(S.aqG Cq).2
   . intro zP;try simp only [dt,tn] at zP
     with_reducible and_intros
     omega;exact(S.aqG Cq).1;exact(S.aqG Cq).2;exact(S.aNz Cq).1;exact zP
   . intro HV;try simp only [df,tn] at HV
     trivial
   . intro QW;try simp only [V.abe,dt,tn] at QW
     with_reducible and_intros
     omega;exact(S.aqG Cq).1;exact(S.aqG Cq).2;exact(S.aNz Cq).1;exact QW.1
     . have q:=S.aOQ hp (k:=JB.2) Cq;exact X? (Nat.add_le_add q.1 q.2) (by decide)
     omega;exact(S.aqG Cq).1;exact(S.aqG Cq).2;exact(S.aPV hp Cq).1;exact(S.aPV hp Cq).2;omega;exact(S.aqG Cq).1;exact(S.aqG Cq).2;iterate 2 omega
     refine⟨(JB.1+1,JB.2),?_⟩;try dsimp only
     with_reducible and_intros
     omega;exact(S.aNA hp jZ.1.2 Cq QW.1 QW.2).1;rfl;exact(S.aNA hp jZ.1.2 Cq QW.1 QW.2).2;iterate 2 omega
     exact jZ.2;simp only [S.ag,S.len];omega
   intro h19;try simp only [V.ze,df,tn] at h19
   with_reducible and_intros
   iterate 2 omega
   refine⟨(JB.1+1,JB.2),?_⟩;try dsimp only
   with_reducible and_intros
   omega;exact(S.aLe hp jZ.1.2 Cq (λq=>h19.elim (λz=>z q.1) (λz=>z q.2))).1;rfl;exact(S.aLe hp jZ.1.2 Cq (λq=>h19.elim (λz=>z q.1) (λz=>z q.2))).2;iterate 2 omega
   exact jZ.2;simp only [S.ag,S.len];omega
 refine⟨?_,?_⟩
 . have:=S.aSi hp h2;simp;omega
 refine⟨(x1+1),?_⟩;with_reducible and_intros
 . have e:=S.aJI jZ.2 h2 (Nat.le_of_lt jZ.1.2);subst e;exact(S.aNB jZ.1.1 h20 jZ.1.2).1
 . have e:=S.aJI jZ.2 h2 (Nat.le_of_lt jZ.1.2);subst e;exact(S.aNB jZ.1.1 h20 jZ.1.2).2
 . have e:=S.aJI jZ.2 h2 (Nat.le_of_lt jZ.1.2);first|omega|(omega)
 have e:=S.aJI jZ.2 h2 (Nat.le_of_lt jZ.1.2);first|omega|(simp [S.ag];omega)
def aPb(l:List (Int×Int×List (B8×List Int)))(hp:S.ala l)(hf:Vg.gq J.amX l):q29 (YG (length l)) (0=(S.abr l).1.1) (0=(S.abr l).1.2.1/\[]=(S.abr l).1.2.2/\1=(S.abr l).2) (∃(x1:Nat),(0:Int)=x1/\S.apF l x1) (∀(x2:Nat),aYQ (S.apF l x2) (decide ((x2:Int)<length l)) x2 (length l) (S.bn (ai7 l x2).2.2/\mY (Bool.not (S.amC (ai7 l x2).1 (ai7 l x2).2.1 (ai7 l x2).2.2)) (0=(S.abr l).1.1) (0=(S.abr l).1.2.1/\[]=(S.abr l).1.2.2/\1=(S.abr l).2) (x2+1) (∃(x3:Nat),aYP x2 x3 (S.apF l x3) (S.len l))) (∃(x4:Nat),(1:Int)=x4+1/\S.apV l x4) (∀(x5:Nat),aYQ (S.apV l x5) (decide ((x5:Int)+1<length l)) (x5+1) (length l) (aZQ (x5+1-1) (length l) (mY (q19 (getD l (toNat (x5+1)) (0,0,[])).1 (getD l (toNat (x5+1-1)) (0,0,[])).2.1) (0=(S.abr l).1.1) (0=(S.abr l).1.2.1/\[]=(S.abr l).1.2.2/\7=(S.abr l).2) (x5+1+1) (∃(x6:Nat),(x5:Int)+1+1=x6+1/\S.apV l x6/\q53 (S.len l) x6 x5))) ((0:Int)<=0/\(0:Int)<length l) (q97 (length l-1) 0 (length l) (S.apu l) ((getD l (toNat 0) (0,0,[])).1=(S.abr l).1.1/\(getD l (toNat (length l-1)) (0,0,[])).2.1=(S.abr l).1.2.1/\S.Ux l=(S.abr l).1.2.2/\0=(S.abr l).2)))):=by
 refine aE ?_;have PN:Vg.hlen l:=hf.1.1;refine⟨?_,?_⟩
 . simp_all[dt,S.aQL]
 intro h2;simp only [df] at h2;refine⟨?_,?_⟩
 . grind[S.aOS]
 intro x3 h4;refine V.dI (λh5=>?_) λh8=>?_
 . with_reducible and_intros
   iterate 2 omega
   exact hp.2 _ (S.I1 (show x3<l.length by omega))
   . intro h6;try simp only [nt] at h6
     refine⟨?_,?_,?_,?_⟩;iterate 3 (rw [S.aNC h5 h6])
     rw [S.aNC h5 h6]
   intro h7;try simp only [nf] at h7
   with_reducible and_intros
   iterate 2 omega
   refine⟨(x3+1),?_⟩;try dsimp only
   refine⟨?_,?_,?_⟩;omega;exact S.aOT h4 h5 h7;simp only [S.ag,S.len];omega
 refine⟨?_,?_⟩
 . refine⟨0,?_⟩;refine⟨?_,?_⟩
   . omega
   exact S.aOU h4 h8
 intro x9 de;refine V.dI (λfC=>?_) λjZ=>?_
 . with_reducible and_intros
   iterate 6 omega
   . intro gY;try simp only [nt,df] at gY
     refine⟨?_,?_,?_,?_⟩;iterate 3 (rw [S.aND de fC gY])
     rw [S.aND de fC gY]
   intro jM;try simp only [nf,dt] at jM
   with_reducible and_intros
   iterate 2 omega
   refine⟨(x9+1),?_⟩;try dsimp only
   refine⟨?_,?_,?_⟩;omega;exact S.aOV de fC jM;simp only [S.ag,S.len];omega
 with_reducible and_intros
 iterate 6 omega
 exact S.aQN de
 iterate 2
  . rw [S.aKr de jZ];rfl
 rw [S.aKr de jZ];grind[S.aKr]
def aPc(s1 s2:Int)(hf:Vg.gq J.ay7 (s1,s2)):q17 (q73 s1 0 (q73 s2 0 (decide (s2<=s1)))) (-1=S.aAS s1 s2) (q26 (s2-s1)/\(∃(x1:Nat),(s2-s1=x1/\0=S.lg (s2-s1)-S.lg x1)/\S.akA s1 s2 x1)/\(∀(x2:Nat),S.akA s1 s2 x2->fX (decide ((1:Int)<x2)) (q26 (S.lg (s2-s1)-S.lg x2+1)) ((0:Int)<=x2/\(0:Int)<2/\(∃(x3:Nat),((x2:Int)/2=x3/\S.lg (s2-s1)-S.lg x2+1=S.lg (s2-s1)-S.lg x3)/\S.akA s1 s2 x3/\x3<x2)) (S.lg (s2-s1)-S.lg x2=S.aAS s1 s2))):=by
 refine aE ?_;have anq:Vg.hint s2:=hf.2.1;refine⟨?_,?_⟩
 . intro h1;simp at h1;exact S.aNt h1
 intro h2;simp at h2;with_reducible and_intros
 iterate 2 omega
 . refine⟨(toNat (s2-s1)),?_⟩;grind[S.aJY,S.aOO]
 intro x3 h4;refine⟨?_,?_⟩
 . intro h5;simp at h5;with_reducible and_intros
   . have q3:=S.aPU (s2-s1);have q4:=S.aNu h4;have q5:=S.aNs (x3:Int) w!;omega
   . have q1:=S.aNs (s2-s1) w!;have q2:=S.aOP (n:=(x3:Int)) h5;omega
   iterate 2 omega
   refine⟨(toNat ((↑x3:Int)/(2:Int))),?_⟩;with_reducible and_intros
   omega;exact S.aNv h5;grind[S.aKq];omega
 grind[df,S.aMu]
def aPd(l:List (Int×Int))(hf:Vg.gq J.aHW l):q26 (length l-2)/\(∃(x1:Nat),(length l:Int)-2=S.len l-2-x1/\S.ajU l x1)/\(∀(x2:Nat),aYQ (S.ajU l x2) (decide ((0:Int)<=S.len l-2-x2)) (S.len l-2-x2) (length l) (gE (aZQ (S.len l-2-x2+1) (length l) (gE (mY (decide (S.aAS (getD l (toNat (S.len l-2-x2)) (0,0)).1 (getD l (toNat (S.len l-2-x2)) (0,0)).2<=S.aAS (getD l (toNat (S.len l-2-x2+1)) (0,0)).1 (getD l (toNat (S.len l-2-x2+1)) (0,0)).2)) (S.len l-2-x2=(S.zu l).1) (true=(S.zu l).2) (S.len l-2-x2-1) (∃(x3:Nat),(S.len l:Int)-2-x2-1=S.len l-2-x3/\S.ajU l x3/\q53 (S.len l) x3 x2))))) (0=(S.zu l).1) (false=(S.zu l).2)):=by
 refine aE ?_;have PN:Vg.hlen l:=hf.1.1;with_reducible and_intros
 iterate 2 omega
 grind[S.ag,S.len,S.n_0];intro x1 h2;refine⟨?_,?_⟩
 . intro h3;simp only [dt] at h3;with_reducible and_intros
   omega;grind[S.ag,S.len];trivial;omega;grind[S.ag,S.len];omega;grind[S.ag,S.len];trivial
   . intro h4;simp only [dt] at h4;refine⟨?_,?_⟩
     . rw [S.aNE h2 h3 h4]
     rw [S.aNE h2 h3 h4]
   intro h5;simp only [df] at h5;with_reducible and_intros
   omega;grind[S.ag,S.len];refine⟨(x1+1),?_⟩;refine⟨?_,?_,?_⟩;omega;exact S.aSj h2 h3 h5;grind[S.ag,S.len]
 grind[df,S.aQO]
def aPe(l:List (Int×Int×List (B8×List Int)))(hp:S.small l)(hf:Vg.gq J.amX l):(∃(x1:Nat),((0:Int)=x1/\[]=S.ahz l x1)/\x1<=length l)/\(∀(x2:Nat),x2<=length l->oH (decide ((x2:Int)<length l)) 0 x2 (length l) (nb (length (S.ahz l x2)+length [((aoH l x2).1,(aoH l x2).2.1)])/\q81 x2 (∃(x3:Nat),aZz x2 x3 (S.ahz l x2++[((aoH l x2).1,(aoH l x2).2.1)]=S.ahz l x3) (x3<=length l) (S.len l))) (S.ahz l x2=S.fL l)):=by
 refine aE ?_;have PN:Vg.hlen l:=hf.1.1;clear hf;refine⟨?_,?_⟩
 . grind[S.ahz,S.fL]
 intro x1 h2;refine⟨?_,?_⟩
 . intro h3;try simp only [dt] at h3
   with_reducible and_intros
   iterate 2 omega
   . have:=S.aJJ l x1;simp only [C?,S.small] at *;omega
   iterate 2 omega
   refine⟨(x1+1),?_⟩;try dsimp only
   with_reducible and_intros
   omega;exact S.aJZ h3;omega;simp only [S.ag,S.len] at *;omega
 grind[df,S.aKs]
def ar7(l:B8)(hp:S.small l):(l=[]->[]=l)/\aZU q80 l ([]++l=l):=by
 refine aE ?_;refine⟨?_,?_,?_⟩;grind
 . simp [S.small,Vg.ur,ln] at *;omega
 rfl
def ar8(l:List (B8×List Int))(hp:S.small l):(l=[]->[]=l)/\aWJ (length (Vg.ur (Prod B8 (List Int)))+length l)/\[]++l=l:=by
 refine aE ?_;refine⟨?_,?_,?_⟩;grind
 . simp [S.small,Vg.ur,ln] at *;omega
 rfl
def ar9(a b:List Int)(hf:Vg.gq J.amP (a,b)):anl (q19 (q60 a) (q60 b)) (S.I4 a b) ((∃(x1:Nat),(0:Int)=x1/\S.Hn a b x1)/\(∀(x2:Nat),S.Hn a b x2->oH (decide (x2<q60 a)) 0 x2 (q60 a) (((0:Int)<=x2/\x2<q60 b)/\aRJ (q19 (getD a (toNat x2) 0) (getD b (toNat x2) 0)) (S.I4 a b) x2 (∃(x3:Nat),aYP x2 x3 (S.Hn a b x3) (S.len a))) (true=S.I4 a b))):=by
 refine aE ?_;have azs:Vg.hlen a:=hf.1.1;refine⟨?_,?_⟩
 . intro h1;simp at h1;exact(Y? (S.XK h1)).symm
 intro h2;simp at h2;refine⟨?_,?_⟩
 . refine⟨(nat_lit 0:Nat),?_⟩;dsimp only;refine⟨?_,?_⟩
   . omega
   exact S.alm h2
 intro x3 h4;refine V.dI (λh5=>?_) λh8=>?_
 . with_reducible and_intros
   iterate 4 omega
   . intro h6;simp at h6;exact(Y? (S.XL 0 h6)).symm
   intro h7;simp at h7;with_reducible and_intros
   iterate 2 omega
   refine⟨(x3+nat_lit 1),?_⟩;dsimp only;refine⟨?_,?_,?_⟩;omega;exact S.Sk 0 h4 h5 h7;simp [S.ag,S.len,S.gX,S.sY] at *;omega
 exact(K? (S.XJ h4 h8)).symm
def asa(a1:B8)(a2:List Int)(b1:B8)(b2:List Int):aP6 (decide (a1=b1))/\cK (decide (a1=b1)) (S.I4 a2 b2)=S.BV a1 a2 b1 b2:=by
 refine aE ?_;simp_all[dt,df,S.BV,S.I4,decide]
def asb(a b:List (B8×List Int))(hf:Vg.Row.ok (Vg.TA.dp [.dR (.slice [.str,.slice [.int .i64]]),.dR (.slice [.str,.slice [.int .i64]]),.fn (.func 214) [] []]) (a,b)):anl (q19 (HK a) (HK b)) (S.sI a b) ((∃(x1:Nat),(0:Int)=x1/\S.Hb a b x1)/\(∀(x2:Nat),S.Hb a b x2->oH (decide (x2<HK a)) 0 x2 (HK a) (((0:Int)<=x2/\x2<HK b)/\gE (aRJ (Bool.not (S.BV (getD a (toNat x2) ([],[])).1 (getD a (toNat x2) ([],[])).2 (getD b (toNat x2) ([],[])).1 (getD b (toNat x2) ([],[])).2)) (S.sI a b) x2 (∃(x3:Nat),aYP x2 x3 (S.Hb a b x3) (S.len a)))) (true=S.sI a b))):=by
 refine aE ?_;have azs:Vg.hlen a:=hf.1.1;refine⟨?_,?_⟩
 . intro h1;simp at h1;exact(Y? (S.XK h1)).symm
 intro h2;simp at h2;refine⟨?_,?_⟩
 . refine⟨(nat_lit 0:Nat),?_⟩;dsimp only;refine⟨?_,?_⟩
   . omega
   exact S.alm h2
 intro x3 h4;refine V.dI (λh5=>?_) λh8=>?_
 . with_reducible and_intros
   iterate 4 omega
   trivial
   . intro h6;simp at h6;exact(Y? (S.XL ([],[]) (S.aqF h6))).symm
   intro h7;simp at h7;with_reducible and_intros
   iterate 2 omega
   refine⟨(x3+nat_lit 1),?_⟩;dsimp only;refine⟨?_,?_,?_⟩;omega;exact S.Sk ([],[]) h4 h5 (S.aqE h7);simp [S.ag,S.len,S.gX,S.sY] at *;omega
 exact(K? (S.XJ h4 h8)).symm
def asc(a b:List (B8×List Int)):gE (S.sI a b=S.sI a b):=by
 refine aE ?_;grind
def asd(y1:List B8)(y2:List (Int×Int×List (B8×List Int))):anl (q73 1000 (pb y1) (decide ((64:Int)<length y2))) (S.bG y1 y2) ((∃(x1:Nat),(0:Int)=x1/\S.Ow y1 y2 x1)/\(∀(x2:Nat),aYQ (S.Ow y1 y2 x2) (decide (x2<pb y1)) x2 (pb y1) (aRJ (a0b 2000 (lG y1 x2)) (S.bG y1 y2) x2 (∃(x3:Nat),aYP x2 x3 (S.Ow y1 y2 x3) (S.len y1))) (∃(x4:Nat),((0:Int)=x4/\0=S.ig y2 x4)/\S.BT y1 y2 x4) (∀(x5:Nat),S.BT y1 y2 x5->oH (decide ((x5:Int)<length y2)) 0 x5 (length y2) (anl (q30 (q19 (apM y2 x5).1 (S.ig y2 x5)) (q30 (decide ((apM y2 x5).2.1<=S.ig y2 x5)) (decide (pb y1<(apM y2 x5).2.1)))) (S.bG y1 y2) (q98 (aP6 (z7 (S.cm y1 (apM y2 x5).1 (apM y2 x5).2.1).2)) (aRJ (aL5 (z7 (S.cm y1 (apM y2 x5).1 (apM y2 x5).2.1).2) (S.sI (S.cm y1 (apM y2 x5).1 (apM y2 x5).2.1).1.2.2 (apM y2 x5).2.2)) (S.bG y1 y2) x5 (∃(x6:Nat),((x5:Int)+1=x6/\(apM y2 x5).2.1=S.ig y2 x6)/\S.BT y1 y2 x6/\q53 (S.len y2) x6 x5)))) (true=S.bG y1 y2)))):=by
 refine aE ?_;refine⟨?_,?_⟩
 . intro h1;simp at h1;exact S.aGQ h1
 intro h2;simp at h2;refine⟨?_,?_⟩
 . refine⟨(nat_lit 0:Nat),?_⟩;dsimp only;refine⟨?_,?_⟩
   . omega
   exact⟨w!,w!,S.aqt _⟩
 intro x3 h4;refine V.dI (λh5=>?_) λh8=>?_
 . with_reducible and_intros
   iterate 2 omega
   . intro h6;try simp only [dt,tn] at h6
     exact S.aGR h5 h6
   intro h7;try simp only [df,tn] at h7
   with_reducible and_intros
   iterate 2 omega
   refine⟨(x3+nat_lit 1),?_⟩;try dsimp only
   refine⟨?_,?_,?_⟩;omega;exact⟨h4.1,h4.2.1,S.Ö h4.2.2 h5 w!⟩;simp only [S.ag,S.len,S.gX,S.sY] at *;omega
 refine⟨?_,?_⟩
 . refine⟨(nat_lit 0:Nat),?_⟩;dsimp only;with_reducible and_intros
   omega;rfl;exact S.aln h4 h8
 intro x9 de;refine⟨?_,?_⟩
 . intro fC;simp only [dt] at fC;with_reducible and_intros
   iterate 2 omega
   . intro gY;simp at gY;exact S.abv fC (S.aGS gY)
   intro jM;simp only [V.ajY,nf,dt,tn,df] at jM;with_reducible and_intros
   trivial
   . intro jZ;trivial
   . intro Cq;trivial
   . intro zP;simp at zP;exact S.abv fC (S.aGT de jM zP)
   intro HV;simp at HV;with_reducible and_intros
   iterate 2 omega
   refine⟨(x9+nat_lit 1),?_⟩;try dsimp only
   with_reducible and_intros
   omega;exact S.ahn _ _;exact S.alo de fC (S.aGU de jM HV);simp [S.ag,S.len,S.gX,S.sY] at *;omega
 grind[df,S.aqD]
def ase(y1:List B8)(y2:List (Int×Int×List (B8×List Int))):gE (q29 (Bool.not (S.bG y1 y2)) ([]=(S.ao y1 y2).1) ([]=(S.ao y1 y2).2) (y1=(S.ao y1 y2).1) (y2=(S.ao y1 y2).2)):=by
 refine aE ?_;grind[nt,S.alp,nf,S.me]
def asf(y1:List B8)(y2:List (Int×Int×List (B8×List Int)))(hf:Vg.gq J.aHZ (y1,y2)):q17 (YG (length y2)) (0=S.cO y2) (aZQ (length y2-1) (length y2) ((getD y2 (toNat (length y2-1)) (0,0,[])).2.1=S.cO y2)):=by
 refine aE ?_;have JC:Vg.hlen y2:=hf.2.1.1;refine V.dI (λh1=>?_) λh2=>?_
 . exact S.aAU h1
 with_reducible and_intros
 iterate 4 omega
 exact S.aAV h2
def asg(y1:List B8)(y2:List (Int×Int×List (B8×List Int)))(hp:S.wo y1 y2)(hf:Vg.gq J.aHZ (y1,y2)):a0G 0 (pb y1) ((24:Nat):Int)/\a0G 0 (length y2) ((40:Nat):Int)/\(∃(x1:Nat),((0:Int)=x1/\replicate (toNat (pb y1)) q80=S.eo q80 y1 x1)/\S.gX y1 x1)/\(∀(x2:Nat),aYQ (S.gX y1 x2) (decide (x2<pb y1)) x2 (pb y1) (S.small (HH y1 (toNat x2))/\q86 0 x2 (length (S.eo q80 y1 x2)) (toNat x2<length (S.eo q80 y1 x2)) (q81 x2 (∃(x3:Nat),aZz x2 x3 (List.set (S.eo q80 y1 x2) (toNat x2) (HH y1 (toNat x2))=S.eo q80 y1 x3) (S.gX y1 x3) (S.len y1)))) (∃(x4:Nat),((0:Int)=x4/\replicate (toNat (length y2)) (0,0,[])=S.eo (0,0,[]) y2 x4)/\S.gX y2 x4) (∀(x5:Nat),aYQ (S.gX y2 x5) (decide ((x5:Int)<length y2)) x5 (length y2) (S.small (axQ y2 x5).2.2/\q86 0 x5 (length (S.eo (0,0,[]) y2 x5)) (toNat x5<length (S.eo (0,0,[]) y2 x5)) ((∃(x6:Nat×Nat×List S.aY),((0:Int)=x6.1/\List.set (S.eo (0,0,[]) y2 x5) (toNat x5) ((axQ y2 x5).1,(axQ y2 x5).2.1,[])=x6.2.2/\toNat x5=x6.2.1/\(axQ y2 x5).2.2=(S.ba y2 x6.2.1).2.2)/\S.wu y2 x6.2.2 x6.2.1 x6.1/\(x5:Int)=x6.2.1)/\(∀(x7:Nat×Nat×List S.aY),aYQ (S.wu y2 x7.2.2 x7.2.1 x7.1/\(x5:Int)=x7.2.1) (decide (x7.1<HK (axQ y2 x5).2.2)) x7.1 (HK (axQ y2 x5).2.2) (q86 0 x5 (length x7.2.2) (toNat x5<length x7.2.2) (toNat x5=x7.2.1/\S.small (getD (axQ y2 x5).2.2 (toNat x7.1) ([],[])).2/\q86 0 x7.1 (length (S.ba y2 x7.2.1).2.2) (toNat x7.1<length (S.ba y2 x7.2.1).2.2) (q26 (x7.1+1)/\(∃(x8:Nat×Nat×List S.aY),((x7.1:Int)+1=x8.1/\x7.2.2=x8.2.2/\x7.2.1=x8.2.1/\List.set (S.ba y2 x7.2.1).2.2 (toNat x7.1) ((getD (S.ba y2 x7.2.1).2.2 (toNat x7.1) ([],[])).1,(getD (axQ y2 x5).2.2 (toNat x7.1) ([],[])).2)=(S.ba y2 x8.2.1).2.2)/\(S.wu y2 x8.2.2 x8.2.1 x8.1/\(x5:Int)=x8.2.1)/\q44 (S.sY y2 x8.2.1) x8.1 (S.ag (S.sY y2 x7.2.1) x7.1))))) (x7.2.1<length x7.2.2) (q81 x5 (∃(x9:Nat),aZz x5 x9 (List.set x7.2.2 x7.2.1 ((getD x7.2.2 x7.2.1 (0,0,[])).1,(getD x7.2.2 x7.2.1 (0,0,[])).2.1,(S.ba y2 x7.2.1).2.2)=S.eo (0,0,[]) y2 x9) (S.gX y2 x9) (S.len y2)))))) (S.eo q80 y1 x2=y1) (S.eo (0,0,[]) y2 x5=y2))):=by
 refine aE ?_;have ğ:Vg.hlen y1:=hf.1.1;have JC:Vg.hlen y2:=hf.2.1.1;clear hf;with_reducible and_intros
 iterate 2 omega
 . have:=hp.1;omega
 iterate 2 omega
 . have:=hp.2.1;omega
 grind[S.abw,S.ag,S.len,S.gX,S.sY];intro x1 h2;refine V.dI (λh3=>?_) λh4=>?_
 . with_reducible and_intros
   iterate 2 omega
   exact S.XN hp _;omega;exact(S.C2 _ h3).1;exact(S.C2 _ h3).2;iterate 2 omega
   refine⟨(x1+1),?_⟩;try dsimp only
   with_reducible and_intros
   omega;exact S.XM _ h3
   . simp only [S.ag,S.len,S.gX,S.sY] at *;omega
   simp only [S.ag,S.len,S.gX,S.sY] at *;omega
 refine⟨?_,?_⟩
 . refine⟨0,?_⟩;try dsimp only
   with_reducible and_intros
   omega;exact S.abw _ _;simp only [S.ag,S.len,S.gX,S.sY] at *;omega
 intro x5 h6;refine⟨?_,?_⟩
 . intro h7;try simp only [dt] at h7
   with_reducible and_intros
   iterate 2 omega
   exact(S.E1 hp _).1;omega;exact(S.C2 _ h7).1;exact(S.C2 _ h7).2
   . refine⟨(0,((toNat (↑x5:Int)),(List.set (S.eo ((0:Int),(0:Int),[]) y2 x5) (toNat (↑x5:Int)) ((getD y2 (toNat (↑x5:Int)) ((0:Int),(0:Int),[])).1,((getD y2 (toNat (↑x5:Int)) ((0:Int),(0:Int),[])).2).1,[])))),?_⟩;try dsimp only
     with_reducible and_intros
     omega;rfl;omega;rfl;exact S.aAW h7;omega
   intro x8 h9;refine⟨?_,?_⟩
   . intro de;try simp only [dt,tn] at de
     with_reducible and_intros
     omega;trivial;omega
     . have q:=h9.1.2.2.1;have q3:=h9.2;omega
     . have q:=h9.1.2.2.1;have q2:=h9.1.1;have q3:=h9.2;omega
     omega;exact(S.E1 hp _).2 _;omega
     iterate 2
      . have e:x5=x8.2.1:=w!;subst e;first|exact de|exact Int.ofNat_lt.1 de
     omega
     . have q:=(S.E1 hp x5).1;exact S.ahp q de
     refine⟨((x8.1+1),((x8.2.1),(x8.2.2))),?_⟩;try dsimp only
     with_reducible and_intros
     omega;rfl;omega
     . have e:x5=x8.2.1:=w!;subst e;exact S.CD _ _ _
     . have e:x5=x8.2.1:=w!;subst e;exact S.ahq h9.1 de
     omega;have e:x5=x8.2.1:=w!;subst e;exact S.ahr de
   intro fC;with_reducible and_intros
   . have q:=h9.1.2.2.1;have q3:=h9.2;omega
   iterate 2 omega
   refine⟨(x5+1),?_⟩;try dsimp only
   with_reducible and_intros
   omega
   . have e:x5=x8.2.1:=w!;subst e;exact S.alq h9.1
   . simp only [S.ag,S.len,S.gX,S.sY] at *;omega
   simp only [S.ag,S.len,S.gX,S.sY] at *;omega
 grind[df,S.aho]
def aPf(l:List (Int×Int×List (B8×List Int)))(i m s1 s2:Int)(s3:List (B8×List Int))(hp:S.axS l i m):(0<=i/\i=i/\i<=length l)/\0<length [(s1,s2,s3)]/\aWJ (length (take (toNat i) l)+length [(s1,s2,s3)])/\aFu (i+m) 0 (length l) (aWJ (length (take (toNat i) l++[(s1,s2,s3)])+length (drop (toNat (i+m)) l))/\take (toNat i) l++[(s1,s2,s3)]++drop (toNat (i+m)) l=S.Oo l (toNat i) (toNat m) (s1,s2,s3)):=by
 refine aE ?_;with_reducible and_intros
 exact hp.2.1;rfl
 . obtain⟨q1,q2,q3,q4⟩:=hp;omega
 grind
 . obtain⟨q1,q2,q3,q4⟩:=hp;grind
 iterate 4
  . obtain⟨q1,q2,q3,q4⟩:=hp;omega
 . obtain⟨q1,q2,q3,q4⟩:=hp;grind
 . unfold S.Oo;rw [show(i+m).toNat=i.toNat+m.toNat by have:=hp.2;omega]
def ash(y1:List B8)(y2:List (Int×Int×List (B8×List Int))):gE (gE (S.cO (S.ao y1 y2).2=S.mc y1 y2)):=by
 refine aE ?_;refine⟨?_,?_,?_⟩;iterate 2 trivial
 rfl
def asi(y1:List B8)(y2:List (Int×Int×List (B8×List Int)))(d:B8):gE (fX (a0b 2000 d) ((S.ao y1 y2).1=(S.cP y1 y2 d).1.1) ((S.ao y1 y2).2=(S.cP y1 y2 d).1.2/\1=(S.cP y1 y2 d).2) (dj (decide ((1000:Int)<=length (S.ao y1 y2).1)) ((S.ao y1 y2).1=(S.cP y1 y2 d).1.1) ((S.ao y1 y2).2=(S.cP y1 y2 d).1.2/\3=(S.cP y1 y2 d).2) (S.wo (S.ao y1 y2).1 (S.ao y1 y2).2) (S.small d) (ajb (length (S.ao y1 y2).1+length [d])/\(S.ao y1 y2).1++[d]=(S.cP y1 y2 d).1.1/\(S.ao y1 y2).2=(S.cP y1 y2 d).1.2/\0=(S.cP y1 y2 d).2))):=by
 refine aE ?_;refine⟨?_,?_,?_⟩;trivial;simp_all[dt,S.aGV]
 intro h2;refine⟨?_,?_⟩
 . simp_all[dt,S.aGW]
 grind[df,S.KE,S.small,S.yk,List.length_singleton,S.ayC]
def asj(y1:List B8)(y2:List (Int×Int×List (B8×List Int))):gE (gE (HN (decide (S.cO (S.ao y1 y2).2=pb (S.ao y1 y2).1)) ((S.ao y1 y2).1=(S.bY y1 y2).1.1) ((S.ao y1 y2).2=(S.bY y1 y2).1.2/\5=(S.bY y1 y2).2) (decide ((64:Int)<=length (S.ao y1 y2).2)) ((S.ao y1 y2).2=(S.bY y1 y2).1.2/\3=(S.bY y1 y2).2) True (dj (z7 (S.cm (S.ao y1 y2).1 (S.cO (S.ao y1 y2).2) (pb (S.ao y1 y2).1)).2) ((S.ao y1 y2).1=(S.bY y1 y2).1.1) ((S.ao y1 y2).2=(S.bY y1 y2).1.2/\(S.cm (S.ao y1 y2).1 (S.cO (S.ao y1 y2).2) (pb (S.ao y1 y2).1)).2=(S.bY y1 y2).2) (S.wo (S.ao y1 y2).1 (S.ao y1 y2).2) (aWJ (length (S.ao y1 y2).2+length [((S.cm (S.ao y1 y2).1 (S.cO (S.ao y1 y2).2) (pb (S.ao y1 y2).1)).1.1,(S.cm (S.ao y1 y2).1 (S.cO (S.ao y1 y2).2) (pb (S.ao y1 y2).1)).1.2.1,(S.cm (S.ao y1 y2).1 (S.cO (S.ao y1 y2).2) (pb (S.ao y1 y2).1)).1.2.2)])) ((S.ao y1 y2).1=(S.bY y1 y2).1.1/\(S.ao y1 y2).2++[((S.cm (S.ao y1 y2).1 (S.cO (S.ao y1 y2).2) (pb (S.ao y1 y2).1)).1.1,(S.cm (S.ao y1 y2).1 (S.cO (S.ao y1 y2).2) (pb (S.ao y1 y2).1)).1.2.1,(S.cm (S.ao y1 y2).1 (S.cO (S.ao y1 y2).2) (pb (S.ao y1 y2).1)).1.2.2)]=(S.bY y1 y2).1.2/\0=(S.bY y1 y2).2)))):=by
 refine aE ?_;refine⟨?_,?_,?_,?_⟩;iterate 2 trivial
 simp_all[dt,S.aGX]
 intro h2;refine⟨?_,?_⟩
 . simp_all[dt,S.aGY]
 intro h4;refine⟨?_,?_,?_⟩;trivial;grind[nt,df,S.ayD];grind[S.KE,S.yk,List.length_singleton,S.aGZ]
def aPg(y1:List B8)(y2:List (Int×Int×List (B8×List Int)))(i m:Int):q98 (oI (decide (m<2)) (oI (decide (i<0)) (oI (decide (length (S.ao y1 y2).2<m)) (q26 (length (S.ao y1 y2).2-m))))) (dj (q30 (decide (m<2)) (q30 (decide (i<0)) (q30 (decide (length (S.ao y1 y2).2<m)) (decide (length (S.ao y1 y2).2-m<i))))) ((S.ao y1 y2).1=(S.C1 y1 y2 i m).1.1) ((S.ao y1 y2).2=(S.C1 y1 y2 i m).1.2/\1=(S.C1 y1 y2 i m).2) (q26 (i+m)) (aUD 0 i (i+m) (length (S.ao y1 y2).2)) (S.ala (azV i m y1 y2)/\dj (z7 (S.abr (azV i m y1 y2)).2) ((S.ao y1 y2).1=(S.C1 y1 y2 i m).1.1) ((S.ao y1 y2).2=(S.C1 y1 y2 i m).1.2/\(S.abr (azV i m y1 y2)).2=(S.C1 y1 y2 i m).2) (S.wo (S.ao y1 y2).1 (S.ao y1 y2).2) (S.axS (S.ao y1 y2).2 i m) ((S.ao y1 y2).1=(S.C1 y1 y2 i m).1.1/\S.Oo (S.ao y1 y2).2 (toNat i) (toNat m) ((S.abr (azV i m y1 y2)).1.1,(S.abr (azV i m y1 y2)).1.2.1,(S.abr (azV i m y1 y2)).1.2.2)=(S.C1 y1 y2 i m).1.2/\0=(S.C1 y1 y2 i m).2))):=by
 refine aE ?_;with_reducible and_intros
 trivial;grind;grind[df,S.yk];simp_all[V.IG,dt,S.aSk]
 intro h8;simp at h8;with_reducible and_intros
 omega;grind[S.yk];iterate 3 omega
 grind[S.aLf];grind[nt,df,S.aLf];simp_all[nf,dt,S.KE,S.aLf,S.aSl]
def aPh(y1:List B8)(y2:List (Int×Int×List (B8×List Int))):q98 (S.wo (S.ao y1 y2).1 (S.ao y1 y2).2) ((∃(x1:List (Int×Int)),(S.ao y1 y2).2=S.bF (S.ao y1 y2).1 x1/\S.apr y1 y2 x1)/\(∀(x2:List (Int×Int)),S.apr y1 y2 x2->S.small (S.bF (S.ao y1 y2).1 x2)/\gE (dj (Bool.not (S.zu (S.fL (S.bF (S.ao y1 y2).1 x2))).2) ((S.ao y1 y2).1=(S.yi y1 y2).1) (S.bF (S.ao y1 y2).1 x2=(S.yi y1 y2).2) (q26 ((S.zu (S.fL (S.bF (S.ao y1 y2).1 x2))).1+2)) (aUD 0 (S.zu (S.fL (S.bF (S.ao y1 y2).1 x2))).1 ((S.zu (S.fL (S.bF (S.ao y1 y2).1 x2))).1+2) (length (S.bF (S.ao y1 y2).1 x2))) (S.ala (apD y1 y2 x2)/\q29 (z7 (S.abr (apD y1 y2 x2)).2) ((S.ao y1 y2).1=(S.yi y1 y2).1) ((S.ao y1 y2).2=(S.yi y1 y2).2) (S.axS (S.bF (S.ao y1 y2).1 x2) (S.zu (S.fL (S.bF (S.ao y1 y2).1 x2))).1 2) (∃(x3:List (Int×Int)),S.Oo (S.bF (S.ao y1 y2).1 x2) (toNat (S.zu (S.fL (S.bF (S.ao y1 y2).1 x2))).1) (toNat 2) ((S.abr (apD y1 y2 x2)).1.1,(S.abr (apD y1 y2 x2)).1.2.1,(S.abr (apD y1 y2 x2)).1.2.2)=S.bF (S.ao y1 y2).1 x3/\S.apr y1 y2 x3/\length x3<length x2))))):=by
 refine aE ?_;refine⟨?_,?_,?_,?_⟩;trivial;grind[S.KE]
 . refine⟨(S.fL (S.ao y1 y2).2),?_⟩;refine⟨?_,?_⟩
   . exact(S.sx y1 y2).eq
   grind[S.aSm]
 intro x1 h2;refine⟨?_,?_,?_,?_⟩;exact S.aSn h2;trivial
 . intro h3;refine⟨?_,?_⟩
   . rfl
   grind[S.aOW]
 intro h4;simp at h4;with_reducible and_intros
 iterate 2
  . have q:=S.aLg h2 h4;omega
 simp_all[S.aLg]
 omega;simp_all[S.aLg]
 grind[S.aNG];grind[nt,df,S.aNG];grind[S.aNG]
def asl(y1:List B8)(y2:List (Int×Int×List (B8×List Int)))(hf:Vg.gq J.aHZ (y1,y2)):q98 ((0:Int)<=0/\aT5 (length (S.ao y1 y2).2) (azH ((40:Nat):Int))) ((∃(x1:Nat),((0:Int)=x1/\replicate (toNat 0) (0,0,0,[])=S.lE y1 y2 x1)/\x1<=S.gL y1 y2)/\(∀(x2:Nat),x2<=S.gL y1 y2->oH (decide ((x2:Int)<length (S.ao y1 y2).2)) 0 x2 (length (S.ao y1 y2).2) (S.bn (aKH y1 y2 x2).2.2/\aWJ (length (S.lE y1 y2 x2)+length [((ajO y1 y2 x2).1,(ajO y1 y2 x2).2.1,(ajO y1 y2 x2).2.2.1,(ajO y1 y2 x2).2.2.2)])/\q81 x2 (∃(x3:Nat),aZz x2 x3 (S.lE y1 y2 x2++[((ajO y1 y2 x2).1,(ajO y1 y2 x2).2.1,(ajO y1 y2 x2).2.2.1,(ajO y1 y2 x2).2.2.2)]=S.lE y1 y2 x3) (x3<=S.gL y1 y2) (S.gL y1 y2))) (S.lE y1 y2 x2=S.cB y1 y2))):=by
 refine aE ?_;have ğ:Vg.hlen y1:=hf.1.1;have JC:Vg.hlen y2:=hf.2.1.1;clear hf;with_reducible and_intros
 trivial;iterate 2 omega
 grind[S.yk]
 . refine⟨0,?_⟩;try dsimp only
   with_reducible and_intros
   omega;rfl;omega
 intro x1 h2;refine⟨?_,?_⟩
 . intro h3;try simp only [dt] at h3
   with_reducible and_intros
   iterate 2 omega
   exact(S.Sl y1 y2 (k:=x1) w!).2
   . have:=S.UC y1 y2 x1;simp only [C?];omega
   omega
   . have:=(S.yk y1 y2).2.1;omega
   refine⟨(x1+1),?_⟩;try dsimp only
   with_reducible and_intros
   omega;exact S.alr h3
   . simp only [S.gL,S.ag] at *;omega
   simp only [S.gL,S.ag] at *;omega
 grind[df,S.aqH]
def aPi(y1:List B8)(y2:List (Int×Int×List (B8×List Int)))(a1 a2 a3:Int)(a4:B8):fX (YG a1) True ((S.cP y1 y2 a4).1.1=(S.pA y1 y2 a1 a2 a3 a4).1.1/\(S.cP y1 y2 a4).1.2=(S.pA y1 y2 a1 a2 a3 a4).1.2/\(S.cP y1 y2 a4).2=(S.pA y1 y2 a1 a2 a3 a4).2) (fX (decide (a1=1)) True ((S.bY y1 y2).1.1=(S.pA y1 y2 a1 a2 a3 a4).1.1/\(S.bY y1 y2).1.2=(S.pA y1 y2 a1 a2 a3 a4).1.2/\(S.bY y1 y2).2=(S.pA y1 y2 a1 a2 a3 a4).2) (fX (decide (a1=2)) True ((S.C1 y1 y2 a2 a3).1.1=(S.pA y1 y2 a1 a2 a3 a4).1.1/\(S.C1 y1 y2 a2 a3).1.2=(S.pA y1 y2 a1 a2 a3 a4).1.2/\(S.C1 y1 y2 a2 a3).2=(S.pA y1 y2 a1 a2 a3 a4).2) (q98 ((S.yi y1 y2).1=(S.pA y1 y2 a1 a2 a3 a4).1.1) ((S.yi y1 y2).2=(S.pA y1 y2 a1 a2 a3 a4).1.2/\0=(S.pA y1 y2 a1 a2 a3 a4).2)))):=by
 refine aE ?_;simp_all[dt,S.pA,df]
def aPj(l:List (Int×Int×Int×B8)):(∃(x1:Nat),((0:Int)=x1/\[]=(S.mW ([],[]) l x1).1/\[]=(S.mW ([],[]) l x1).2)/\S.aAP l x1)/\(∀(x2:Nat),aYQ (S.aAP l x2) (cK (decide ((x2:Int)<length l)) (decide ((x2:Int)<40))) x2 (length l) (q17 (decide (b6 (Jt l x2).2.2.2<=2500)) (((0:Int)<=x2/\(x2:Int)<length l)/\True) True/\q81 x2 (∃(x3:Nat),aVF x2 x3 ((bif decide (b6 (Jt l x2).2.2.2<=2500) then(S.pA (zG l x2).1 (zG l x2).2 (Jt l x2).1 (Jt l x2).2.1 (Jt l x2).2.2.1 (Jt l x2).2.2.2).1.1 else(zG l x2).1)=(S.mW ([],[]) l x3).1) ((bif decide (b6 (Jt l x2).2.2.2<=2500) then(S.pA (zG l x2).1 (zG l x2).2 (Jt l x2).1 (Jt l x2).2.1 (Jt l x2).2.2.1 (Jt l x2).2.2.2).1.2 else(zG l x2).2)=(S.mW ([],[]) l x3).2) (S.aAP l x3) (S.len l))) ((zG l x2).1=(S.fq l).1) ((zG l x2).2=(S.fq l).2)):=by
 refine aE ?_;refine⟨?_,?_⟩
 . refine⟨(nat_lit 0:Nat),?_⟩;dsimp only;with_reducible and_intros
   omega;iterate 2 rfl
   exact S.aSo l
 intro x1 h2;refine⟨?_,?_⟩
 . intro h3;simp only [V.abe,dt] at h3;with_reducible and_intros
   iterate 2 omega
   . intro h4;with_reducible and_intros
     iterate 2 omega
     trivial
   . intro h5;trivial
   iterate 2 omega
   refine⟨(x1+nat_lit 1),?_⟩;dsimp only;with_reducible and_intros
   omega;exact S.aNJ.1;exact S.aNJ.2;exact S.aNH h3;simp [S.ag,S.len,S.gX,S.gL,S.pL,S.pD] at *;omega
 intro h6;simp only [V.ze,df] at h6;refine⟨?_,?_⟩
 . rw [(S.aLh h2 h6).1]
 rw [(S.aLh h2 h6).1]
def asm(y1:Int)(y2:B8)(y3:List (Int×Int×Int×B8)):q17 (decide (0<=y1)) (q17 (decide (y1<=1000)) (aP6 (decide (b6 y2=32))) True) True/\cK (decide (0<=y1)) (cK (decide (y1<=1000)) (cK (decide (b6 y2=32)) (S.kW y3 y1)))=S.bN y1 y2 y3:=by
 refine aE ?_;grind[S.aqO]
def asn(y1:List B8)(y2:List (Int×Int×List (B8×List Int))):q98 (aP6 (Bool.not (S.bG y1 y2))) (dj (q30 (Bool.not (S.bG y1 y2)) (q19 (S.mc y1 y2) (pb y1))) (0=(S.iv y1 y2).1.1) ([]=(S.iv y1 y2).1.2.1/\[]=(S.iv y1 y2).1.2.2/\7=(S.iv y1 y2).2) (S.l8 y1) (S.small (S.leaves y1)) (q29 (z7 (S.xe (S.leaves y1))) (0=(S.iv y1 y2).1.1) ([]=(S.iv y1 y2).1.2.1/\[]=(S.iv y1 y2).1.2.2/\S.xe (S.leaves y1)=(S.iv y1 y2).2) True (pb y1=(S.iv y1 y2).1.1/\S.zp (S.leaves y1)=(S.iv y1 y2).1.2.1/\S.cB y1 y2=(S.iv y1 y2).1.2.2/\0=(S.iv y1 y2).2))):=by
 refine aE ?_;with_reducible and_intros
 trivial;iterate 2 grind
 simp_all[V.IG,nt,df,S.aqP]
 intro h4;simp at h4;refine⟨?_,?_,?_,?_⟩;grind[S.OC];exact(S.OC h4.1).2;grind[nt,df,S.XT];simp_all[nf,dt,S.XS,S.XT]
def aso(v q:Int)(hp:S.fT v=false/\q=0):q29 (YG q) (q59 q80) (S.xV v=0/\S.mn q80 v=S.num v) (q=0) ([]=S.num v):=by
 refine aE ?_;refine⟨?_,?_⟩
 . grind[S.ayE]
 grind
def asp(v q:Int)(l:B8)(hp:S.fT v=false/\q=0/\l.length<=35184372088832):q29 (YG q) (q59 l) (S.xV v=0/\S.mn l v=l++S.num v) (q=0) (l=l++S.num v):=by
 refine aE ?_;refine⟨?_,?_⟩
 . grind[S.ayE]
 grind
def asq(d l:B8)(hp:l.length<=35184372088832/\d.length<=35184372088832):aZU l d (l++d=l++d):=by
 refine aE ?_;grind
def asr(y1:Int)(y2:B8)(y3:List (Int×Int×Int×B8))(hf:Vg.gq J.ay8 (y1,y2,y3)):gE (dj (Bool.not (S.bN y1 y2 y3)) (1=(S.hW y1 y2 y3).2) ([]=(S.hW y1 y2 y3).1) (S.fT y1=false/\(0:Int)=0) (q59 (S.num y1)/\q59 y2) ((S.fT (length y3)=false/\(0:Int)=0/\q59 (S.num y1++y2))/\(∃(x1:Nat),((0:Int)=x1/\S.num y1++y2++S.num (length y3)=S.sK y1 y2 y3 x1/\aWT)/\S.D7 y1 y2 y3 x1)/\(∀(x2:Nat),S.D7 y1 y2 y3 x2->oH (decide ((x2:Int)<length y3)) 0 x2 (length y3) ((S.fT (azT y3 x2).1=false/\(0:Int)=0/\q59 (S.sK y1 y2 y3 x2))/\(S.fT (azT y3 x2).2.1=false/\(0:Int)=0/\q59 (S.sK y1 y2 y3 x2++S.num (azT y3 x2).1))/\(q59 (S.sK y1 y2 y3 x2++S.num (azT y3 x2).1++S.num (azT y3 x2).2.1)/\q59 (azT y3 x2).2.2)/\q81 x2 (∃(x3:Nat),aVF x2 x3 (S.sK y1 y2 y3 x2++S.num (azT y3 x2).1++S.num (azT y3 x2).2.1++(azT y3 x2).2.2=S.sK y1 y2 y3 x3) aWT (S.D7 y1 y2 y3 x3) (S.len y3))) (fX (PA 0) (0=(S.hW y1 y2 y3).2) ([]=(S.hW y1 y2 y3).1) (0=(S.hW y1 y2 y3).2/\S.sK y1 y2 y3 x2=(S.hW y1 y2 y3).1))))):=by
 refine aE ?_;have anr:Vg.hlen y3:=hf.2.2.1.1;clear hf;refine⟨?_,?_,?_⟩;trivial;grind[nt,S.í];intro h2;try simp at h2
 with_reducible and_intros
 grind[S.jm,S.OD];rfl;grind[S.cX];grind[S.jm];grind[S.rJ,S.jm,S.OD];rfl;grind[S.cX,S.jm,List.length_append]
 . refine⟨0,?_⟩;try dsimp only
   with_reducible and_intros
   omega;grind[S.ayF];rfl;exact⟨h2,Nat.zero_le _⟩
 intro x3 h4;refine⟨?_,?_⟩
 . intro h5;try simp only [dt] at h5
   with_reducible and_intros
   iterate 2 omega
   exact(S.E5 h4 h5).1;rfl
   . have:=S.C6 h4;omega
   exact(S.E5 h4 h5).2.1;rfl
   . have q:=S.C6 h4;have q2:=S.cX (y3.getD (toNat (x3:Int)) (0,0,0,[])).2.1;simp only [K!];omega
   . have q:=S.C6 h4;have q2:=S.cX (y3.getD (toNat (x3:Int)) (0,0,0,[])).2.1;have q3:=S.cX (y3.getD (toNat (x3:Int)) (0,0,0,[])).2.2.1;simp only [K!];omega
   exact X? (Nat.le_of_eq (S.E5 h4 h5).2.2) (by decide);iterate 2 omega
   refine⟨(x3+1),?_⟩;try dsimp only
   with_reducible and_intros
   omega;exact S.XU h5;rfl;exact⟨h4.1,w!⟩;simp only [S.ag,S.len];omega
 simp_all[df,nt,nf,dt,S.LQ,S.UD]
def ass(r1:B8)(r2 r3:Int)(hp:r1.length<=140737488355328):q32 r1/\(S.af r1 r2 r3).2=(S.af r1 r2 r3).2/\(S.af r1 r2 r3).1.1=r1/\(S.af r1 r2 r3).1.2.1=(S.af r1 r2 r3).1.2.1/\(S.af r1 r2 r3).1.2.2=(S.af r1 r2 r3).1.2.2:=by
 refine aE ?_;grind[S.C4]
def ast(r1:B8)(r2 r3:Int)(hp:r1.length<=140737488355328):q32 r1/\(S.ar r1 r2 r3).2=(S.ar r1 r2 r3).2/\(S.ar r1 r2 r3).1.1=r1/\(S.ar r1 r2 r3).1.2.1=(S.ar r1 r2 r3).1.2.1/\(S.ar r1 r2 r3).1.2.2=(S.ar r1 r2 r3).1.2.2:=by
 refine aE ?_;simp_all[S.C4]
def asu(a:Int)(r1:B8)(r2 r3:Int)(hp:r1.length<=140737488355328):q32 r1/\q32 r1/\q32 r1/\a=a/\(S.af r1 r2 r3).2=(S.tC r1 r2 r3 a).2.2.1/\(S.af r1 (S.af r1 r2 r3).1.2.1 (S.af r1 r2 r3).1.2.2).2=(S.tC r1 r2 r3 a).2.2.2.1/\(S.ar r1 (S.af r1 (S.af r1 r2 r3).1.2.1 (S.af r1 r2 r3).1.2.2).1.2.1 (S.af r1 (S.af r1 r2 r3).1.2.1 (S.af r1 r2 r3).1.2.2).1.2.2).2=(S.tC r1 r2 r3 a).2.2.2.2/\(S.af r1 r2 r3).2=(S.tC r1 r2 r3 a).2.2.1/\0=0/\0=0/\r1=r1/\(S.ar r1 (S.af r1 (S.af r1 r2 r3).1.2.1 (S.af r1 r2 r3).1.2.2).1.2.1 (S.af r1 (S.af r1 r2 r3).1.2.1 (S.af r1 r2 r3).1.2.2).1.2.2).1.2.1=(S.tC r1 r2 r3 a).1.1/\(S.ar r1 (S.af r1 (S.af r1 r2 r3).1.2.1 (S.af r1 r2 r3).1.2.2).1.2.1 (S.af r1 (S.af r1 r2 r3).1.2.1 (S.af r1 r2 r3).1.2.2).1.2.2).1.2.2=(S.tC r1 r2 r3 a).1.2:=by
 refine aE ?_;with_reducible and_intros
 iterate 3 omega
 iterate 10 rfl
def asv(b:B8)(hp:b.length<=140737488355328):q32 b/\q32 b/\q32 b/\q29 (decide (64<(S.af b (azR b).1.2.1 (azR b).1.2.2).2)) (0=(S.hR b).1.1) ([]=(S.hR b).1.2.1/\[]=(S.hR b).1.2.2/\2=(S.hR b).2) (∃(x1:Nat),((0:Int)=x1/\b=b/\(S.af b (azR b).1.2.1 (azR b).1.2.2).1.2.1=(S.jJ b x1).1.1/\(S.af b (azR b).1.2.1 (azR b).1.2.2).1.2.2=(S.jJ b x1).1.2/\0=(S.jJ b x1).2.1/\0=0/\0=0/\(S.af b 0 0).2=(aXl b).1/\(azR b).2=(aXl b).2.1/\[]=(S.jJ b x1).2.2)/\x1<=S.pN b/\(aXl b).2.2<=64) (∀(x2:Nat),x2<=S.pN b/\(aXl b).2.2<=64->q29 (decide (x2<(S.af b (azR b).1.2.1 (azR b).1.2.2).2)) (q32 b) (aWJ (length (S.jJ b x2).2.2+length [((S.jJ b x2).2.1,(aTY b x2).2.2.1,(aTY b x2).2.2.2.1,(aTY b x2).2.2.2.2)])/\q81 x2 (∃(x3:Nat),aVF x2 x3 (b=b) ((aTY b x2).1.1=(S.jJ b x3).1.1/\(aTY b x2).1.2=(S.jJ b x3).1.2/\(aTY b x2).2.2.1=(S.jJ b x3).2.1/\0=0/\0=0/\(aXl b).1=(aXl b).1/\(aXl b).2.1=(aXl b).2.1/\(S.jJ b x2).2.2++[((S.jJ b x2).2.1,(aTY b x2).2.2.1,(aTY b x2).2.2.2.1,(aTY b x2).2.2.2.2)]=(S.jJ b x3).2.2) (x3<=S.pN b/\(aXl b).2.2<=64) (S.pN b))) True (q29 (z7 (S.done b (S.jJ b x2).1.1 (S.jJ b x2).1.2)) (0=(S.hR b).1.1) ([]=(S.hR b).1.2.1/\[]=(S.hR b).1.2.2/\S.done b (S.jJ b x2).1.1 (S.jJ b x2).1.2=(S.hR b).2) True (dj (Bool.not (S.bN (aXl b).1 (aXl b).2.1 (S.jJ b x2).2.2)) (0=(S.hR b).1.1) ([]=(S.hR b).1.2.1/\[]=(S.hR b).1.2.2/\2=(S.hR b).2) ((aXl b).1=(S.hR b).1.1) ((aXl b).2.1=(S.hR b).1.2.1) ((S.jJ b x2).2.2=(S.hR b).1.2.2/\0=(S.hR b).2)))):=by
 refine aE ?_;with_reducible and_intros
 iterate 3 omega
 . intro h1;simp at h1;refine⟨?_,?_,?_,?_⟩;iterate 3 (rw [S.XR h1])
   rw [S.XR h1]
 intro h2;simp only [df] at h2;refine⟨?_,?_⟩
 . refine⟨(nat_lit 0:Nat),?_⟩;dsimp only;with_reducible and_intros
   omega;iterate 9 rfl
   omega;exact Int.not_lt.1 h2
 intro x3 h4;refine V.dI (λh5=>?_) λh6=>?_
 . with_reducible and_intros
   omega
   . have q:=S.aAY b x3;have q2:=h4.2;have q3:(x3:Int)<(S.iw b).1.2.2:=h5;simp only [C?];omega
   omega
   . have q2:=h4.2;have q3:(x3:Int)<(S.iw b).1.2.2:=h5;omega
   refine⟨(x3+nat_lit 1),?_⟩;try dsimp only
   with_reducible and_intros
   omega;iterate 9 rfl
   exact S.alw h5;omega;have q:=S.alw h5;simp only [S.ag];omega
 refine⟨?_,?_,?_⟩;trivial
 . intro h7;simp at h7;refine⟨?_,?_,?_,?_⟩;iterate 3 (rw [S.ayG h2 h4.1 h6 h7])
   rw [S.ayG h2 h4.1 h6 h7]
 intro h8;simp at h8;refine⟨?_,?_,?_⟩;trivial
 . intro h9;simp at h9;refine⟨?_,?_,?_,?_⟩;iterate 3 (rw [S.ayH h2 h4.1 h6 h8 h9])
   rw [S.ayH h2 h4.1 h6 h8 h9]
 intro de;simp at de;refine⟨?_,?_,?_,?_⟩;iterate 3 (rw [S.ayI h2 h4.1 h6 h8 de])
 rw [S.ayI h2 h4.1 h6 h8 de]
def asw(d:List (B8×List Int))(t:B8)(hp:S.bn d/\S.small t):S.bn d/\oI (z7 (S.dE d)) (S.small t)/\q29 (aL5 (z7 (S.dE d)) (S.isTerm t)) (0=(S.ij d t).1.1) ([]=(S.ij d t).1.2.1/\[]=(S.ij d t).1.2.2.1/\[]=(S.ij d t).1.2.2.2.1/\[]=(S.ij d t).1.2.2.2.2.1/\[]=(S.ij d t).1.2.2.2.2.2/\1=(S.ij d t).2) (S.bn d) (q97 (S.bt d t+1) 0 (length (S.bU d)) (toNat (S.bt d t+1)<length (S.bU d)) (q32 (HH (S.bU d) (toNat (S.bt d t+1)))/\S.l8 (S.bU d)/\S.dM (S.leaves (S.bU d))/\dj (S.k9 d t) (S.bn d) (gE (S.bt d t+1=(S.ij d t).1.1/\(S.bj (HH (S.bU d) (toNat (S.bt d t+1)))).1.1=(S.ij d t).1.2.1/\(S.bj (HH (S.bU d) (toNat (S.bt d t+1)))).1.2.1=(S.ij d t).1.2.2.1/\(S.bj (HH (S.bU d) (toNat (S.bt d t+1)))).1.2.2=(S.ij d t).1.2.2.2.1/\S.rK (S.leaves (S.bU d)) (S.bt d t+1)=(S.ij d t).1.2.2.2.2.1/\S.qw (S.qz d t)=(S.ij d t).1.2.2.2.2.2/\0=(S.ij d t).2)) (S.bt d t+1=(S.ij d t).1.1) ((S.bj (HH (S.bU d) (toNat (S.bt d t+1)))).1.1=(S.ij d t).1.2.1) ((S.bj (HH (S.bU d) (toNat (S.bt d t+1)))).1.2.1=(S.ij d t).1.2.2.1/\(S.bj (HH (S.bU d) (toNat (S.bt d t+1)))).1.2.2=(S.ij d t).1.2.2.2.1/\S.rK (S.leaves (S.bU d)) (S.bt d t+1)=(S.ij d t).1.2.2.2.2.1/\[]=(S.ij d t).1.2.2.2.2.2/\0=(S.ij d t).2))):=by
 refine aE ?_;have lI:=hp.1;with_reducible and_intros
 omega;iterate 2 grind
 . intro h3;simp at h3;with_reducible and_intros
   iterate 6
    . rw [S.abD w!];rfl
   grind[S.abD]
 intro h4;simp at h4;with_reducible and_intros
 omega
 iterate 2
  . (have q:=S.X2 lI (S.Hf (And.left (by assumption))) t;omega)
 iterate 3 (simp_all[S.X2,S.Hf,And.left])
 . (have q:=S.X2 lI (S.Hf (And.left (by assumption))) t;omega)
 iterate 2
  . (have q:=S.X2 lI (S.Hf (And.left (by assumption))) t;grind)
 iterate 2 (simp_all[S.dE,S.isTerm,S.OJ,S.Hf,S.aA4,M!,J!])
def asx(l:List B8)(hp:S.small l):q17 (decide ((Fm l:Int)<2)) (l=S.bW l) ((∃(x1:Nat),(1:Int)=x1/\S.ot l x1)/\(∀(x2:Nat),S.ot l x2->oH (decide ((x2:Int)<Fm l)) 0 x2 (Fm l) (aUC x2<Fm l/\q97 (x2-1) 0 (Fm l) (toNat (x2-1)<Fm l) (mY (decide (HH l (aUC x2)=HH l (toNat (x2-1)))) (aT5 x2 (Fm l)) ((∃(x3:Nat×Nat×List B8×Nat),((x2:Int)=x3.1/\(1:Int)=x3.2.1/\l=x3.2.2.1)/\S.jF l x3.2.2.2 x3.1 x3.2.1 x3.2.2.1/\(x2:Int)=x3.2.2.2)/\(∀(x4:Nat×Nat×List B8×Nat),S.jF l x4.2.2.2 x4.1 x4.2.1 x4.2.2.1/\(x2:Int)=x4.2.2.2->dj (decide ((x4.2.1:Int)<((Fm l-aUC x2:Nat):Int))) (aVI x4.2.1 ((Fm l-aUC x2:Nat):Int)) (aUC x2+toNat x4.2.1<Fo x4/\q97 (x4.2.1-1) 0 ((Fm l-aUC x2:Nat):Int) (aUC x2+toNat (x4.2.1-1)<Fo x4) (oH (Eg (HH x4.2.2.1 (aUC x2+toNat x4.2.1)) (HH x4.2.2.1 (aUC x2+toNat (x4.2.1-1)))) 0 x4.2.1 ((Fm l-aUC x2:Nat):Int) (aUC x2+toNat x4.2.1<Fo x4/\q86 0 x4.1 (Fo x4) (zL x4<Fo x4) (q26 (x4.1+1))) True/\q26 (x4.2.1+1)/\(∃(x5:Nat×Nat×List B8×Nat),((bif Eg (HH x4.2.2.1 (aUC x2+toNat x4.2.1)) (HH x4.2.2.1 (aUC x2+toNat (x4.2.1-1))) then(x4.1:Int)+1 else(x4.1:Int))=x5.1/\(x4.2.1:Int)+1=x5.2.1/\(bif Eg (HH x4.2.2.1 (aUC x2+toNat x4.2.1)) (HH x4.2.2.1 (aUC x2+toNat (x4.2.1-1))) then List.set x4.2.2.1 (zL x4) (HH x4.2.2.1 (aUC x2+toNat x4.2.1)) else x4.2.2.1)=x5.2.2.1)/\(S.jF l x5.2.2.2 x5.1 x5.2.1 x5.2.2.1/\(x2:Int)=x5.2.2.2)/\q53 (S.len l) x5.2.1 x4.2.1))) (aT5 x4.1 (Fo x4)) (zL x4+(Fo x4-zL x4)<=Fo x4) (aGr x4.1 (pb (Fp x4)) (take (zL x4) (Fp x4)=S.bW l)))) (x2+1) (∃(x6:Nat),aYP x2 x6 (S.ot l x6) (S.len l)))) (l=S.bW l))):=by
 refine aE ?_;have lI:l.length<=1099511627776:=hp;refine V.dI (λh1=>?_) λh2=>?_
 . exact S.N7 h1
 refine⟨?_,?_⟩
 . grind[S.akF]
 intro x3 h4;refine⟨?_,?_⟩
 . intro h5;try simp only [dt] at h5
   with_reducible and_intros
   iterate 5 omega
   . have:=h4.1;omega
   iterate 2 omega
   . intro h6;try simp only [dt,tn] at h6
     with_reducible and_intros
     iterate 2 omega
     . refine⟨((x3),(1,((l),(x3)))),?_⟩;grind[S.abn]
     intro x7 h8;refine⟨?_,?_⟩
     . intro h9;try simp at h9
       with_reducible and_intros
       iterate 2 omega
       . have q1:=h8.1.1;have q2:=h8.1.2.1;have q3:=h8.1.2.2.2.1;have q4:=h8.1.2.2.2.2.1;omega
       iterate 2 omega
       . have q1:=h8.1.1;omega
       omega
       . have q1:=h8.1.1;have q2:=h8.1.2.1;have q3:=h8.1.2.2.2.1;have q4:=h8.1.2.2.2.2.1;omega
       . intro de;with_reducible and_intros
         iterate 2 omega
         . have q1:=h8.1.1;have q2:=h8.1.2.1;have q3:=h8.1.2.2.2.1;have q4:=h8.1.2.2.2.2.1;have q5:=h8.2;omega
         omega
         iterate 2
          . have q1:=h8.1.1;have q2:=h8.1.2.1;have q3:=h8.1.2.2.2.1;have q4:=h8.1.2.2.2.2.1;have q5:=h8.2;omega
         omega;have q1:=h8.1.1;have q2:=h8.1.2.1;have q3:=h8.1.2.2.2.1;have q4:=h8.1.2.2.2.2.1;have q5:=h8.2;omega
       . intro fC;trivial
       iterate 2 omega
       refine⟨((toNat (bif !Decidable.decide (getD (x7.2.2.1) (toNat (↑x3:Int)+toNat (↑(x7.2.1):Int)) []=getD (x7.2.2.1) (toNat (↑x3:Int)+toNat ((↑(x7.2.1):Int)-(1:Int))) []) then(↑(x7.1):Int)+(1:Int) else(↑(x7.1):Int))),((x7.2.1+1),((bif !Decidable.decide (getD (x7.2.2.1) (toNat (↑x3:Int)+toNat (↑(x7.2.1):Int)) []=getD (x7.2.2.1) (toNat (↑x3:Int)+toNat ((↑(x7.2.1):Int)-(1:Int))) []) then List.set (x7.2.2.1) (toNat (↑(x7.1):Int)) (getD (x7.2.2.1) (toNat (↑x3:Int)+toNat (↑(x7.2.1):Int)) []) else Prod.fst (x7.2.2)),(x3)))),?_⟩;try dsimp only
       with_reducible and_intros
       . generalize (!decide (getD x7.2.2.1 (toNat (x3:Int)+toNat (x7.2.1:Int)) []=getD x7.2.2.1 (toNat (x3:Int)+toNat ((x7.2.1:Int)-1)) []))=c;cases c<;>simp<;>omega
       omega;trivial
       . have q1:=h8.1.1;have e3:x7.2.2.2=x3:=by have:=h8.2;omega
         have hi:=h8.1;rw [e3] at hi;have e1:toNat (x3:Int)+toNat (x7.2.1:Int)=x3+x7.2.1:=by omega
         have e2:toNat (x3:Int)+toNat ((x7.2.1:Int)-1)=x3+x7.2.1-1:=by omega
         rw [e1,e2];by_cases hd:getD x7.2.2.1 (x3+x7.2.1) []=getD x7.2.2.1 (x3+x7.2.1-1) []
         . rw [K? hd];exact S.N8 hi w! hd
         rw [Y? hd];exact S.R3 hi w! hd
       omega;simp only [S.ag,S.len];omega
     intro gY;with_reducible and_intros
     omega
     iterate 2
      . have q1:=h8.1.2.1;have q2:=h8.1.2.2.2.1;have q3:=h8.1.2.2.2.2.1;omega
     omega
     . have q1:=h8.1.2.1;have q2:=h8.1.2.2.2.1;have q3:=h8.1.2.2.2.2.1;simp;omega
     have q1:=h8.1.2.1;have q2:=h8.1.2.2.2.1;have q3:=h8.1.2.2.2.2.1;grind[toNat,S.KA,S.R4]
   intro jM;try simp only [df,tn] at jM
   with_reducible and_intros
   iterate 2 omega
   refine⟨(x3+1),?_⟩;grind[S.R1,S.ag,S.len]
 grind[df,S.Xl]
def asy(l:List (Int×B8))(hp:S.fV l):(∃(x:Nat),((0:Int)=(↑x:Int)/\(0:Int)=S.gw l x/\(0:Int)=S.nW l x)/\S.oF l x)/\∀(x:Nat),S.oF l x->(decide ((↑x:Int)<(↑(length l):Int))=true->((0:Int)<=(↑x:Int)/\(↑x:Int)<(↑(length l):Int))/\(decide ((getD l (toNat (↑x:Int)) ((0:Int),[])).1=(0:Int))=true->S.small ((getD l (toNat (↑x:Int)) ((0:Int),[])).2)/\((!S.isTerm ((getD l (toNat (↑x:Int)) ((0:Int),[])).2))=true->false=S.bw l)/\((!S.isTerm ((getD l (toNat (↑x:Int)) ((0:Int),[])).2))=false->((-9223372036854775808:Int)<=S.gw l x+(1:Int)/\S.gw l x+(1:Int)<=(9223372036854775807:Int))/\((-9223372036854775808:Int)<=S.nW l x+(1:Int)/\S.nW l x+(1:Int)<=(9223372036854775807:Int))/\((-9223372036854775808:Int)<=(↑x:Int)+(1:Int)/\(↑x:Int)+(1:Int)<=(9223372036854775807:Int))/\∃(vo:Nat),((↑x:Int)+(1:Int)=(↑vo:Int)/\S.gw l x+(1:Int)=S.gw l vo/\S.nW l x+(1:Int)=S.nW l vo)/\S.oF l vo/\S.ag (S.len l) vo<S.ag (S.len l) x))/\(decide ((getD l (toNat (↑x:Int)) ((0:Int),[])).1=(0:Int))=false->(decide ((getD l (toNat (↑x:Int)) ((0:Int),[])).1=(1:Int))=true->((bif !decide ((getD l (toNat (↑x:Int)) ((0:Int),[])).2=[]) then true else decide (S.gw l x<(2:Int)))=true->false=S.bw l)/\((bif !decide ((getD l (toNat (↑x:Int)) ((0:Int),[])).2=[]) then true else decide (S.gw l x<(2:Int)))=false->((-9223372036854775808:Int)<=S.gw l x-(1:Int)/\S.gw l x-(1:Int)<=(9223372036854775807:Int))/\((-9223372036854775808:Int)<=(↑x:Int)+(1:Int)/\(↑x:Int)+(1:Int)<=(9223372036854775807:Int))/\∃(vo:Nat),((↑x:Int)+(1:Int)=(↑vo:Int)/\S.gw l x-(1:Int)=S.gw l vo/\S.nW l x=S.nW l vo)/\S.oF l vo/\S.ag (S.len l) vo<S.ag (S.len l) x))/\(decide ((getD l (toNat (↑x:Int)) ((0:Int),[])).1=(1:Int))=false->(decide ((getD l (toNat (↑x:Int)) ((0:Int),[])).1=(2:Int))=true->((bif !decide ((getD l (toNat (↑x:Int)) ((0:Int),[])).2=[]) then true else decide (S.gw l x<(2:Int)))=true->false=S.bw l)/\((bif !decide ((getD l (toNat (↑x:Int)) ((0:Int),[])).2=[]) then true else decide (S.gw l x<(2:Int)))=false->((-9223372036854775808:Int)<=S.gw l x-(1:Int)/\S.gw l x-(1:Int)<=(9223372036854775807:Int))/\((-9223372036854775808:Int)<=(↑x:Int)+(1:Int)/\(↑x:Int)+(1:Int)<=(9223372036854775807:Int))/\∃(vo:Nat),((↑x:Int)+(1:Int)=(↑vo:Int)/\S.gw l x-(1:Int)=S.gw l vo/\S.nW l x=S.nW l vo)/\S.oF l vo/\S.ag (S.len l) vo<S.ag (S.len l) x))/\(decide ((getD l (toNat (↑x:Int)) ((0:Int),[])).1=(2:Int))=false->(decide ((getD l (toNat (↑x:Int)) ((0:Int),[])).1=(3:Int))=true->((bif !decide ((getD l (toNat (↑x:Int)) ((0:Int),[])).2=[]) then true else decide (S.gw l x<(2:Int)))=true->false=S.bw l)/\((bif !decide ((getD l (toNat (↑x:Int)) ((0:Int),[])).2=[]) then true else decide (S.gw l x<(2:Int)))=false->((-9223372036854775808:Int)<=S.gw l x-(1:Int)/\S.gw l x-(1:Int)<=(9223372036854775807:Int))/\((-9223372036854775808:Int)<=(↑x:Int)+(1:Int)/\(↑x:Int)+(1:Int)<=(9223372036854775807:Int))/\∃(vo:Nat),((↑x:Int)+(1:Int)=(↑vo:Int)/\S.gw l x-(1:Int)=S.gw l vo/\S.nW l x=S.nW l vo)/\S.oF l vo/\S.ag (S.len l) vo<S.ag (S.len l) x))/\(decide ((getD l (toNat (↑x:Int)) ((0:Int),[])).1=(3:Int))=false->false=S.bw l)))))/\(decide ((↑x:Int)<(↑(length l):Int))=false->(bif decide (S.gw l x=(1:Int)) then decide (S.nW l x<=(16:Int)) else false)=S.bw l):=by
 have lI:l.length<=1099511627776:=hp.1;have hq:=hp;clear hp;refine⟨?_,?_⟩
 . refine⟨0,?_⟩;try dsimp only
   with_reducible and_intros
   iterate 3 rfl
   exact S.aG4 hq.1
 intro x1 h2;refine⟨?_,?_⟩
 . intro h3;try simp only [dt] at h3
   with_reducible and_intros
   iterate 2 omega
   . intro h4;try simp only [dt,tn] at h4
     refine⟨?_,?_,?_⟩;exact S.aA5 hq _
     . intro h5;try simp only [nt] at h5
       exact S.alG h3 h4 h5
     intro h6;try simp only [nf] at h6
     with_reducible and_intros
     iterate 6
      . have q:=S.xk l x1;have q2:S.gw l x1=2*S.nW l x1-x1:=rfl;omega
     refine⟨(x1+1),?_⟩;try dsimp only
     with_reducible and_intros
     . have q:=S.xk l x1;have q2:S.gw l x1=2*S.nW l x1-x1:=rfl;omega
     exact(S.X3 (by assumption)).symm;exact(S.UI (by assumption)).symm;exact S.alF h2 h3 h4 h6;grind [S.ag,S.len]
   intro h7;try simp only [df,tn] at h7
   refine⟨?_,?_⟩
   . intro h8;try simp only [dt,tn] at h8
     refine⟨?_,?_⟩
     . intro h9;try simp at h9
       exact S.Hq h3 h7 (.inr (by assumption))
     intro de;try simp only [V.ajY,nf,dt,tn,df] at de
     with_reducible and_intros
     iterate 4
      . have q:=S.xk l x1;have q2:S.gw l x1=2*S.nW l x1-x1:=rfl;omega
     refine⟨(x1+1),?_⟩;try dsimp only
     with_reducible and_intros
     . have q:=S.xk l x1;have q2:S.gw l x1=2*S.nW l x1-x1:=rfl;omega
     exact(S.LS (by assumption)).symm;exact(S.OK (by assumption)).symm;exact S.OM h2 h3 h7 w! (by assumption);grind [S.ag,S.len]
   intro fC;refine⟨?_,?_⟩
   . intro gY;try simp only [dt,tn] at gY
     refine⟨?_,?_⟩
     . intro jM;try simp at jM
       exact S.Hq h3 h7 (.inr (by assumption))
     intro jZ;try simp only [V.ajY,nf,dt,tn,df] at jZ
     with_reducible and_intros
     iterate 4
      . have q:=S.xk l x1;have q2:S.gw l x1=2*S.nW l x1-x1:=rfl;omega
     refine⟨(x1+1),?_⟩;try dsimp only
     with_reducible and_intros
     . have q:=S.xk l x1;have q2:S.gw l x1=2*S.nW l x1-x1:=rfl;omega
     exact(S.LS (by assumption)).symm;exact(S.OK (by assumption)).symm;exact S.OM h2 h3 h7 w! (by assumption);grind [S.ag,S.len]
   intro Cq;refine⟨?_,?_⟩
   . intro zP;try simp only [dt,tn] at zP
     refine⟨?_,?_⟩
     . intro HV;try simp at HV
       exact S.Hq h3 h7 (.inr (by assumption))
     intro QW;try simp only [V.ajY,nf,dt,tn,df] at QW
     with_reducible and_intros
     iterate 4
      . have q:=S.xk l x1;have q2:S.gw l x1=2*S.nW l x1-x1:=rfl;omega
     refine⟨(x1+1),?_⟩;try dsimp only
     with_reducible and_intros
     . have q:=S.xk l x1;have q2:S.gw l x1=2*S.nW l x1-x1:=rfl;omega
     exact(S.LS (by assumption)).symm;exact(S.OK (by assumption)).symm;exact S.OM h2 h3 h7 w! (by assumption);grind [S.ag,S.len]
   grind[df,tn,S.Hq]
 grind[df,S.aqX]
def asz(l:List (Int×B8))(hp:S.small l):(∃(x1:Nat),((0:Int)=x1/\[]=S.bS l x1)/\S.gX l x1)/\(∀(x2:Nat),S.gX l x2->dj (decide ((x2:Int)<length l)) ((0:Int)<=x2/\(x2:Int)<length l) (mY (YG (getD l (toNat x2) (0,[])).1) (aZH (S.bS l x2) [(getD l (toNat x2) (0,[])).2]) (q81 x2 (∃(x3:Nat),((x2:Int)+1=x3/\S.bS l x2++[(getD l (toNat x2) (0,[])).2]=S.bS l x3)/\S.gX l x3/\q44 (S.len l) x3 (S.ag (S.len l) x2))) (x2+1) (∃(x4:Nat),((x2:Int)+1=x4/\S.bS l x2=S.bS l x4)/\S.gX l x4/\q44 (S.len l) x4 (S.ag (S.len l) x2))) (S.small (S.bS l x2)) (S.small (S.fm (S.bS l x2))) (S.bW (S.fm (S.bS l x2))=S.ax l)):=by
 refine aE ?_;have lI:l.length<=1099511627776:=hp;refine⟨?_,?_⟩
 . grind[S.ag,S.len,S.gX,S.aG5]
 intro x1 h2;refine V.dI (λh3=>?_) λh6=>?_
 . with_reducible and_intros
   iterate 2 (grind [S.ag,S.len,S.gX])
   . intro h4;try simp only [dt,tn] at h4
     with_reducible and_intros
     . (have q:=S.alI lI h2 [];exact q.1)
     iterate 2 (grind [S.ag,S.len,S.gX])
     refine⟨(x1+1),?_⟩;try dsimp only
     with_reducible and_intros
     grind [S.ag,S.len,S.gX];exact S.alH h3 h4;iterate 2 (grind [S.ag,S.len,S.gX])
   intro h5;try simp only [df,tn] at h5
   with_reducible and_intros
   iterate 2 (grind [S.ag,S.len,S.gX])
   refine⟨(x1+1),?_⟩;try dsimp only
   with_reducible and_intros
   grind [S.ag,S.len,S.gX];exact S.alD h3 h5;iterate 2 (grind [S.ag,S.len,S.gX])
 refine⟨?_,?_,?_⟩
 . (have q:=S.alI lI h2 [];exact q.2.1)
 . (have q:=S.alI lI h2 [];exact q.2.2.1)
 grind[S.aqY]
def asA(b:B8)(hp:S.small b):S.small b/\q17 (YG (length (S.bM b))) ([]=S.hdT (S.bM b)) (((0:Int)<=0/\(0:Int)<length (S.bM b))/\toNat 0<length (S.bM b)/\lG (S.bM b) 0=S.hdT (S.bM b)):=by
 refine aE ?_;refine⟨?_,?_,?_⟩;omega
 . intro h1;simp only [dt] at h1;rw [show S.bM b=[] from d?.1 w!];rfl
 intro h2;simp only [df] at h2;with_reducible and_intros
 iterate 3 omega
 rfl
def asB(st:Int)(bb:B8)(at_:Int)(hp:st=0/\bb=S.zA/\at_=3):dj (decide (0<=st)) (aUD 0 st at_ (b6 bb)) (S.small (wM st at_ bb)/\length ([(-1,st,S.hdT (S.bM (wM st at_ bb)))]:List (Int×Int×B8))<=4398046511104/\-(1:Int)=-1/\bb=bb/\at_=at_/\[(-1,st,S.hdT (S.bM (wM st at_ bb)))]=S.kE1) (st=-1) (bb=bb) (at_=at_/\[]=S.kE1):=by
 refine aE ?_;obtain⟨q1,q2,q3⟩:=hp;subst q1;subst q2;subst q3;refine⟨?_,?_⟩
 . intro h1;with_reducible and_intros
   iterate 2 omega
   decide;exact(show(drop 0 (take 3 S.zA)).length<=1099511627776 by decide);decide;iterate 4 rfl
 grind
def asC(b:B8)(hp:b=S.zA):S.small b/\(∃(x1:Nat),((0:Int)=(x1:Int)/\b=b/\(0:Int)=(x1:Int)/\-(1:Int)=S.tD x1)/\S.cc x1 (3:Nat))/\(∀(x2:Nat),S.cc x2 (3:Nat)->dj (decide ((x2:Int)<(length (S.decode b):Int))) (aVI (x2:Int) (length (S.decode b):Int)) (aT6 x2<length (S.decode b)/\q98 (aP6 (S.letter (ya (S.decode b) (aT6 x2)))) (q29 (q30 (S.letter (ya (S.decode b) (aT6 x2))) (S.digit (ya (S.decode b) (aT6 x2)))) True (q26 ((x2:Int)+b6 (S.iU (ya (S.decode b) (aT6 x2))))/\q81 (x2:Int) (∃(x3:Nat),((x2:Int)+(1:Int)=(x3:Int)/\b=b/\(x2:Int)+b6 (S.iU (ya (S.decode b) (aT6 x2)))=(x3:Int)/\(bif decide (S.tD x2<(0:Int)) then(x2:Int) else S.tD x2)=S.tD x3)/\S.cc x3 (3:Nat)/\q44 (3:Nat) x3 (S.ag (3:Nat) x2))) (S.tD x2=(0:Int)/\b=S.zA/\(x2:Int)=(3:Int)) (fX (decide (ya (S.decode b) (aT6 x2)=(32:Int))) (q26 ((x2:Int)+(1:Int))) (q81 (x2:Int) (∃(x4:Nat),((x2:Int)+(1:Int)=(x4:Int)/\b=b/\False/\(x2:Int)+(1:Int)=(x4:Int)/\-(1:Int)=S.tD x4)/\S.cc x4 (3:Nat)/\q44 (3:Nat) x4 (S.ag (3:Nat) x2))) (q29 (bif decide (ya (S.decode b) (aT6 x2)=(40:Int)) then decide (ya (S.decode b) (aT6 x2)=(40:Int)) else bif decide (ya (S.decode b) (aT6 x2)=(41:Int)) then decide (ya (S.decode b) (aT6 x2)=(41:Int)) else bif decide (ya (S.decode b) (aT6 x2)=(124:Int)) then decide (ya (S.decode b) (aT6 x2)=(124:Int)) else bif decide (ya (S.decode b) (aT6 x2)=(38:Int)) then decide (ya (S.decode b) (aT6 x2)=(38:Int)) else decide (ya (S.decode b) (aT6 x2)=(33:Int))) (qN [(ya (S.decode b) (aT6 x2),(x2:Int),([]:B8))]) (q81 (x2:Int) (q81 (x2:Int) (∃(x5:Nat),((x2:Int)+(1:Int)=(x5:Int)/\b=b/\False/\(x2:Int)+(1:Int)=(x5:Int)/\-(1:Int)=S.tD x5)/\S.cc x5 (3:Nat)/\q44 (3:Nat) x5 (S.ag (3:Nat) x2)))) (qN [(-(3:Int),(x2:Int),([]:B8))]) (S.kE1++[(-(3:Int),(x2:Int),([]:B8))]=S.kE))))) (S.tD x2=(0:Int)/\b=S.zA/\(x2:Int)=(3:Int)) (qN [(-(2:Int),b6 b,([]:B8))]) (S.kE1++[(-(2:Int),b6 b,([]:B8))]=S.kE)):=by
 refine aE ?_;subst hp;refine⟨?_,?_,?_⟩;exact(show S.zA.length<=1099511627776 by decide)
 . refine⟨0,?_⟩;with_reducible and_intros
   decide;rfl;iterate 2 decide
   exact U! _
 intro x1 h2;refine V.dI (λh3=>?_) λgY=>?_
 . with_reducible and_intros
   iterate 3 omega
   trivial
   . intro h4;trivial
   . intro h5;trivial
   . intro h6;with_reducible and_intros
     trivial;omega
     . rcases S.ym h3 with rfl|rfl|rfl<;>first|exact absurd h7.1 (by decide)|decide
     omega
     . rcases S.ym h3 with rfl|rfl|rfl<;>first|exact absurd h7.1 (by decide)|decide
     refine⟨(x1+1),?_⟩;try dsimp only
     with_reducible and_intros
     omega;rfl
     iterate 2
      . rcases S.ym h3 with rfl|rfl|rfl<;>first|exact absurd h7.1 (by decide)|decide
     . unfold S.cc;have :x1<3:=by have:=S.ym h3;omega
       omega
     rcases S.ym h3 with rfl|rfl|rfl<;>first|exact absurd h7.1 (by decide)|decide
   intro h7;try simp only [V.ajY] at h7
   with_reducible and_intros
   . rcases S.ym h3 with rfl|rfl|rfl<;>first|exact absurd h7.1 (by decide)|decide
   with_reducible rfl
   . rcases S.ym h3 with rfl|rfl|rfl<;>first|exact absurd h7.1 (by decide)|decide
   . intro h8;with_reducible and_intros
     omega
     . rcases S.ym h3 with rfl|rfl|rfl<;>first|exact absurd h7.1 (by decide)|decide
     omega
     . rcases S.ym h3 with rfl|rfl|rfl<;>first|exact absurd h7.1 (by decide)|decide
     refine⟨(x1+1),?_⟩;try dsimp only
     with_reducible and_intros
     omega;rfl
     . rcases S.ym h3 with rfl|rfl|rfl<;>first|exact absurd h7.1 (by decide)|decide
     omega
     iterate 2
      . rcases S.ym h3 with rfl|rfl|rfl<;>first|exact absurd h7.1 (by decide)|decide
     rcases S.ym h3 with rfl|rfl|rfl<;>first|exact absurd h7.1 (by decide)|decide
   intro h9;refine⟨?_,?_⟩
   . intro de;with_reducible and_intros
     . rcases S.ym h3 with rfl|rfl|rfl<;>first|exact absurd h7.1 (by decide)|decide
     omega
     . rcases S.ym h3 with rfl|rfl|rfl<;>first|exact absurd h7.1 (by decide)|decide
     omega
     . rcases S.ym h3 with rfl|rfl|rfl<;>first|exact absurd h7.1 (by decide)|decide
     refine⟨(x1+1),?_⟩;try dsimp only
     with_reducible and_intros
     omega;rfl
     . rcases S.ym h3 with rfl|rfl|rfl<;>first|exact absurd h7.1 (by decide)|decide
     omega
     iterate 2
      . rcases S.ym h3 with rfl|rfl|rfl<;>first|exact absurd h7.1 (by decide)|decide
     rcases S.ym h3 with rfl|rfl|rfl<;>first|exact absurd h7.1 (by decide)|decide
   intro fC;refine⟨?_,?_⟩
   . rcases S.ym h3 with rfl|rfl|rfl<;>first|exact absurd h7.1 (by decide)|decide
   rcases S.ym h3 with rfl|rfl|rfl<;>first|exact absurd h7.1 (by decide)|decide
 with_reducible and_intros
 . (have hx:=S.ge3 h2 gY;subst hx;decide)
 rfl
 . (have hx:=S.ge3 h2 gY;subst hx;decide)
 iterate 2 decide
def asD(e:List (Int×Int×B8))(n w:Int)(hp:0<=n/\n<e.length):(0<=n/\n<length e)/\(getD e (toNat n) (0,0,[])).1=(S.vw e n).1/\(getD e (toNat n) (0,0,[])).2.1=(S.vw e n).2.1/\(getD e (toNat n) (0,0,[])).2.2=(S.vw e n).2.2/\e=e/\n=n/\w=w:=by
 with_reducible and_intros
 iterate 2 omega
 iterate 6 rfl
def asE(e:List (Int×Int×B8))(n w:Int)(l:List (Int×B8))(hp:0<=n/\n<e.length):(0<=n/\n<length e)/\(getD e (toNat n) (0,0,[])).1=(S.vw e n).1/\(getD e (toNat n) (0,0,[])).2.1=(S.vw e n).2.1/\(getD e (toNat n) (0,0,[])).2.2=(S.vw e n).2.2/\e=e/\Ei n w (l=l):=by
 refine aE ?_;with_reducible and_intros
 iterate 2 omega
 iterate 7 rfl
def asF(d:Int)(e:List (Int×Int×B8))(n w:Int)(hp:e=S.kE/\n=0/\w=0):((0:Int)<=n/\n<(length e:Int))/\q17 (decide ((S.vw e n).1=-(1:Int))) (mY (decide ((16:Int)<=w)) ((8:Int)=(0:Int)) (e=e/\n=(1:Int)/\w=(1:Int)/\a0g) (w+(1:Int)) (q81 n (ajb (length [((0:Int),(S.vw e n).2.2)])/\(0:Int)=(0:Int)/\e=e/\n+(1:Int)=(1:Int)/\w+(1:Int)=(1:Int)/\[((0:Int),(S.vw e n).2.2)]=S.fy))) (q17 (decide ((S.vw e n).1=(40:Int))) (mY (decide ((8:Int)<=d)) ((8:Int)=(0:Int)) (e=e/\n=(1:Int)/\w=(1:Int)/\a0g) (n+(1:Int)) False) (fX (decide ((S.vw e n).1=(33:Int))) ((9:Int)=(0:Int)) (e=e/\n=(1:Int)/\w=(1:Int)/\a0g) ((2:Int)=(0:Int)/\e=e/\n=(1:Int)/\w=(1:Int)/\a0g))):=by
 refine aE ?_;obtain⟨q1,q2,q3⟩:=hp;subst q1;subst q2;refine⟨⟨?_,?_⟩,⟨?_,?_⟩⟩
 . omega
 . decide
 . intro h1;refine⟨?_,?_⟩
   . grind
   intro h3;with_reducible and_intros
   iterate 4 omega
   decide;iterate 2 rfl
   iterate 2 omega
   decide
 intro h4;simp at h4;refine V.dI (λh5=>?_) λh8=>?_
 . refine V.dI (λh6=>?_) λh7=>?_
   . with_reducible and_intros
     exact absurd rfl h4;rfl;iterate 3 exact absurd rfl h4
   with_reducible and_intros
   iterate 2 omega
   exact absurd rfl h4
 refine V.dI (λh9=>?_) λde=>?_
 . with_reducible and_intros
   exact absurd rfl h4;rfl;iterate 3 exact absurd rfl h4
 with_reducible and_intros
 exact absurd rfl h4;rfl;iterate 3 exact absurd rfl h4
def asG(d:Int)(e:List (Int×Int×B8))(n w:Int)(hp:e=S.kE/\n=0/\w=0):(e=S.kE/\n=0/\w=0)/\q29 (PA 0) ((0:Int)=0) (e=e/\(1:Int)=1/\a0i 1) (∃(x1:Nat),(e=e/\(1:Int)=1/\a0i 1)/\x1=0) (∀(x2:Nat),x2=0->((0:Int)<=1/\(1:Int)<length e)/\fX (decide ((S.vw e 1).1=38)) (q26 (1+1)) False (dj (decide ((S.vw e 1).1=33)) (q26 (1+1)) False aWT (e=e) ((1:Int)=1/\a0i 1))):=by
 refine aE ?_;obtain⟨q1,q2,q3⟩:=hp;subst q1;subst q2;subst q3;with_reducible and_intros
 iterate 3 rfl
 grind;intro h2;refine⟨?_,?_⟩
 . grind
 intro x3 h4;with_reducible and_intros
 omega;decide
 . intro h5;with_reducible and_intros
   iterate 2 omega
   exact absurd h5 (by decide)
 intro h6;refine⟨?_,?_⟩
 . intro h7;with_reducible and_intros
   iterate 2 omega
   exact absurd h7 (by decide)
 grind
def asH(d:Int)(e:List (Int×Int×B8))(n w:Int)(hp:e=S.kE/\n=0/\w=0):(e=S.kE/\n=0/\w=0)/\q29 (PA 0) ((0:Int)=0) (e=e/\(1:Int)=1/\a0i 1) (∃(x1:Nat),(e=e/\(1:Int)=1/\a0i 1)/\x1=0) (∀(x2:Nat),x2=0->((0:Int)<=1/\(1:Int)<length e)/\dj (decide ((S.vw e 1).1=124)) (q26 (1+1)) False aWT (e=e) ((1:Int)=1/\a0i 1)):=by
 refine aE ?_;obtain⟨q1,q2,q3⟩:=hp;subst q1;subst q2;subst q3;with_reducible and_intros
 iterate 3 rfl
 grind;intro h2;refine⟨?_,?_⟩
 . grind
 intro x3 h4;with_reducible and_intros
 omega;decide
 . intro h5;with_reducible and_intros
   iterate 2 omega
   exact absurd h5 (by decide)
 grind
def asI(b:B8)(hp:b=S.zA):dj (a0b 2000 b) a0g ((0:Int)=0/\(8:Int)=0) (b=S.zA) (S.kE=S.kE/\(0:Int)=0/\aWT) (fX (YG 0) ((0:Int)<=1) ((1:Int)<length S.kE) True/\q29 (z7 (a0L 0 1 2)) (((0:Int)<=(bif YG 0 then 1 else 1))/\(bif YG 0 then(1:Int) else(1:Int))<length (bif YG 0 then S.kE else S.kE)) (a0g/\(S.vw (bif YG 0 then S.kE else S.kE) (bif YG 0 then 1 else 1)).2.1=0/\a0L 0 1 2=0) ((bif YG 0 then S.fy else S.fy)=S.fy) ((0:Int)=0/\aWT)):=by
 refine aE ?_;subst hp;refine V.dI (λh1=>?_) λh2=>?_
 . refine⟨?_,?_,?_⟩;exact absurd h1 (by decide);rfl;exact absurd h1 (by decide)
 with_reducible and_intros
 iterate 4 rfl
 . intro h3;refine⟨?_,?_⟩
   . omega
   decide
 grind
 . intro h5;simp at h5;with_reducible and_intros
   iterate 2 decide
   iterate 2 (exact absurd (by decide) h5)
   decide
 grind
def asJ(v:Int)(d:Bool)(l:B8)(hp:l.length<=35184372088832):q59 q80/\aZU l (S.mn q80 v) (q30 (z7 (S.xV v)) d=S.rM d (S.lO v)/\l++S.mn q80 v=aAu l (S.lO v)):=by
 refine aE ?_;refine⟨?_,?_,?_,?_⟩;grind;grind[S.aq2];grind[S.aG9];rw [S.aG8 v];rfl
def asK(b:B8)(m:Int)(d:Bool)(l:B8)(hp:l.length<=35184372088832/\b.length<=1099511627776):dj (a0b m b) (true=S.rM d (S.ik b m)) (l=aAu l (S.ik b m)) (S.oV q80 b) (q21 (length l+length ([]++S.text b))) (d=S.rM d (S.ik b m)/\l++([]++S.text b)=aAu l (S.ik b m)):=by
 refine aE ?_;refine V.dI (λh1=>?_) λh2=>?_
 . refine⟨?_,?_⟩
   . rw [S.abL h1];exact(x? d).symm
   rw [S.abL h1];exact(H? l).symm
 refine⟨?_,?_,?_,?_⟩;exact⟨U! _,w!⟩
 . have:=S.alK b;simp;omega
 . rw [S.alO h2];exact(Bool.or_false d).symm
 rw [S.alO h2];rfl
def asL(y1:Int)(y2:B8)(y3:List (Int×Int×Int×B8))(d:Bool)(l:B8)(hp:l.length<=35184372088832):gE (dj (z7 (S.hW y1 y2 y3).2) (true=S.rM d (S.ajd y1 y2 y3)) (l=aAu l (S.ajd y1 y2 y3)) (q59 l/\sA (S.hW y1 y2 y3).1) (S.rM d (S.ik (S.hW y1 y2 y3).1 10000)=S.rM d (S.ajd y1 y2 y3)) (aAu l (S.ik (S.hW y1 y2 y3).1 10000)=aAu l (S.ajd y1 y2 y3))):=by
 refine aE ?_;refine⟨?_,?_,?_⟩;trivial
 . intro h1;simp at h1;refine⟨?_,?_⟩
   . rw [S.alP h1];exact(x? d).symm
   rw [S.alP h1];exact(H? l).symm
 grind[S.aq3]
def asM(p:List B8)(d:Bool)(l:B8)(hp:l.length<=17592186044416):dj (decide (64<pb p)) (true=S.rM d (S.kO p)) (l=aAu l (S.kO p)) (q59 l) (∃(x1:Nat),((0:Int)=x1/\S.rM d (S.lO (pb p))=d/\aAu l (S.lO (pb p))=l++S.aL4 p x1)/\S.mA p x1) (∀(x2:Nat),aYQ (S.mA p x2) (decide (x2<pb p)) x2 (pb p) (q29 (q19 (length (lG p x2)) 32) (true=S.rM d (S.kO p)) (l++S.aL4 p x2=aAu l (S.kO p)) (q21 (length (l++S.aL4 p x2)+length (lG p x2))) (q81 x2 (∃(x3:Nat),aVF x2 x3 (d=d) (l++S.aL4 p x2++lG p x2=l++S.aL4 p x3) (S.mA p x3) (S.len p)))) (d=S.rM d (S.kO p)) (l++S.aL4 p x2=aAu l (S.kO p))):=by
 refine aE ?_;refine V.dI (λh1=>?_) λh2=>?_
 . refine⟨?_,?_⟩
   . rw [S.alL h1];exact(x? d).symm
   rw [S.alL h1];exact(H? l).symm
 refine⟨?_,?_,?_⟩;omega
 . refine⟨(nat_lit 0:Nat),?_⟩;dsimp only;with_reducible and_intros
   omega
   . rw [S.LX w!];exact Bool.or_false d
   grind[S.LX,S.aL4,S.bytesOf];exact S.aG7 h2
 intro x3 h4;refine V.dI (λh5=>?_) λh8=>?_
 . with_reducible and_intros
   iterate 2 omega
   . intro h6;simp at h6;refine⟨?_,?_⟩
     . rw [S.abJ h4 h5 h6];exact(x? d).symm
     rw [S.abJ h4 h5 h6];rfl
   intro h7;simp only [nf,dt,tn] at h7;with_reducible and_intros
   . have q:=S.aq0 h4;rw [K!,tn];omega
   iterate 2 omega
   refine⟨(x3+nat_lit 1),?_⟩;dsimp only;with_reducible and_intros
   omega;rfl;rw [tn,W!,(S.Ya h4 h5 h7).2];exact(S.Ya h4 h5 h7).1;simp [S.ag,S.len];omega
 refine⟨?_,?_⟩
 . rw [S.abK h4 h8];exact(Bool.or_false d).symm
 rw [S.abK h4 h8];rfl
def asN(p1:Int)(p2 p3 p4:B8)(p5:List B8)(p6:B8)(d:Bool)(l:B8)(hp:l.length<=8796093022208/\p6.length<=1099511627776):q59 l/\gE (dj (z7 (S.kM p2 p3 p4)) (true=S.rM d (S.ku (p1,p2,p3,p4,p5,p6))) (aAu l (S.lO p1)=aAu l (S.ku (p1,p2,p3,p4,p5,p6))) (q59 (aAu l (S.lO p1))/\sA (S.fW p2 p3 p4)) (a1P (aAu (aAu l (S.lO p1)) (S.ik (S.fW p2 p3 p4) 200))) ((q59 (aAu (aAu (aAu l (S.lO p1)) (S.ik (S.fW p2 p3 p4) 200)) (S.kO p5))/\sA p6)/\S.rM (S.rM (S.rM (S.rM d (S.lO p1)) (S.ik (S.fW p2 p3 p4) 200)) (S.kO p5)) (S.ik p6 4000)=S.rM d (S.ku (p1,p2,p3,p4,p5,p6))/\aAu (aAu (aAu (aAu l (S.lO p1)) (S.ik (S.fW p2 p3 p4) 200)) (S.kO p5)) (S.ik p6 4000)=aAu l (S.ku (p1,p2,p3,p4,p5,p6)))):=by
 refine aE ?_;have a1:=S.X8 p1;have a2:=S.C9 (S.fW p2 p3 p4) (m:=200) (by decide);have a3:=S.OO p5;have a4:=S.aq4 p2 p3 p4;refine⟨?_,?_,?_,?_⟩;omega;trivial
 . intro h1;simp at h1;refine⟨?_,?_⟩
   . rw [S.abM h1];exact(x? d).symm
   rw [S.abM h1];rfl
 grind[S.bytesOf,List.length_append,S.alQ,S.rM,S.cat,Bool.or_assoc,List.append_assoc]
def asO(d:Bool)(l:B8):HN d ([]=S.wy (l,d)) (1=S.wz (l,d)) (a0b 1048576 l) (3=S.wz (l,d)) (l=S.wy (l,d)) (0=S.wz (l,d)):=by
 refine aE ?_;simp_all[dt,S.wy,J!,M!,S.wz,df]
def asP(a1:Int)(a2:B8)(a3:List (Int×Int×Int×B8))(a4:List (List (Int×B8×B8×B8×List B8×B8)))(hp:S.qD a4)(hf:Vg.gq J.am5 (a1,a2,a3,a4)):q59 [1]/\q29 (q19 (length a4) (length a3)) ([]=(S.kv a1 a2 a3 a4).1) (1=(S.kv a1 a2 a3 a4).2) (∃(x1:Nat),rj 0 x1 false (S.ajd a1 a2 a3) (S.cY a1 a2 a3 a4 x1) [1]/\S.kz a3 a4 x1) (∀(x2:Nat),S.kz a3 a4 x2->dj (decide ((x2:Int)<length a4)) ((0:Int)<=x2/\(x2:Int)<length a4) (dj (decide ((16:Int)<length (getD a4 (toNat x2) []))) ([]=(S.kv a1 a2 a3 a4).1) (1=(S.kv a1 a2 a3 a4).2) (q59 (S.bytesOf (S.cY a1 a2 a3 a4 x2))) (∃(x3:Nat×Nat),rj 0 x3.1 (S.iG (S.cY a1 a2 a3 a4 x2)) (S.lO (length (getD a4 (toNat x2) []))) (S.dN a1 a2 a3 a4 x3.2 x3.1) (S.bytesOf (S.cY a1 a2 a3 a4 x2))/\S.iH a3 a4 x3.2 x3.1/\(x2:Int)=x3.2) (∀(x4:Nat×Nat),S.iH a3 a4 x4.2 x4.1/\(x2:Int)=x4.2->mY (decide ((x4.1:Int)<length (getD a4 (toNat x2) []))) (aVI x4.1 (length (getD a4 (toNat x2) []))) ((length (S.bytesOf (S.dN a1 a2 a3 a4 x4.2 x4.1))<=8796093022208/\sA (Fk a4 x2 x4).2.2.2.2.2)/\q26 (x4.1+1)/\(∃(x5:Nat×Nat),rj (x4.1+1) x5.1 (S.iG (S.dN a1 a2 a3 a4 x4.2 x4.1)) (S.ku ((Fk a4 x2 x4).1,(Fk a4 x2 x4).2.1,(Fk a4 x2 x4).2.2.1,(Fk a4 x2 x4).2.2.2.1,(Fk a4 x2 x4).2.2.2.2.1,(Fk a4 x2 x4).2.2.2.2.2)) (S.dN a1 a2 a3 a4 x5.2 x5.1) (S.bytesOf (S.dN a1 a2 a3 a4 x4.2 x4.1))/\(S.iH a3 a4 x5.2 x5.1/\(x2:Int)=x5.2)/\q44 (S.len (S.iE a4 x5.2)) x5.1 (S.ag (S.len (S.iE a4 x4.2)) x4.1))) (x2+1) (∃(x6:Nat),aVF x2 x6 (S.iG (S.dN a1 a2 a3 a4 x4.2 x4.1)=S.iG (S.cY a1 a2 a3 a4 x6)) (S.bytesOf (S.dN a1 a2 a3 a4 x4.2 x4.1)=S.bytesOf (S.cY a1 a2 a3 a4 x6)) (S.kz a3 a4 x6) (S.len a4)))) True (S.wy (S.bytesOf (S.cY a1 a2 a3 a4 x2),S.iG (S.cY a1 a2 a3 a4 x2))=(S.kv a1 a2 a3 a4).1) (S.wz (S.bytesOf (S.cY a1 a2 a3 a4 x2),S.iG (S.cY a1 a2 a3 a4 x2))=(S.kv a1 a2 a3 a4).2)):=by
 refine aE ?_;have aDF:Vg.hlen a3:=hf.2.2.1.1;refine⟨?_,?_,?_⟩;decide;grind[nt,df,S.alN];intro h2;simp at h2;refine⟨?_,?_⟩
 . refine⟨(nat_lit 0:Nat),?_⟩;dsimp only;with_reducible and_intros
   omega;iterate 2 rfl
   grind[S.ayL]
 intro x3 h4;refine V.dI (λh5=>?_) λgY=>?_
 . with_reducible and_intros
   iterate 2 omega
   . intro h6;try simp at h6
     refine⟨?_,?_⟩
     . rw [S.LV h5 h6]
     rw [S.LV h5 h6]
   intro h7;try simp only [df,tn] at h7
   refine⟨?_,?_,?_⟩;exact X? (S.UK (n:=a1) (g:=a2) h4) (by decide)
   . refine⟨((nat_lit 0:Nat),(x3)),?_⟩;try dsimp only
     with_reducible and_intros
     omega
     iterate 2
      . rw [tn,S.LX w!];rfl
     exact S.alM h4 h5 h7;with_reducible rfl
   intro x8 h9;refine⟨?_,?_⟩
   . intro de;try simp only [dt,tn] at de
     with_reducible and_intros
     omega;assumption;exact X? (S.Yd (n:=a1) (g:=a2) h9.1) (by decide)
     . obtain⟨q,e⟩:=h9;have e':x8.2=x3:=by omega
       rw [e'] at q;exact S.Yc q de
     iterate 2 omega
     refine⟨((Prod.fst x8+nat_lit 1),(x3)),?_⟩;try dsimp only
     with_reducible and_intros
     omega
     . obtain⟨q,e⟩:=h9;have e':x8.2=x3:=by omega
       rw [e',tn,tn];exact(S.abN _ rfl _ _ rfl rfl).1
     . obtain⟨q,e⟩:=h9;have e':x8.2=x3:=by omega
       rw [e',tn,tn];exact(S.abN _ rfl _ _ rfl rfl).2
     . obtain⟨q,e⟩:=h9;have e':x8.2=x3:=by omega
       rw [e'] at q;exact S.Yb q de
     with_reducible rfl
     obtain⟨q,e⟩:=h9;have e':x8.2=x3:=by omega
     rw [e'];have hh:(x8.1:Int)<((S.iE a4 x3).length:Int):=de;simp only [S.ag,S.len];omega
   intro fC;try simp only [df,tn] at fC
   with_reducible and_intros
   iterate 2 omega
   refine⟨(x3+nat_lit 1),?_⟩;try dsimp only
   with_reducible and_intros
   omega
   iterate 2
    . obtain⟨q,e⟩:=h9;have e':x8.2=x3:=by omega
      rw [e'] at q |-;rw [(S.LU (n:=a1) (g:=a2) q fC).2]
   . obtain⟨q,e⟩:=h9;have e':x8.2=x3:=by omega
     rw [e'] at q;exact(S.LU (n:=a1) (g:=a2) q fC).1
   simp only [S.ag,S.len];omega
 refine⟨?_,?_,?_⟩;trivial
 . rw [S.LW h4 gY];rfl
 rw [S.LW h4 gY];rfl
def a4A(p1:Int)(p2:B8)(p3:List (Int×Int×Int×B8))(p4:Int)(p5:B8)(p6:List B8)(hp:p5.length<=1099511627776):q59 [2]/\q59 (aAu [2] (S.ajd p1 p2 p3))/\(q59 (aAu (aAu [2] (S.ajd p1 p2 p3)) (S.lO p4))/\sA p5)/\a1P (aAu (aAu (aAu [2] (S.ajd p1 p2 p3)) (S.lO p4)) (S.ik p5 2000))/\q98 (S.wy (aAu (aAu (aAu (aAu [2] (S.ajd p1 p2 p3)) (S.lO p4)) (S.ik p5 2000)) (S.kO p6),S.rM (S.rM (S.rM (S.rM false (S.ajd p1 p2 p3)) (S.lO p4)) (S.ik p5 2000)) (S.kO p6))=(S.aZr p1 p2 p3 p4 p5 p6).1) (S.wz (aAu (aAu (aAu (aAu [2] (S.ajd p1 p2 p3)) (S.lO p4)) (S.ik p5 2000)) (S.kO p6),S.rM (S.rM (S.rM (S.rM false (S.ajd p1 p2 p3)) (S.lO p4)) (S.ik p5 2000)) (S.kO p6))=(S.aZr p1 p2 p3 p4 p5 p6).2):=by
 refine aE ?_;have a1:=S.ahC p1 p2 p3;have a2:=S.X8 p4;have a3:=S.C9 p5 (m:=2000) (by decide);with_reducible and_intros
 grind;iterate 2 (grind[S.bytesOf,List.length_append,List.length_singleton])
 omega;grind[S.bytesOf,List.length_append,List.length_singleton];trivial;iterate 2 rfl
def a4B(s1:Int)(s2:B8)(s3:List (Int×Int×Int×B8))(s4:Int)(s5:B8)(s6:List (Int×Int×Int×B8))(s7:List B8):q59 [3]/\q59 (aAu [3] (S.ajd s1 s2 s3))/\a1P (aAu (aAu [3] (S.ajd s1 s2 s3)) (S.ajd s4 s5 s6))/\q98 (S.wy (aAu (aAu (aAu [3] (S.ajd s1 s2 s3)) (S.ajd s4 s5 s6)) (S.kO s7),S.rM (S.rM (S.rM false (S.ajd s1 s2 s3)) (S.ajd s4 s5 s6)) (S.kO s7))=(S.aZj s1 s2 s3 s4 s5 s6 s7).1) (S.wz (aAu (aAu (aAu [3] (S.ajd s1 s2 s3)) (S.ajd s4 s5 s6)) (S.kO s7),S.rM (S.rM (S.rM false (S.ajd s1 s2 s3)) (S.ajd s4 s5 s6)) (S.kO s7))=(S.aZj s1 s2 s3 s4 s5 s6 s7).2):=by
 refine aE ?_;have a1:=S.ahC s1 s2 s3;have a2:=S.ahC s4 s5 s6;with_reducible and_intros
 grind;iterate 2 (grind[S.bytesOf,List.length_append,List.length_singleton])
 trivial;iterate 2 rfl
def asQ(b:B8)(c:UInt8)(hp:S.dY b c=0):HN (decide (1048576<b6 b)) False ((3:Int)=0/\False) (YG (b6 b)) ((4:Int)=0/\False) ((0:Int)<=0/\0<b6 b) (dj (q19 (aJz b 0 0) (vB c)) False ((2:Int)=0/\False) (0=0) aWT (b=b/\(1:Int)=1/\aWT)):=by
 refine aE ?_;refine⟨?_,?_⟩
 . intro h1;simp_all[dt,S.abO]
 intro h2;refine⟨?_,?_⟩
 . intro h3;simp_all[dt,S.abP]
 grind[df,nt,S.alR]
def asR(b:B8)(c:UInt8)(hp:¬S.dY b c=0):q17 (decide (1048576<b6 b)) (3=S.dY b c) (q17 (YG (b6 b)) (4=S.dY b c) (((0:Int)<=0/\0<b6 b)/\q17 (q19 (aJz b 0 0) (vB c)) (2=S.dY b c) (False/\0=S.dY b c))):=by
 refine aE ?_;refine⟨?_,?_⟩
 . simp_all[dt,S.abO]
 intro h2;refine⟨?_,?_⟩
 . simp_all[dt,S.abP]
 intro h4;simp only [df] at h4;with_reducible and_intros
 iterate 2 omega
 grind[nt,df,S.alR];intro h6;simp_all[nf,dt,S.aA7]
def asS(r1:B8)(r2 r3:Int)(hp:r1.length<=140737488355328):q32 r1/\(S.af r1 r2 r3).2=(S.af r1 r2 r3).2/\(S.af r1 r2 r3).1.1=r1/\(S.af r1 r2 r3).1.2.1=(S.af r1 r2 r3).1.2.1/\(S.af r1 r2 r3).1.2.2=(S.af r1 r2 r3).1.2.2:=by
 refine aE ?_;grind[S.C4]
def asT(m:Int)(r1:B8)(r2 r3:Int)(hp:r1.length<=140737488355328):q32 r1/\(S.an r1 r2 r3 m).2=(S.an r1 r2 r3 m).2/\(S.an r1 r2 r3 m).1.1=r1/\(S.an r1 r2 r3 m).1.2.1=(S.an r1 r2 r3 m).1.2.1/\(S.an r1 r2 r3 m).1.2.2=(S.an r1 r2 r3 m).1.2.2:=by
 refine aE ?_;grind[S.BM]
def asU(m:Int)(r1:B8)(r2 r3:Int)(hp:r1.length<=140737488355328):q32 r1/\dj (decide (m<(S.af r1 r2 r3).2)) (0=(S.dh r1 r2 r3 m).2) (r1=r1/\(S.af r1 r2 r3).1.2.1=(S.dh r1 r2 r3 m).1.1/\2=(S.dh r1 r2 r3 m).1.2) ((S.af r1 r2 r3).2=(S.dh r1 r2 r3 m).2) (r1=r1) ((S.af r1 r2 r3).1.2.1=(S.dh r1 r2 r3 m).1.1/\(S.af r1 r2 r3).1.2.2=(S.dh r1 r2 r3 m).1.2):=by
 refine aE ?_;simp_all[dt,S.aq6,df,S.aA8]
def asV(r1:B8)(r2 r3:Int)(hp:r1.length<=140737488355328):q32 r1/\q29 (z7 (S.an r1 r2 r3 10000).1.2.2) (0=(S.cC r1 r2 r3).2.1) ([]=(S.cC r1 r2 r3).2.2.1/\[]=(S.cC r1 r2 r3).2.2.2/\r1=r1/\(S.an r1 r2 r3 10000).1.2.1=(S.cC r1 r2 r3).1.1/\(S.an r1 r2 r3 10000).1.2.2=(S.cC r1 r2 r3).1.2) (q32 (S.an r1 r2 r3 10000).2) ((S.hR (S.an r1 r2 r3 10000).2).1.1=(S.cC r1 r2 r3).2.1/\(S.hR (S.an r1 r2 r3 10000).2).1.2.1=(S.cC r1 r2 r3).2.2.1/\(S.hR (S.an r1 r2 r3 10000).2).1.2.2=(S.cC r1 r2 r3).2.2.2/\r1=r1/\(S.an r1 r2 r3 10000).1.2.1=(S.cC r1 r2 r3).1.1/\(S.hR (S.an r1 r2 r3 10000).2).2=(S.cC r1 r2 r3).1.2):=by
 refine aE ?_;refine⟨?_,?_,?_⟩;omega;grind[nt,df,S.aA9];grind[S.LY,S.aq7]
def asW(r1:B8)(r2 r3:Int)(hp:r1.length<=140737488355328):q32 r1/\dj (z7 (S.an r1 r2 r3 200).1.2.2) ([]=(S.kQ r1 r2 r3).2.1) ([]=(S.kQ r1 r2 r3).2.2.1/\[]=(S.kQ r1 r2 r3).2.2.2/\r1=r1/\(S.an r1 r2 r3 200).1.2.1=(S.kQ r1 r2 r3).1.1/\(S.an r1 r2 r3 200).1.2.2=(S.kQ r1 r2 r3).1.2) (q32 (S.an r1 r2 r3 200).2) ((S.bj (S.an r1 r2 r3 200).2).1.1=(S.kQ r1 r2 r3).2.1) ((S.bj (S.an r1 r2 r3 200).2).1.2.1=(S.kQ r1 r2 r3).2.2.1/\(S.bj (S.an r1 r2 r3 200).2).1.2.2=(S.kQ r1 r2 r3).2.2.2/\r1=r1/\(S.an r1 r2 r3 200).1.2.1=(S.kQ r1 r2 r3).1.1/\(S.bj (S.an r1 r2 r3 200).2).2=(S.kQ r1 r2 r3).1.2):=by
 refine aE ?_;refine⟨?_,?_,?_⟩;omega;grind[nt,df,S.aBa];grind[S.LY,S.aq8]
def asX(r1:B8)(r2 r3:Int)(hp:r1.length<=140737488355328):q32 r1/\(∃(x1:Nat),((0:Int)=x1/\[]=(S.dB r1 r2 r3 x1).2/\r1=r1/\(S.dh r1 r2 r3 64).1.1=(S.dB r1 r2 r3 x1).1.1/\(S.dh r1 r2 r3 64).1.2=(S.dB r1 r2 r3 x1).1.2)/\S.cc x1 (S.pg r1 r2 r3))/\(∀(x2:Nat),S.cc x2 (S.pg r1 r2 r3)->dj (decide (x2<(S.dh r1 r2 r3 64).2)) (q32 r1) (aZH (S.dB r1 r2 r3 x2).2 [(S.ar r1 (S.dB r1 r2 r3 x2).1.1 (S.dB r1 r2 r3 x2).1.2).2]/\q81 x2 (∃(x3:Nat),aVF x2 x3 ((S.dB r1 r2 r3 x2).2++[(S.ar r1 (S.dB r1 r2 r3 x2).1.1 (S.dB r1 r2 r3 x2).1.2).2]=(S.dB r1 r2 r3 x3).2) ((S.ar r1 (S.dB r1 r2 r3 x2).1.1 (S.dB r1 r2 r3 x2).1.2).1.1=r1/\(S.ar r1 (S.dB r1 r2 r3 x2).1.1 (S.dB r1 r2 r3 x2).1.2).1.2.1=(S.dB r1 r2 r3 x3).1.1/\(S.ar r1 (S.dB r1 r2 r3 x2).1.1 (S.dB r1 r2 r3 x2).1.2).1.2.2=(S.dB r1 r2 r3 x3).1.2) (S.cc x3 (S.pg r1 r2 r3)) (S.pg r1 r2 r3))) ((S.dB r1 r2 r3 x2).2=(S.iK r1 r2 r3).2) (r1=r1) ((S.dB r1 r2 r3 x2).1.1=(S.iK r1 r2 r3).1.1/\(S.dB r1 r2 r3 x2).1.2=(S.iK r1 r2 r3).1.2)):=by
 refine aE ?_;refine⟨?_,?_,?_⟩;omega
 . refine⟨(nat_lit 0:Nat),?_⟩;dsimp only;with_reducible and_intros
   omega;iterate 4 rfl
   exact U! _
 intro x1 h2;refine V.dI (λh3=>?_) λh4=>?_
 . with_reducible and_intros
   omega
   . have:=S.LZ r1 r2 r3 x1;have:=S.OP r1 r2 r3;have q:x1<=S.pg r1 r2 r3:=h2
     rw [C?];omega
   omega
   . have:=S.OP r1 r2 r3;have q:x1<=S.pg r1 r2 r3:=h2
     omega
   refine⟨(x1+nat_lit 1),?_⟩;dsimp only;with_reducible and_intros
   omega;exact rfl;exact(S.C4 _ _ _).2;iterate 2 exact rfl
   exact S.ó h3;have e:S.pg r1 r2 r3=(S.dh r1 r2 r3 64).2.toNat:=rfl;simp [S.ag];omega
 refine⟨?_,?_,?_,?_⟩
 . have e:=S.OQ h2 h4;rw [e];rfl
 rfl
 . have e:=S.OQ h2 h4;rw [e];rfl
 have e:=S.OQ h2 h4;rw [e];rfl
def asY(r1:B8)(r2 r3:Int)(hp:r1.length<=140737488355328):q32 r1/\q32 r1/\q32 r1/\q32 r1/\(S.af r1 r2 r3).2=(S.iF r1 r2 r3).2.1/\(aF6 r1 r2 r3).2.1=(S.iF r1 r2 r3).2.2.1/\(aF6 r1 r2 r3).2.2.1=(S.iF r1 r2 r3).2.2.2.1/\(aF6 r1 r2 r3).2.2.2=(S.iF r1 r2 r3).2.2.2.2.1/\(S.iK r1 (aF6 r1 r2 r3).1.1 (aF6 r1 r2 r3).1.2).2=(S.iF r1 r2 r3).2.2.2.2.2.1/\(S.an r1 (S.iK r1 (aF6 r1 r2 r3).1.1 (aF6 r1 r2 r3).1.2).1.1 (S.iK r1 (aF6 r1 r2 r3).1.1 (aF6 r1 r2 r3).1.2).1.2 4000).2=(S.iF r1 r2 r3).2.2.2.2.2.2/\r1=r1/\(S.an r1 (S.iK r1 (aF6 r1 r2 r3).1.1 (aF6 r1 r2 r3).1.2).1.1 (S.iK r1 (aF6 r1 r2 r3).1.1 (aF6 r1 r2 r3).1.2).1.2 4000).1.2.1=(S.iF r1 r2 r3).1.1/\(S.an r1 (S.iK r1 (aF6 r1 r2 r3).1.1 (aF6 r1 r2 r3).1.2).1.1 (S.iK r1 (aF6 r1 r2 r3).1.1 (aF6 r1 r2 r3).1.2).1.2 4000).1.2.2=(S.iF r1 r2 r3).1.2:=by
 refine aE ?_;with_reducible and_intros
 iterate 4 omega
 iterate 9 rfl
def asZ(b:B8)(hp:b.length<=140737488355328/\S.dY b 1=0):S.dY b 1=0/\dj (PA 0) (0=(S.bp b).1.1) ([]=(S.bp b).1.2.1/\[]=(S.bp b).1.2.2.1/\[]=(S.bp b).1.2.2.2/\0=(S.bp b).2) (q32 b) (∃(x1:Nat),((0:Int)=x1/\b=b/\(S.cC b 1 0).1.1=(S.js b x1).1.1/\(S.cC b 1 0).1.2=(S.js b x1).1.2/\(S.cC b 1 0).2.1=(aXe b).1/\(S.cC b 1 0).2.2.1=(aXe b).2.1/\(S.cC b 1 0).2.2.2=(aXe b).2.2/\[]=(S.js b x1).2)/\S.cc x1 (S.aN b)) (∀(x2:Nat),S.cc x2 (S.aN b)->q29 (decide ((x2:Int)<length (S.cC b 1 0).2.2.2)) (q32 b) ((∃(x3:Nat×Nat),((0:Int)=x3.1/\[]=(S.BX b x3.2 x3.1).2/\b=b/\(S.dh b (S.js b x2).1.1 (S.js b x2).1.2 16).1.1=(S.BX b x3.2 x3.1).1.1/\(S.dh b (S.js b x2).1.1 (S.js b x2).1.2 16).1.2=(S.BX b x3.2 x3.1).1.2/\(aXe b).1=(aXe b).1/\(aXe b).2.1=(aXe b).2.1/\(aXe b).2.2=(aXe b).2.2/\(S.js b x2).2=(S.js b x3.2).2)/\(S.cc x3.1 (S.qE b x3.2)/\x3.2+1<=S.aN b)/\(x2:Int)=x3.2)/\(∀(x4:Nat×Nat),(S.cc x4.1 (S.qE b x4.2)/\x4.2+1<=S.aN b)/\(x2:Int)=x4.2->q29 (decide (x4.1<(S.dh b (S.js b x2).1.1 (S.js b x2).1.2 16).2)) (q32 b) (length (aX0 b x4).2+length [((aSI b x4).2.1,(aSI b x4).2.2.1,(aSI b x4).2.2.2.1,(aSI b x4).2.2.2.2.1,(aSI b x4).2.2.2.2.2.1,(aSI b x4).2.2.2.2.2.2)]<=1353245080339/\q26 (x4.1+1)/\(∃(x5:Nat×Nat),((x4.1:Int)+1=x5.1/\(aX0 b x4).2++[((aSI b x4).2.1,(aSI b x4).2.2.1,(aSI b x4).2.2.2.1,(aSI b x4).2.2.2.2.1,(aSI b x4).2.2.2.2.2.1,(aSI b x4).2.2.2.2.2.2)]=(S.BX b x5.2 x5.1).2/\b=b/\(aSI b x4).1.1=(S.BX b x5.2 x5.1).1.1/\(aSI b x4).1.2=(S.BX b x5.2 x5.1).1.2/\(aXe b).1=(aXe b).1/\(aXe b).2.1=(aXe b).2.1/\(aXe b).2.2=(aXe b).2.2/\(S.js b x4.2).2=(S.js b x5.2).2)/\((S.cc x5.1 (S.qE b x5.2)/\x5.2+1<=S.aN b)/\(x2:Int)=x5.2)/\q44 (S.qE b x5.2) x5.1 (S.ag (S.qE b x4.2) x4.1))) (a1R (S.js b x4.2).2 [(aX0 b x4).2]) (q81 x2 (∃(x6:Nat),aVF x2 x6 (b=b) ((aX0 b x4).1.1=(S.js b x6).1.1/\(aX0 b x4).1.2=(S.js b x6).1.2/\(aXe b).1=(aXe b).1/\(aXe b).2.1=(aXe b).2.1/\(aXe b).2.2=(aXe b).2.2/\(S.js b x4.2).2++[(aX0 b x4).2]=(S.js b x6).2) (S.cc x6 (S.aN b)) (S.aN b))))) True (dj (z7 (S.done b (S.js b x2).1.1 (S.js b x2).1.2)) (0=(S.bp b).1.1) ([]=(S.bp b).1.2.1/\[]=(S.bp b).1.2.2.1/\[]=(S.bp b).1.2.2.2/\S.done b (S.js b x2).1.1 (S.js b x2).1.2=(S.bp b).2) ((aXe b).1=(S.bp b).1.1) ((aXe b).2.1=(S.bp b).1.2.1) ((aXe b).2.2=(S.bp b).1.2.2.1/\(S.js b x2).2=(S.bp b).1.2.2.2/\0=(S.bp b).2))):=by
 refine aE ?_;have qg:=hp.2;refine⟨?_,?_,?_⟩;omega;grind;intro h2;refine⟨?_,?_,?_⟩;omega
 . refine⟨(nat_lit 0:Nat),?_⟩;dsimp only;with_reducible and_intros
   omega;iterate 7 rfl
   exact U! _
 intro x3 h4;refine V.dI (λh5=>?_) λde=>?_
 . refine⟨?_,?_,?_⟩;omega
   . refine⟨((nat_lit 0:Nat),(x3)),?_⟩;try dsimp only
     with_reducible and_intros
     omega;exact rfl;rfl;iterate 2 exact rfl
     iterate 3 rfl
     with_reducible rfl
     exact U! _;exact S.UL h5;with_reducible rfl
   intro x6 h7;refine V.dI (λh8=>?_) λh9=>?_
   . with_reducible and_intros
     omega
     . rw [S.aq9,C?];have:=S.alT b x6.2;have :x6.1<=S.qE b x6.2:=h7.1.1
       omega
     omega
     . have:=S.alT b x6.2;have :x6.1<=S.qE b x6.2:=h7.1.1
       omega
     refine⟨((Prod.fst x6+nat_lit 1),(x3)),?_⟩;try dsimp only
     with_reducible and_intros
     omega
     . have e':x6.2=x3:=by have:=h7.2;omega
       rw [e'];exact rfl
     rfl
     iterate 2
      . have e':x6.2=x3:=by have:=h7.2;omega
        rw [e'];exact rfl
     iterate 3 rfl
     . have e':x6.2=x3:=by have:=h7.2;omega
       rw [e']
     exact S.ó (by assumption);omega;with_reducible rfl
     have e':x6.2=x3:=by have:=h7.2;omega
     rw [e'];have q:=S.ó (by assumption);have w:S.qE b x3=(S.dh b (S.js b x3).1.1 (S.js b x3).1.2 16).2.toNat:=rfl
     simp only [S.ag];omega
   with_reducible and_intros
   . rw [S.ara,C?];have:=S.ô b;have:=h7.1.2;omega
   omega
   . have:=S.ô b;have:=S.UL h5;omega
   refine⟨(x3+nat_lit 1),?_⟩;try dsimp only
   with_reducible and_intros
   omega;rfl
   iterate 2
    . have e':x6.2=x3:=by have:=h7.2;omega
      rw [e'];have q:x6.1=S.qE b x3:=S.OQ (e'▸h7.1.1) (by assumption)
      rw [q];exact rfl
   iterate 3 rfl
   . have e':x6.2=x3:=by have:=h7.2;omega
     rw [e'];have q:x6.1=S.qE b x3:=S.OQ (e'▸h7.1.1) (by assumption)
     rw [q];exact rfl
   exact S.UL h5;have:=S.UL h5;simp only [S.ag];omega
 refine⟨?_,?_,?_⟩;trivial
 . intro fC;simp at fC;with_reducible and_intros
   iterate 4 (rw [S.alU qg (S.õ h4 (by assumption)) (by assumption)])
   rw [S.alU qg (S.õ h4 (by assumption)) (by assumption)]
 grind[S.ayN,S.õ]
def as1(b:B8)(hp:¬S.dY b 1=0):(S.dY b 1=0->False)/\fX (z7 (S.dY b 1)) (0=(S.bp b).1.1) ([]=(S.bp b).1.2.1/\[]=(S.bp b).1.2.2.1/\[]=(S.bp b).1.2.2.2/\S.dY b 1=(S.bp b).2) False:=by
 refine aE ?_;simp_all[nt,df,S.ayM,nf,dt]
def as2(b:B8)(hp:b.length<=140737488355328/\S.dY b 2=0):S.dY b 2=0/\q29 (PA 0) (0=(S.ak b).1.1) ([]=(S.ak b).1.2.1/\[]=(S.ak b).1.2.2.1/\0=(S.ak b).1.2.2.2.1/\[]=(S.ak b).1.2.2.2.2.1/\[]=(S.ak b).1.2.2.2.2.2/\0=(S.ak b).2) (q32 b) (q32 b/\q32 b/\q32 b/\gE (dj (z7 (S.done b (aVD b).1.1 (aVD b).1.2)) (0=(S.ak b).1.1) ([]=(S.ak b).1.2.1/\[]=(S.ak b).1.2.2.1/\0=(S.ak b).1.2.2.2.1/\[]=(S.ak b).1.2.2.2.2.1/\[]=(S.ak b).1.2.2.2.2.2/\S.done b (aVD b).1.1 (aVD b).1.2=(S.ak b).2) ((S.cC b 1 0).2.1=(S.ak b).1.1) ((S.cC b 1 0).2.2.1=(S.ak b).1.2.1) ((S.cC b 1 0).2.2.2=(S.ak b).1.2.2.1/\(aZs b).2=(S.ak b).1.2.2.2.1/\(S.an b (aZs b).1.2.1 (aZs b).1.2.2 2000).2=(S.ak b).1.2.2.2.2.1/\(aVD b).2=(S.ak b).1.2.2.2.2.2/\0=(S.ak b).2))):=by
 refine aE ?_;have qg:=hp.2;refine⟨?_,?_,?_⟩;omega;grind;intro h2;with_reducible and_intros
 iterate 4 omega
 trivial
 . intro h3;simp at h3;with_reducible and_intros
   iterate 6 (rw [S.alV qg h3])
   rw [S.alV qg h3];rfl
 intro h4;simp at h4;with_reducible and_intros
 iterate 6
  . rw [S.alW qg h4];rfl
 rw [S.alW qg h4]
def as3(b:B8)(hp:¬S.dY b 2=0):(S.dY b 2=0->False)/\fX (z7 (S.dY b 2)) (0=(S.ak b).1.1) ([]=(S.ak b).1.2.1/\[]=(S.ak b).1.2.2.1/\0=(S.ak b).1.2.2.2.1/\[]=(S.ak b).1.2.2.2.2.1/\[]=(S.ak b).1.2.2.2.2.2/\S.dY b 2=(S.ak b).2) False:=by
 refine aE ?_;simp_all[nt,df,S.aBb,nf,dt]
def as4(b:B8)(hp:b.length<=140737488355328/\S.dY b 3=0):S.dY b 3=0/\q29 (PA 0) (0=(S.ah b).1.1) ([]=(S.ah b).1.2.1/\[]=(S.ah b).1.2.2.1/\0=(S.ah b).1.2.2.2.1/\[]=(S.ah b).1.2.2.2.2.1/\[]=(S.ah b).1.2.2.2.2.2.1/\[]=(S.ah b).1.2.2.2.2.2.2/\0=(S.ah b).2) (q32 b) (q32 b/\q32 b/\gE (dj (z7 (S.done b (PH b).1.1 (PH b).1.2)) (0=(S.ah b).1.1) ([]=(S.ah b).1.2.1/\[]=(S.ah b).1.2.2.1/\0=(S.ah b).1.2.2.2.1/\[]=(S.ah b).1.2.2.2.2.1/\[]=(S.ah b).1.2.2.2.2.2.1/\[]=(S.ah b).1.2.2.2.2.2.2/\S.done b (PH b).1.1 (PH b).1.2=(S.ah b).2) ((S.cC b 1 0).2.1=(S.ah b).1.1) ((S.cC b 1 0).2.2.1=(S.ah b).1.2.1) ((S.cC b 1 0).2.2.2=(S.ah b).1.2.2.1/\(mI b).2.1=(S.ah b).1.2.2.2.1/\(mI b).2.2.1=(S.ah b).1.2.2.2.2.1/\(mI b).2.2.2=(S.ah b).1.2.2.2.2.2.1/\(PH b).2=(S.ah b).1.2.2.2.2.2.2/\0=(S.ah b).2))):=by
 refine aE ?_;have qg:=hp.2;refine⟨?_,?_,?_⟩;omega;grind;intro h2;with_reducible and_intros
 iterate 3 omega
 trivial
 . intro h3;simp at h3;with_reducible and_intros
   iterate 7 (rw [S.str_1 qg h3])
   rw [S.str_1 qg h3];rfl
 intro h4;simp at h4;with_reducible and_intros
 iterate 7
  . rw [S.alX qg h4];rfl
 rw [S.alX qg h4]
def as5(b:B8)(hp:¬S.dY b 3=0):(S.dY b 3=0->False)/\fX (z7 (S.dY b 3)) (0=(S.ah b).1.1) ([]=(S.ah b).1.2.1/\[]=(S.ah b).1.2.2.1/\0=(S.ah b).1.2.2.2.1/\[]=(S.ah b).1.2.2.2.2.1/\[]=(S.ah b).1.2.2.2.2.2.1/\[]=(S.ah b).1.2.2.2.2.2.2/\S.dY b 3=(S.ah b).2) False:=by
 refine aE ?_;simp_all[nt,df,S.aBc,nf,dt]
def as8(y1:Int)(y2:B8)(y3:List (Int×Int×Int×B8)):gE (dj (z7 (S.hW y1 y2 y3).2) ([]=(S.im y1 y2 y3).1) ((S.hW y1 y2 y3).2=(S.im y1 y2 y3).2) (S.aC (S.hW y1 y2 y3).1) (S.mF 3 (S.hW y1 y2 y3).1=(S.im y1 y2 y3).1) (0=(S.im y1 y2 y3).2)):=by
 refine aE ?_;simp_all[nt,df,S.aBe,nf,dt,S.arc]
def a4C(a b:B8):decide (a=b)=S.a0A a b:=by
 rfl
def as9(y1:List B8)(y2:List (Int×Int×List (B8×List Int))):gE (dj (z7 (S.iv y1 y2).2) ([]=(S.mG y1 y2).1) (7=(S.mG y1 y2).2) True ((S.im (S.iv y1 y2).1.1 (S.iv y1 y2).1.2.1 (S.iv y1 y2).1.2.2).1=(S.mG y1 y2).1) ((S.im (S.iv y1 y2).1.1 (S.iv y1 y2).1.2.1 (S.iv y1 y2).1.2.2).2=(S.mG y1 y2).2)):=by
 refine aE ?_;simp_all[nt,df,S.aBf,nf,dt,S.ard]
def ata(t:B8)(dd:List (B8×List Int))(er:Int)(hp:S.bn dd/\S.bg dd=true/\S.isTerm t=true/\er=0):(S.bn dd/\S.small t)/\length [((S.ij dd t).1.1,(S.ij dd t).1.2.1,(S.ij dd t).1.2.2.1,(S.ij dd t).1.2.2.2.1,(S.ij dd t).1.2.2.2.2.1,(S.ij dd t).1.2.2.2.2.2)]<=1353245080339/\dd=dd/\(bif YG er then(S.ij dd t).2 else er)=0/\[((S.ij dd t).1.1,(S.ij dd t).1.2.1,(S.ij dd t).1.2.2.1,(S.ij dd t).1.2.2.2.1,(S.ij dd t).1.2.2.2.2.1,(S.ij dd t).1.2.2.2.2.2)]=[S.la dd t]:=by
 refine aE ?_;grind[S.KK,List.length_singleton,S.OJ]
def atb(t:B8)(dd:List (B8×List Int))(er:Int)(l:List (Int×B8×B8×B8×List B8×B8))(hp:S.bn dd/\S.bg dd=true/\S.isTerm t=true/\er=0/\l.length<=100000):(S.bn dd/\S.small t)/\length l+length [((S.ij dd t).1.1,(S.ij dd t).1.2.1,(S.ij dd t).1.2.2.1,(S.ij dd t).1.2.2.2.1,(S.ij dd t).1.2.2.2.2.1,(S.ij dd t).1.2.2.2.2.2)]<=1353245080339/\dd=dd/\(bif YG er then(S.ij dd t).2 else er)=0/\l++[((S.ij dd t).1.1,(S.ij dd t).1.2.1,(S.ij dd t).1.2.2.1,(S.ij dd t).1.2.2.2.1,(S.ij dd t).1.2.2.2.2.1,(S.ij dd t).1.2.2.2.2.2)]=l++[S.la dd t]:=by
 refine aE ?_;grind[S.KK,List.length_singleton,S.OJ]
def atc(d:List (B8×List Int))(er:Int)(ts:List B8)(hp:S.Jc d ts/\er=0)(hf:Vg.akd J.aIe d)(hg:Vg.fB.ok J.azd (er,(ts,()))):(∃(x1:Nat),((0:Int)=x1/\d=d/\[]=S.rN d ts x1/\er=0/\ts=ts)/\S.gX ts x1)/\(∀(x2:Nat),S.gX ts x2->dj (decide (x2<pb ts)) (aVI x2 (pb ts)) ((S.bn d/\S.bg d/\S.isTerm (lG ts x2)/\(0:Int)=0/\length (S.rN d ts x2)<=100000)/\q81 x2 (∃(x3:Nat),aVF x2 x3 (d=d) (S.rN d ts x2++[S.la d (lG ts x2)]=S.rN d ts x3/\(0:Int)=0/\ts=ts) (S.gX ts x3) (S.len ts))) (S.rN d ts x2=S.Lm d ts) aWT (ts=ts)):=by
 refine aE ?_;have aLE:Vg.hlen d:=hf.1.1;have aK4:Vg.hint er:=hg.1.1;have aK5:Vg.hlen ts:=hg.2.1.1.1;clear hf hg;obtain⟨qg,q4⟩:=hp;subst q4;refine⟨?_,?_⟩
 . refine⟨0,?_⟩;try dsimp only
   with_reducible and_intros
   omega;iterate 4 rfl
   exact U! _
 intro x1 h2;refine⟨?_,?_⟩
 . intro h3;try simp only [dt] at h3
   with_reducible and_intros
   iterate 2 omega
   exact qg.1;exact qg.2.1;exact S.aBg qg h3;rfl
   . have:=S.are d ts x1;have:=qg.2.2.1;omega
   iterate 2 omega
   refine⟨(x1+1),?_⟩;try dsimp only
   with_reducible and_intros
   omega;rfl;exact S.al3 h3;iterate 2 rfl
   . unfold S.gX;omega
   simp only [S.ag,S.len];omega
 grind[df,S.arf]
def atd(y1:List B8)(y2:List (Int×Int×List (B8×List Int)))(l:List (Int×B8))(hp:S.fV l)(hf:Vg.gq J.aIf (y1,y2,l)):gE (q29 (z7 (S.iv y1 y2).2) ([]=(S.fE y1 y2 l).1) (7=(S.fE y1 y2 l).2) (S.fV l) (dj (Bool.not (S.bw l)) ([]=(S.fE y1 y2 l).1) (1=(S.fE y1 y2 l).2) (S.small l) (∃(x1:Nat),((0:Int)=x1/\(S.iv y1 y2).2=0/\S.ax l=S.ax l/\(S.iv y1 y2).1.1=S.len y1/\(S.iv y1 y2).1.2.1=aUw y1/\(S.iv y1 y2).1.2.2=S.cB y1 y2/\[]=S.iL y2 (S.ax l) x1)/\S.gX y2 x1/\S.gv y1 y2/\S.bw l) (∀(x2:Nat),S.gX y2 x2/\S.gv y1 y2/\S.bw l->oH (decide ((x2:Int)<length y2)) 0 x2 (length y2) ((S.Jc (getD y2 (toNat x2) (0,0,[])).2.2 (S.ax l)/\(0:Int)=0)/\a1R (S.iL y2 (S.ax l) x2) [S.Lm (getD y2 (toNat x2) (0,0,[])).2.2 (S.ax l)]/\q81 x2 (∃(x3:Nat),aVF x2 x3 aWT (S.ax l=S.ax l/\(S.len y1:Int)=S.len y1/\aUw y1=aUw y1/\S.cB y1 y2=S.cB y1 y2/\S.iL y2 (S.ax l) x2++[S.Lm (getD y2 (toNat x2) (0,0,[])).2.2 (S.ax l)]=S.iL y2 (S.ax l) x3) (S.gX y2 x3/\S.gv y1 y2/\S.bw l) (S.len y2))) (dj (PA 0) ([]=(S.fE y1 y2 l).1) (0=(S.fE y1 y2 l).2) (S.qD (S.iL y2 (S.ax l) x2)) ((S.kv (S.len y1) (aUw y1) (S.cB y1 y2) (S.iL y2 (S.ax l) x2)).1=(S.fE y1 y2 l).1) ((S.kv (S.len y1) (aUw y1) (S.cB y1 y2) (S.iL y2 (S.ax l) x2)).2=(S.fE y1 y2 l).2))))):=by
 refine aE ?_;have JC:Vg.hlen y2:=hf.2.1.1;refine⟨?_,?_,?_⟩;trivial;grind[nt,df,S.al4];intro h2;simp at h2;refine⟨?_,?_,?_⟩;omega;grind[nt,S.abW];intro h4;simp at h4;refine⟨?_,?_,?_⟩;exact hp.1
 . refine⟨(nat_lit 0:Nat),?_⟩;dsimp only;with_reducible and_intros
   iterate 2 omega
   rfl;exact(S.wA h2).2.1;iterate 2 (simp_all[S.wA])
   rfl;exact Nat.zero_le _;grind[S.wA];omega
 intro x5 h6;refine V.dI (λh7=>?_) λh8=>?_
 . with_reducible and_intros
   iterate 2 omega
   exact S.abV h6.2.1 h6.2.2 h7;rfl
   . have:=S.abU y2 (S.ax l) x5;have:=S.Jd h6.2.1;rw [C?];omega
   iterate 2 omega
   refine⟨(x5+nat_lit 1),?_⟩;try dsimp only
   with_reducible and_intros
   omega;iterate 5 rfl
   exact S.Yg h7
   . unfold S.gX;omega
   exact h6.2.1;omega;simp only [S.ag,S.len];omega
 refine⟨?_,?_⟩
 . intro h9;refine⟨?_,?_⟩
   . grind
   grind
 grind[S.abX]
def a4D(y1:List B8)(y2:List (Int×Int×List (B8×List Int)))(i:Int):gE (fX (z7 (S.iv y1 y2).2) ([]=(S.aMW y1 y2 i).1) (7=(S.aMW y1 y2 i).2) (dj (SN i 0 (pb y1)) ([]=(S.aMW y1 y2 i).1) (5=(S.aMW y1 y2 i).2) (S.l8 y1) (S.dM (S.leaves y1)) (dj (z7 (S.BW (S.leaves y1) i)) ([]=(S.aMW y1 y2 i).1) (S.BW (S.leaves y1) i=(S.aMW y1 y2 i).2) (aVI i (pb y1)) (sA (lG y1 i)) ((S.aZr (S.iv y1 y2).1.1 (S.iv y1 y2).1.2.1 (S.iv y1 y2).1.2.2 i (lG y1 i) (S.rK (S.leaves y1) i)).1=(S.aMW y1 y2 i).1/\(S.aZr (S.iv y1 y2).1.1 (S.iv y1 y2).1.2.1 (S.iv y1 y2).1.2.2 i (lG y1 i) (S.rK (S.leaves y1) i)).2=(S.aMW y1 y2 i).2)))):=by
 refine aE ?_;refine⟨?_,?_,?_⟩;trivial;grind[nt,df,S.a5M];intro h2;simp at h2;refine⟨?_,?_⟩
 . simp_all[V.IG,dt,S.a4s]
 intro h4;refine⟨?_,?_,?_,?_⟩;exact(S.aY1 (S.wA h2).1).1;exact(S.aY1 (S.wA h2).1).2.1;grind[nt,df,S.a1K];grind[S.a1K]
def a4E(y1:List B8)(y2:List (Int×Int×List (B8×List Int)))(z1:List B8)(z2:List (Int×Int×List (B8×List Int)))(hf:Vg.gq J.azk (y1,y2,z1,z2)):gE (q29 (z7 (S.iv y1 y2).2) ([]=(S.aLX y1 y2 z1 z2).1) (7=(S.aLX y1 y2 z1 z2).2) True (HN (z7 (S.iv z1 z2).2) ([]=(S.aLX y1 y2 z1 z2).1) (7=(S.aLX y1 y2 z1 z2).2) (decide (pb z1<pb y1)) (1=(S.aLX y1 y2 z1 z2).2) (∃(x1:Nat),(0:Int)=x1/\S.aZm y1 z1 x1) (∀(x2:Nat),S.aZm y1 z1 x2->dj (decide (x2<pb y1)) ((0:Int)<=x2/\x2<pb y1) (((0:Int)<=x2/\x2<pb z1)/\gE (mY (Bool.not (S.a0A (HH y1 (toNat x2)) (HH z1 (toNat x2)))) ([]=(S.aLX y1 y2 z1 z2).1) (1=(S.aLX y1 y2 z1 z2).2) (x2+1) (∃(x3:Nat),aYP x2 x3 (S.aZm y1 z1 x3) (S.len y1)))) (S.l8 z1) (S.dM (S.leaves z1)) (dj (z7 (S.aT1 (S.leaves z1) (pb y1))) ([]=(S.aLX y1 y2 z1 z2).1) (S.aT1 (S.leaves z1) (pb y1)=(S.aLX y1 y2 z1 z2).2) True ((S.aZj (S.iv y1 y2).1.1 (S.iv y1 y2).1.2.1 (S.iv y1 y2).1.2.2 (S.iv z1 z2).1.1 (S.iv z1 z2).1.2.1 (S.iv z1 z2).1.2.2 (S.afY (S.leaves z1) (pb y1))).1=(S.aLX y1 y2 z1 z2).1) ((S.aZj (S.iv y1 y2).1.1 (S.iv y1 y2).1.2.1 (S.iv y1 y2).1.2.2 (S.iv z1 z2).1.1 (S.iv z1 z2).1.2.1 (S.iv z1 z2).1.2.2 (S.afY (S.leaves z1) (pb y1))).2=(S.aLX y1 y2 z1 z2).2))))):=by
 refine aE ?_;have ğ:Vg.hlen y1:=hf.1.1;refine⟨?_,?_,?_⟩;trivial;grind[nt,df,S.a3q];intro h2;simp at h2;refine⟨?_,?_,?_⟩;trivial;grind[nt,df,S.a3q];intro h4;simp at h4;refine⟨?_,?_⟩
 . simp_all[dt,S.a0u,S.a4t]
 intro h6;simp at h6;refine⟨?_,?_⟩
 . grind[S.a7a]
 intro x7 h8;refine V.dI (λh9=>?_) λgY=>?_
 . with_reducible and_intros
   iterate 4 omega
   trivial
   . intro de;try simp only [nt] at de
     refine⟨?_,?_⟩
     . rw [S.a0u h2 h4 (S.a1L h8 h9 de)]
     rw [S.a0u h2 h4 (S.a1L h8 h9 de)]
   intro fC;try simp only [nf] at fC
   with_reducible and_intros
   iterate 2 omega
   refine⟨(x7+1),?_⟩;try dsimp only
   refine⟨?_,?_,?_⟩;omega;exact S.a3r h8 h9 fC;simp only [S.ag,S.len];omega
 refine⟨?_,?_,?_,?_⟩;exact(S.aY1 (S.wA h4).1).1;exact(S.aY1 (S.wA h4).1).2.1
 . intro jM;simp at jM;refine⟨?_,?_⟩
   . exact absurd (S.a0v h2 h4 (S.a0w h8 gY)).2 jM
   exact absurd (S.a0v h2 h4 (S.a0w h8 gY)).2 jM
 grind[S.a0v,S.a0w]
def ate(i n:Int)(hp:S.eM i n):(∃(x1:Int×Int×List Bool),(i=x1.1/\n=x1.2.1/\[]=x1.2.2)/\S.j6 i n x1)/\(∀(x2:Int×Int×List Bool),S.j6 i n x2->fX (decide (1<x2.2.1)) True (q29 (decide (x2.1<S.split x2.2.1)) (q21 (length x2.2.2+length [false])) (∃(x3:Int×Int×List Bool),(x2.1=x3.1/\S.split x2.2.1=x3.2.1/\x2.2.2++[false]=x3.2.2)/\S.j6 i n x3/\toNat x3.2.1<toNat x2.2.1) (q21 (length x2.2.2+length [true])) (q26 (x2.1-S.split x2.2.1)/\q26 (x2.2.1-S.split x2.2.1)/\(∃(x4:Int×Int×List Bool),(x2.1-S.split x2.2.1=x4.1/\x2.2.1-S.split x2.2.1=x4.2.1/\x2.2.2++[true]=x4.2.2)/\S.j6 i n x4/\toNat x4.2.1<toNat x2.2.1))) (x2.2.2=S.aZ i n)):=by
 refine aE ?_;refine⟨?_,?_⟩
 . refine⟨((i),((n),([]))),?_⟩;grind[S.aHa]
 intro x1 h2;refine⟨?_,?_⟩
 . intro h3;refine⟨?_,?_,?_⟩;trivial
   . intro h4;refine⟨?_,?_⟩
     . grind[S.OR,lc,ln]
     refine⟨((x1.1),((S.split (x1.2.1)),(x1.2.2++[Bool.false]))),?_⟩;grind[S.aHb,S.OR]
   intro h5;simp at h5;with_reducible and_intros
   grind[S.OR,lc,ln];omega;iterate 3 (grind[S.OR])
   refine⟨((x1.1-S.split (x1.2.1)),((x1.2.1-S.split (x1.2.1)),(x1.2.2++[Bool.true]))),?_⟩;grind[S.aHc,S.OR]
 grind[df,S.sd_end]
def atf(d:B8)(i n:Int)(p:List B8)(hp:S.dM p)(hf:Vg.gq J.aIh (d,i,n,p)):dj (q30 (aZb d) (q73 n (1:Int) (q73 (1099511627776:Int) n (SN i (0:Int) n)))) (([]:B8)=S.kq d i n p) ((1:Int)=S.eQ d i n p) (S.eM i n) (aP6 (q19 (pb p) (length (S.aZ i n):Int))) (q29 (aL5 (q19 (pb p) (length (S.aZ i n):Int)) (S.bQ p)) (([]:B8)=S.kq d i n p) ((6:Int)=S.eQ d i n p) (∃(x1:Nat),((0:Int)=(x1:Int)/\d=S.jL d i n p x1)/\S.eQ d i n p=(0:Int)/\x1<=S.len p) (∀(x2:Nat),S.eQ d i n p=(0:Int)/\x2<=S.len p->q29 (decide ((x2:Int)<pb p)) (q26 ((length (S.aZ i n):Int)-(1:Int))) (q97 ((length (S.aZ i n):Int)-(1:Int)-(x2:Int)) (0:Int) (length (S.aZ i n):Int) (toNat ((length (S.aZ i n):Int)-(1:Int)-(x2:Int))<length (S.aZ i n)) (((getD (S.aZ i n) (toNat ((length (S.aZ i n):Int)-(1:Int)-(x2:Int))) false=true->((0:Int)<=(x2:Int)/\(x2:Int)<pb p)/\True)/\(getD (S.aZ i n) (toNat ((length (S.aZ i n):Int)-(1:Int)-(x2:Int))) false=false->((0:Int)<=(x2:Int)/\(x2:Int)<pb p)/\True))/\q81 (x2:Int) (∃(x3:Nat),((x2:Int)+(1:Int)=(x3:Int)/\(bif getD (S.aZ i n) (toNat ((length (S.aZ i n):Int)-(1:Int)-(x2:Int))) false then S.aT (lG p (x2:Int)) (S.jL d i n p x2) else S.aT (S.jL d i n p x2) (lG p (x2:Int)))=S.jL d i n p x3)/\(S.eQ d i n p=(0:Int)/\x3<=S.len p)/\q53 (S.len p) x3 x2))) (S.jL d i n p x2=S.kq d i n p) ((0:Int)=S.eQ d i n p))):=by
 refine aE ?_;have YK:Vg.hlen p:=hf.2.2.2.1.1;refine⟨?_,?_⟩
 . grind[S.aBh]
 intro h2;simp at h2;with_reducible and_intros
 grind[S.abY];iterate 2 grind
 grind[S.arj];intro h6;simp at h6;refine⟨?_,?_⟩
 . grind[S.aHd,S.aBi]
 intro x7 h8;refine⟨?_,?_⟩
 . intro h9;simp at h9;with_reducible and_intros
   iterate 7 omega
   iterate 2 grind
   iterate 2 omega
   refine⟨(x7+nat_lit 1),?_⟩;dsimp only;with_reducible and_intros
   omega
   ((exact S.al6 x! w!))
   omega;iterate 2 (grind [S.ag,S.len])
 grind[df,S.mg,S.abY,S.Je,S.ark]
def ati(b:B8)(hp:b.length<=140737488355328):q32 b/\HN (z7 (S.af b 0 0).1.2.2) ([]=(S.b8 b).1) ((S.af b 0 0).1.2.2=(S.b8 b).2) (decide (1000<(S.af b 0 0).2)) (2=(S.b8 b).2) (∃(x1:Nat×Int×Int×Int×List Int),((0:Int)=x1.1/\-1=x1.2.2.2.1/\[]=x1.2.2.2.2/\(S.af b 0 0).1.1=b/\(S.af b 0 0).1.2.1=x1.2.1/\(S.af b 0 0).1.2.2=x1.2.2.1)/\S.uY b x1.1 x1.2) (∀(x2:Nat×Int×Int×Int×List Int),S.uY b x2.1 x2.2->q29 (decide (x2.1<(S.af b 0 0).2)) (q32 b) (mY (z7 (S.af b x2.2.1 x2.2.2.1).1.2.2) ([]=(S.b8 b).1) ((S.af b x2.2.1 x2.2.2.1).1.2.2=(S.b8 b).2) (999-x2.2.2.2.1) (q26 (999-x2.2.2.2.1-1)/\mY (decide (999-x2.2.2.2.1-1<(S.af b x2.2.1 x2.2.2.1).2)) ([]=(S.b8 b).1) (2=(S.b8 b).2) ((S.af b x2.2.1 x2.2.2.1).2+1) (q26 (x2.2.2.2.1+((S.af b x2.2.1 x2.2.2.1).2+1))/\aZy x2.2.2.2.2 [x2.2.2.2.1+((S.af b x2.2.1 x2.2.2.1).2+1)]/\q26 (x2.1+1)/\(∃(x3:Nat×Int×Int×Int×List Int),((x2.1:Int)+1=x3.1/\x2.2.2.2.1+((S.af b x2.2.1 x2.2.2.1).2+1)=x3.2.2.2.1/\x2.2.2.2.2++[x2.2.2.2.1+((S.af b x2.2.1 x2.2.2.1).2+1)]=x3.2.2.2.2/\(S.af b x2.2.1 x2.2.2.1).1.1=b/\(S.af b x2.2.1 x2.2.2.1).1.2.1=x3.2.1/\(S.af b x2.2.1 x2.2.2.1).1.2.2=x3.2.2.1)/\S.uY b x3.1 x3.2/\q53 1000 x3.1 x2.1)))) True (q29 (z7 (S.done b x2.2.1 x2.2.2.1)) ([]=(S.b8 b).1) (S.done b x2.2.1 x2.2.2.1=(S.b8 b).2) (x2.2.2.2.2=(S.b8 b).1) (0=(S.b8 b).2))):=by
 refine aE ?_;refine⟨?_,?_,?_⟩;grind
 . intro h1;simp at h1;refine⟨?_,?_⟩
   . exact(S.ab4 h1).1
   exact(S.ab4 h1).2
 intro h2;simp at h2;refine V.dI (λh3=>?_) λh4=>?_
 . refine⟨?_,?_⟩
   . exact(S.Ym h2 h3).1
   exact(S.Ym h2 h3).2
 refine⟨?_,?_⟩
 . refine⟨(0,(((((S.af b (0:Int) (0:Int)).1).2).1),(((((S.af b (0:Int) (0:Int)).1).2).2),(((-1:Int)),([]))))),?_⟩;with_reducible and_intros
   grind;iterate 2 rfl
   grind[S.C4];iterate 2 rfl
   exact S.aHl h2 h4
 intro x5 h6;refine V.dI (λh7=>?_) λgY=>?_
 . refine⟨?_,?_,?_⟩;omega
   . intro h8;try simp only [nt,df] at h8
     refine⟨?_,?_⟩
     . exact(S.ab5 h6 h7 h8).1
     exact(S.ab5 h6 h7 h8).2
   intro h9;try simp only [nf,dt] at h9
   with_reducible and_intros
   iterate 4
    . (have q1:=h6.2.2.2.2.1;have q2:=h6.2.2.2.2.2.1;have q3:=h6.2.2.2.2.2.2;have q4:=h6.2.2.1;have q5:=S.qG b x5.2.1 x5.2.2.1;have q6:=h6.1;omega)
   . intro de;try simp only [dt] at de
     refine⟨?_,?_⟩
     . exact(S.ab6 h6 h7 h9 w!).1
     exact(S.ab6 h6 h7 h9 w!).2
   intro fC;try simp only [df] at fC
   with_reducible and_intros
   iterate 4
    . (have q1:=h6.2.2.2.2.1;have q2:=h6.2.2.2.2.2.1;have q3:=h6.2.2.2.2.2.2;have q4:=h6.2.2.1;have q5:=S.qG b x5.2.1 x5.2.2.1;have q6:=h6.1;omega)
   . (have q1:=h6.2.2.2.2.1;have q2:=h6.2.2.2.2.2.1;have q3:=h6.2.2.2.2.2.2;have q4:=h6.2.2.1;have q5:=S.qG b x5.2.1 x5.2.2.1;have q6:=h6.1;have q7:(S.o0 b).2=(S.af b 0 0).2:=rfl;rw [C?];omega)
   . (have q1:=h6.2.2.2.2.1;have q2:=h6.2.2.2.2.2.1;have q3:=h6.2.2.2.2.2.2;have q4:=h6.2.2.1;have q5:=S.qG b x5.2.1 x5.2.2.1;have q6:=h6.1;omega)
   . (have q1:=h6.2.2.2.2.1;have q2:=h6.2.2.2.2.2.1;have q3:=h6.2.2.2.2.2.2;have q4:=h6.2.2.1;have q5:=S.qG b x5.2.1 x5.2.2.1;have q6:=h6.1;have q7:(S.o0 b).2=(S.af b 0 0).2:=rfl;omega)
   refine⟨((x5.1+1),(((((S.af b (x5.2.1) (x5.2.2.1)).1).2).1),(((((S.af b (x5.2.1) (x5.2.2.1)).1).2).2),((x5.2.2.2.1+((S.af b (x5.2.1) (x5.2.2.1)).2+(1:Int))),(x5.2.2.2.2++[x5.2.2.2.1+((S.af b (x5.2.1) (x5.2.2.1)).2+(1:Int))]))))),?_⟩;try dsimp only
   with_reducible and_intros
   . (have q1:=h6.2.2.2.2.1;have q2:=h6.2.2.2.2.2.1;have q3:=h6.2.2.2.2.2.2;have q4:=h6.2.2.1;have q5:=S.qG b x5.2.1 x5.2.2.1;have q6:=h6.1;have q7:(S.o0 b).2=(S.af b 0 0).2:=rfl;omega)
   iterate 2 with_reducible rfl
   exact(S.C4 b _ _).1;iterate 2 with_reducible rfl
   exact S.ame h6 h7 h9 w!
   . (have q1:=h6.2.2.2.2.1;have q2:=h6.2.2.2.2.2.1;have q3:=h6.2.2.2.2.2.2;have q4:=h6.2.2.1;have q5:=S.qG b x5.2.1 x5.2.2.1;have q6:=h6.1;have q7:(S.o0 b).2=(S.af b 0 0).2:=rfl;simp only [S.ag];omega)
 refine⟨?_,?_,?_⟩;trivial
 . intro jM;simp at jM;refine⟨?_,?_⟩
   . rw [S.Hx h6 gY,J! jM]
   rw [S.Hx h6 gY,J! jM]
 intro jZ;simp at jZ;refine⟨?_,?_⟩
 . rw [S.Hx h6 gY,M! jZ]
 rw [S.Hx h6 gY,M! jZ]
def atj(n:Int)(p q:Bool):cK p q=S.Ea p q:=by
 refine aE ?_;grind[S.Ea]
def atk(n:Int)(p q:Bool):q30 p q=S.UM p q:=by
 refine aE ?_;rfl
def atl(n:Int)(p q:Bool):cK p (Bool.not q)=S.Eb p q:=by
 refine aE ?_;grind[S.Eb]
def atm(a b:List Int):aJB (∃(x1:List Int×List Int×List Int),aJE a x1.1 b x1.2.1 ([]=x1.2.2)/\S.lF S.Ea a b x1) (∀(x2:List Int×List Int×List Int),S.lF S.Ea a b x2->fX (q30 (aQW (q60 x2.1)) (aQW (q60 x2.2.1))) (aZI (aQW (q60 x2.1)) (YG (q60 x2.2.1)) 0 (q60 x2.1) (q60 x2.2.1)) (aZI (aQW (q60 x2.2.1)) (YG (q60 x2.1)) 0 (q60 x2.2.1) (q60 x2.1)/\aZG (axR x2) 0 (q60 x2.1) 1/\aZG (apE x2) 0 (q60 x2.2.1) 1/\gE (fX (S.Ea (axR x2) (apE x2)) (aZy x2.2.2 [ahP (apE x2) (ajQ x2) (axR x2) (apN x2) 0]) (∃(x3:List Int×List Int×List Int),(azI (axR x2) 1 x2.1=x3.1/\azI (apE x2) 1 x2.2.1=x3.2.1/\x2.2.2++[ahP (apE x2) (ajQ x2) (axR x2) (apN x2) 0]=x3.2.2)/\S.lF S.Ea a b x3/\S.jc x3<S.jc x2) (∃(x4:List Int×List Int×List Int),(azI (axR x2) 1 x2.1=x4.1/\azI (apE x2) 1 x2.2.1=x4.2.1/\x2.2.2=x4.2.2)/\S.lF S.Ea a b x4/\S.jc x4<S.jc x2))) (x2.2.2=S.E8 a b)):=by
 refine aE ?_;refine⟨trivial,trivial,⟨(S.vv a,S.vv b,[]),⟨S.Dc a,S.Dc b,rfl⟩,S.ama ..⟩,λx h=>⟨λhc=>?_,λhc=>S.UO rfl h hc⟩⟩;have q:=S.û rfl h hc;refine⟨⟨λh1=>⟨λ_=>trivial,λh2=>⟨⟨Int.le_refl _,of_decide_eq_true h1⟩,Int.le_refl _,x!⟩⟩,λ_=>trivial⟩,⟨λh1=>⟨λ_=>trivial,λh2=>⟨⟨Int.le_refl _,of_decide_eq_true h1⟩,Int.le_refl _,x!⟩⟩,λ_=>trivial⟩,⟨λhA=>⟨⟨Int.le_refl _,(S.mr hA).1⟩,by decide,(S.mr hA).2⟩,λ_=>trivial⟩,⟨λhA=>⟨⟨Int.le_refl _,(S.mr hA).1⟩,by decide,(S.mr hA).2⟩,λ_=>trivial⟩,trivial,λhk=>⟨x!,(S.pG (S.jt x.1 x.2.1) x.1,S.pG (S.jt x.2.1 x.1) x.2.1,x.2.2++[S.Hv x.1 x.2.1]),⟨rfl,rfl,rfl⟩,q.2.1 hk,q.2.2.2.1⟩,λhk=>⟨(S.pG (S.jt x.1 x.2.1) x.1,S.pG (S.jt x.2.1 x.1) x.2.1,x.2.2),⟨rfl,rfl,rfl⟩,q.2.2.1 hk,q.2.2.2.2⟩⟩
def atn(a b:List Int):aJB (∃(x1:List Int×List Int×List Int),aJE a x1.1 b x1.2.1 ([]=x1.2.2)/\S.lF S.UM a b x1) (∀(x2:List Int×List Int×List Int),S.lF S.UM a b x2->fX (q30 (aQW (q60 x2.1)) (aQW (q60 x2.2.1))) (aZI (aQW (q60 x2.1)) (YG (q60 x2.2.1)) 0 (q60 x2.1) (q60 x2.2.1)) (aZI (aQW (q60 x2.2.1)) (YG (q60 x2.1)) 0 (q60 x2.2.1) (q60 x2.1)/\aZG (aGc x2) 0 (q60 x2.1) 1/\aZG (aJM x2) 0 (q60 x2.2.1) 1/\gE (fX (S.UM (aGc x2) (aJM x2)) (aZy x2.2.2 [ahP (aJM x2) (aUL x2) (aGc x2) (aKR x2) 0]) (∃(x3:List Int×List Int×List Int),(azI (aGc x2) 1 x2.1=x3.1/\azI (aJM x2) 1 x2.2.1=x3.2.1/\x2.2.2++[ahP (aJM x2) (aUL x2) (aGc x2) (aKR x2) 0]=x3.2.2)/\S.lF S.UM a b x3/\S.jc x3<S.jc x2) (∃(x4:List Int×List Int×List Int),(azI (aGc x2) 1 x2.1=x4.1/\azI (aJM x2) 1 x2.2.1=x4.2.1/\x2.2.2=x4.2.2)/\S.lF S.UM a b x4/\S.jc x4<S.jc x2))) (x2.2.2=S.uX a b)):=by
 refine aE ?_;refine⟨trivial,trivial,⟨(S.vv a,S.vv b,[]),⟨S.Dc a,S.Dc b,rfl⟩,S.ama ..⟩,λx h=>⟨λhc=>?_,λhc=>S.UO rfl h hc⟩⟩;have q:=S.û rfl h hc;refine⟨⟨λh1=>⟨λ_=>trivial,λh2=>⟨⟨Int.le_refl _,of_decide_eq_true h1⟩,Int.le_refl _,x!⟩⟩,λ_=>trivial⟩,⟨λh1=>⟨λ_=>trivial,λh2=>⟨⟨Int.le_refl _,of_decide_eq_true h1⟩,Int.le_refl _,x!⟩⟩,λ_=>trivial⟩,⟨λhA=>⟨⟨Int.le_refl _,(S.mr hA).1⟩,by decide,(S.mr hA).2⟩,λ_=>trivial⟩,⟨λhA=>⟨⟨Int.le_refl _,(S.mr hA).1⟩,by decide,(S.mr hA).2⟩,λ_=>trivial⟩,trivial,λhk=>⟨x!,(S.pG (S.jt x.1 x.2.1) x.1,S.pG (S.jt x.2.1 x.1) x.2.1,x.2.2++[S.Hv x.1 x.2.1]),⟨rfl,rfl,rfl⟩,q.2.1 hk,q.2.2.2.1⟩,λhk=>⟨(S.pG (S.jt x.1 x.2.1) x.1,S.pG (S.jt x.2.1 x.1) x.2.1,x.2.2),⟨rfl,rfl,rfl⟩,q.2.2.1 hk,q.2.2.2.2⟩⟩
def ato(a b:List Int):aJB (∃(x1:List Int×List Int×List Int),aJE a x1.1 b x1.2.1 ([]=x1.2.2)/\S.lF S.Eb a b x1) (∀(x2:List Int×List Int×List Int),S.lF S.Eb a b x2->fX (q30 (aQW (q60 x2.1)) (aQW (q60 x2.2.1))) (aZI (aQW (q60 x2.1)) (YG (q60 x2.2.1)) 0 (q60 x2.1) (q60 x2.2.1)) (aZI (aQW (q60 x2.2.1)) (YG (q60 x2.1)) 0 (q60 x2.2.1) (q60 x2.1)/\aZG (aJl x2) 0 (q60 x2.1) 1/\aZG (aXV x2) 0 (q60 x2.2.1) 1/\gE (fX (S.Eb (aJl x2) (aXV x2)) (aZy x2.2.2 [ahP (aXV x2) (a0j x2) (aJl x2) (ajf x2) 0]) (∃(x3:List Int×List Int×List Int),(azI (aJl x2) 1 x2.1=x3.1/\azI (aXV x2) 1 x2.2.1=x3.2.1/\x2.2.2++[ahP (aXV x2) (a0j x2) (aJl x2) (ajf x2) 0]=x3.2.2)/\S.lF S.Eb a b x3/\S.jc x3<S.jc x2) (∃(x4:List Int×List Int×List Int),(azI (aJl x2) 1 x2.1=x4.1/\azI (aXV x2) 1 x2.2.1=x4.2.1/\x2.2.2=x4.2.2)/\S.lF S.Eb a b x4/\S.jc x4<S.jc x2))) (x2.2.2=S.OS a b)):=by
 refine aE ?_;refine⟨trivial,trivial,⟨(S.vv a,S.vv b,[]),⟨S.Dc a,S.Dc b,rfl⟩,S.ama ..⟩,λx h=>⟨λhc=>?_,λhc=>S.UO rfl h hc⟩⟩;have q:=S.û rfl h hc;refine⟨⟨λh1=>⟨λ_=>trivial,λh2=>⟨⟨Int.le_refl _,of_decide_eq_true h1⟩,Int.le_refl _,x!⟩⟩,λ_=>trivial⟩,⟨λh1=>⟨λ_=>trivial,λh2=>⟨⟨Int.le_refl _,of_decide_eq_true h1⟩,Int.le_refl _,x!⟩⟩,λ_=>trivial⟩,⟨λhA=>⟨⟨Int.le_refl _,(S.mr hA).1⟩,by decide,(S.mr hA).2⟩,λ_=>trivial⟩,⟨λhA=>⟨⟨Int.le_refl _,(S.mr hA).1⟩,by decide,(S.mr hA).2⟩,λ_=>trivial⟩,trivial,λhk=>⟨x!,(S.pG (S.jt x.1 x.2.1) x.1,S.pG (S.jt x.2.1 x.1) x.2.1,x.2.2++[S.Hv x.1 x.2.1]),⟨rfl,rfl,rfl⟩,q.2.1 hk,q.2.2.2.1⟩,λhk=>⟨(S.pG (S.jt x.1 x.2.1) x.1,S.pG (S.jt x.2.1 x.1) x.2.1,x.2.2),⟨rfl,rfl,rfl⟩,q.2.2.1 hk,q.2.2.2.2⟩⟩
def atp(a b:List Int):gE (S.E8 a b=S.E8 a b):=by
 refine aE ?_;grind
def atq(a b:List Int):gE (S.uX a b=S.uX a b):=by
 refine aE ?_;grind
def atr(a b:List Int):gE (S.OS a b=S.OS a b):=by
 refine aE ?_;grind
def ats(s:B8):Bool.not (decide (s=s))=false:=by
 grind
def att(a b:B8):q98 (aP6 false) ((bif false then q30 (Bool.not false) (Op.bytesLess a b) else Op.bytesLess a b)=Op.bytesLess a b):=by
 refine aE ?_;grind
def atu(x:List B8)(t:B8)(hp:S.xn x):(∃(x1:Int×Int),(0=x1.1/\pb x=x1.2)/\S.rO x t x1.1 x1.2)/\(∀(x2:Int×Int),S.rO x t x2.1 x2.2->q29 (decide (x2.1<x2.2)) (q26 (x2.1+x2.2)) (aGr 1 64 (aZQ (qP x2) (pb x) (q98 (fX (Op.bytesLess (lG x (qP x2)) t) (-9223372036854775808<=qP x2+1) (qP x2+1<=9223372036854775807) True) (∃(x3:Int×Int),((bif Op.bytesLess (lG x (qP x2)) t then qP x2+1 else x2.1)=x3.1/\(bif Op.bytesLess (lG x (qP x2)) t then x2.2 else qP x2)=x3.2)/\S.rO x t x3.1 x3.2/\cx (x3.2-x3.1) (x2.2-x2.1))))) (oH (decide (x2.1<pb x)) 0 x2.1 (pb x) (oI (decide (lG x x2.1=t)) ((0<=x2.1/\x2.1<pb x)/\gE (aP6 false))) True) ((bif decide (x2.1<pb x) then bif decide (lG x x2.1=t) then x2.1 else bif false then x2.1 else x2.1 else x2.1)=S.pE x t/\cK (decide (x2.1<pb x)) (q30 (decide (lG x x2.1=t)) (bif false then false else false))=S.BY x t)):=by
 refine aE ?_;refine⟨?_,?_⟩
 . refine⟨(((0:Int)),((↑(length x):Int))),?_⟩;with_reducible and_intros
   iterate 2 rfl
   exact⟨Int.le_refl _,w!,Int.le_refl _,λk hk=>by omega,λk hk hk2=>by omega⟩
 intro x1 h2;refine V.dI (λh3=>?_) λh6=>?_
 . with_reducible and_intros
   iterate 2
    . obtain⟨e,q1,q2,q3,q4,q5⟩:=S.Hw hp h2 h3;omega
   iterate 2 omega
   iterate 3 grind
   . obtain⟨e,q1,q2,q3,q4,q5⟩:=S.Hw hp h2 h3;omega
   trivial
   . intro h4;refine⟨?_,?_⟩
     . grind
     obtain⟨e,q1,q2,q3,q4,q5⟩:=S.Hw hp h2 h3;omega
   grind;refine⟨((bif Op.bytesLess (getD x (toNat ((x1.1+x1.2)%(18446744073709551616:Int)/(2:Int)^toNat (1:Int))) []) t then(x1.1+x1.2)%(18446744073709551616:Int)/(2:Int)^toNat (1:Int)+(1:Int) else Prod.fst x1),(bif Op.bytesLess (getD x (toNat ((x1.1+x1.2)%(18446744073709551616:Int)/(2:Int)^toNat (1:Int))) []) t then Prod.snd x1 else(x1.1+x1.2)%(18446744073709551616:Int)/(2:Int)^toNat (1:Int))),?_⟩;with_reducible and_intros
   iterate 2 rfl
   . obtain⟨e,q1,q2,q3,q4,q5⟩:=S.Hw hp h2 h3;rw [e];exact(S.aBn hp h2 q2 q3).1
   obtain⟨e,q1,q2,q3,q4,q5⟩:=S.Hw hp h2 h3;grind
 with_reducible and_intros
 . intro h7;simp at h7;with_reducible and_intros
   . have q:=h2.1;omega
   omega;grind;intro h9;with_reducible and_intros
   . have q:=h2.1;omega
   omega;trivial;iterate 2 grind
 grind;grind[S.aro];exact S.arp hp h2 h6
def atv(s:B8)(t:List B8)(f:List (List Int))(hp:S.BZ t f):S.xn t/\q17 (Bool.not (S.BY t s)) ([]=S.mH t f s) (q86 0 (S.pE t s) (length f) (S.small (aHH f (toNat (S.pE t s)))) (aHH f (toNat (S.pE t s))=S.mH t f s)):=by
 refine aE ?_;refine⟨?_,?_,?_⟩;exact hp.1;grind[nt,S.ars];intro h2;with_reducible and_intros
 omega
 . have q:=(S.ý hp (s:=s) x!).1;omega
 exact(S.ý hp x!).2.1;exact(S.ý hp x!).2.2
def atw(s:B8)(l:List (List Int))(hp:S.sb l):aP0 (aC7 l-1) (aC7 l-1-1) 0 (aC7 l) (toNat (aC7 l-1-1)) (aC7 l) (toNat (aC7 l-1)) [S.E8 (aHH l (toNat (aC7 l-1-1))) (aHH l (toNat (aC7 l-1)))] l 1:=by
 refine aE ?_;obtain⟨p1,p2⟩:=hp;have p3:l.length<=1099511627776:=p2;have e1:toNat ((l.length:Int)-1-1)=l.length-2:=by omega
 have e2:toNat ((l.length:Int)-1)=l.length-1:=by omega
 with_reducible and_intros
 iterate 14 omega
 trivial;grind[List.length_singleton];rw [e1,e2];rfl
def atx(s:B8)(l:List (List Int))(hp:S.sb l):aP0 (aKF l-1) (aKF l-1-1) 0 (aKF l) (toNat (aKF l-1-1)) (aKF l) (toNat (aKF l-1)) [S.uX (aHH l (toNat (aKF l-1-1))) (aHH l (toNat (aKF l-1)))] l 2:=by
 refine aE ?_;obtain⟨p1,p2⟩:=hp;have p3:l.length<=1099511627776:=p2;have e1:toNat ((l.length:Int)-1-1)=l.length-2:=by omega
 have e2:toNat ((l.length:Int)-1)=l.length-1:=by omega
 with_reducible and_intros
 iterate 14 omega
 trivial;grind[List.length_singleton];rw [e1,e2];rfl
def aty(s:B8)(l:List (List Int))(hp:S.sb l):aP0 (aZo l-1) (aZo l-1-1) 0 (aZo l) (toNat (aZo l-1-1)) (aZo l) (toNat (aZo l-1)) [S.OS (aHH l (toNat (aZo l-1-1))) (aHH l (toNat (aZo l-1)))] l 3:=by
 refine aE ?_;obtain⟨p1,p2⟩:=hp;have p3:l.length<=1099511627776:=p2;have e1:toNat ((l.length:Int)-1-1)=l.length-2:=by omega
 have e2:toNat ((l.length:Int)-1)=l.length-1:=by omega
 with_reducible and_intros
 iterate 14 omega
 trivial;grind[List.length_singleton];rw [e1,e2];rfl
def atz(s:B8)(t:List B8)(f l:List (List Int))(hp:S.BZ t f/\S.small l):S.BZ t f/\ajb (length l+length [S.mH t f s])/\[t]=[t]/\0=0/\[f]=[f]/\0=0/\l++[S.mH t f s]=S.Hu l (S.mH t f s):=by
 refine aE ?_;with_reducible and_intros
 grind;grind[S.small,List.length_singleton];iterate 5 rfl
def atA(l:List (Int×B8))(t:List B8)(f:List (List Int))(hp:S.E9 l t f)(hf:Vg.akd J.azm (l,t,f)):(∃(x1:Nat),((0:Int)=x1/\[]=S.gC (S.mH t f) l x1/\[t]=[t]/\0=0/\[f]=[f]/\0=0)/\S.pF l (S.gC (S.mH t f) l x1) x1)/\(∀(x2:Nat),S.pF l (S.gC (S.mH t f) l x2) x2->dj (decide ((x2:Int)<length l)) ((0:Int)<=x2/\(x2:Int)<length l) (((arR l x2).1=0->(arR l x2).1=0/\(S.BZ t f/\S.small (S.gC (S.mH t f) l x2))/\q81 x2 (∃(x3:Nat),((x2:Int)+1=x3/\S.Hu (S.gC (S.mH t f) l x2) (S.mH t f (arR l x2).2)=S.gC (S.mH t f) l x3/\[t]=[t]/\0=0/\[f]=[f]/\0=0)/\S.pF l (S.gC (S.mH t f) l x3) x3/\q44 (S.len l) x3 (S.ag (S.len l) x2)))/\((arR l x2).1=1->(arR l x2).1=1/\S.sb (S.gC (S.mH t f) l x2)/\q81 x2 (∃(x4:Nat),((x2:Int)+1=x4/\S.xo 1 (S.gC (S.mH t f) l x2)=S.gC (S.mH t f) l x4/\[t]=[t]/\0=0/\[f]=[f]/\0=0)/\S.pF l (S.gC (S.mH t f) l x4) x4/\q44 (S.len l) x4 (S.ag (S.len l) x2)))/\((arR l x2).1=2->(arR l x2).1=2/\S.sb (S.gC (S.mH t f) l x2)/\q81 x2 (∃(x5:Nat),((x2:Int)+1=x5/\S.xo 2 (S.gC (S.mH t f) l x2)=S.gC (S.mH t f) l x5/\[t]=[t]/\0=0/\[f]=[f]/\0=0)/\S.pF l (S.gC (S.mH t f) l x5) x5/\q44 (S.len l) x5 (S.ag (S.len l) x2)))/\((arR l x2).1=3->(arR l x2).1=3/\S.sb (S.gC (S.mH t f) l x2)/\q81 x2 (∃(x6:Nat),((x2:Int)+1=x6/\S.xo 3 (S.gC (S.mH t f) l x2)=S.gC (S.mH t f) l x6/\[t]=[t]/\0=0/\[f]=[f]/\0=0)/\S.pF l (S.gC (S.mH t f) l x6) x6/\q44 (S.len l) x6 (S.ag (S.len l) x2)))/\(((arR l x2).1=0->False)/\((arR l x2).1=1->False)/\((arR l x2).1=2->False)/\((arR l x2).1=3->False)/\True->False)) ((0:Int)<=0/\(0:Int)<length (S.gC (S.mH t f) l x2)) (toNat 0<length (S.gC (S.mH t f) l x2)) (aHH (S.gC (S.mH t f) l x2) (toNat 0)=S.OT l t f)):=by
 refine aE ?_;have PN:Vg.hlen l:=hf.1.1;refine⟨?_,?_⟩
 . grind[S.art,S.aHk]
 intro x1 h2;refine V.dI (λh3=>?_) λh9=>?_
 . with_reducible and_intros
   iterate 2 omega
   . intro h4;with_reducible and_intros
     omega;exact hp.2.2;exact S.ahE hp h2;iterate 2 omega
     refine⟨(x1+1),?_⟩;try dsimp only
     with_reducible and_intros
     omega;exact S.Yl h3 h4;iterate 4 rfl
     exact S.amc h2 h3 h4;simp only [S.ag,S.len];omega
   . intro h5;with_reducible and_intros
     omega
     . exact S.L2 hp h2 h3 (by rw [show(S.jY l x1).1=1 from h5];decide)
     iterate 2 omega
     refine⟨(x1+1),?_⟩;try dsimp only
     with_reducible and_intros
     omega;exact S.L1 h3 h5 (by decide);iterate 4 rfl
     exact S.OX hp h2 h3 h5 (by decide);simp only [S.ag,S.len];omega
   . intro h6;with_reducible and_intros
     omega
     . exact S.L2 hp h2 h3 (by rw [show(S.jY l x1).1=2 from h6];decide)
     iterate 2 omega
     refine⟨(x1+1),?_⟩;try dsimp only
     with_reducible and_intros
     omega;exact S.L1 h3 h6 (by decide);iterate 4 rfl
     exact S.OX hp h2 h3 h6 (by decide);simp only [S.ag,S.len];omega
   . intro h7;with_reducible and_intros
     omega
     . exact S.L2 hp h2 h3 (by rw [show(S.jY l x1).1=3 from h7];decide)
     iterate 2 omega
     refine⟨(x1+1),?_⟩;try dsimp only
     with_reducible and_intros
     omega;exact S.L1 h3 h7 (by decide);iterate 4 rfl
     exact S.OX hp h2 h3 h7 (by decide);simp only [S.ag,S.len];omega
   intro h8;have q:0<=(getD l (toNat (x1:Int)) (0,[])).1/\(getD l (toNat (x1:Int)) (0,[])).1<=3:=⟨(S.UP hp.1 h3).1,(S.UP hp.1 h3).2.1⟩;grind
 with_reducible and_intros
 omega
 iterate 2
  . have:=S.ab1 hp h2 h9;omega
 rw [(S.ab1 hp h2 h9).2];rfl
def atB(l:List (Int×B8))(f:List (List Int))(hp:S.fV l)(hf:Vg.gq J.Pv (l,f)):S.fV l/\q29 (Bool.not (S.bw l)) ([]=(S.mh l f).1) (1=(S.mh l f).2) (S.small l) (q29 (q19 (length f) (pb (S.ax l))) ([]=(S.mh l f).1) (1=(S.mh l f).2) (∃(x1:Nat),(0:Int)=x1/\S.Fa f x1) (∀(x2:Nat),S.Fa f x2->dj (decide ((x2:Int)<length f)) ((0:Int)<=x2/\(x2:Int)<length f) (gE (mY (Bool.not (S.bK (aHH f (toNat x2)))) ([]=(S.mh l f).1) (1=(S.mh l f).2) (x2+1) (∃(x3:Nat),aYP x2 x3 (S.Fa f x3) (S.len f)))) (S.E9 l (S.ax l) f) (S.OT l (S.ax l) f=(S.mh l f).1) (0=(S.mh l f).2))):=by
 refine aE ?_;have aIC:Vg.hlen f:=hf.2.1.1;refine⟨?_,?_,?_⟩;omega
 . intro h1;refine⟨?_,?_⟩
   . exact(S.Ji (by simp_all[S.mT,Bool.false_and])).1
   exact(S.Ji (by simp_all[S.mT,Bool.false_and])).2
 intro h2;simp at h2;refine⟨?_,?_,?_⟩;exact hp.1
 . intro h3;refine⟨?_,?_⟩
   . exact(S.Ji (by simp [S.mT,h2,Bool.true_and];grind)).1
   exact(S.Ji (by simp [S.mT,h2,Bool.true_and];grind)).2
 intro h4;simp at h4;refine⟨?_,?_⟩
 . refine⟨(nat_lit 0:Nat),?_⟩;dsimp only;refine⟨?_,?_⟩
   . omega
   exact⟨Nat.zero_le _,λx hx=>by grind⟩
 intro x5 h6;refine V.dI (λh7=>?_) λde=>?_
 . with_reducible and_intros
   iterate 2 omega
   trivial
   . intro h8;try simp only [nt] at h8
     refine⟨?_,?_⟩
     . exact(S.Ji (by simp only [S.mT,S.ab3 h7 h8,Bool.and_false])).1
     exact(S.Ji (by simp only [S.mT,S.ab3 h7 h8,Bool.and_false])).2
   intro h9;try simp only [nf] at h9
   with_reducible and_intros
   iterate 2 omega
   refine⟨(x5+nat_lit 1),?_⟩;try dsimp only
   refine⟨?_,?_,?_⟩;omega;exact S.amd h6 h7 h9;simp only [S.ag,S.len];omega
 refine⟨?_,?_,?_⟩;exact⟨h2,hp.1,S.Sx hp.1,w!,Z!.1 (S.UQ h6 (by assumption))⟩
 . exact(S.ab2 (by simp only [S.mT,h2,S.UQ h6 (by assumption),Bool.true_and,Bool.and_true];exact K? w!)).1
 . exact(S.ab2 (by simp only [S.mT,h2,S.UQ h6 (by assumption),Bool.true_and,Bool.and_true];exact K? w!)).2
def atC(p1:Int)(p2 p3 p4:B8)(p5:List B8)(p6 t:B8)(e:Int)(hp:S.aC p6):q17 (decide (p2=t)) (q17 (YG e) (S.aC p6) True) True/\cK (decide (p2=t)) (Ce (YG e) (S.mF 2 p6) p4)=S.KL t e p2 p4 p6:=by
 refine aE ?_;simp_all[dt,df,S.KL]
def atD(p1:Int)(p2 p3 p4:B8)(p5:List B8)(p6 t:B8):cK (Op.bytesLess p2 t) (bif Bool.not (a1Q p3 t) then YG (b6 p6) else cK (decide (p3=[])) (YG (b6 p6)))=S.KM t p2 p3 p6:=by
 refine aE ?_;grind[S.aBp,S.KM,Op.bytesLess,decide]
def atE(t:B8)(p1:Int)(p2 p3 p4:B8)(p5:List B8)(p6:B8)(hp:p6.length<=140737488355328):q32 p6/\[t]=[t]/\0=0/\[(S.b8 p6).2]=[(S.b8 p6).2]/\0=0/\(S.b8 p6).1=(S.b8 p6).1/\[t]=[t]/\0=0:=by
 refine aE ?_;grind
def atF(root:B8)(n:Int)(t:B8)(p1:Int)(p2 p3 p4:B8)(p5:List B8)(p6:B8)(hp:S.B0 t p5 p6):oI (aZb root) (oI (decide (n<1)) (oI (decide (1099511627776<n)) (S.small t)))/\q29 (q30 (aZb root) (q30 (decide (n<1)) (aL5 (decide (1099511627776<n)) (S.isTerm t)))) ([]=(S.iI root n t (p1,p2,p3,p4,p5,p6)).1) (1=(S.iI root n t (p1,p2,p3,p4,p5,p6)).2) True (dj (z7 (S.kM p2 p3 p4)) ([]=(S.iI root n t (p1,p2,p3,p4,p5,p6)).1) (6=(S.iI root n t (p1,p2,p3,p4,p5,p6)).2) (S.aC (S.fW p2 p3 p4)) (S.dM p5) (dj (aL5 (z7 (S.eQ (S.leaf (S.fW p2 p3 p4)) p1 n p5)) (decide (S.kq (S.leaf (S.fW p2 p3 p4)) p1 n p5=root))) ([]=(S.iI root n t (p1,p2,p3,p4,p5,p6)).1) (6=(S.iI root n t (p1,p2,p3,p4,p5,p6)).2) (q32 p6) (∃(x1:Nat),(0:Int)=x1/\S.ov root n t (p1,p2,p3,p4,p5,p6) x1) (∀(x2:Nat),S.ov root n t (p1,p2,p3,p4,p5,p6) x2->q17 (decide ((x2:Int)<((2:Nat):Int))) (((x2:Int)=((0:Nat):Int)->(x2:Int)=((0:Nat):Int)/\S.aC p6/\mY (S.KL t (S.b8 p6).2 p2 p4 p6) ((S.b8 p6).1=(S.iI root n t (p1,p2,p3,p4,p5,p6)).1) (0=(S.iI root n t (p1,p2,p3,p4,p5,p6)).2) (x2+1) (∃(x3:Nat),(x2:Int)+1=x3/\S.ov root n t (p1,p2,p3,p4,p5,p6) x3/\q44 2 x3 (S.ag 2 x2)))/\(x2=aZR->x2=aZR/\gE (mY (S.KM t p2 p3 p6) ([]=(S.iI root n t (p1,p2,p3,p4,p5,p6)).1) (0=(S.iI root n t (p1,p2,p3,p4,p5,p6)).2) (x2+1) (∃(x4:Nat),(x2:Int)+1=x4/\S.ov root n t (p1,p2,p3,p4,p5,p6) x4/\q44 2 x4 (S.ag 2 x2))))/\(((x2:Int)=((0:Nat):Int)->False)/\(x2=aZR->False)/\True->False)) ([]=(S.iI root n t (p1,p2,p3,p4,p5,p6)).1/\6=(S.iI root n t (p1,p2,p3,p4,p5,p6)).2)))):=by
 refine aE ?_;with_reducible and_intros
 grind
 . intro h2;refine⟨?_,?_⟩
   . grind
   intro h4;refine⟨?_,?_⟩
   . grind
   intro h6;exact hp.1
 . intro h7;grind[S.aru,S.arv]
 intro h8;refine⟨?_,?_,?_⟩;trivial;grind[nt,df,S.amf,S.UT,S.arw];intro de;refine⟨?_,?_,?_,?_⟩;grind[S.þ];exact hp.2.1
 . intro fC;grind[S.amf,S.UT,S.arx]
 intro gY;refine⟨?_,?_,?_⟩
 . have:=hp.2.2.2;grind[S.small]
 grind[S.aBr,S.UT,S.aBq];intro JB jZ;refine⟨?_,?_⟩
 . intro Cq;try simp only [dt] at Cq
   refine⟨?_,?_,?_⟩
   . intro zP;refine⟨?_,?_,?_,?_⟩;exact(by assumption);exact hp.2.2.1
     . intro HV;refine⟨?_,?_⟩
       . exact(S.ab7 jZ HV).1
       exact(S.ab7 jZ HV).2
     intro QW;with_reducible and_intros
     iterate 2 omega
     refine⟨(JB+1),?_⟩;try dsimp only
     refine⟨?_,?_,?_⟩;omega;exact S.aBs jZ zP QW;simp only [S.ag];omega
   . intro h19;refine⟨?_,?_,?_,?_⟩;exact(by assumption);trivial
     . intro h20;refine⟨?_,?_⟩
       . exact(S.ab8 jZ h19 h20).1
       exact(S.ab8 jZ h19 h20).2
     intro xA;with_reducible and_intros
     iterate 2 omega
     refine⟨(JB+1),?_⟩;try dsimp only
     refine⟨?_,?_,?_⟩;omega;exact S.aBt jZ h19 xA;simp only [S.ag];omega
   intro h22;have q:(JB:Int)=((0:Nat):Int)\/(JB:Int)=((1:Nat):Int):=by omega
   exact q.elim h22.1 h22.2.1
 grind[df,S.ary]
def atG(u v:B8):gE (S.aT u v=S.aT u v):=by
 refine aE ?_;grind
def atH(i j:Int)(u v:B8)(p:List B8)(hp:S.nI i j p)(hf:Vg.gq J.anh (i,j,u,v,p)):(∃(x1:Int×Int),(i=x1.1/\j=x1.2)/\S.wC i j x1)/\(∀(x2:Int×Int),S.wC i j x2->0<=x2.1/\(0:Int)<=1/\q29 (decide (Vg.aM x2.1 1=1)) (aT5 1 64) (aGr 1 64 (∃(x3:Int×Int),(x2.1/q51 2 1=x3.1/\x2.2/q51 2 1=x3.2)/\S.wC i j x3/\cx x3.1 x2.1)) ((0:Int)<=0/\0<pb p) (((0:Int)<=0/\0<pb p)/\aGr 1 (pb p) ((∃(x4:Nat×Int×Int×B8×B8),((0:Int)=x4.1/\x2.1=x4.2.1/\x2.2=x4.2.2.1/\lG p 0=x4.2.2.2.1/\lG p 0=x4.2.2.2.2)/\S.ow i j p x4)/\(∀(x5:Nat×Int×Int×B8×B8),S.ow i j p x5->oH (decide (x5.1<pb (aAj p))) 0 x5.1 (pb (aAj p)) (anl (YG x5.2.2.1) (S.mX i j u v p) (0<=x5.2.1/\(0:Int)<=1/\fX (cK (YG (Vg.aM x5.2.1 1)) (q19 x5.2.1 x5.2.2.1)) True (aGr 1 64 (aGr 1 64 (q26 (x5.1+1)/\(∃(x6:Nat×Int×Int×B8×B8),((x5.1:Int)+1=x6.1/\x5.2.1/q51 2 1=x6.2.1/\x5.2.2.1/q51 2 1=x6.2.2.1/\x5.2.2.2.1=x6.2.2.2.1/\S.aT x5.2.2.2.2 (lG (aAj p) x5.1)=x6.2.2.2.2)/\S.ow i j p x6/\q44 (S.len p) x6.1 (S.ag (S.len p) x5.1))))) (aJB (∃(x7:Int×Int×Nat),(x5.2.1=x7.1/\x5.2.2.1=x7.2.1)/\S.wD i j x7/\(x5.1:Int)=x7.2.2) (∀(x8:Int×Int×Nat),S.wD i j x8/\(x5.1:Int)=x8.2.2->0<=x8.1/\(0:Int)<=1/\fX (cK (YG (Vg.aM x8.1 1)) (z7 x8.1)) (aT5 1 64) (aGr 1 64 (∃(x9:Int×Int×Nat),(x8.1/q51 2 1=x9.1/\x8.2.1/q51 2 1=x9.2.1)/\(S.wD i j x9/\(x5.1:Int)=x9.2.2)/\cx x9.1 x8.1)) (aGr 1 64 (aGr 1 64 (q26 (x5.1+1)/\(∃(FE:Nat×Int×Int×B8×B8),((x5.1:Int)+1=FE.1/\x8.1/q51 2 1=FE.2.1/\x8.2.1/q51 2 1=FE.2.2.1/\S.aT (lG (aAj p) x5.1) x5.2.2.2.1=FE.2.2.2.1/\S.aT (lG (aAj p) x5.1) x5.2.2.2.2=FE.2.2.2.2)/\S.ow i j p FE/\q44 (S.len p) FE.1 (S.ag (S.len p) x5.1))))))))) (cK (YG x5.2.2.1) (Ce (decide (x5.2.2.2.1=u)) x5.2.2.2.2 v)=S.mX i j u v p))))):=by
 refine aE ?_;have YK:Vg.hlen p:=hf.2.2.2.2.1.1;refine⟨?_,?_⟩
 . refine⟨((i),(j)),?_⟩;with_reducible and_intros
   iterate 2 omega
   exact S.aBx hp
 intro x1 h2;refine⟨?_,?_,?_,?_⟩;exact h2.1;omega
 . intro h3;simp at h3;with_reducible and_intros
   iterate 4 omega
   refine⟨((x1.1/(2:Int)^toNat (1:Int)),(x1.2/(2:Int)^toNat (1:Int))),?_⟩;with_reducible and_intros
   iterate 2 omega
   . exact S.ahJ h2 (by rw [<-S.Ff h2.1];exact h3)
   have q:=S.Ff h2.1;rw [S.wE];have:=h2.1;omega
 intro h4;simp at h4;with_reducible and_intros
 omega
 . have:=hp.2.2.1;omega
 omega
 . have:=hp.2.2.1;omega
 omega
 . have:=hp.2.2.1;omega
 . refine⟨(0,((x1.1),((x1.2),((getD p (toNat (0:Int)) []),(getD p (toNat (0:Int)) []))))),?_⟩;dsimp only;with_reducible and_intros
   iterate 3 omega
   iterate 2 rfl
   . exact S.amm hp h2 (by rw [<-S.Ff h2.1];exact h4)
 intro x5 h6;refine V.dI (λh7=>?_) λzP=>?_
 . with_reducible and_intros
   iterate 2 omega
   . intro h8;try simp only [dt] at h8
     exact S.ahK h6 (S.dl h7) h8
   intro h9;try simp only [df] at h9
   refine⟨?_,?_,?_,?_⟩;exact h6.1.1;omega
   . intro de;try simp at de
     with_reducible and_intros
     trivial;iterate 5 omega
     . have:=S.dl h7;omega
     refine⟨((x5.1+1),((x5.2.1/(2:Int)^toNat (1:Int)),((x5.2.2.1/(2:Int)^toNat (1:Int)),((x5.2.2.2.1),(S.aT (x5.2.2.2.2) (getD (drop (toNat (1:Int)) p) (toNat (↑(x5.1):Int)) [])))))),?_⟩;try dsimp only
     with_reducible and_intros
     iterate 3 omega
     iterate 2 with_reducible rfl
     . rw [S.wE,S.wE,S.dgD];exact S.ahL h6 (S.dl h7) (by have:=de.1;rw [S.Ff h6.1.1] at this;omega) de.2
     simp only [S.ag,S.len];have:=S.dl h7;omega
   intro fC;refine⟨?_,?_,?_,?_⟩;iterate 2 trivial
   . refine⟨((x5.2.1),((x5.2.2.1),(x5.1))),?_⟩;try dsimp only
     with_reducible and_intros
     iterate 2 omega
     . have q:=S.Ff h6.1.1;exact S.aBy h6 h9 x!
     omega
   intro x12 jM;refine⟨?_,?_,?_,?_⟩;exact jM.1.1.1;omega
   . intro jZ;try simp at jZ
     with_reducible and_intros
     iterate 4 omega
     refine⟨((x12.1/(2:Int)^toNat (1:Int)),((x12.2.1/(2:Int)^toNat (1:Int)),(x5.1))),?_⟩;try dsimp only
     with_reducible and_intros
     iterate 2 omega
     . have e:x12.2.2=x5.1:=by have:=jM.2;omega
       rw [S.wE,S.wE,<-e];exact S.ahM jM.1 (by rw [<-S.Ff jM.1.1.1];exact jZ.1) jZ.2
     omega;rw [S.wE];have q:=jM.1.1.1;have:=jZ.2;omega
   intro Cq;with_reducible and_intros
   iterate 5 omega
   . have:=S.dl h7;omega
   refine⟨((x5.1+1),((x12.1/(2:Int)^toNat (1:Int)),((x12.2.1/(2:Int)^toNat (1:Int)),((S.aT (getD (drop (toNat (1:Int)) p) (toNat (↑(x5.1):Int)) []) (x5.2.2.2.1)),(S.aT (getD (drop (toNat (1:Int)) p) (toNat (↑(x5.1):Int)) []) (x5.2.2.2.2)))))),?_⟩;try dsimp only
   with_reducible and_intros
   iterate 3 omega
   iterate 2 with_reducible rfl
   . have q:=S.Ff jM.1.1.1;have q2:=Int.emod_two_eq x12.1;rw [S.wE,S.wE,S.dgD];exact S.amn h6 (S.dl h7) jM.1 (by have:=jM.2;omega) x!
   simp only [S.ag,S.len];have:=S.dl h7;omega
 rw [<-S.arD hp h6 (S.dl' zP)];cases decide (x5.2.2.1=0)<;>cases decide (x5.2.2.2.1=u)<;>rfl
def atI(m n:Int)(u v:B8)(p:List B8)(hp:S.B3 m n p)(hf:Vg.gq J.anh (m,n,u,v,p)):fX (YG m) (q17 (YG (length p)) (S.small q80) True) (Ce (YG (length p)) u (S.sum q80)=S.accepted m n u v p) (q17 (decide (m=n)) (Ce (YG (length p)) u v=S.accepted m n u v p) (q26 (m-1)/\0<=m/\0<=m-1/\fX (YG (Vg.aM m (m-1))) (nb (length [u]+length p)) (anl (YG (pb ([u]++p))) (S.accepted m n u v p) (q26 (m-1)/\q26 (n-1)/\S.nI (m-1) (n-1) ([u]++p)/\S.mX (m-1) (n-1) u v ([u]++p)=S.accepted m n u v p)) (anl (YG (length p)) (S.accepted m n u v p) (q26 (m-1)/\q26 (n-1)/\S.nI (m-1) (n-1) p/\S.mX (m-1) (n-1) u v p=S.accepted m n u v p)))):=by
 refine aE ?_;have ans:Vg.hint m:=hf.1;have SS:Vg.hint n:=hf.2.1;clear hf;refine V.dI (λh1=>?_) λh4=>?_
 . with_reducible and_intros
   . intro h2;try simp only [dt] at h2
     exact U! _
   grind;exact S.aHm h1
 refine V.dI (λh5=>?_) λh6=>?_
 . grind[S.aBz]
 with_reducible and_intros
 . have q1:=hp.1;omega
 omega
 iterate 2
  . have q1:=hp.1;omega
 . intro h7;refine⟨?_,?_,?_⟩
   . have:=hp.2.2.2;grind[S.dM,List.length_singleton]
   grind;intro h9;with_reducible and_intros
   . have q1:=hp.1;omega
   omega
   . have q2:=hp.2.1;omega
   omega;grind[S.acg];grind[S.aHn]
 intro de;refine V.dI (λfC=>?_) λgY=>?_
 . grind[S.arE]
 with_reducible and_intros
 . have q1:=hp.1;omega
 omega
 . have q2:=hp.2.1;omega
 omega;grind[S.acg];grind[S.ayS]
def atJ(m n:Int)(u v:B8)(p:List B8)(hp:S.dM p)(hf:Vg.gq J.anh (m,n,u,v,p)):q17 (q73 m 0 (q73 n m (q73 1099511627776 n (q30 (aZb u) (aZb v))))) (1=S.ia m n u v p) ((∃(x1:Nat),(0:Int)=x1/\S.fg p x1)/\(∀(x2:Nat),aYQ (S.fg p x2) (decide (x2<pb p)) x2 (pb p) (q17 (aZb (lG p x2)) (6=S.ia m n u v p) (q81 x2 (∃(x3:Nat),aYP x2 x3 (S.fg p x3) (S.len p)))) (S.B3 m n p) (q17 (Bool.not (S.accepted m n u v p)) (6=S.ia m n u v p) (0=S.ia m n u v p)))):=by
 refine aE ?_;have YK:Vg.hlen p:=hf.2.2.2.2.1.1;refine⟨?_,?_⟩
 . intro h1;simp at h1;exact S.arF h1
 intro h2;simp only [V.ajY,df,nf,dt] at h2;refine⟨?_,?_⟩
 . grind[S.abo]
 intro x3 h4;refine V.dI (λh5=>?_) λh8=>?_
 . with_reducible and_intros
   iterate 2 omega
   . intro h6;simp at h6;rw [S.Ā h2,J!];rw [S.arG h5 h6];simp
   intro h7;simp at h7;with_reducible and_intros
   iterate 2 omega
   refine⟨(x3+nat_lit 1),?_⟩;dsimp only;refine⟨?_,?_,?_⟩;omega;exact S.Yr h4 h5 h7;simp [S.ag,S.len];omega
 refine⟨?_,?_,?_⟩;exact⟨w!,w!,w!,hp⟩
 . intro h9;simp at h9;rw [S.Ā h2,J!];rw [h9];simp
 intro de;simp at de;rw [S.Ā h2,M! ⟨S.arH h4 h8,de⟩]
def atK(h1:Int)(h2:B8)(h3:List (Int×Int×Int×B8))(root:B8):gE (Ce (YG (S.im h1 h2 h3).2) (S.im h1 h2 h3).1 root=S.vz h1 h2 h3 root):=by
 refine aE ?_;grind[S.ari]
def atL(h1:Int)(h2:B8)(h3:List (Int×Int×Int×B8))(root:B8): [(h1,h2,h3)]=[(h1,h2,h3)]/\0=0/\[root]=[root]/\0=0:=by
 grind
def atM(a1:Int)(a2:B8)(a3:List (Int×Int×Int×B8))(a4:List (List (Int×B8×B8×B8×List B8×B8)))(i:Int)(t:List B8)(hp:0<=i/\i<(S.len a4:Nat)):(0<=i/\i<length a4)/\decide (length (getD a4 (toNat i) [])=pb t)=S.qF a4 i t:=by
 refine aE ?_;grind[S.qF,S.len]
def atN(p1:Int)(p2:B8)(p3:List (Int×Int×Int×B8))(p4:Int)(p5:B8)(p6:List B8)(i:Int):decide (p4=i)=decide (p4=i):=by
 rfl
def atO(l:List Int)(s1 s2:Int)(hf:Vg.gq J.ay6 (l,s1,s2)):(∃(x1:Nat),(0:Int)=x1/\S.xl l s1 s2 x1/\x1<=S.len l)/\(∀(x2:Nat),S.xl l s1 s2 x2/\x2<=S.len l->oH (decide (x2<q60 l)) 0 x2 (q60 l) (aRJ (SN (aYW l x2) s1 s2) (S.wB l s1 s2) x2 (∃(x3:Nat),aYP x2 x3 (S.xl l s1 s2 x3/\x3<=S.len l) (S.len l))) (true=S.wB l s1 s2)):=by
 refine aE ?_;have PN:Vg.hlen l:=hf.1.1;have anp:Vg.hint s1:=hf.2.1;have anq:Vg.hint s2:=hf.2.2.1;clear hf;refine⟨?_,?_⟩
 . grind[S.xl,S.zB,S.Da,S.Hr,S.ag,S.len]
 intro x1 h2;refine⟨?_,?_⟩
 . intro h3;try simp only [dt] at h3
   with_reducible and_intros
   iterate 2 omega
   . intro h4;try simp only [V.IG,dt,tn] at h4
     grind [S.xl,S.zB,S.Da,S.Hr,S.ag,S.len]
   intro h5;try simp only [V.ajY,df,tn] at h5
   with_reducible and_intros
   iterate 2 omega
   refine⟨(x1+1),?_⟩;try dsimp only
   with_reducible and_intros
   omega;iterate 3 (grind [S.xl,S.zB,S.Da,S.Hr,S.ag,S.len])
 grind[df,S.zB,S.Da,S.Hr]
def atP(p1:Int)(p2:B8)(p3:List (Int×Int×Int×B8))(p4:Int)(p5:B8)(p6:List B8)(i:Int)(hp:S.dM p6/\S.aC p5):S.aC p5/\S.dM p6/\Ce (YG (S.eQ (S.leaf p5) i p1 p6)) (S.kq (S.leaf p5) i p1 p6) p2=S.xm p1 p2 p5 p6 i:=by
 refine aE ?_;grind[S.xm]
def atQ(root:B8)(i:Int)(b:B8)(hp:b.length<1099511627776):q29 (aZb root) ([]=(S.fS root i b).1) (1=(S.fS root i b).2) (q32 b) (dj (z7 (S.ak b).2) ([]=(S.fS root i b).1) ((S.ak b).2=(S.fS root i b).2) True (q98 aZF (S.vz (S.ak b).1.1 (S.ak b).1.2.1 (S.ak b).1.2.2.1 root->q98 aZF (decide ((S.ak b).1.2.2.2.1=i)->(S.dM (S.ak b).1.2.2.2.2.2/\S.aC (S.ak b).1.2.2.2.2.1)/\aZF/\(S.xm (S.ak b).1.1 (S.ak b).1.2.1 (S.ak b).1.2.2.2.2.1 (S.ak b).1.2.2.2.2.2 i->True)))) (q29 (z7 (bif cK (S.vz (S.ak b).1.1 (S.ak b).1.2.1 (S.ak b).1.2.2.1 root) (cK (decide ((S.ak b).1.2.2.2.1=i)) (q30 (S.xm (S.ak b).1.1 (S.ak b).1.2.1 (S.ak b).1.2.2.2.2.1 (S.ak b).1.2.2.2.2.2 i) false)) then 0 else 6)) ([]=(S.fS root i b).1) ((bif cK (S.vz (S.ak b).1.1 (S.ak b).1.2.1 (S.ak b).1.2.2.1 root) (cK (decide ((S.ak b).1.2.2.2.1=i)) (q30 (S.xm (S.ak b).1.1 (S.ak b).1.2.1 (S.ak b).1.2.2.2.2.1 (S.ak b).1.2.2.2.2.2 i) false)) then 0 else 6)=(S.fS root i b).2) ((S.ak b).1.2.2.2.2.1=(S.fS root i b).1) (0=(S.fS root i b).2))):=by
 refine aE ?_;refine⟨?_,?_⟩
 . grind[nt,df,S.aBj]
 intro h2;refine⟨?_,?_,?_⟩;omega;grind[nt,df,S.aBk];intro h4;with_reducible and_intros
 iterate 2 trivial
 rfl;simp_all[dt,S.Yj]
 grind[nt,df,S.al9,S.Yi];grind[S.al9,S.Yi]
def atS(g1 g2 g3:Int)(g4 w:B8)(a1:Int)(a2:B8)(a3:List (Int×Int×Int×B8))(a4:List (List (Int×B8×B8×B8×List B8×B8)))(i j:Int)(xs:List Value)(q:Nat)(l:List Int)(hp:S.OZ w a4 i j/\S.Sz j q xs.length l/\S.sZ (g1,g2,g3,g4) w a4 i j=true):(0<=i/\i<length a4)/\q86 0 j (length (getD a4 (toNat i) [])) (S.B0 w (Ck a4 i j).2.2.2.2.1 (Ck a4 i j).2.2.2.2.2) (aP6 (z7 (aWU a4 g3 g4 i j w).2)/\dj (aL5 (z7 (aWU a4 g3 g4 i j w).2) (S.wB (aWU a4 g3 g4 i j w).1 g1 g2)) (false=true) (xs=xs/\q=q/\l=S.SA l (S.Ak (g1,g2,g3,g4) w a4 i j).1) (aVI j (Vg.bk.A4 xs)) (toNat j<Vg.bk.A4 xs) (toNat j=q/\aZy l (aWU a4 g3 g4 i j w).1/\q86 0 j (Vg.bk.A4 xs) (toNat j<Vg.bk.A4 xs) (toNat j=q/\aZF/\xs=xs/\q=q/\l++(aWU a4 g3 g4 i j w).1=S.SA l (S.Ak (g1,g2,g3,g4) w a4 i j).1))):=by
 refine aE ?_;obtain⟨⟨p1,p2,p3⟩,⟨p4,p5,p6⟩,p7⟩:=hp;have p8:(S.Ak (g1,g2,g3,g4) w a4 i j).2=0/\S.wB (S.Ak (g1,g2,g3,g4) w a4 i j).1 g1 g2=true:=by grind[S.sZ]
 have g1':0<=j/\j<(xs.length:Int):=⟨p2.1,w!⟩;have Zv:toNat j<xs.length:=by omega
 have g3':(S.Ak (g1,g2,g3,g4) w a4 i j).1.length<=1000:=S.SC _ _ _ _;have g4':l.length<=1099511627776:=p6;have g5':l.length+(S.Ak (g1,g2,g3,g4) w a4 i j).1.length<=17592186044416:=by omega
 refine⟨p1,p2,p3,⟨λ_=>trivial,λ_=>trivial⟩,λh3=>?_,λh4=>⟨g1',Zv,p4.symm,g5',g1',Zv,p4.symm,rfl,rfl,rfl,rfl⟩⟩;change (bif !decide ((S.Ak (g1,g2,g3,g4) w a4 i j).2=0) then true else !S.wB (S.Ak (g1,g2,g3,g4) w a4 i j).1 g1 g2)=true at h3;grind
def atU(g1 g2 g3:Int)(g4 w:B8)(a1:Int)(a2:B8)(a3:List (Int×Int×Int×B8))(a4:List (List (Int×B8×B8×B8×List B8×B8)))(i j:Int)(xs:List Value)(q:Nat)(l:List Int)(hp:S.OZ w a4 i j/\S.Sz j q xs.length l/\S.sZ (g1,g2,g3,g4) w a4 i j=false):(0<=i/\i<length a4)/\q86 0 j (length (getD a4 (toNat i) [])) (S.B0 w (aQX a4 i j).2.2.2.2.1 (aQX a4 i j).2.2.2.2.2) (aP6 (z7 (S.iI g4 g3 w ((aQX a4 i j).1,(aQX a4 i j).2.1,(aQX a4 i j).2.2.1,(aQX a4 i j).2.2.2.1,(aQX a4 i j).2.2.2.2.1,(aQX a4 i j).2.2.2.2.2)).2)/\dj (aL5 (z7 (S.iI g4 g3 w ((aQX a4 i j).1,(aQX a4 i j).2.1,(aQX a4 i j).2.2.1,(aQX a4 i j).2.2.2.1,(aQX a4 i j).2.2.2.2.1,(aQX a4 i j).2.2.2.2.2)).2) (S.wB (S.iI g4 g3 w ((aQX a4 i j).1,(aQX a4 i j).2.1,(aQX a4 i j).2.2.1,(aQX a4 i j).2.2.2.1,(aQX a4 i j).2.2.2.2.1,(aQX a4 i j).2.2.2.2.2)).1 g1 g2)) (false=false) (xs=xs/\q=q/\l=l) (aVI j (Vg.bk.A4 xs)) (toNat j<Vg.bk.A4 xs) (toNat j=q/\aZy l (S.iI g4 g3 w ((aQX a4 i j).1,(aQX a4 i j).2.1,(aQX a4 i j).2.2.1,(aQX a4 i j).2.2.2.1,(aQX a4 i j).2.2.2.2.1,(aQX a4 i j).2.2.2.2.2)).1/\q86 0 j (Vg.bk.A4 xs) (toNat j<Vg.bk.A4 xs) (toNat j=q/\true=false/\False/\False))):=by
 refine aE ?_;obtain⟨⟨p1,p2,p3⟩,⟨p4,p5,p6⟩,p7⟩:=hp;refine⟨p1,p2,p3,⟨λ_=>trivial,λ_=>trivial⟩,λh3=>⟨rfl,rfl,rfl,rfl⟩,λh4=>?_⟩;change (bif !decide ((S.Ak (g1,g2,g3,g4) w a4 i j).2=0) then true else !S.wB (S.Ak (g1,g2,g3,g4) w a4 i j).1 g1 g2)=false at h4;change (decide ((S.Ak (g1,g2,g3,g4) w a4 i j).2=0)&&S.wB (S.Ak (g1,g2,g3,g4) w a4 i j).1 g1 g2)=false at p7;grind
def atV(root:B8)(l:List (Int×B8))(b:B8)(hp:b.length<1099511627776/\S.fV l):oI (aZb root) (S.fV l)/\q29 (aL5 (aZb root) (S.bw l)) ([]=(S.kA root l b).1) (1=(S.kA root l b).2) (q32 b) (dj (z7 (aUJ b).2) ([]=(S.kA root l b).1) ((aUJ b).2=(S.kA root l b).2) (S.small l) (a0G 0 (pb (S.ax l)) ((24:Nat):Int)) (q98 (∃(x1:Nat),((0:Int)=x1/\[λ(x2:Vg.Z)=>(True,Vg.AV.bool (S.vz (aUJ b).1.1 (aUJ b).1.2.1 (aUJ b).1.2.2.1 root),x2)]=S.conds 27 3 root (aUJ b).1.1 (aUJ b).1.2.1 (aUJ b).1.2.2.1 (aUJ b).1.2.2.2 (S.ax l) x1)/\S.aca b x1) (∀(x3:Nat),aYQ (S.aca b x3) (decide ((x3:Int)<length (aUJ b).1.2.2.1)) x3 (length (aUJ b).1.2.2.1) (q79 (Nat.succ (Vg.bk.len (S.conds 27 3 root (aUJ b).1.1 (aUJ b).1.2.1 (aUJ b).1.2.2.1 (aUJ b).1.2.2.2 (S.ax l) x3)))/\(∃(x4:Nat×Nat),((0:Int)=x4.2/\Vg.bk.cat (S.conds 27 3 root (aUJ b).1.1 (aUJ b).1.2.1 (aUJ b).1.2.2.1 (aUJ b).1.2.2.2 (S.ax l) x3) [λ(x5:Vg.Z)=>(aVI x3 (S.len (aUJ b).1.2.2.2),Vg.AV.bool (S.qF (aUJ b).1.2.2.2 x3 (S.ax l)),x5)]=S.nJ 27 3 root (aUJ b).1.1 (aUJ b).1.2.1 (aUJ b).1.2.2.1 (aUJ b).1.2.2.2 (S.ax l) x4.1 x4.2)/\S.UU b (S.ax l) x4.1 x4.2/\(x3:Int)=x4.1)/\(∀(x6:Nat×Nat),S.UU b (S.ax l) x6.1 x6.2/\(x3:Int)=x6.1->mY (decide (x6.2<pb (S.ax l))) (aVI x6.2 (pb (S.ax l))) (q79 (Nat.succ (Vg.bk.len (S.nJ 27 3 root (aUJ b).1.1 (aUJ b).1.2.1 (aUJ b).1.2.2.1 (aUJ b).1.2.2.2 (S.ax l) x6.1 x6.2)))/\q26 (x6.2+1)/\(∃(x7:Nat×Nat),((x6.2:Int)+1=x7.2/\Vg.bk.cat (S.nJ 27 3 root (aUJ b).1.1 (aUJ b).1.2.1 (aUJ b).1.2.2.1 (aUJ b).1.2.2.2 (S.ax l) x6.1 x6.2) [S.B2 27 3 ((aUK b x3).1,(aUK b x3).2.1,(aUK b x3).2.2.1,(aUK b x3).2.2.2) (lG (S.ax l) x6.2) (aUJ b).1.2.2.2 x3 x6.2]=S.nJ 27 3 root (aUJ b).1.1 (aUJ b).1.2.1 (aUJ b).1.2.2.1 (aUJ b).1.2.2.2 (S.ax l) x7.1 x7.2)/\(S.UU b (S.ax l) x7.1 x7.2/\(x3:Int)=x7.1)/\q53 (S.len (S.ax l)) x7.2 x6.2)) (x3+1) (∃(x8:Nat),aZz x3 x8 (S.nJ 27 3 root (aUJ b).1.1 (aUJ b).1.2.1 (aUJ b).1.2.2.1 (aUJ b).1.2.2.2 (S.ax l) x6.1 x6.2=S.conds 27 3 root (aUJ b).1.1 (aUJ b).1.2.1 (aUJ b).1.2.2.1 (aUJ b).1.2.2.2 (S.ax l) x8) (S.aca b x8) (S.len (aUJ b).1.2.2.1)))) (Vg.bk.MP (toNat (pb (S.ax l)))=Vg.bk.MP (toNat (pb (S.ax l)))/\(aF8 b l root x3).1) (dj (z7 (bif (aF8 b l root x3).2.1 then 0 else 6)) ([]=(S.kA root l b).1) ((bif (aF8 b l root x3).2.1 then 0 else 6)=(S.kA root l b).2) (S.fV l) ((S.mh l (Vg.bk.rows (aF8 b l root x3).2.2)).1=(S.kA root l b).1) ((S.mh l (Vg.bk.rows (aF8 b l root x3).2.2)).2=(S.kA root l b).2))))):=by
 refine aE ?_;with_reducible and_intros
 iterate 2 grind
 grind[S.arB,S.aBu];intro h4;try simp at h4
 refine⟨?_,?_,?_⟩;omega;grind[nt,df,S.arC,S.O4];intro h6;simp at h6;with_reducible and_intros
 exact hp.2.1;iterate 2 omega
 grind[S.pS];trivial
 . refine⟨0,?_⟩;try dsimp only
   with_reducible and_intros
   omega;rfl;exact⟨U! _,h6⟩
 intro x7 h8;refine V.dI (λh9=>?_) λjZ=>?_
 . with_reducible and_intros
   iterate 2 omega
   . have e:=S.Fe (e0:=27) (ei0:=3) (root:=root) (n:=(S.bp b).1.1) (g:=(S.bp b).1.2.1) (s:=(S.bp b).1.2.2.1) (a:=(S.bp b).1.2.2.2) (t:=S.ax l) x7;have q:=S.ace hp.1 hp.2 h6 h4.2 h8.1;show length _+1<=_;omega
   . refine⟨((x7),0),?_⟩;try dsimp only
     with_reducible and_intros
     omega;rfl;exact⟨w!,U! _,h6⟩;omega
   intro FE fC;refine⟨?_,?_⟩
   . intro gY;try simp only [dt] at gY
     with_reducible and_intros
     iterate 2 omega
     . have e:=S.UX (e0:=27) (ei0:=3) (root:=root) (n:=(S.bp b).1.1) (g:=(S.bp b).1.2.1) (s:=(S.bp b).1.2.2.1) (a:=(S.bp b).1.2.2.2) (t:=S.ax l) FE.1 FE.2;have q:=S.ace hp.1 hp.2 h6 h4.2 (Nat.le_of_lt fC.1.1);have q2:=fC.1.2.1;have q3:=S.pS h4.2;show length _+1<=_;omega
     omega
     . have q:=S.pS h4.2;omega
     refine⟨((x7),(FE.2+1)),?_⟩;try dsimp only
     with_reducible and_intros
     omega
     . have e:x7=FE.1:=by have:=fC.2;omega
       rw [<-e];exact S.QV x7 FE.2
     . have:=fC.1.1;exact⟨w!,w!,h6⟩
     omega;simp only [S.ag,S.len];omega
   intro jM;try simp only [df] at jM
   with_reducible and_intros
   omega
   . have q:=S.acd hp.1 hp.2 h6;omega
   refine⟨(x7+1),?_⟩;try dsimp only
   with_reducible and_intros
   omega
   . have e:x7=FE.1:=by have:=fC.2;omega
     have e2:FE.2=(S.ax l).length:=by have:=fC.1.2.1;omega
     rw [<-e,e2];rfl
   exact⟨w!,h6⟩;simp only [S.ag,S.len];omega
 with_reducible and_intros
 rfl
 . exact(S.Hy hp.1 hp.2 h6 (by have:=h8.1;omega)).pre
 . intro Cq;try simp at Cq
   refine⟨?_,?_⟩
   . exact(S.amj (S.O4 h4) h6 (S.Hy hp.1 hp.2 h6 (by have:=h8.1;omega)) Cq).1
   exact(S.amj (S.O4 h4) h6 (S.Hy hp.1 hp.2 h6 (by have:=h8.1;omega)) Cq).2
 intro zP;try simp at zP
 refine⟨?_,?_,?_⟩;exact hp.2
 . rw [S.acf (S.O4 h4) h6 (S.Hy hp.1 hp.2 h6 (by have:=h8.1;omega)) zP]
 rw [S.acf (S.O4 h4) h6 (S.Hy hp.1 hp.2 h6 (by have:=h8.1;omega)) zP]
def atW(s1:Int)(s2:B8)(s3:List (Int×Int×Int×B8))(s4:Int)(s5:B8)(s6:List (Int×Int×Int×B8))(s7:List B8)(t:B8):q98 (YG (S.im s4 s5 s6).2=YG (S.im s4 s5 s6).2) ((S.im s4 s5 s6).1=(S.im s4 s5 s6).1):=by
 refine aE ?_;grind
def atX(s1:Int)(s2:B8)(s3:List (Int×Int×Int×B8))(s4:Int)(s5:B8)(s6:List (Int×Int×Int×B8))(s7:List B8)(hp:S.dM s7):S.dM s7/\YG (S.ia s1 s4 s2 s5 s7)=YG (S.ia s1 s4 s2 s5 s7):=by
 refine aE ?_;grind
def atY(root b:B8)(hp:b.length<1099511627776):q29 (aZb root) ([]=(S.dW root b).1) (0=(S.dW root b).2.1/\1=(S.dW root b).2.2) (q32 b) (dj (z7 (S.ah b).2) ([]=(S.dW root b).1) (0=(S.dW root b).2.1/\(S.ah b).2=(S.dW root b).2.2) True (q98 aZF (S.vz (S.ah b).1.1 (S.ah b).1.2.1 (S.ah b).1.2.2.1 root->S.dM (S.ah b).1.2.2.2.2.2.2/\aZF/\(aC6 b->q98 aZF (YG (aF7 b).2->True)))) (q29 (z7 (bif cK (S.vz (S.ah b).1.1 (S.ah b).1.2.1 (S.ah b).1.2.2.1 root) (cK (aC6 b) (q30 (YG (aF7 b).2) false)) then 0 else 6)) ([]=(S.dW root b).1) (0=(S.dW root b).2.1/\(bif cK (S.vz (S.ah b).1.1 (S.ah b).1.2.1 (S.ah b).1.2.2.1 root) (cK (aC6 b) (q30 (YG (aF7 b).2) false)) then 0 else 6)=(S.dW root b).2.2) ((bif S.vz (S.ah b).1.1 (S.ah b).1.2.1 (S.ah b).1.2.2.1 root then bif aC6 b then bif YG (aF7 b).2 then(aF7 b).1 else(aF7 b).1 else([]:B8) else([]:B8))=(S.dW root b).1) ((S.ah b).1.2.2.2.1=(S.dW root b).2.1/\0=(S.dW root b).2.2))):=by
 refine aE ?_;refine⟨?_,?_⟩
 . grind[nt,df,S.aBA]
 intro h2;try simp at h2
 refine⟨?_,?_,?_⟩;omega;grind[nt,df,S.aBB];intro h4;try simp at h4
 with_reducible and_intros
 iterate 2 trivial
 rfl;simp_all[S.amp,dt]
 . intro h8;try simp only [nt,df] at h8
   refine⟨?_,?_,?_⟩
   iterate 2
    . have e:S.Hz root (S.ah b).1=false:=by
       cases q:S.Hz root (S.ah b).1 with
       |false=>rfl
       |true=>exact absurd ((S.amq _ _ _).trans (M! q)) h8
      grind[S.UY]
   have e:S.Hz root (S.ah b).1=false:=by
    cases q:S.Hz root (S.ah b).1 with
    |false=>rfl
    |true=>exact absurd ((S.amq _ _ _).trans (M! q)) h8
   rw [S.UY h2 h4,e,S.amq];grind
 intro h9;try simp only [nf,dt] at h9
 refine⟨?_,?_,?_⟩
 . have e:S.Hz root (S.ah b).1=true:=S.ā h9;have e2:=S.ā h9;simp_all[B!,S.UY,M!]
 iterate 2 (simp_all[S.Hz,S.ah,S.ā,S.UY,M!])
def aWf(d:Bool)(l:B8):fX d (1=S.wz (l,d)) ([]=S.wy (l,d)) (q29 (a0b 1048576 l) (3=S.wz (l,d)) ([]=S.wy (l,d)) (0=S.wz (l,d)) (l=S.wy (l,d))):=by
 refine aE ?_;simp_all[dt,S.wz,J!,M!,S.wy,df]
def aWg(a1:Int)(a2:B8)(a3:List (Int×Int×Int×B8))(a4:List (List (Int×B8×B8×B8×List B8×B8)))(hp:S.qD a4)(hf:Vg.gq J.am5 (a1,a2,a3,a4)):q59 [1]/\q29 (q19 (length a4) (length a3)) (1=(S.kv a1 a2 a3 a4).2) ([]=(S.kv a1 a2 a3 a4).1) (∃(x1:Nat),rj 0 x1 false (S.ajd a1 a2 a3) (S.cY a1 a2 a3 a4 x1) [1]/\S.kz a3 a4 x1) (∀(x2:Nat),aYQ (S.kz a3 a4 x2) (decide ((x2:Int)<length a4)) x2 (length a4) (dj (decide ((16:Int)<length (getD a4 (toNat x2) []))) (1=(S.kv a1 a2 a3 a4).2) ([]=(S.kv a1 a2 a3 a4).1) (q59 (S.bytesOf (S.cY a1 a2 a3 a4 x2))) (∃(x3:Nat×Nat),rj 0 x3.1 (S.iG (S.cY a1 a2 a3 a4 x2)) (S.lO (length (getD a4 (toNat x2) []))) (S.dN a1 a2 a3 a4 x3.2 x3.1) (S.bytesOf (S.cY a1 a2 a3 a4 x2))/\S.iH a3 a4 x3.2 x3.1/\(x2:Int)=x3.2) (∀(x4:Nat×Nat),S.iH a3 a4 x4.2 x4.1/\(x2:Int)=x4.2->mY (decide ((x4.1:Int)<length (getD a4 (toNat x2) []))) (aVI x4.1 (length (getD a4 (toNat x2) []))) ((length (S.bytesOf (S.dN a1 a2 a3 a4 x4.2 x4.1))<=8796093022208/\sA (Js a4 x2 x4).2.2.2.2.2)/\q26 (x4.1+1)/\(∃(x5:Nat×Nat),rj (x4.1+1) x5.1 (S.iG (S.dN a1 a2 a3 a4 x4.2 x4.1)) (S.ku ((Js a4 x2 x4).1,(Js a4 x2 x4).2.1,(Js a4 x2 x4).2.2.1,(Js a4 x2 x4).2.2.2.1,(Js a4 x2 x4).2.2.2.2.1,(Js a4 x2 x4).2.2.2.2.2)) (S.dN a1 a2 a3 a4 x5.2 x5.1) (S.bytesOf (S.dN a1 a2 a3 a4 x4.2 x4.1))/\(S.iH a3 a4 x5.2 x5.1/\(x2:Int)=x5.2)/\q44 (S.len (S.iE a4 x5.2)) x5.1 (S.ag (S.len (S.iE a4 x4.2)) x4.1))) (x2+1) (∃(x6:Nat),aVF x2 x6 (S.iG (S.dN a1 a2 a3 a4 x4.2 x4.1)=S.iG (S.cY a1 a2 a3 a4 x6)) (S.bytesOf (S.dN a1 a2 a3 a4 x4.2 x4.1)=S.bytesOf (S.cY a1 a2 a3 a4 x6)) (S.kz a3 a4 x6) (S.len a4)))) True (S.wz (S.bytesOf (S.cY a1 a2 a3 a4 x2),S.iG (S.cY a1 a2 a3 a4 x2))=(S.kv a1 a2 a3 a4).2/\S.wy (S.bytesOf (S.cY a1 a2 a3 a4 x2),S.iG (S.cY a1 a2 a3 a4 x2))=(S.kv a1 a2 a3 a4).1)):=by
 refine aE ?_;have aDF:Vg.hlen a3:=hf.2.2.1.1;refine⟨?_,?_,?_⟩;decide;grind[nt,df,S.alN];intro h2;simp at h2;refine⟨?_,?_⟩
 . refine⟨(nat_lit 0:Nat),?_⟩;dsimp only;with_reducible and_intros
   omega;iterate 2 rfl
   grind[S.ayL]
 intro x3 h4;refine V.dI (λh5=>?_) λgY=>?_
 . with_reducible and_intros
   iterate 2 omega
   . intro h6;try simp at h6
     refine⟨?_,?_⟩
     . rw [S.LV h5 h6]
     rw [S.LV h5 h6]
   intro h7;try simp only [df,tn] at h7
   refine⟨?_,?_,?_⟩;exact X? (S.UK (n:=a1) (g:=a2) h4) (by decide)
   . refine⟨((nat_lit 0:Nat),(x3)),?_⟩;try dsimp only
     with_reducible and_intros
     omega
     iterate 2
      . rw [tn,S.LX w!];rfl
     exact S.alM h4 h5 h7;with_reducible rfl
   intro x8 h9;refine⟨?_,?_⟩
   . intro de;try simp only [dt,tn] at de
     with_reducible and_intros
     omega;assumption;exact X? (S.Yd (n:=a1) (g:=a2) h9.1) (by decide)
     . obtain⟨q,e⟩:=h9;have e':x8.2=x3:=by omega
       rw [e'] at q;exact S.Yc q de
     iterate 2 omega
     refine⟨((Prod.fst x8+nat_lit 1),(x3)),?_⟩;try dsimp only
     with_reducible and_intros
     omega
     . obtain⟨q,e⟩:=h9;have e':x8.2=x3:=by omega
       rw [e',tn,tn];exact(S.abN _ rfl _ _ rfl rfl).1
     . obtain⟨q,e⟩:=h9;have e':x8.2=x3:=by omega
       rw [e',tn,tn];exact(S.abN _ rfl _ _ rfl rfl).2
     . obtain⟨q,e⟩:=h9;have e':x8.2=x3:=by omega
       rw [e'] at q;exact S.Yb q de
     with_reducible rfl
     obtain⟨q,e⟩:=h9;have e':x8.2=x3:=by omega
     rw [e'];have hh:(x8.1:Int)<((S.iE a4 x3).length:Int):=de;simp only [S.ag,S.len];omega
   intro fC;try simp only [df,tn] at fC
   with_reducible and_intros
   iterate 2 omega
   refine⟨(x3+nat_lit 1),?_⟩;try dsimp only
   with_reducible and_intros
   omega
   iterate 2
    . obtain⟨q,e⟩:=h9;have e':x8.2=x3:=by omega
      rw [e'] at q |-;rw [(S.LU (n:=a1) (g:=a2) q fC).2]
   . obtain⟨q,e⟩:=h9;have e':x8.2=x3:=by omega
     rw [e'] at q;exact(S.LU (n:=a1) (g:=a2) q fC).1
   simp only [S.ag,S.len];omega
 refine⟨?_,?_,?_⟩;trivial
 . rw [S.LW h4 gY];rfl
 rw [S.LW h4 gY];rfl
def aWh(y1:List B8)(y2:List (Int×Int×List (B8×List Int)))(l:List (Int×B8))(hp:S.fV l)(hf:Vg.gq J.aIf (y1,y2,l)):gE (q29 (z7 (S.iv y1 y2).2) (7=(S.fE y1 y2 l).2) ([]=(S.fE y1 y2 l).1) (S.fV l) (dj (Bool.not (S.bw l)) (1=(S.fE y1 y2 l).2) ([]=(S.fE y1 y2 l).1) (S.small l) (∃(x1:Nat),((0:Int)=x1/\(S.iv y1 y2).2=0/\S.ax l=S.ax l/\(S.iv y1 y2).1.1=S.len y1/\(S.iv y1 y2).1.2.1=aUq y1/\(S.iv y1 y2).1.2.2=S.cB y1 y2/\[]=S.iL y2 (S.ax l) x1)/\S.gX y2 x1/\S.gv y1 y2/\S.bw l) (∀(x2:Nat),S.gX y2 x2/\S.gv y1 y2/\S.bw l->oH (decide ((x2:Int)<length y2)) 0 x2 (length y2) ((S.Jc (getD y2 (toNat x2) (0,0,[])).2.2 (S.ax l)/\(0:Int)=0)/\a1R (S.iL y2 (S.ax l) x2) [S.Lm (getD y2 (toNat x2) (0,0,[])).2.2 (S.ax l)]/\q81 x2 (∃(x3:Nat),aVF x2 x3 aWT (S.ax l=S.ax l/\(S.len y1:Int)=S.len y1/\aUq y1=aUq y1/\S.cB y1 y2=S.cB y1 y2/\S.iL y2 (S.ax l) x2++[S.Lm (getD y2 (toNat x2) (0,0,[])).2.2 (S.ax l)]=S.iL y2 (S.ax l) x3) (S.gX y2 x3/\S.gv y1 y2/\S.bw l) (S.len y2))) (q29 (PA 0) (0=(S.fE y1 y2 l).2) ([]=(S.fE y1 y2 l).1) (S.qD (S.iL y2 (S.ax l) x2)) ((S.kv (S.len y1) (aUq y1) (S.cB y1 y2) (S.iL y2 (S.ax l) x2)).2=(S.fE y1 y2 l).2/\(S.kv (S.len y1) (aUq y1) (S.cB y1 y2) (S.iL y2 (S.ax l) x2)).1=(S.fE y1 y2 l).1))))):=by
 refine aE ?_;have JC:Vg.hlen y2:=hf.2.1.1;refine⟨?_,?_,?_⟩;trivial;grind[nt,df,S.al4];intro h2;simp at h2;refine⟨?_,?_,?_⟩;omega;grind[nt,S.abW];intro h4;simp at h4;refine⟨?_,?_,?_⟩;exact hp.1
 . refine⟨(nat_lit 0:Nat),?_⟩;dsimp only;with_reducible and_intros
   iterate 2 omega
   rfl;exact(S.wA h2).2.1;iterate 2 (simp_all[S.wA])
   rfl;exact Nat.zero_le _;grind[S.wA];omega
 intro x5 h6;refine V.dI (λh7=>?_) λh8=>?_
 . with_reducible and_intros
   iterate 2 omega
   exact S.abV h6.2.1 h6.2.2 h7;rfl
   . have:=S.abU y2 (S.ax l) x5;have:=S.Jd h6.2.1;rw [C?];omega
   iterate 2 omega
   refine⟨(x5+nat_lit 1),?_⟩;try dsimp only
   with_reducible and_intros
   omega;iterate 5 rfl
   exact S.Yg h7
   . unfold S.gX;omega
   exact h6.2.1;omega;simp only [S.ag,S.len];omega
 refine⟨?_,?_⟩
 . intro h9;refine⟨?_,?_⟩
   . grind
   grind
 grind[S.abX]
def aWj:0<length ([104,97,121]:B8)/\q98 (0<length ([119,97,105,110,32,104,97,121]:B8)) (gE (aJB (0<length ([104,97,121]:B8)) ([104,97,121]=S.zA/\S.fV S.fy/\(aSJ (az4 97 32)/\S.fV S.fy)/\q17 (YG (b6 (az4 97 32))) (false=true) (q26 (b6 (az4 97 32)-1)/\(0<=a0q/\b6 (az4 97 32)-1<b6 (az4 97 32))/\a0Q/\(0<=a0q/\b6 (az4 97 32)-1<b6 (az4 97 32))/\a0Q/\(∀(x1:B8),x1=List.set (az4 97 32) (toNat a0q) (HJ ((aJz (az4 97 32) a0q 0+1)%256))->(aSJ x1/\S.fV S.fy)/\gE (cK (S.sH a03.1 [0,1]) (cK (YG a03.2) (z7 (S.kA (S.mG (aQg 97 32).1 (aQg 97 32).2).1 S.fy x1).2))=true)))))):=by
 refine aE ?_;with_reducible and_intros
 decide;trivial;decide;iterate 3 trivial
 decide;rfl;exact S.al5;grind[S.UZ,S.L3];exact S.al5;grind[S.UZ,S.L3];intro h2;try simp only [df] at h2
 with_reducible and_intros
 omega;grind[S.UZ,S.L3];iterate 6 omega
 intro x3 h4;with_reducible and_intros
 grind[S.UZ,S.ayT];exact S.al5;trivial;exact S.arK (S.ayT h4).2
def a4F(l m:List (Int×Int×Int×B8))(hf:Vg.gq J.a1O (l,m)):aJB (∃(x1:Nat),((0:Int)=x1/\(a0k l).1=(S.hx l).1/\(a0k l).2=(S.hx l).2/\(a0k l).1=(S.ayO l m x1).1/\(a0k l).2=(S.ayO l m x1).2)/\S.aAP m x1) (∀(x2:Nat),aYQ (S.aAP m x2) (cK (decide ((x2:Int)<length m)) (decide ((x2:Int)<40))) x2 (length m) (q17 (decide (b6 (aYX m x2).2.2.2<=2500)) (((0:Int)<=x2/\(x2:Int)<length m)/\True) True/\q81 x2 (∃(x3:Nat),aVF x2 x3 ((S.hx l).1=(S.hx l).1) ((S.hx l).2=(S.hx l).2/\(bif decide (b6 (aYX m x2).2.2.2<=2500) then(S.pA (S.ayO l m x2).1 (S.ayO l m x2).2 (aYX m x2).1 (aYX m x2).2.1 (aYX m x2).2.2.1 (aYX m x2).2.2.2).1.1 else(S.ayO l m x2).1)=(S.ayO l m x3).1/\(bif decide (b6 (aYX m x2).2.2.2<=2500) then(S.pA (S.ayO l m x2).1 (S.ayO l m x2).2 (aYX m x2).1 (aYX m x2).2.1 (aYX m x2).2.2.1 (aYX m x2).2.2.2).1.2 else(S.ayO l m x2).2)=(S.ayO l m x3).2) (S.aAP m x3) (S.len m))) True (gE (aJB (aSJ (S.aLX (S.hx l).1 (S.hx l).2 (Fl l m x2).1 (Fl l m x2).2).1) (q17 (q30 (z7 (S.mG (S.hx l).1 (S.hx l).2).2) (q30 (z7 (S.mG (Fl l m x2).1 (Fl l m x2).2).2) (q30 (z7 (S.aLX (S.hx l).1 (S.hx l).2 (Fl l m x2).1 (Fl l m x2).2).2) (q30 (z7 (S.dW (S.mG (S.hx l).1 (S.hx l).2).1 (S.aLX (S.hx l).1 (S.hx l).2 (Fl l m x2).1 (Fl l m x2).2).1).2.2) (q30 (Eg (S.dW (S.mG (S.hx l).1 (S.hx l).2).1 (S.aLX (S.hx l).1 (S.hx l).2 (Fl l m x2).1 (Fl l m x2).2).1).1 (S.mG (Fl l m x2).1 (Fl l m x2).2).1) (q19 (S.dW (S.mG (S.hx l).1 (S.hx l).2).1 (S.aLX (S.hx l).1 (S.hx l).2 (Fl l m x2).1 (Fl l m x2).2).1).2.1 (pb (Fl l m x2).1))))))) (false=true) ((∃(x4:Nat),(0:Int)=x4/\S.a0f l m x4)/\(∀(x5:Nat),S.a0f l m x5->fX (decide (x5<pb (Fl l m x2).1)) True (aSJ (S.aMW (Fl l m x2).1 (Fl l m x2).2 x5).1/\oI (z7 (S.aMW (Fl l m x2).1 (Fl l m x2).2 x5).2) (oI (z7 (S.fS (S.mG (Fl l m x2).1 (Fl l m x2).2).1 x5 (S.aMW (Fl l m x2).1 (Fl l m x2).2 x5).1).2) (aVI x5 (pb (Fl l m x2).1)))/\q17 (q30 (z7 (S.aMW (Fl l m x2).1 (Fl l m x2).2 x5).2) (aL5 (z7 (S.fS (S.mG (Fl l m x2).1 (Fl l m x2).2).1 x5 (S.aMW (Fl l m x2).1 (Fl l m x2).2 x5).1).2) (decide ((S.fS (S.mG (Fl l m x2).1 (Fl l m x2).2).1 x5 (S.aMW (Fl l m x2).1 (Fl l m x2).2 x5).1).1=lG (Fl l m x2).1 x5)))) (false=true) (q81 x5 (∃(x6:Nat),aYP x5 x6 (S.a0f l m x6) (S.a0e l m)))) (gE aZF))))))):=by
 refine aE ?_;have PN:Vg.hlen l:=hf.1.1;have ans:Vg.hlen m:=hf.2.1.1;clear hf;have hq:=S.azG l;refine⟨?_,?_,?_,?_⟩;iterate 2 trivial
 . refine⟨(nat_lit 0:Nat),?_⟩;try dsimp only
   with_reducible and_intros
   iterate 5 rfl
   . exact⟨U! _,U! _⟩
 . intro x1 h2;refine⟨?_,?_⟩
   . intro h3;try simp only [V.abe,dt] at h3
     with_reducible and_intros
     first|rfl|omega|trivial|assumption
     first|rfl|omega|trivial|assumption
     . intro h4;try simp only [dt,tn] at h4
       with_reducible and_intros
       first|rfl|omega|trivial|assumption
       first|rfl|omega|trivial|assumption
       . trivial
     . intro h5;try simp only [df,tn] at h5
       trivial
     first|rfl|omega|trivial|assumption
     first|rfl|omega|trivial|assumption
     . refine⟨(x1+nat_lit 1),?_⟩;try dsimp only
       with_reducible and_intros
       first|rfl|omega|trivial|assumption
       iterate 2 rfl
       exact(S.a0D l m x1).1;exact(S.a0D l m x1).2;exact⟨w!,w!⟩
       . simp only [S.ag,S.len];omega
   . intro h6;try simp only [V.ze,df] at h6
     with_reducible and_intros
     iterate 4 trivial
     exact(S.a1M l m h2.2).2.2.2.1
     . intro h7;try simp only [V.IG,nt,df] at h7
       have g:=S.a1M l m h2.2;simp only [S.aTU] at g;rw [g.1,g.2.1,g.2.2.1,g.2.2.2.2] at h7;simp at h7
     . intro h8;try simp only [V.ajY,nf,dt] at h8
       refine⟨?_,?_⟩
       . refine⟨(nat_lit 0:Nat),?_⟩;try dsimp only
         refine⟨?_,?_⟩
         . first|rfl|omega|trivial|assumption
         . exact U! _
       . intro x9 de;refine⟨?_,?_⟩
         . intro fC;try simp only [dt] at fC
           with_reducible and_intros
           trivial;exact(S.a1N l m h2.2 fC).2.1
           . intro gY;try simp only [nt,df] at gY
             trivial
           . intro jM;try simp only [nf,dt] at jM
             refine⟨?_,?_⟩
             . intro jZ;try simp only [nt,df] at jZ
               trivial
             . intro Cq;try simp only [nf,dt] at Cq
               refine⟨?_,?_⟩
               . first|rfl|omega|trivial|assumption
               . first|rfl|omega|trivial|assumption
           . intro zP;try simp only [V.IG,nt,df,tn] at zP
             have g:=S.a1N l m h2.2 fC;simp only [S.aTU] at g;rw [g.1,g.2.2] at zP;simp at zP
           . intro HV;try simp only [V.ajY,nf,dt,tn] at HV
             with_reducible and_intros
             iterate 2
              . have g:=S.a0x l h2 h6;simp only [S.aTU] at g;omega
             . refine⟨(x9+nat_lit 1),?_⟩;try dsimp only
               refine⟨?_,?_,?_⟩;first|rfl|omega|trivial|assumption
               . have g:=S.a0x l h2 h6;simp only [S.aTU] at g;simp only [S.a0f];omega
               . have g:=S.a0x l h2 h6;simp only [S.aTU] at g;simp only [S.ag];omega
         . intro QW;try simp only [df] at QW
           refine⟨?_,?_⟩
           . trivial
           . rfl
end Go
