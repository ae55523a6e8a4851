import Derived.Test.YtimebdkngdbpkaaGreatDoorPartD
set_option linter.unusedVariables false
set_option linter.unusedSimpArgs false
set_option linter.unusedSectionVars false
set_option linter.defProp false
set_option linter.unusedVariables false
namespace Go
open List (length getD take drop replicate)
open Int (toNat)
variable {p:Prop}{α:Type}{b:Bool}
theorem df[Decidable p]:decide p=false↔¬p:=q?
theorem dt[Decidable p]:(decide p=true)=p:=H!
theorem lc{a:α}{l:M α}:(a::l).length=l.length+1:=O?
theorem ln:([]:M α).length=0:=List.length_nil
theorem tn(n:Nat):(n:Int).toNat=n:=X! n
theorem nf:((!b)=false)=(b=true):=Bool.not_eq_false' b
theorem nt:((!b)=true)=(b=false):=M? b
def aIp: [1116352408,1899447441,3049323471,3921009573,961987163,1508970993,2453635748,2870763221,3624381080,310598401,607225278,1426881987,1925078388,2162078206,2614888103,3248222580,3835390401,4022224774,264347078,604807628,770255983,1249150122,1555081692,1996064986,2554220882,2821834349,2952996808,3210313671,3336571891,3584528711,113926993,338241895,666307205,773529912,1294757372,1396182291,1695183700,1986661051,2177026350,2456956037,2730485921,2820302411,3259730800,3345764771,3516065817,3600352804,4094571909,275423344,430227734,506948616,659060556,883997877,958139571,1322822218,1537002063,1747873779,1955562222,2024104815,2227730452,2361852424,2428436474,2756734187,3204031479,3329325298]=S.xU:=by
 rfl
def aIq(x n:Int)(hp:S.eJ n)(hf:Vg.gq J.q1p (x,n)):sC n 32 (na (32-n)/\(0<=32-n/\32-n<=32)/\iy (x/lG 2 n+iy (x*lG 2 (32-n)))=S.right x n):=by
 refine aE ?_;have SS:Vg.hint n:=hf.2.1;with_reducible and_intros
 iterate 2 (grind[S.eJ])
 omega;iterate 3 (grind[S.eJ])
 rfl
def aIr(b:B8)(hp:b.length=64)(hf:Vg.gq J.jd b):(∃(x1:Nat),((0:Int)=((4*x1:Nat):Int)/\[]=S.sched b x1)/\S.cc x1 16)/\(∀(x2:Nat),S.cc x2 16->yb (decide (((4*x2:Nat):Int)<64)) (uT 0 ((4*x2:Nat):Int) (e6 b)) (q77 (((4*x2:Nat):Int)+1) 0 (e6 b) (q77 (((4*x2:Nat):Int)+2) 0 (e6 b) (q77 (((4*x2:Nat):Int)+3) 0 (e6 b) (length (S.sched b x2)+length (aSZ b x2)<=35184372088832/\na (((4*x2:Nat):Int)+4)/\(∃(x3:Nat),(((4*x2:Nat):Int)+4=((4*x3:Nat):Int)/\S.sched b x2++aSZ b x2=S.sched b x3)/\S.cc x3 16/\q43 16 x3 x2))))) (∃(x4:Nat),((16:Int)=x4/\S.sched b x2=S.sched b x4)/\16<=x4/\x4<=64) (∀(x5:Nat),16<=x5/\x5<=64->pf (decide ((x5:Int)<64)) (na (x5-15)) (uT 0 (x5-15) (aMf b x5)/\aQv x5<aMf b x5/\S.eJ 7/\q77 (x5-15) 0 (aMf b x5) (aQv x5<aMf b x5/\S.eJ 18/\q77 (x5-15) 0 (aMf b x5) (aQv x5<aMf b x5/\sC 3 32 (q77 (x5-2) 0 (aMf b x5) (aQu x5<aMf b x5/\S.eJ 17/\q77 (x5-2) 0 (aMf b x5) (aQu x5<aMf b x5/\S.eJ 19/\q77 (x5-2) 0 (aMf b x5) (aQu x5<aMf b x5/\sC 10 32 (q77 (x5-16) 0 (aMf b x5) (toNat (x5-16)<aMf b x5/\q77 (x5-7) 0 (aMf b x5) (toNat (x5-7)<aMf b x5/\aMf b x5+length (aS0 b x5)<=35184372088832/\HJ x5 (∃(x6:Nat),sB x5 x6 (S.sched b x5++aS0 b x5=S.sched b x6) (16<=x6/\x6<=64) 64))))))))))) (S.sched b x5=S.sched b 64))):=by
 refine aE ?_;have pT:Vg.hlen b:=hf.1.1;clear hf;refine⟨?_,?_⟩
 . grind[S.db,S.cc,S.ag,lc,ln]
 intro x1 h2;refine V.dI (λh3=>?_) λh4=>?_
 . with_reducible and_intros
   iterate 14 omega
   . simp only [S.db,S.cc,S.ag,lc,ln] at *;omega
   iterate 2 omega
   refine⟨(x1+1),?_⟩;try dsimp only
   with_reducible and_intros
   omega;exact S.agu b x1 w!
   . simp only [S.db,S.cc,S.ag,lc,ln] at *;omega
   simp only [S.db,S.cc,S.ag,lc,ln] at *;omega
 refine⟨?_,?_⟩
 . refine⟨16,?_⟩;try dsimp only
   with_reducible and_intros
   omega
   . rw [show x1=16 by(simp only [S.cc] at *;omega)]
   iterate 2 omega
 intro x5 h6;refine⟨?_,?_⟩
 . intro h7;try simp only [dt] at h7
   with_reducible and_intros
   iterate 3 omega
   iterate 2
    . simp only [S.db,S.cc,S.ag,lc,ln] at *;omega
   . simp only [S.eJ];omega
   iterate 3 omega
   iterate 2
    . simp only [S.db,S.cc,S.ag,lc,ln] at *;omega
   . simp only [S.eJ];omega
   iterate 3 omega
   iterate 2
    . simp only [S.db,S.cc,S.ag,lc,ln] at *;omega
   iterate 5 omega
   iterate 2
    . simp only [S.db,S.cc,S.ag,lc,ln] at *;omega
   . simp only [S.eJ];omega
   iterate 3 omega
   iterate 2
    . simp only [S.db,S.cc,S.ag,lc,ln] at *;omega
   . simp only [S.eJ];omega
   iterate 3 omega
   iterate 2
    . simp only [S.db,S.cc,S.ag,lc,ln] at *;omega
   iterate 5 omega
   iterate 2
    . simp only [S.db,S.cc,S.ag,lc,ln] at *;omega
   iterate 3 omega
   iterate 3
    . simp only [S.db,S.cc,S.ag,lc,ln] at *;omega
   iterate 2 omega
   refine⟨(x5+1),?_⟩;try dsimp only
   with_reducible and_intros
   omega;exact S.agv b x5 w!;iterate 2 omega
   simp only [S.db,S.cc,S.ag,lc,ln] at *;omega
 grind
def aIs(l:U)(p:B8)(hp:S.NO l p):length p=64/\aL5 ((0:Int)<=0/\0<bu l) (aSM 0 1 (bu l) 2 3 4 5 6 (uT 0 7 (bu l)/\(∃(x1:Nat),((0:Int)=x1/\aJn l=(S.aL (ahB p) (ajr l) x1).1/\aKd l 1=(S.aL (ahB p) (ajr l) x1).2.1/\aKd l 2=(S.aL (ahB p) (ajr l) x1).2.2.1/\aKd l 3=(S.aL (ahB p) (ajr l) x1).2.2.2.1/\aKd l 4=(S.aL (ahB p) (ajr l) x1).2.2.2.2.1/\aKd l 5=(S.aL (ahB p) (ajr l) x1).2.2.2.2.2.1/\aKd l 6=(S.aL (ahB p) (ajr l) x1).2.2.2.2.2.2.1/\aKd l 7=(S.aL (ahB p) (ajr l) x1).2.2.2.2.2.2.2)/\S.cc x1 64)/\(∀(x2:Nat),S.cc x2 64->yb (decide ((x2:Int)<64)) (S.eJ 6) (S.eJ 11/\S.eJ 25/\uT 0 x2 (bu S.xU)/\toNat x2<length S.xU/\uT 0 x2 (length (ahB p))/\toNat x2<length (ahB p)/\S.eJ 2/\S.eJ 13/\S.eJ 22/\HJ x2 (∃(x3:Nat),((x2:Int)+1=x3/\iy (aSY l p x2+fF (aP7 (S.right (S.aL (ahB p) (ajr l) x2).1 2) (S.right (S.aL (ahB p) (ajr l) x2).1 13) (S.right (S.aL (ahB p) (ajr l) x2).1 22)) (S.aL (ahB p) (ajr l) x2).1 (S.aL (ahB p) (ajr l) x2).2.1 (S.aL (ahB p) (ajr l) x2).2.2.1)=(S.aL (ahB p) (ajr l) x3).1/\(S.aL (ahB p) (ajr l) x2).1=(S.aL (ahB p) (ajr l) x3).2.1/\(S.aL (ahB p) (ajr l) x2).2.1=(S.aL (ahB p) (ajr l) x3).2.2.1/\(S.aL (ahB p) (ajr l) x2).2.2.1=(S.aL (ahB p) (ajr l) x3).2.2.2.1/\iy ((S.aL (ahB p) (ajr l) x2).2.2.2.1+aSY l p x2)=(S.aL (ahB p) (ajr l) x3).2.2.2.2.1/\(S.aL (ahB p) (ajr l) x2).2.2.2.2.1=(S.aL (ahB p) (ajr l) x3).2.2.2.2.2.1/\(S.aL (ahB p) (ajr l) x2).2.2.2.2.2.1=(S.aL (ahB p) (ajr l) x3).2.2.2.2.2.2.1/\(S.aL (ahB p) (ajr l) x2).2.2.2.2.2.2.1=(S.aL (ahB p) (ajr l) x3).2.2.2.2.2.2.2)/\S.cc x3 64/\q43 64 x3 x2)) ((0:Int)<=0/\0<bu l) (aSM 0 1 (bu l) 2 3 4 5 6 (aL7 7 (bu l) ([iy (aJn l+(S.aL (ahB p) (ajr l) x2).1),iy (aKd l 1+(S.aL (ahB p) (ajr l) x2).2.1),iy (aKd l 2+(S.aL (ahB p) (ajr l) x2).2.2.1),iy (aKd l 3+(S.aL (ahB p) (ajr l) x2).2.2.2.1),iy (aKd l 4+(S.aL (ahB p) (ajr l) x2).2.2.2.2.1),iy (aKd l 5+(S.aL (ahB p) (ajr l) x2).2.2.2.2.2.1),iy (aKd l 6+(S.aL (ahB p) (ajr l) x2).2.2.2.2.2.2.1),iy (aKd l 7+(S.aL (ahB p) (ajr l) x2).2.2.2.2.2.2.2)]=S.eV (S.block (ajr l) p))))))):=by
 refine aE ?_;obtain⟨qg,TF,hp3⟩:=hp;have Lh:=S.ap5 qg;with_reducible and_intros
 omega;trivial;iterate 16 omega
 . refine⟨(nat_lit 0:Nat),?_⟩;dsimp only;with_reducible and_intros
   omega;iterate 8 rfl
   grind[S.db,S.cc,S.ag]
 intro x1 h2;refine V.dI (λh3=>?_) λh4=>?_
 . with_reducible and_intros
   iterate 3
    . simp only [S.eJ];omega
   omega
   iterate 2
    . rw [<-S.IH];simp only [S.cc] at *;omega
   omega
   iterate 2
    . simp only [S.db,S.cc,S.ag] at *;omega
   iterate 3
    . simp only [S.eJ];omega
   iterate 2 omega
   refine⟨(x1+nat_lit 1),?_⟩;try dsimp only
   with_reducible and_intros
   omega
   . have hk:=S.Bv (S.sched p 64) (S.Ai l) Lh x1;have hx:=S.xor_not (hk (S.aL (S.sched p 64) (S.Ai l) x1).2.2.2.2.1 (by simp [S.eV]));simp only [S.aL,hx,tn];rfl
   iterate 3 rfl
   . have hk:=S.Bv (S.sched p 64) (S.Ai l) Lh x1;have hx:=S.xor_not (hk (S.aL (S.sched p 64) (S.Ai l) x1).2.2.2.2.1 (by simp [S.eV]));simp only [S.aL,hx,tn];rfl
   iterate 3 rfl
   . simp only [S.db,S.cc,S.ag] at *;omega
   simp only [S.db,S.cc,S.ag] at *;omega
 with_reducible and_intros
 iterate 16 omega
 simp [S.cc] at h2;rw [show x1=64 by omega];simp [S.block,S.abg,S.eV,S.Ai,show toNat 0=0 by rfl,show toNat 1=1 by rfl,show toNat 2=2 by rfl,show toNat 3=3 by rfl,show toNat 4=4 by rfl,show toNat 5=5 by rfl,show toNat 6=6 by rfl,show toNat 7=7 by rfl]
def aIt(b:B8)(hp:S.small b):aLm sy (length b)/\wJ ([]++b) [128]/\(∃(x1:Nat),[]++b++[128]=S.gh b x1/\S.cG b x1)/\(∀(x2:Nat),S.cG b x2->(0:Int)<=length (S.gh b x2)/\(0:Int)<64/\yb (fX (length (S.gh b x2)%64) 56) (aSe (length (S.gh b x2)) [0]) (∃(x3:Nat),S.gh b x2++[0]=S.gh b x3/\S.cG b x3/\q43 (S.ib (S.len b)) x3 x2) (∃(x4:Nat),((0:Int)=x4/\aP6 (aP6 (length b)*8)=S.mV b x4/\[]=S.lA b x4)/\S.cc x4 8) (∀(x5:Nat),S.cc x5 8->yb (decide ((x5:Int)<8)) ((0:Int)<256) (aLm [HN (S.mV b x5%256)] (length (S.lA b x5))/\(0:Int)<256/\HJ x5 (∃(x6:Nat),((x5:Int)+1=x6/\S.mV b x5/256=S.mV b x6/\[HN (S.mV b x5%256)]++S.lA b x5=S.lA b x6)/\S.cc x6 8/\q43 8 x6 x5)) (q19 (length (S.gh b x2)+length (S.lA b x5))) (S.gh b x2++S.lA b x5=S.tail b (S.pO b)))):=by
 refine aE ?_;simp [S.small] at hp;refine⟨?_,?_,?_,?_⟩;iterate 2 grind
 . refine⟨0,?_⟩;refine⟨?_,?_⟩
   . exact S.W7 _
   simp only [S.dc,S.cG,S.ib,S.cc,S.ag,S.len,lc,ln,K!] at *;omega
 intro x1 h2;refine⟨?_,?_,?_,?_⟩;iterate 2 omega
 . intro h3;simp at h3;refine⟨?_,?_⟩
   . simp [S.dc,S.cG,S.ib,S.cc,S.ag,S.len,lc,ln,K!] at *;omega
   refine⟨(x1+1),?_⟩;refine⟨?_,?_,?_⟩;grind[S.Kl];grind[S.NR];simp [S.dc,S.cG,S.ib,S.cc,S.ag,S.len,lc,ln,List.length_append] at *;omega
 intro h4;simp at h4;refine⟨?_,?_⟩
 . refine⟨(nat_lit 0:Nat),?_⟩;dsimp only;with_reducible and_intros
   omega;exact S.agw b hp;rfl;simp only [S.dc,S.cG,S.ib,S.cc,S.ag,S.len,lc,ln,K!] at *;omega
 intro x5 h6;refine V.dI (λh7=>?_) λh8=>?_
 . with_reducible and_intros
   omega
   . have hx:x5<=8:=by(simp only [S.cc] at *;omega)
     simp only [S.GY _ _ hx,S.dc,S.cG,lc,ln] at *;have:=S.NQ b.length;omega
   iterate 3 omega
   refine⟨(x5+nat_lit 1),?_⟩;try dsimp only
   with_reducible and_intros
   omega;exact S.Uf b x5;exact S.QO b x5 w!
   . simp only [S.dc,S.cG,S.ib,S.cc,S.ag,S.len,lc,ln,K!] at *;omega
   simp only [S.dc,S.cG,S.ib,S.cc,S.ag,S.len,lc,ln,K!] at *;omega
 refine⟨?_,?_⟩
 . have hx:x5<=8:=by(simp [S.cc] at *;omega)
   simp [S.GY _ _ hx,S.dc,S.cG,lc,ln] at *;have:=S.NQ b.length;omega
 rw [S.RQ h2 h4,show x5=8 by(simp [S.cc] at *;omega),S.Z2];rfl
def aIu(b:B8)(hp:S.small b):S.small b/\(∃(x1:Nat),((0:Int)=((64*x1:Nat):Int)/\[1779033703,3144134277,1013904242,2773480762,1359893119,2600822924,528734635,1541459225]=S.eV (S.proc S.H0 (aMg b) x1))/\x1<=S.blocks (aMg b))/\(∀(x2:Nat),x2<=S.blocks (aMg b)->yb (decide (((64*x2:Nat):Int)<e6 (aMg b))) (na (((64*x2:Nat):Int)+64)) (((0:Int)<=((64*x2:Nat):Int)/\((64*x2:Nat):Int)<=((64*x2:Nat):Int)+64/\((64*x2:Nat):Int)+64<=e6 (aMg b))/\S.NO (aMY b x2) (take (toNat (((64*x2:Nat):Int)+64)-toNat ((64*x2:Nat):Int)) (drop (toNat ((64*x2:Nat):Int)) (aMg b)))/\na (((64*x2:Nat):Int)+64)/\(∃(x3:Nat),(((64*x2:Nat):Int)+64=((64*x3:Nat):Int)/\S.eV (S.block (S.Ai (aMY b x2)) (take (toNat (((64*x2:Nat):Int)+64)-toNat ((64*x2:Nat):Int)) (drop (toNat ((64*x2:Nat):Int)) (aMg b))))=S.eV (S.proc S.H0 (aMg b) x3))/\x3<=S.blocks (aMg b)/\q43 (S.blocks (aMg b)) x3 x2)) (∃(x4:Nat),aOD x4 ([]=S.oU (S.aI S.H0 (aMg b)) x4) 8) (∀(x5:Nat),S.cc x5 8->Fi (decide ((x5:Int)<8)) 0 x5 (length (aMY b x2)) (toNat x5<length (aMY b x2)/\(0:Int)<16777216/\uT 0 x5 (length (aMY b x2))/\toNat x5<length (aMY b x2)/\(0:Int)<65536/\(0:Int)<256/\uT 0 x5 (length (aMY b x2))/\toNat x5<length (aMY b x2)/\(0:Int)<256/\(0:Int)<256/\uT 0 x5 (length (aMY b x2))/\toNat x5<length (aMY b x2)/\(0:Int)<256/\wJ (S.oU (S.aI S.H0 (aMg b)) x5) (aSX b x2 x5)/\HJ x5 (∃(x6:Nat),aRY x5 x6 (S.oU (S.aI S.H0 (aMg b)) x5++aSX b x2 x5=S.oU (S.aI S.H0 (aMg b)) x6) 8)) (S.oU (S.aI S.H0 (aMg b)) x5=S.sum b))):=by
 refine aE ?_;have hsm:=hp;simp [S.small] at hp;have ht:=S.akl b (S.pO b);have ht2:=S.RR b (S.pO b);have ht3:=S.NQ b.length;refine⟨?_,?_,?_⟩;omega
 . refine⟨0,?_⟩;with_reducible and_intros
   omega;rfl;omega
 intro x1 h2;refine V.dI (λh3=>?_) λh4=>?_
 . with_reducible and_intros
   iterate 5 omega
   . exact⟨S.NP _ _ S.Z0 _,rfl,by rw [S.akm,J?,N?];omega⟩
   iterate 2 omega
   refine⟨(x1+1),?_⟩;try dsimp only
   with_reducible and_intros
   omega
   . rw [S.akm];rfl
   omega;simp only [S.cc,S.ag] at *;omega
 refine⟨?_,?_⟩
 . refine⟨(nat_lit 0:Nat),?_⟩;dsimp only;with_reducible and_intros
   omega;rfl;simp only [S.cc,S.ag] at *;omega
 intro x5 h6;refine V.dI (λh7=>?_) λh8=>?_
 . with_reducible and_intros
   omega
   iterate 2
    . simp only [S.eV,lc,ln];omega
   iterate 2 omega
   iterate 2
    . simp only [S.eV,lc,ln];omega
   iterate 3 omega
   iterate 2
    . simp only [S.eV,lc,ln];omega
   iterate 3 omega
   iterate 2
    . simp only [S.eV,lc,ln];omega
   omega
   . rw [S.IJ _ _ (by simp only [S.cc] at *;omega)];simp;omega
   iterate 2 omega
   refine⟨(x5+nat_lit 1),?_⟩;try dsimp only
   with_reducible and_intros
   omega
   . rw [show x1=S.blocks (S.tail b (S.pO b)) by omega];exact S.ap6 _ x5 w!
   . simp only [S.cc,S.ag] at *;omega
   simp only [S.cc,S.ag] at *;omega
 rw [show x5=8 by(simp [S.cc] at *;omega)];rfl
def aIv(x k:Int)(hp:S.tu x k):sC (aR2 k) 32 (sC (aP6 (32-aR2 k)) 32 (Vg.cy (iy (x*lG 2 (aR2 k))) (x/lG 2 (aP6 (32-aR2 k)))=S.rotl x k)):=by
 refine aE ?_;grind[S.ap2,S.tu,S.ap1]
def aIw:rj 1779033703 3144134277 (rj 1013904242 2773480762 (rj 1359893119 2600822924 (rj 528734635 1541459225 ((0:Int)=0)))):=by
 refine aE ?_;omega
def aIx(s1 s2 s3 s4 s5 s6 s7 s8:Int)(s9:B8)(dm:Int):q14 (aNc dm) (pf (decide (dm<=1099511627776)) (0<=dm) ((0:Int)<64) True) True/\ir (aNc dm) (ir (decide (dm<=1099511627776)) (decide (e6 s9=dm%64)))=S.qo s9 dm:=by
 refine aE ?_;grind[S.qo]
def aIy(u1 u2 u3 u4 u5 u6 u7 u8:Int)(p:B8)(hp:S.Ue (u1,u2,u3,u4,u5,u6,u7,u8) p)(hf:Vg.gq J.q5p (u1,u2,u3,u4,u5,u6,u7,u8,p)):(∃(x1:Nat),aOD x1 (aSL 0 (aSL 0 (aSL 0 (aSL 0 [])))=S.aK p x1) 16)/\(∀(x2:Nat),S.cc x2 16->yb (decide ((x2:Int)<16)) (na (4*x2)) (uT 0 (4*x2) (e6 p)/\aKT 24 32/\na (4*x2)/\q77 (4*x2+1) 0 (e6 p) (sC 16 32 (na (4*x2)/\q77 (4*x2+2) 0 (e6 p) (sC 8 32 (na (4*x2)/\q77 (4*x2+3) 0 (e6 p) (uT 0 x2 aRI/\0+toNat x2*1<length (S.aK p x2)/\HJ x2 (∃(x3:Nat),aRY x2 x3 (List.set (S.aK p x2) (0+toNat x2*1) (Vg.cy (Vg.cy (Vg.cy (iy (aJm p (4*x2)*lG 2 24)) (iy (aJm p (4*x2+1)*lG 2 16))) (iy (aJm p (4*x2+2)*lG 2 8))) (aJm p (4*x2+3)))=S.aK p x3) 16))))))) (∃(x4:Nat),((16:Int)=x4/\S.aK p x2=S.aK p x4)/\16<=x4/\x4<=64) (∀(x5:Nat),16<=x5/\x5<=64->yb (decide ((x5:Int)<64)) (na (x5-15)) (uT 0 (x5-15) aRI/\aQB x5<length (S.aK p x5)/\q77 (x5-2) 0 aRI (aQC x5<length (S.aK p x5)/\aP8 (ahA (S.aK p x5) (aQB x5)) 7/\aP8 (ahA (S.aK p x5) (aQB x5)) 18/\sC 3 32 (aP8 (ahA (S.aK p x5) (aQC x5)) 17/\aP8 (ahA (S.aK p x5) (aQC x5)) 19/\sC 10 32 (q77 (x5-16) 0 aRI (0+toNat (x5-16)*1<length (S.aK p x5)/\q77 (x5-7) 0 aRI (0+toNat (x5-7)*1<length (S.aK p x5)/\uT 0 x5 aRI/\0+toNat x5*1<length (S.aK p x5)/\HJ x5 (∃(x6:Nat),sB x5 x6 (List.set (S.aK p x5) (0+toNat x5*1) (iy (iy (iy (getD (S.aK p x5) (0+toNat (x5-16)*1) 0+aP7 (Ch (ahA (S.aK p x5) (aQB x5)) 7) (Ch (ahA (S.aK p x5) (aQB x5)) 18) (ahA (S.aK p x5) (aQB x5)/lG 2 3))+getD (S.aK p x5) (0+toNat (x5-7)*1) 0)+aP7 (Ch (ahA (S.aK p x5) (aQC x5)) 17) (Ch (ahA (S.aK p x5) (aQC x5)) 19) (ahA (S.aK p x5) (aQC x5)/lG 2 10)))=S.aK p x6) (16<=x6/\x6<=64) 64))))))) ((0:Int)<=0/\0<aKG) (aSM 0 1 aKG 2 3 4 5 6 (uT 0 7 aKG/\(∃(x7:Nat),((0:Int)=x7/\u1=(S.aL (afX p) (u1,u2,u3,u4,u5,u6,u7,u8) x7).1/\u2=(S.aL (afX p) (u1,u2,u3,u4,u5,u6,u7,u8) x7).2.1/\u3=(S.aL (afX p) (u1,u2,u3,u4,u5,u6,u7,u8) x7).2.2.1/\u4=(S.aL (afX p) (u1,u2,u3,u4,u5,u6,u7,u8) x7).2.2.2.1/\u5=(S.aL (afX p) (u1,u2,u3,u4,u5,u6,u7,u8) x7).2.2.2.2.1/\u6=(S.aL (afX p) (u1,u2,u3,u4,u5,u6,u7,u8) x7).2.2.2.2.2.1/\u7=(S.aL (afX p) (u1,u2,u3,u4,u5,u6,u7,u8) x7).2.2.2.2.2.2.1/\u8=(S.aL (afX p) (u1,u2,u3,u4,u5,u6,u7,u8) x7).2.2.2.2.2.2.2)/\S.cc x7 64)/\(∀(x8:Nat),S.cc x8 64->yb (decide ((x8:Int)<64)) (aP8 (S.aL (afX p) (u1,u2,u3,u4,u5,u6,u7,u8) x8).2.2.2.2.1 6) (aP8 (S.aL (afX p) (u1,u2,u3,u4,u5,u6,u7,u8) x8).2.2.2.2.1 11/\aP8 (S.aL (afX p) (u1,u2,u3,u4,u5,u6,u7,u8) x8).2.2.2.2.1 25/\64=length S.xU/\aL7 x8 (bu S.xU) (uT 0 x8 aRI/\0+toNat x8*1<length (S.aK p x5)/\aP8 (S.aL (afX p) (u1,u2,u3,u4,u5,u6,u7,u8) x8).1 2/\aP8 (S.aL (afX p) (u1,u2,u3,u4,u5,u6,u7,u8) x8).1 13/\aP8 (S.aL (afX p) (u1,u2,u3,u4,u5,u6,u7,u8) x8).1 22/\HJ x8 (∃(x9:Nat),((x8:Int)+1=x9/\iy (iy (iy (iy (iy ((S.aL (afX p) (u1,u2,u3,u4,u5,u6,u7,u8) x8).2.2.2.2.2.2.2+aP7 (Ch (S.aL (afX p) (u1,u2,u3,u4,u5,u6,u7,u8) x8).2.2.2.2.1 6) (Ch (S.aL (afX p) (u1,u2,u3,u4,u5,u6,u7,u8) x8).2.2.2.2.1 11) (Ch (S.aL (afX p) (u1,u2,u3,u4,u5,u6,u7,u8) x8).2.2.2.2.1 25))+Vg.eP (Vg.aM (S.aL (afX p) (u1,u2,u3,u4,u5,u6,u7,u8) x8).2.2.2.2.1 (S.aL (afX p) (u1,u2,u3,u4,u5,u6,u7,u8) x8).2.2.2.2.2.1) (Vg.aM (4294967296-1-(S.aL (afX p) (u1,u2,u3,u4,u5,u6,u7,u8) x8).2.2.2.2.1) (S.aL (afX p) (u1,u2,u3,u4,u5,u6,u7,u8) x8).2.2.2.2.2.2.1))+getD S.xU (toNat x8) 0)+getD (S.aK p x5) (0+toNat x8*1) 0)+fF (aP7 (Ch (S.aL (afX p) (u1,u2,u3,u4,u5,u6,u7,u8) x8).1 2) (Ch (S.aL (afX p) (u1,u2,u3,u4,u5,u6,u7,u8) x8).1 13) (Ch (S.aL (afX p) (u1,u2,u3,u4,u5,u6,u7,u8) x8).1 22)) (S.aL (afX p) (u1,u2,u3,u4,u5,u6,u7,u8) x8).1 (S.aL (afX p) (u1,u2,u3,u4,u5,u6,u7,u8) x8).2.1 (S.aL (afX p) (u1,u2,u3,u4,u5,u6,u7,u8) x8).2.2.1)=(S.aL (afX p) (u1,u2,u3,u4,u5,u6,u7,u8) x9).1/\(S.aL (afX p) (u1,u2,u3,u4,u5,u6,u7,u8) x8).1=(S.aL (afX p) (u1,u2,u3,u4,u5,u6,u7,u8) x9).2.1/\(S.aL (afX p) (u1,u2,u3,u4,u5,u6,u7,u8) x8).2.1=(S.aL (afX p) (u1,u2,u3,u4,u5,u6,u7,u8) x9).2.2.1/\(S.aL (afX p) (u1,u2,u3,u4,u5,u6,u7,u8) x8).2.2.1=(S.aL (afX p) (u1,u2,u3,u4,u5,u6,u7,u8) x9).2.2.2.1/\iy ((S.aL (afX p) (u1,u2,u3,u4,u5,u6,u7,u8) x8).2.2.2.1+iy (iy (iy (iy ((S.aL (afX p) (u1,u2,u3,u4,u5,u6,u7,u8) x8).2.2.2.2.2.2.2+aP7 (Ch (S.aL (afX p) (u1,u2,u3,u4,u5,u6,u7,u8) x8).2.2.2.2.1 6) (Ch (S.aL (afX p) (u1,u2,u3,u4,u5,u6,u7,u8) x8).2.2.2.2.1 11) (Ch (S.aL (afX p) (u1,u2,u3,u4,u5,u6,u7,u8) x8).2.2.2.2.1 25))+Vg.eP (Vg.aM (S.aL (afX p) (u1,u2,u3,u4,u5,u6,u7,u8) x8).2.2.2.2.1 (S.aL (afX p) (u1,u2,u3,u4,u5,u6,u7,u8) x8).2.2.2.2.2.1) (Vg.aM (4294967296-1-(S.aL (afX p) (u1,u2,u3,u4,u5,u6,u7,u8) x8).2.2.2.2.1) (S.aL (afX p) (u1,u2,u3,u4,u5,u6,u7,u8) x8).2.2.2.2.2.2.1))+getD S.xU (toNat x8) 0)+getD (S.aK p x5) (0+toNat x8*1) 0))=(S.aL (afX p) (u1,u2,u3,u4,u5,u6,u7,u8) x9).2.2.2.2.1/\(S.aL (afX p) (u1,u2,u3,u4,u5,u6,u7,u8) x8).2.2.2.2.1=(S.aL (afX p) (u1,u2,u3,u4,u5,u6,u7,u8) x9).2.2.2.2.2.1/\(S.aL (afX p) (u1,u2,u3,u4,u5,u6,u7,u8) x8).2.2.2.2.2.1=(S.aL (afX p) (u1,u2,u3,u4,u5,u6,u7,u8) x9).2.2.2.2.2.2.1/\(S.aL (afX p) (u1,u2,u3,u4,u5,u6,u7,u8) x8).2.2.2.2.2.2.1=(S.aL (afX p) (u1,u2,u3,u4,u5,u6,u7,u8) x9).2.2.2.2.2.2.2)/\S.cc x9 64/\q43 64 x9 x8))) ((0:Int)<=0/\0<aKG) (aSM 0 1 aKG 2 3 4 5 6 (aL7 7 aKG (iy (u1+(S.aL (afX p) (u1,u2,u3,u4,u5,u6,u7,u8) x8).1)=(S.block (u1,u2,u3,u4,u5,u6,u7,u8) p).1/\iy (u2+(S.aL (afX p) (u1,u2,u3,u4,u5,u6,u7,u8) x8).2.1)=(S.block (u1,u2,u3,u4,u5,u6,u7,u8) p).2.1/\iy (u3+(S.aL (afX p) (u1,u2,u3,u4,u5,u6,u7,u8) x8).2.2.1)=(S.block (u1,u2,u3,u4,u5,u6,u7,u8) p).2.2.1/\iy (u4+(S.aL (afX p) (u1,u2,u3,u4,u5,u6,u7,u8) x8).2.2.2.1)=(S.block (u1,u2,u3,u4,u5,u6,u7,u8) p).2.2.2.1/\iy (u5+(S.aL (afX p) (u1,u2,u3,u4,u5,u6,u7,u8) x8).2.2.2.2.1)=(S.block (u1,u2,u3,u4,u5,u6,u7,u8) p).2.2.2.2.1/\iy (u6+(S.aL (afX p) (u1,u2,u3,u4,u5,u6,u7,u8) x8).2.2.2.2.2.1)=(S.block (u1,u2,u3,u4,u5,u6,u7,u8) p).2.2.2.2.2.1/\iy (u7+(S.aL (afX p) (u1,u2,u3,u4,u5,u6,u7,u8) x8).2.2.2.2.2.2.1)=(S.block (u1,u2,u3,u4,u5,u6,u7,u8) p).2.2.2.2.2.2.1/\iy (u8+(S.aL (afX p) (u1,u2,u3,u4,u5,u6,u7,u8) x8).2.2.2.2.2.2.2)=(S.block (u1,u2,u3,u4,u5,u6,u7,u8) p).2.2.2.2.2.2.2)))))))):=by
 refine aE ?_;have aKI:0<=u1/\u1<=4294967295:=hf.1;have aKJ:0<=u2/\u2<=4294967295:=hf.2.1;have aKK:0<=u3/\u3<=4294967295:=hf.2.2.1;have aKL:0<=u4/\u4<=4294967295:=hf.2.2.2.1;have aKM:0<=u5/\u5<=4294967295:=hf.2.2.2.2.1;have aKN:0<=u6/\u6<=4294967295:=hf.2.2.2.2.2.1;have aKO:0<=u7/\u7<=4294967295:=hf.2.2.2.2.2.2.1;have aKP:0<=u8/\u8<=4294967295:=hf.2.2.2.2.2.2.2.1;clear hf;obtain⟨qg,TF⟩:=hp;refine⟨?_,?_⟩
 . refine⟨0,?_⟩;try dsimp only
   with_reducible and_intros
   omega;rfl;grind[S.cc,S.ag]
 intro x1 h2;refine V.dI (λh3=>?_) λh4=>?_
 . with_reducible and_intros
   iterate 30 omega
   . rw [S.uy _ _ w!];omega
   iterate 2 omega
   refine⟨(x1+1),?_⟩;try dsimp only
   with_reducible and_intros
   omega;exact S.apY _ _ w!
   . simp only [S.cc,S.ag] at *;omega
   simp only [S.cc,S.ag] at *;omega
 refine⟨?_,?_⟩
 . refine⟨16,?_⟩;try dsimp only
   with_reducible and_intros
   omega
   . simp only [S.cc] at h2;rw [show x1=16 by omega]
   iterate 2 omega
 intro x5 h6;refine V.dI (λh7=>?_) λh8=>?_
 . with_reducible and_intros
   iterate 4 omega
   . rw [S.uy _ _ w!];omega
   iterate 4 omega
   . rw [S.uy _ _ w!];omega
   iterate 2 (with_reducible exact S.W5 _ _ _ _ w!)
   iterate 2 omega
   iterate 2 (with_reducible exact S.W5 _ _ _ _ w!)
   iterate 6 omega
   . rw [S.uy _ _ w!];omega
   iterate 4 omega
   . rw [S.uy _ _ w!];omega
   iterate 2 omega
   . rw [S.uy _ _ w!];omega
   iterate 2 omega
   refine⟨(x5+1),?_⟩;try dsimp only
   with_reducible and_intros
   omega;exact S.apZ _ _ w! w!;iterate 2 omega
   simp only [S.cc,S.ag] at *;omega
 with_reducible and_intros
 iterate 16 omega
 . refine⟨0,?_⟩;try dsimp only
   with_reducible and_intros
   omega;iterate 8 rfl
   simp only [S.cc,S.ag] at *;omega
 intro x9 de;refine⟨?_,?_⟩
 . intro fC;try simp only [dt] at fC
   with_reducible and_intros
   iterate 3 (with_reducible exact S.aAB (S.Bv _ _ qg _) _ w!)
   with_reducible exact S.IH
   omega
   . rw [<-S.IH];simp only [S.cc] at *;omega
   iterate 2 omega
   . rw [S.uy _ _ w!];omega
   iterate 3 (with_reducible exact S.aAA (S.Bv _ _ qg _) _ w!)
   iterate 2 omega
   refine⟨(x9+1),?_⟩;try dsimp only
   with_reducible and_intros
   omega
   . rw [show x5=64 by omega,S.abh];simp only [S.aL,tn,r?,Nat.mul_one];rfl
   iterate 3 rfl
   . rw [show x5=64 by omega,S.abh];simp only [S.aL,tn,r?,Nat.mul_one];rfl
   iterate 3 rfl
   . simp only [S.cc,S.ag] at *;omega
   simp only [S.cc,S.ag] at *;omega
 grind[df,S.cc,S.block,S.abg]
def aCs(u1 u2 u3 u4 u5 u6 u7 u8:Int)(b:B8)(hp:S.xa (u1,u2,u3,u4,u5,u6,u7,u8)):(∃(x1:Nat),(b=S.fx b x1/\u1=(S.proc (u1,u2,u3,u4,u5,u6,u7,u8) b x1).1/\u2=(S.proc (u1,u2,u3,u4,u5,u6,u7,u8) b x1).2.1/\u3=(S.proc (u1,u2,u3,u4,u5,u6,u7,u8) b x1).2.2.1/\u4=(S.proc (u1,u2,u3,u4,u5,u6,u7,u8) b x1).2.2.2.1/\u5=(S.proc (u1,u2,u3,u4,u5,u6,u7,u8) b x1).2.2.2.2.1/\u6=(S.proc (u1,u2,u3,u4,u5,u6,u7,u8) b x1).2.2.2.2.2.1/\u7=(S.proc (u1,u2,u3,u4,u5,u6,u7,u8) b x1).2.2.2.2.2.2.1/\u8=(S.proc (u1,u2,u3,u4,u5,u6,u7,u8) b x1).2.2.2.2.2.2.2)/\64*x1<=length b)/\(∀(x2:Nat),64*x2<=length b->yb (decide (64<=e6 (S.fx b x2))) (aKT 64 (e6 (S.fx b x2))) (S.Ue ((S.proc (u1,u2,u3,u4,u5,u6,u7,u8) b x2).1,(S.proc (u1,u2,u3,u4,u5,u6,u7,u8) b x2).2.1,(S.proc (u1,u2,u3,u4,u5,u6,u7,u8) b x2).2.2.1,(S.proc (u1,u2,u3,u4,u5,u6,u7,u8) b x2).2.2.2.1,(S.proc (u1,u2,u3,u4,u5,u6,u7,u8) b x2).2.2.2.2.1,(S.proc (u1,u2,u3,u4,u5,u6,u7,u8) b x2).2.2.2.2.2.1,(S.proc (u1,u2,u3,u4,u5,u6,u7,u8) b x2).2.2.2.2.2.2.1,(S.proc (u1,u2,u3,u4,u5,u6,u7,u8) b x2).2.2.2.2.2.2.2) (wI 64 (S.fx b x2))/\sC 64 (e6 (S.fx b x2)) (∃(x3:Nat),(q92 64 (S.fx b x2)=S.fx b x3/\(S.block ((S.proc (u1,u2,u3,u4,u5,u6,u7,u8) b x2).1,(S.proc (u1,u2,u3,u4,u5,u6,u7,u8) b x2).2.1,(S.proc (u1,u2,u3,u4,u5,u6,u7,u8) b x2).2.2.1,(S.proc (u1,u2,u3,u4,u5,u6,u7,u8) b x2).2.2.2.1,(S.proc (u1,u2,u3,u4,u5,u6,u7,u8) b x2).2.2.2.2.1,(S.proc (u1,u2,u3,u4,u5,u6,u7,u8) b x2).2.2.2.2.2.1,(S.proc (u1,u2,u3,u4,u5,u6,u7,u8) b x2).2.2.2.2.2.2.1,(S.proc (u1,u2,u3,u4,u5,u6,u7,u8) b x2).2.2.2.2.2.2.2) (wI 64 (S.fx b x2))).1=(S.proc (u1,u2,u3,u4,u5,u6,u7,u8) b x3).1/\(S.block ((S.proc (u1,u2,u3,u4,u5,u6,u7,u8) b x2).1,(S.proc (u1,u2,u3,u4,u5,u6,u7,u8) b x2).2.1,(S.proc (u1,u2,u3,u4,u5,u6,u7,u8) b x2).2.2.1,(S.proc (u1,u2,u3,u4,u5,u6,u7,u8) b x2).2.2.2.1,(S.proc (u1,u2,u3,u4,u5,u6,u7,u8) b x2).2.2.2.2.1,(S.proc (u1,u2,u3,u4,u5,u6,u7,u8) b x2).2.2.2.2.2.1,(S.proc (u1,u2,u3,u4,u5,u6,u7,u8) b x2).2.2.2.2.2.2.1,(S.proc (u1,u2,u3,u4,u5,u6,u7,u8) b x2).2.2.2.2.2.2.2) (wI 64 (S.fx b x2))).2.1=(S.proc (u1,u2,u3,u4,u5,u6,u7,u8) b x3).2.1/\(S.block ((S.proc (u1,u2,u3,u4,u5,u6,u7,u8) b x2).1,(S.proc (u1,u2,u3,u4,u5,u6,u7,u8) b x2).2.1,(S.proc (u1,u2,u3,u4,u5,u6,u7,u8) b x2).2.2.1,(S.proc (u1,u2,u3,u4,u5,u6,u7,u8) b x2).2.2.2.1,(S.proc (u1,u2,u3,u4,u5,u6,u7,u8) b x2).2.2.2.2.1,(S.proc (u1,u2,u3,u4,u5,u6,u7,u8) b x2).2.2.2.2.2.1,(S.proc (u1,u2,u3,u4,u5,u6,u7,u8) b x2).2.2.2.2.2.2.1,(S.proc (u1,u2,u3,u4,u5,u6,u7,u8) b x2).2.2.2.2.2.2.2) (wI 64 (S.fx b x2))).2.2.1=(S.proc (u1,u2,u3,u4,u5,u6,u7,u8) b x3).2.2.1/\(S.block ((S.proc (u1,u2,u3,u4,u5,u6,u7,u8) b x2).1,(S.proc (u1,u2,u3,u4,u5,u6,u7,u8) b x2).2.1,(S.proc (u1,u2,u3,u4,u5,u6,u7,u8) b x2).2.2.1,(S.proc (u1,u2,u3,u4,u5,u6,u7,u8) b x2).2.2.2.1,(S.proc (u1,u2,u3,u4,u5,u6,u7,u8) b x2).2.2.2.2.1,(S.proc (u1,u2,u3,u4,u5,u6,u7,u8) b x2).2.2.2.2.2.1,(S.proc (u1,u2,u3,u4,u5,u6,u7,u8) b x2).2.2.2.2.2.2.1,(S.proc (u1,u2,u3,u4,u5,u6,u7,u8) b x2).2.2.2.2.2.2.2) (wI 64 (S.fx b x2))).2.2.2.1=(S.proc (u1,u2,u3,u4,u5,u6,u7,u8) b x3).2.2.2.1/\(S.block ((S.proc (u1,u2,u3,u4,u5,u6,u7,u8) b x2).1,(S.proc (u1,u2,u3,u4,u5,u6,u7,u8) b x2).2.1,(S.proc (u1,u2,u3,u4,u5,u6,u7,u8) b x2).2.2.1,(S.proc (u1,u2,u3,u4,u5,u6,u7,u8) b x2).2.2.2.1,(S.proc (u1,u2,u3,u4,u5,u6,u7,u8) b x2).2.2.2.2.1,(S.proc (u1,u2,u3,u4,u5,u6,u7,u8) b x2).2.2.2.2.2.1,(S.proc (u1,u2,u3,u4,u5,u6,u7,u8) b x2).2.2.2.2.2.2.1,(S.proc (u1,u2,u3,u4,u5,u6,u7,u8) b x2).2.2.2.2.2.2.2) (wI 64 (S.fx b x2))).2.2.2.2.1=(S.proc (u1,u2,u3,u4,u5,u6,u7,u8) b x3).2.2.2.2.1/\(S.block ((S.proc (u1,u2,u3,u4,u5,u6,u7,u8) b x2).1,(S.proc (u1,u2,u3,u4,u5,u6,u7,u8) b x2).2.1,(S.proc (u1,u2,u3,u4,u5,u6,u7,u8) b x2).2.2.1,(S.proc (u1,u2,u3,u4,u5,u6,u7,u8) b x2).2.2.2.1,(S.proc (u1,u2,u3,u4,u5,u6,u7,u8) b x2).2.2.2.2.1,(S.proc (u1,u2,u3,u4,u5,u6,u7,u8) b x2).2.2.2.2.2.1,(S.proc (u1,u2,u3,u4,u5,u6,u7,u8) b x2).2.2.2.2.2.2.1,(S.proc (u1,u2,u3,u4,u5,u6,u7,u8) b x2).2.2.2.2.2.2.2) (wI 64 (S.fx b x2))).2.2.2.2.2.1=(S.proc (u1,u2,u3,u4,u5,u6,u7,u8) b x3).2.2.2.2.2.1/\(S.block ((S.proc (u1,u2,u3,u4,u5,u6,u7,u8) b x2).1,(S.proc (u1,u2,u3,u4,u5,u6,u7,u8) b x2).2.1,(S.proc (u1,u2,u3,u4,u5,u6,u7,u8) b x2).2.2.1,(S.proc (u1,u2,u3,u4,u5,u6,u7,u8) b x2).2.2.2.1,(S.proc (u1,u2,u3,u4,u5,u6,u7,u8) b x2).2.2.2.2.1,(S.proc (u1,u2,u3,u4,u5,u6,u7,u8) b x2).2.2.2.2.2.1,(S.proc (u1,u2,u3,u4,u5,u6,u7,u8) b x2).2.2.2.2.2.2.1,(S.proc (u1,u2,u3,u4,u5,u6,u7,u8) b x2).2.2.2.2.2.2.2) (wI 64 (S.fx b x2))).2.2.2.2.2.2.1=(S.proc (u1,u2,u3,u4,u5,u6,u7,u8) b x3).2.2.2.2.2.2.1/\(S.block ((S.proc (u1,u2,u3,u4,u5,u6,u7,u8) b x2).1,(S.proc (u1,u2,u3,u4,u5,u6,u7,u8) b x2).2.1,(S.proc (u1,u2,u3,u4,u5,u6,u7,u8) b x2).2.2.1,(S.proc (u1,u2,u3,u4,u5,u6,u7,u8) b x2).2.2.2.1,(S.proc (u1,u2,u3,u4,u5,u6,u7,u8) b x2).2.2.2.2.1,(S.proc (u1,u2,u3,u4,u5,u6,u7,u8) b x2).2.2.2.2.2.1,(S.proc (u1,u2,u3,u4,u5,u6,u7,u8) b x2).2.2.2.2.2.2.1,(S.proc (u1,u2,u3,u4,u5,u6,u7,u8) b x2).2.2.2.2.2.2.2) (wI 64 (S.fx b x2))).2.2.2.2.2.2.2=(S.proc (u1,u2,u3,u4,u5,u6,u7,u8) b x3).2.2.2.2.2.2.2)/\64*x3<=length b/\q43 (S.blocks b) x3 x2)) ((S.proc (u1,u2,u3,u4,u5,u6,u7,u8) b x2).1=(S.aI (u1,u2,u3,u4,u5,u6,u7,u8) b).1) ((S.proc (u1,u2,u3,u4,u5,u6,u7,u8) b x2).2.1=(S.aI (u1,u2,u3,u4,u5,u6,u7,u8) b).2.1/\(S.proc (u1,u2,u3,u4,u5,u6,u7,u8) b x2).2.2.1=(S.aI (u1,u2,u3,u4,u5,u6,u7,u8) b).2.2.1/\(S.proc (u1,u2,u3,u4,u5,u6,u7,u8) b x2).2.2.2.1=(S.aI (u1,u2,u3,u4,u5,u6,u7,u8) b).2.2.2.1/\(S.proc (u1,u2,u3,u4,u5,u6,u7,u8) b x2).2.2.2.2.1=(S.aI (u1,u2,u3,u4,u5,u6,u7,u8) b).2.2.2.2.1/\(S.proc (u1,u2,u3,u4,u5,u6,u7,u8) b x2).2.2.2.2.2.1=(S.aI (u1,u2,u3,u4,u5,u6,u7,u8) b).2.2.2.2.2.1/\(S.proc (u1,u2,u3,u4,u5,u6,u7,u8) b x2).2.2.2.2.2.2.1=(S.aI (u1,u2,u3,u4,u5,u6,u7,u8) b).2.2.2.2.2.2.1/\(S.proc (u1,u2,u3,u4,u5,u6,u7,u8) b x2).2.2.2.2.2.2.2=(S.aI (u1,u2,u3,u4,u5,u6,u7,u8) b).2.2.2.2.2.2.2/\S.fx b x2=S.kn b)):=by
 refine aE ?_;refine⟨?_,?_⟩
 . refine⟨0,?_⟩;try dsimp only
   with_reducible and_intros
   iterate 9 rfl
   omega
 intro x1 h2;refine V.dI (λh3=>?_) λh4=>?_
 . with_reducible and_intros
   iterate 2 omega
   exact⟨S.NP _ _ hp _,x!⟩;iterate 2 omega
   refine⟨(x1+1),?_⟩;grind[S.fx,List.drop_drop,S.ap4,List.length_drop,S.ag,S.blocks]
 with_reducible and_intros
 iterate 8
  . rw [show x1=S.blocks b by grind[S.fx,List.length_drop,S.blocks]];rfl
 rw [show x1=S.blocks b by grind[S.fx,List.length_drop,S.blocks]];rfl
def aCt(s1 s2 s3 s4 s5 s6 s7 s8:Int)(s9:B8)(dm:Int)(b:B8)(hp:S.Ud (s1,s2,s3,s4,s5,s6,s7,s8) s9 dm b):aL5 (q79 (Bool.not (S.qo s9 dm)) (na (1099511627776-dm))) (aMc (aM7 b dm s9)/\na (length (aMZ b dm s9)+length b)/\((0:Int)<=0/\aKT (length (aMZ b dm s9)+length b) (aRX Fq))/\aLm (aOp 0 0) (length (aMZ b dm s9))/\aLm (aOp 0 0++aMZ b dm s9) (length b)/\S.xa (aM3 (aM7 b dm s9) s1 s2 s3 s4 s5 s6 s7 s8)/\q39 (S.kn (aOp 0 0++aMZ b dm s9++b))/\na ((bif aM7 b dm s9 then 0 else dm)+length b)/\(S.aI (aM3 (aM7 b dm s9) s1 s2 s3 s4 s5 s6 s7 s8) (aOp 0 0++aMZ b dm s9++b)).1=(S.aI (s1,s2,s3,s4,s5,s6,s7,s8) b).1/\(S.aI (aM3 (aM7 b dm s9) s1 s2 s3 s4 s5 s6 s7 s8) (aOp 0 0++aMZ b dm s9++b)).2.1=(S.aI (s1,s2,s3,s4,s5,s6,s7,s8) b).2.1/\(S.aI (aM3 (aM7 b dm s9) s1 s2 s3 s4 s5 s6 s7 s8) (aOp 0 0++aMZ b dm s9++b)).2.2.1=(S.aI (s1,s2,s3,s4,s5,s6,s7,s8) b).2.2.1/\(S.aI (aM3 (aM7 b dm s9) s1 s2 s3 s4 s5 s6 s7 s8) (aOp 0 0++aMZ b dm s9++b)).2.2.2.1=(S.aI (s1,s2,s3,s4,s5,s6,s7,s8) b).2.2.2.1/\(S.aI (aM3 (aM7 b dm s9) s1 s2 s3 s4 s5 s6 s7 s8) (aOp 0 0++aMZ b dm s9++b)).2.2.2.2.1=(S.aI (s1,s2,s3,s4,s5,s6,s7,s8) b).2.2.2.2.1/\(S.aI (aM3 (aM7 b dm s9) s1 s2 s3 s4 s5 s6 s7 s8) (aOp 0 0++aMZ b dm s9++b)).2.2.2.2.2.1=(S.aI (s1,s2,s3,s4,s5,s6,s7,s8) b).2.2.2.2.2.1/\(S.aI (aM3 (aM7 b dm s9) s1 s2 s3 s4 s5 s6 s7 s8) (aOp 0 0++aMZ b dm s9++b)).2.2.2.2.2.2.1=(S.aI (s1,s2,s3,s4,s5,s6,s7,s8) b).2.2.2.2.2.2.1/\(S.aI (aM3 (aM7 b dm s9) s1 s2 s3 s4 s5 s6 s7 s8) (aOp 0 0++aMZ b dm s9++b)).2.2.2.2.2.2.2=(S.aI (s1,s2,s3,s4,s5,s6,s7,s8) b).2.2.2.2.2.2.2/\S.kn (aOp 0 0++aMZ b dm s9++b)=S.kn b/\(bif aM7 b dm s9 then(0:Int) else dm)+length b=S.pO b):=by
 refine aE ?_;obtain⟨Lh,rfl,rfl,hs⟩:=hp;simp [S.small] at hs;have hv:S.qo [] 0=true:=by decide
 have hd:decide ((1099511627776:Int)-0<(b.length:Int))=false:=by grind
 simp only [hv,hd,Bool.not_true,O!,L!,ln,Int.toNat_zero];with_reducible and_intros
 trivial;grind;omega;iterate 2 grind
 iterate 5 omega
 iterate 2 grind
 omega
 . simp [List.replicate_zero,k?,H?,S.vY,S.pO,ln,K!] at *;omega
 iterate 2 omega
 iterate 9 rfl
 simp only [List.replicate_zero,k?,H?,S.vY,S.pO,ln,K!] at *;omega
def aCu(s1 s2 s3 s4 s5 s6 s7 s8:Int)(s9:B8)(dm:Int)(hp:S.LJ (s1,s2,s3,s4,s5,s6,s7,s8) s9 dm):aL5 (aMc (aMV dm s9)) (q19 (length (bif aMV dm s9 then [] else s9))/\aSe (length (bif aMV dm s9 then [] else s9)) [128]/\(∃(x1:Nat),(bif aMV dm s9 then([]:B8) else s9)++[128]=S.gh s9 x1/\S.cG s9 x1)/\(∀(x2:Nat),S.cG s9 x2->(0:Int)<=length (S.gh s9 x2)/\(0:Int)<64/\yb (fX (length (S.gh s9 x2)%64) 56) (aSe (length (S.gh s9 x2)) [0]) (∃(x3:Nat),S.gh s9 x2++[0]=S.gh s9 x3/\S.cG s9 x3/\q43 (S.ib (S.len s9)) x3 x2) (∃(x4:Nat),aOD x4 (S.gh s9 x2=S.jX s9 dm x4) 8) (∀(x5:Nat),S.cc x5 8->qJ (decide ((x5:Int)<8)) (na (8*x5)) (na (56-8*x5)/\((0:Int)<=56-8*x5/\(56:Int)-8*x5<=64)/\wJ (S.jX s9 dm x5) [HN (aP6 (aP6 (bif aMV dm s9 then 0 else dm)*8)/lG 2 (56-8*x5))]/\HJ x5 (∃(x6:Nat),aRY x5 x6 (S.jX s9 dm x5++[HN (aP6 (aP6 (bif aMV dm s9 then 0 else dm)*8)/lG 2 (56-8*x5))]=S.jX s9 dm x6) 8)) (S.xa (aM3 (aMV dm s9) s1 s2 s3 s4 s5 s6 s7 s8)) ((0:Int)<=0/\aKT 32 (aRX Fq)) ((∃(x7:Nat),aOD x7 (aOp 0 0=S.oU (S.aI (s1,s2,s3,s4,s5,s6,s7,s8) (S.tail s9 dm)) x7) 8)/\(∀(x8:Nat),S.cc x8 8->Fi (decide ((x8:Int)<8)) 0 x8 aKG (sC 24 32 (sC 16 32 (sC 8 32 (wJ (S.oU (S.aI (s1,s2,s3,s4,s5,s6,s7,s8) (S.tail s9 dm)) x8) [HN (aO9 dm s1 s2 s3 s4 s5 s6 s7 s8 s9 x5 x8/lG 2 24),HN (aO9 dm s1 s2 s3 s4 s5 s6 s7 s8 s9 x5 x8/lG 2 16),HN (aO9 dm s1 s2 s3 s4 s5 s6 s7 s8 s9 x5 x8/lG 2 8),HN (aO9 dm s1 s2 s3 s4 s5 s6 s7 s8 s9 x5 x8)]/\HJ x8 (∃(x9:Nat),aRY x8 x9 (S.oU (S.aI (s1,s2,s3,s4,s5,s6,s7,s8) (S.tail s9 dm)) x8++[HN (aO9 dm s1 s2 s3 s4 s5 s6 s7 s8 s9 x5 x8/lG 2 24),HN (aO9 dm s1 s2 s3 s4 s5 s6 s7 s8 s9 x5 x8/lG 2 16),HN (aO9 dm s1 s2 s3 s4 s5 s6 s7 s8 s9 x5 x8/lG 2 8),HN (aO9 dm s1 s2 s3 s4 s5 s6 s7 s8 s9 x5 x8)]=S.oU (S.aI (s1,s2,s3,s4,s5,s6,s7,s8) (S.tail s9 dm)) x9) 8))))) (S.oU (S.aI (s1,s2,s3,s4,s5,s6,s7,s8) (S.tail s9 dm)) x8=S.dig (S.aI (s1,s2,s3,s4,s5,s6,s7,s8) (S.tail s9 dm)))))))):=by
 refine aE ?_;have hv:=S.ags hp;obtain⟨Lh,h01,h02,h03⟩:=hp;simp only [hv,Bool.not_true,O!];with_reducible and_intros
 trivial;iterate 2 grind
 omega;grind
 . refine⟨0,?_⟩;refine⟨?_,?_⟩
   . exact S.W7 _
   simp only [S.dc,S.jD,S.cG,S.ib,S.cc,S.ag,S.len,lc,ln] at *;omega
 intro x3 h4;refine⟨?_,?_,?_,?_⟩;iterate 2 omega
 . intro h5;try simp at h5
   refine⟨?_,?_⟩
   . simp [S.dc,S.jD,S.cG,S.ib,S.cc,S.ag,S.len,lc,ln] at *;omega
   refine⟨(x3+1),?_⟩;refine⟨?_,?_,?_⟩;grind[S.Kl];grind[S.NR];simp only [S.dc,S.jD,S.cG,S.ib,S.cc,S.ag,S.len,lc,ln] at *;omega
 intro h6;refine⟨?_,?_⟩
 . refine⟨0,?_⟩;try dsimp only
   with_reducible and_intros
   omega;grind[S.akj,S.RQ];simp only [S.dc,S.jD,S.cG,S.ib,S.cc,S.ag,S.len,lc,ln] at *;omega
 intro x7 h8;refine V.dI (λh9=>?_) λde=>?_
 . with_reducible and_intros
   iterate 6 omega
   . simp only [S.dc,S.jD,S.cG,S.ib,S.cc,S.ag,S.len,lc,ln] at *;omega
   iterate 2 omega
   refine⟨(x7+1),?_⟩;try dsimp only
   with_reducible and_intros
   omega;exact S.W8 s9 dm x7 h01 h02 w!
   . simp only [S.dc,S.jD,S.cG,S.ib,S.cc,S.ag,S.len,lc,ln] at *;omega
   simp only [S.dc,S.jD,S.cG,S.ib,S.cc,S.ag,S.len,lc,ln] at *;omega
 with_reducible and_intros
 iterate 4 omega
 . refine⟨0,?_⟩;try dsimp only
   with_reducible and_intros
   omega;rfl;simp only [S.dc,S.jD,S.cG,S.ib,S.cc,S.ag,S.len,lc,ln] at *;omega
 intro x11 gY;refine V.dI (λjM=>?_) λjZ=>?_
 . with_reducible and_intros
   iterate 8 omega
   . rw [S.IJ _ _ (by simp only [S.cc] at *;omega)];simp;omega
   iterate 2 omega
   refine⟨(x11+1),?_⟩;try dsimp only
   with_reducible and_intros
   omega
   . rw [show x7=8 by(simp only [S.cc] at *;omega)];exact S.ap3 _ x11 w!
   . simp only [S.dc,S.jD,S.cG,S.ib,S.cc,S.ag,S.len,lc,ln] at *;omega
   simp only [S.dc,S.jD,S.cG,S.ib,S.cc,S.ag,S.len,lc,ln] at *;omega
 rw [show x11=8 by(simp only [S.cc] at *;omega)];rfl
def aCv(b:B8)(hp:S.small b):aL5 (S.Ud aOt sy 0 b) (S.LJ (aS2 b) (S.kn b) (S.pO b)/\S.dig (S.aI (aS2 b) (S.tail (S.kn b) (S.pO b)))=S.sum b):=by
 refine aE ?_;refine⟨?_,?_,?_,?_⟩;trivial;exact⟨S.Z0,rfl,rfl,hp⟩
 . simp [S.small] at hp;exact⟨S.NP _ _ S.Z0 _,by grind[S.pO],by grind[S.pO],by grind[S.vY,S.pO]⟩
 exact congrArg S.dig (S.Z1 b _)
def aCw(m:Nat)(v:Int)(hm:v.toNat<m+1)(hp:0<=v)(hf:Vg.gq J.Pj v):q14 (aSq v) ([HN v]=S.num v) (0<=v/\(0:Int)<128/\na (v%128+128)/\0<=v/\(0:Int)<128/\(aHF (v/128) m/\0<=v/128)/\wJ [HN (v%128+128)] (S.num (v/128))/\[HN (v%128+128)]++S.num (v/128)=S.num v):=by
 refine aE ?_;have aIz:Vg.hint v:=hf.1;refine⟨?_,?_⟩
 . grind[S.G1]
 grind[df,S.cX,S.abi,List.singleton_append]
def aXY(s:B8)(hp:S.small s):(0:Int)<=length s/\aLm (S.num (length s)) (length s)/\S.num (length s)++s=S.text s:=by
 refine aE ?_;refine⟨?_,?_,?_⟩;omega;grind[S.cX,S.small];rfl
def aCx(b:B8)(hf:Vg.gq J.jd b):(∃(x1:Nat),(0:Int)=x1/\S.lZ b x1)/\(∀(x2:Nat),S.lZ b x2->q14 (decide (x2<e6 b)) (pf (decide ((x2:Int)<9)) ((0:Int)<=x2) (x2<e6 b) True) True/\pf (ir (decide (x2<e6 b)) (ir (decide ((x2:Int)<9)) (decide (128<=aJm b x2)))) (na (x2+1)) (∃(x3:Nat),aJ8 x2 x3 (S.lZ b x3) 9) (aRF (decide ((x2:Int)=9)) (0=(S.first b).1) (0=(S.first b).2.1/\2=(S.first b).2.2) (decide (x2=e6 b)) (0=(S.first b).2.1/\4=(S.first b).2.2) (∃(x4:Int),(x2=x4/\0=S.dL b (S.lead b) x4)/\S.xW b (S.lead b) x4) (∀(x5:Int),S.xW b (S.lead b) x5->yb (aNc x5) (na (S.dL b (S.lead b) x5*128)) (aL7 x5 (e6 b) (0<=aJm b x5/\(0:Int)<128/\aji (S.dL b (S.lead b) x5*128+aJm b x5%128) (x5-1) (∃(x6:Int),(x5-1=x6/\S.dL b (S.lead b) x5*128+aJm b x5%128=S.dL b (S.lead b) x6)/\S.xW b (S.lead b) x6/\Eg (x6+1) (x5+1)))) (q79 (decide (4611686018427387904<S.dL b (S.lead b) x5)) (0<=S.dL b (S.lead b) x5/\HJ x2 (aKT (x2+1) (e6 b)))) (gl (wH (decide (4611686018427387904<S.dL b (S.lead b) x5)) (decide (S.num (S.dL b (S.lead b) x5)=wI (x2+1) b))) (0=(S.first b).1) (0=(S.first b).2.1/\2=(S.first b).2.2) (x2+1) (S.dL b (S.lead b) x5=(S.first b).1/\x2+1=(S.first b).2.1/\0=(S.first b).2.2))))):=by
 refine aE ?_;clear hf;refine⟨?_,?_⟩
 . refine⟨0,?_⟩;try dsimp only
   refine⟨?_,?_⟩
   . omega
   grind [S.NW,S.pP,S.iD,S.Bw,S.su,S.gm,S.nA,S.ja,S.kK,S.ic,S.DY,S.jE,S.ag]
 intro x1 h2;with_reducible and_intros
 iterate 2 grind
 . intro h7;try simp at h7
   with_reducible and_intros
   iterate 2 omega
   refine⟨(x1+1),?_⟩;try dsimp only
   refine⟨?_,?_,?_⟩;omega;iterate 2 (grind [S.NW,S.pP,S.iD,S.Bw,S.su,S.gm,S.nA,S.ja,S.kK,S.ic,S.DY,S.jE,S.ag])
 intro h8;try simp only [V.ze,df,tn] at h8
 refine V.dI (λh9=>?_) λde=>?_
 . refine⟨?_,?_,?_⟩;iterate 3 (grind [S.NW,S.pP,S.iD,S.Bw,S.su,S.gm,S.nA,S.ja,S.kK,S.ic,S.DY,S.jE,S.ag])
 refine V.dI (λfC=>?_) λgY=>?_
 . refine⟨?_,?_,?_⟩;iterate 3 (grind [S.NW,S.pP,S.iD,S.Bw,S.su,S.gm,S.nA,S.ja,S.kK,S.ic,S.DY,S.jE,S.ag])
 refine⟨?_,?_⟩
 . refine⟨((↑x1:Int)),?_⟩;try dsimp only
   with_reducible and_intros
   with_reducible rfl
   . have:=S.iD h2;obtain rfl:=S.gm h2 w! w!;grind [S.ja,S.DY,S.ag]
   have:=S.iD h2;obtain rfl:=S.gm h2 w! w!;grind [S.ja,S.DY,S.ag]
 intro JB jZ;refine V.dI (λCq=>?_) λzP=>?_
 . with_reducible and_intros
   iterate 2
    . have:=S.iD h2;obtain rfl:=S.gm h2 w! w!;have:=S.jE jZ;have:=S.ic b (S.lead b) JB w! w! w!;omega
   omega;grind [S.NW,S.pP,S.iD,S.Bw,S.su,S.gm,S.nA,S.ja,S.kK,S.ic,S.DY,S.jE,S.ag];iterate 2 omega
   iterate 2
    . have:=S.iD h2;obtain rfl:=S.gm h2 w! w!;have:=S.jE jZ;have:=S.ic b (S.lead b) JB w! w! w!;omega
   omega;grind [S.NW,S.pP,S.iD,S.Bw,S.su,S.gm,S.nA,S.ja,S.kK,S.ic,S.DY,S.jE,S.ag];refine⟨(JB-(1:Int)),?_⟩;try dsimp only
   with_reducible and_intros
   with_reducible rfl
   grind [S.NW,S.pP,S.iD,S.Bw,S.su,S.gm,S.nA,S.ja,S.kK,S.ic,S.DY,S.jE,S.ag]
   . have:=S.iD h2;obtain rfl:=S.gm h2 w! w!;have:=S.jE jZ;have:=S.ic b (S.lead b) JB w! w! w!;exact S.DY h2 w! w! w! w!
   omega
 with_reducible and_intros
 . intro HV;trivial
 . intro QW;with_reducible and_intros
   . have:=S.iD h2;have:=S.jE jZ;have:=S.ic b (S.lead b) JB w! w! w!;omega
   omega
   . have:=S.iD h2;omega
   omega;have:=S.iD h2;omega
 . intro h19;refine⟨?_,?_,?_⟩
   iterate 2
    . have:=S.iD h2;obtain rfl:=S.gm h2 w! w!;have:=S.jE jZ;obtain rfl :JB= -1:=by omega
      have hf:=S.nA (b:=b) w! w!;rw [hf];rw [if_pos x!]
   have:=S.iD h2;obtain rfl:=S.gm h2 w! w!;have:=S.jE jZ;obtain rfl :JB= -1:=by omega
   have hf:=S.nA (b:=b) w! w!;rw [hf];rw [if_pos x!]
 intro h20;with_reducible and_intros
 omega
 . have:=S.iD h2;omega
 iterate 2
  . have:=S.iD h2;obtain rfl:=S.gm h2 w! w!;have:=S.jE jZ;obtain rfl :JB= -1:=by omega
    have hf:=S.nA (b:=b) w! w!;rw [hf];rw [if_neg x!]
 have:=S.iD h2;obtain rfl:=S.gm h2 w! w!;have:=S.jE jZ;grind[S.nA]
def aCz(b:B8)(cd:Int)(hf:Vg.gq J.q9p (b,cd)):ec (pf (ahP (S.first b).2.2) ([]=(S.aq b cd).1) (0=(S.aq b cd).2.1/\(S.first b).2.2=(S.aq b cd).2.2) (gl (decide (cd<(S.first b).1)) ([]=(S.aq b cd).1) (0=(S.aq b cd).2.1/\2=(S.aq b cd).2.2) (e6 b-(S.first b).2.1) (qJ (decide (e6 b-(S.first b).2.1<(S.first b).1)) ([]=(S.aq b cd).1) (0=(S.aq b cd).2.1/\4=(S.aq b cd).2.2) (na ((S.first b).2.1+(S.first b).1)) (0<=(S.first b).2.1/\(S.first b).2.1<=(S.first b).2.1+(S.first b).1/\(S.first b).2.1+(S.first b).1<=e6 b) (na ((S.first b).2.1+(S.first b).1)/\q92 (S.first b).2.1 (wI ((S.first b).2.1+(S.first b).1) b)=(S.aq b cd).1/\(S.first b).2.1+(S.first b).1=(S.aq b cd).2.1/\0=(S.aq b cd).2.2)))):=by
 refine aE ?_;have pT:Vg.hlen b:=hf.1.1;have hb:=S.j5 b;refine⟨?_,?_,?_⟩;trivial;grind[nt,df,S.aq,List.drop_take];intro h2;refine⟨?_,?_⟩
 . simp_all[dt,S.aq,List.drop_take]
 intro h4;with_reducible and_intros
 iterate 2 omega
 grind[S.aq,List.drop_take];grind[df,S.aq,List.drop_take]
def aCA(b:B8)(hp:b.length<=140737488355328):q39 b/\b=b:=by
 refine aE ?_;grind
def aCB(v:Int)(l:B8)(hp:S.GZ l v)(hf:Vg.akd J.aHL v):(∃(x1:B8×Int),(v=x1.2/\l=x1.1)/\S.tv l v x1.1 x1.2)/\(∀(x2:B8×Int),S.tv l v x2.1 x2.2->yb (decide (127<x2.2)) (0<=x2.2) ((0:Int)<=127/\aSe (length x2.1) [q60 (Vg.cy (Vg.aM x2.2 127%256) 128)]/\sC 7 64 (∃(x3:B8×Int),(x2.2/lG 2 7=x3.2/\x2.1++[q60 (Vg.cy (Vg.aM x2.2 127%256) 128)]=x3.1)/\S.tv l v x3.1 x3.2/\Eg x3.2 x2.2)) (aSe (length x2.1) [HN x2.2]) (x2.1++[HN x2.2]=l++S.num v)):=by
 refine aE ?_;have aIz:Vg.hint v:=hf.1;obtain⟨qg,TF⟩:=hp;refine⟨?_,?_⟩
 . refine⟨((l),(v)),?_⟩;with_reducible and_intros
   omega;rfl;exact⟨qg,Int.le_refl _,rfl⟩
 intro x1 h2;refine V.dI (λh3=>?_) λh4=>?_
 . with_reducible and_intros
   iterate 2 omega
   . (have hl:=S.G2 h2;grind)
   iterate 2 omega
   refine⟨((x1.1++[UInt8.ofNat (toNat (Vg.cy (Vg.aM (x1.2) (127:Int)%(256:Int)) (128:Int)))]),(x1.2/(2:Int)^toNat (7:Int))),?_⟩;grind[S.G2,S.abl,S.agy]
 refine⟨?_,?_⟩
 . (have hl:=S.G2 h2;grind)
 grind[S.G2,S.abl,S.aks]
def aCC(s l:B8)(hp:S.oV l s):S.GZ l (length s)/\aLm (l++S.num (length s)) (length s)/\l++S.num (length s)++s=l++S.text s:=by
 refine aE ?_;obtain⟨qg,TF⟩:=hp;grind[S.cX,S.GZ,List.length_append,S.text]
def aCD(b:B8)(v:Int)(hp:b.length<=35184372088832):qJ (aSJ v 0 4611686018427387904) (1=S.xV v) ([]=S.mn b v) (q39 b) (S.GZ b v) (0=S.xV v/\b++S.num v=S.mn b v):=by
 refine aE ?_;refine⟨?_,?_⟩
 . simp_all[V.IG,dt,S.mn,S.xV,S.fT]
 intro h2;simp at h2;refine⟨?_,?_,?_,?_⟩;omega;exact⟨w!,w!⟩;iterate 2 (grind[S.mn,S.xV,S.fT])
def aCE(b s:B8)(hp:S.oV b s):q39 b/\S.oV b s/\b++S.text s=b++S.text s:=by
 refine aE ?_;grind[S.oV]
def aCF(r1:B8)(r2 r3:Int):mv 0 r2 (e6 r1)=S.inside r1 r2:=by
 refine aE ?_;grind[S.inside,decide]
def aCG(r1:B8)(r2 r3:Int)(hp:r1.length<=140737488355328):q39 r1/\aMc (ake r3)/\r1=r1/\(bif ir (ake r3) (Bool.not (S.inside r1 r2)) then r2 else r2)=r2/\(bif ir (ake r3) (Bool.not (S.inside r1 r2)) then(1:Int) else r3)=S.bX r1 r2 r3:=by
 refine aE ?_;grind[S.bX,S.inside]
def aCH(b:B8)(p:Int)(hp:S.dF b p)(hf:Vg.gq J.q9p (b,p)):(∃(x1:Nat),(0=S.gu b p x1/\(0:Int)=x1)/\S.ko b p x1)/\(∀(x2:Nat),S.ko b p x2->gl (decide ((x2:Int)=9)) (0=(S.aO b p).1) (0=(S.aO b p).2.1/\2=(S.aO b p).2.2) (e6 b-p) (gl (decide (x2=e6 b-p)) (0=(S.aO b p).1) (0=(S.aO b p).2.1/\4=(S.aO b p).2.2) (p+x2) (aL7 (p+x2) (e6 b) (na (7*x2)/\((0:Int)<=7*x2/\(7:Int)*x2<=64)/\na (ĝ b p x2)/\0<=S.gu b p x2/\0<=ĝ b p x2/\HJ x2 (pf (aSq (aJm b (p+x2))) (pf (decide ((1:Int)<x2+1)) (na (p+(x2+1))) (na (p+(x2+1)-1)/\uT 0 (p+(x2+1)-1) (e6 b)) True) (gl (bif decide ((1:Int)<x2+1) then cE (ake (aJm b (p+(x2+1)-1))) (decide (4611686018427387904<Vg.cy (S.gu b p x2) (ĝ b p x2))) else decide (4611686018427387904<Vg.cy (S.gu b p x2) (ĝ b p x2))) (0=(S.aO b p).1) (0=(S.aO b p).2.1/\2=(S.aO b p).2.2) (p+(x2+1)) (Vg.cy (S.gu b p x2) (ĝ b p x2)=(S.aO b p).1/\p+(x2+1)=(S.aO b p).2.1/\0=(S.aO b p).2.2)) (∃(x3:Nat),(Vg.cy (S.gu b p x2) (ĝ b p x2)=S.gu b p x3/\(x2:Int)+1=x3)/\S.ko b p x3/\q43 9 x3 x2)))))):=by
 refine aE ?_;have pT:Vg.hlen b:=hf.1.1;clear hf;have Bn:=hp;simp only [S.dF] at Bn;refine⟨?_,?_⟩
 . refine⟨0,?_⟩;try dsimp only
   with_reducible and_intros
   exact(S.aGI b p).symm;omega;exact S.aGH hp
 intro x1 h2;refine V.dI (λh3=>?_) λh4=>?_
 . refine⟨?_,?_,?_⟩;iterate 3 (grind [S.akp,S.W9])
 with_reducible and_intros
 iterate 2 omega
 . intro h5;refine⟨?_,?_,?_⟩;iterate 3 (grind [S.akp,S.W9])
 intro h6;try simp at h6
 with_reducible and_intros
 omega
 . (have hg:=S.gV h2;omega)
 omega
 . (have hg:=S.gV h2;omega)
 omega
 . (have hg:=S.gV h2;omega)
 omega
 . (have hg:=S.gV h2;omega)
 iterate 2
  . have hg:=S.gV h2;have hn:=S.nz ((b.getD (p+(x1:Int)).toNat 0).toNat:Int) w!;have hs:=S.abk (Vg.aM ((b.getD (p+(x1:Int)).toNat 0).toNat:Int) 127) x1 w! w! w!;try clear h8
    try clear h9
    clear hn;omega
 . (have hg:=S.gV h2;have hv:=S.ap7 (b:=b) (p:=p) hg.1;exact hv.1)
 . (have hg:=S.gV h2;have hn:=S.nz ((b.getD (p+(x1:Int)).toNat 0).toNat:Int) w!;have hs:=S.abk (Vg.aM ((b.getD (p+(x1:Int)).toNat 0).toNat:Int) 127) x1 w! w! w!;exact hs.1)
 omega
 . (have hg:=S.gV h2;omega)
 . intro h7;try simp only [dt] at h7
   with_reducible and_intros
   . intro h8;with_reducible and_intros
     omega
     . have hg:=S.gV h2;have hn:=S.nz ((b.getD (p+(x1:Int)).toNat 0).toNat:Int) w!;try clear h8
       try clear h9
       clear hn;omega
     omega
     . have hg:=S.gV h2;have hn:=S.nz ((b.getD (p+(x1:Int)).toNat 0).toNat:Int) w!;try clear h8
       try clear h9
       clear hn;omega
     omega;have hg:=S.gV h2;have hn:=S.nz ((b.getD (p+(x1:Int)).toNat 0).toNat:Int) w!;try clear h8
     try clear h9
     clear hn;omega
   . intro h9;trivial
   . intro de;refine⟨?_,?_,?_⟩
     . exact(S.IM hp h2 (by have hg:=S.gV h2;omega) w! w! de).1
     . exact(S.IM hp h2 (by have hg:=S.gV h2;omega) w! w! de).2.1
     . exact(S.IM hp h2 (by have hg:=S.gV h2;omega) w! w! de).2.2
   intro fC;with_reducible and_intros
   omega
   . clear fC;have hg:=S.gV h2;omega
   . exact(S.IN hp h2 (by have hg:=S.gV h2;omega) w! w! fC).1
   . exact(S.IN hp h2 (by have hg:=S.gV h2;omega) w! w! fC).2.1
   . exact(S.IN hp h2 (by have hg:=S.gV h2;omega) w! w! fC).2.2
 intro gY;try simp only [df] at gY
 refine⟨(x1+1),?_⟩;try dsimp only
 with_reducible and_intros
 . (have hg:=S.gV h2;exact S.abj hp h2 w!)
 omega
 . (have hg:=S.gV h2;exact S.agx hp h2 w! w! w!)
 . (have hg:=S.gV h2;simp only [S.ag];omega)
def aCI(b:B8)(p cd:Int)(hp:S.dF b p)(hf:Vg.gq J.aHN (b,p,cd)):S.dF b p/\pf (ahP (S.aO b p).2.2) ([]=(S.di b p cd).1) (0=(S.di b p cd).2.1/\(S.aO b p).2.2=(S.di b p cd).2.2) (gl (decide (cd<(S.aO b p).1)) ([]=(S.di b p cd).1) (0=(S.di b p cd).2.1/\2=(S.di b p cd).2.2) (e6 b-(S.aO b p).2.1) (qJ (decide (e6 b-(S.aO b p).2.1<(S.aO b p).1)) ([]=(S.di b p cd).1) (0=(S.di b p cd).2.1/\4=(S.di b p cd).2.2) (na ((S.aO b p).2.1+(S.aO b p).1)) (0<=(S.aO b p).2.1/\(S.aO b p).2.1<=(S.aO b p).2.1+(S.aO b p).1/\(S.aO b p).2.1+(S.aO b p).1<=e6 b) (na ((S.aO b p).2.1+(S.aO b p).1)/\q92 (S.aO b p).2.1 (wI ((S.aO b p).2.1+(S.aO b p).1) b)=(S.di b p cd).1/\(S.aO b p).2.1+(S.aO b p).1=(S.di b p cd).2.1/\0=(S.di b p cd).2.2))):=by
 refine aE ?_;have pT:Vg.hlen b:=hf.1.1;have hb:=S.NY hp;refine⟨?_,?_,?_⟩;omega;grind[nt,df,S.di];intro h2;refine⟨?_,?_⟩
 . simp_all[dt,S.di]
 intro h4;with_reducible and_intros
 iterate 2 omega
 grind[S.di];grind[df,S.di]
def aCJ(r1:B8)(r2 r3 cd:Int)(hp:r1.length<=140737488355328):q39 r1/\yb (ahP (S.bX r1 r2 r3)) (r1=(S.an r1 r2 r3 cd).1.1) (r2=(S.an r1 r2 r3 cd).1.2.1/\S.bX r1 r2 r3=(S.an r1 r2 r3 cd).1.2.2/\[]=(S.an r1 r2 r3 cd).2) (S.dF r1 r2) (pf (ahP (S.di r1 r2 cd).2.2) (r1=(S.an r1 r2 r3 cd).1.1) (r2=(S.an r1 r2 r3 cd).1.2.1/\(S.di r1 r2 cd).2.2=(S.an r1 r2 r3 cd).1.2.2/\[]=(S.an r1 r2 r3 cd).2) (r1=(S.an r1 r2 r3 cd).1.1/\(S.di r1 r2 cd).2.1=(S.an r1 r2 r3 cd).1.2.1/\S.bX r1 r2 r3=(S.an r1 r2 r3 cd).1.2.2/\(S.di r1 r2 cd).1=(S.an r1 r2 r3 cd).2)):=by
 refine aE ?_;refine⟨?_,?_,?_⟩;omega;grind[nt,df,S.an,S.dF,S.bX,S.inside];intro h2;refine⟨?_,?_,?_⟩;grind[S.an,S.dF,S.bX,S.inside];grind[nt,df,S.an,S.dF,S.bX,S.inside];simp_all[nf,dt,S.an,S.dF,S.bX,S.inside]
def aCK(r1:B8)(r2 r3:Int)(hp:r1.length<=140737488355328):q39 r1/\yb (ahP (S.bX r1 r2 r3)) (r1=(S.af r1 r2 r3).1.1) (r2=(S.af r1 r2 r3).1.2.1/\S.bX r1 r2 r3=(S.af r1 r2 r3).1.2.2/\0=(S.af r1 r2 r3).2) (S.dF r1 r2) (pf (ahP (S.aO r1 r2).2.2) (r1=(S.af r1 r2 r3).1.1) (r2=(S.af r1 r2 r3).1.2.1/\(S.aO r1 r2).2.2=(S.af r1 r2 r3).1.2.2/\0=(S.af r1 r2 r3).2) (r1=(S.af r1 r2 r3).1.1/\(S.aO r1 r2).2.1=(S.af r1 r2 r3).1.2.1/\S.bX r1 r2 r3=(S.af r1 r2 r3).1.2.2/\(S.aO r1 r2).1=(S.af r1 r2 r3).2)):=by
 refine aE ?_;refine⟨?_,?_,?_⟩;omega;grind[nt,df,S.af,S.dF,S.bX,S.inside];intro h2;refine⟨?_,?_,?_⟩;grind[S.af,S.dF,S.bX,S.inside];grind[nt,df,S.af,S.dF,S.bX,S.inside];simp_all[nf,dt,S.af,S.dF,S.bX,S.inside]
def aCL(r1:B8)(r2 r3:Int)(hp:r1.length<=140737488355328)(hf:Vg.gq J.ay2 (r1,r2,r3)):q19 (length r1)/\gl (ahP (S.bX r1 r2 r3)) (r1=(S.ar r1 r2 r3).1.1) (r2=(S.ar r1 r2 r3).1.2.1/\S.bX r1 r2 r3=(S.ar r1 r2 r3).1.2.2/\[]=(S.ar r1 r2 r3).2) (length r1-r2) (qJ (decide (length r1-r2<32)) (r1=(S.ar r1 r2 r3).1.1) (r2=(S.ar r1 r2 r3).1.2.1/\4=(S.ar r1 r2 r3).1.2.2/\[]=(S.ar r1 r2 r3).2) (na (r2+32)) (0<=r2/\r2<=r2+32/\r2+32<=length r1) (na (r2+32)/\r1=(S.ar r1 r2 r3).1.1/\r2+32=(S.ar r1 r2 r3).1.2.1/\S.bX r1 r2 r3=(S.ar r1 r2 r3).1.2.2/\q92 r2 (wI (r2+32) r1)=(S.ar r1 r2 r3).2)):=by
 refine aE ?_;have aKS:Vg.hint r2:=hf.2.1;refine⟨?_,?_,?_⟩;omega;grind[nt,df,S.ar,S.dF,S.bX,S.inside];intro h2;with_reducible and_intros
 omega;grind[S.ar,S.dF,S.bX,S.inside];simp_all[dt,S.ar,S.dF,S.bX,S.inside]
 grind[df,S.ar,S.dF,S.bX,S.inside,S.agz,List.drop_take]
def aCM(r1:B8)(r2 r3:Int):q14 (ahP r3) (r3=S.done r1 r2 r3) (ec (q14 (Bool.not (S.inside r1 r2)) (1=S.done r1 r2 r3) (q14 (Eh r2 r1) (2=S.done r1 r2 r3) (0=S.done r1 r2 r3)))):=by
 refine aE ?_;simp_all[nt,df,S.done,nf,dt]
def aCN(kind:Int)(b:B8)(hp:S.aC b)(hf:Vg.gq J.Pm (kind,b)):(∃(x1:Nat),((0:Int)=x1/\[HN kind]=S.k7 kind (take x1 b))/\S.ny b x1)/\(∀(x2:Nat),S.ny b x2->Fi (decide (x2<e6 b)) 0 x2 (e6 b) (wJ (S.k7 kind (take x2 b)) [q60 (aJm b x2)]/\HJ x2 (∃(x3:Nat),sB x2 x3 (S.k7 kind (take x2 b)++[q60 (aJm b x2)]=S.k7 kind (take x3 b)) (S.ny b x3) (S.len b))) (S.k7 kind (take x2 b)=S.k7 kind b)):=by
 refine aE ?_;have aIA:Vg.hint kind:=hf.1;have pT:Vg.hlen b:=hf.2.1.1;clear hf;refine⟨?_,?_⟩
 . refine⟨0,?_⟩;try dsimp only
   with_reducible and_intros
   omega;rfl;simp only [S.ny,S.ag,S.len,S.aC,S.k7,lc,J?,ln] at *;omega
 intro x1 h2;refine⟨?_,?_⟩
 . intro h3;try simp only [dt] at h3
   with_reducible and_intros
   iterate 2 omega
   . simp only [S.ny,S.ag,S.len,S.aC,S.k7,lc,J?,ln] at *;omega
   iterate 2 omega
   refine⟨(x1+1),?_⟩;try dsimp only
   with_reducible and_intros
   omega;simp only [S.k7,e?,S.akf b x1 w!]
   . simp only [S.ny,S.ag,S.len,S.aC,S.k7,lc,J?,ln] at *;omega
   simp only [S.ny,S.ag,S.len,S.aC,S.k7,lc,J?,ln] at *;omega
 grind[df,S.k7,S.ny,List.take_add_one]
def aCO(kind:Int)(b:B8)(hp:S.aC b):aSP b (S.k7 kind b) (S.eW kind b):=by
 refine aE ?_;refine⟨?_,?_,?_⟩;omega;exact hp;rfl
def aCP(b:B8)(hp:S.aC b):S.aC b/\S.eW 0 b=S.eW 0 b:=by
 grind
def aCQ(l r:B8)(hp:S.aC (l++r)):q1 ((length l+length r:Nat):Int)/\S.aC (l++r)/\S.eW 1 (l++r)=S.eW 1 (l++r):=by
 refine aE ?_;grind[S.aC,List.length_append]
def aCR(kind:UInt8)(parts:O)(hp:S.oW parts)(hf:Vg.gq J.Pn (kind,parts)):(∃(x1:Nat),((0:Int)=x1/\[q60 (o8 kind)]=S.og kind parts x1)/\S.ny parts x1)/\(∀(x2:Nat),S.ny parts x2->Fi (decide (x2<ml parts)) 0 x2 (ml parts) (wJ (S.og kind parts x2) (mY parts x2)/\HJ x2 (∃(x3:Nat),sB x2 x3 (S.og kind parts x2++mY parts x2=S.og kind parts x3) (S.ny parts x3) (S.len parts))) (S.og kind parts x2=S.gM kind parts)):=by
 refine aE ?_;have aFz:Vg.hlen parts:=hf.2.1.1;clear hf;refine⟨?_,?_⟩
 . grind[S.agB,S.ny,S.ag,S.len]
 intro x1 h2;refine⟨?_,?_⟩
 . intro h3;try simp only [dt] at h3
   with_reducible and_intros
   iterate 2 omega
   exact S.Z6 kind hp w!;iterate 2 omega
   refine⟨(x1+1),?_⟩;try dsimp only
   with_reducible and_intros
   omega;exact S.Ug _ _ _ w!
   . simp only [S.ny,S.ag,S.len] at *;omega
   simp only [S.ny,S.ag,S.len] at *;omega
 grind[df,S.Xb]
def aCS(b:B8)(hp:S.aC b):aSQ [b] 0 0 b:=by
 refine aE ?_;grind[S.oW,S.aC,S.gM,S.oE]
def aCT(l r:B8)(hp:S.aC (l++r)):aSQ [l,r] 1 1 (l++r):=by
 refine aE ?_;grind[S.oW,S.aC,List.length_append,S.gM,S.oE]
def aCU(b:B8)(hp:S.aC b):aSQ [b] 2 2 b:=by
 refine aE ?_;grind[S.oW,S.aC,S.gM,S.oE]
def aCV(b:B8)(hp:S.aC b):aSQ [b] 3 3 b:=by
 refine aE ?_;grind[S.oW,S.aC,S.gM,S.oE]
def aCW(b:B8)(hp:S.aC b):aSP b (S.oE 0 b) (S.leaf b):=by
 refine aE ?_;refine⟨?_,?_,?_⟩;omega;exact hp;rfl
def aCX(l r:B8):qJ (cE (aP0 l) (aP0 r)) ([]=S.aT l r) (1=S.uz l r) (S.aC (l++r)) (S.small (S.oE 1 (l++r))) (S.sum (S.oE 1 (l++r))=S.aT l r/\0=S.uz l r):=by
 refine aE ?_;refine⟨?_,?_⟩
 . grind[S.aT,S.uz,S.NZ,S.Z5,S.mF]
 intro h2;refine⟨?_,?_,?_,?_⟩;iterate 2 (grind[S.small,S.oE,S.aC,lc,List.length_append])
 iterate 2 (grind[S.aT,S.uz,S.NZ,S.Z5,S.mF])
def aCY(b:B8)(hp:S.aC b):aSP b (S.oE 2 b) (S.mF 2 b):=by
 refine aE ?_;refine⟨?_,?_,?_⟩;omega;exact hp;rfl
def aCZ(b:B8)(hp:S.aC b):aSP b (S.oE 3 b) (S.mF 3 b):=by
 refine aE ?_;refine⟨?_,?_,?_⟩;omega;exact hp;rfl
def aC0(c:Int):q97 0 c (q97 c 1114111 (aSJ c 55296 57343))=S.cA c:=by
 refine aE ?_;grind[S.cA]
def aC1(c:Int):q14 (aSq c) (1=S.eX c) (q14 (decide (c<2048)) (2=S.eX c) (q14 (decide (c<65536)) (3=S.eX c) (4=S.eX c))):=by
 refine aE ?_;refine⟨?_,?_⟩
 . simp_all[dt,S.eX]
 intro h2;refine⟨?_,?_⟩
 . simp_all[dt,S.eX]
 intro h4;refine⟨?_,?_⟩
 . grind [S.eX]
 grind[df,S.eX]
def aC2(c:Int)(hp:0<=c):0<=c/\(0:Int)<=63/\Vg.cy 128 (Vg.aM c 63%256)=o8 (S.more c):=by
 refine aE ?_;have e:Vg.aM c 63%256=c%64:=by grind[S.NM]
 grind[S.Bu,S.ap9]
def aC3(c:Int):ec (yb (aRH c) (1=S.zY c) ([]=S.iU c) True (pf (decide (S.eX c=1)) (0=S.zY c) ([HN c]=S.iU c) (pf (decide (S.eX c=2)) (aKT 6 64) (0<=c/\0=S.zY c/\q60 (Vg.cy 192 (c/lG 2 6%256))::aSy c=S.iU c) (yb (decide (S.eX c=3)) (aKT 12 64) (aKT 6 64/\0<=c/lG 2 6/\0<=c/\0=S.zY c/\q60 (Vg.cy 224 (c/lG 2 12%256))::q60 (o8 (S.more (c/lG 2 6)))::aSy c=S.iU c) (aKT 18 64) (sC 12 64 (0<=c/lG 2 12/\sC 6 64 (0<=c/lG 2 6/\0<=c/\0=S.zY c/\q60 (Vg.cy 240 (c/lG 2 18%256))::q60 (o8 (S.more (c/lG 2 12)))::q60 (o8 (S.more (c/lG 2 6)))::aSy c=S.iU c))))))):=by
 refine aE ?_;refine⟨?_,?_,?_⟩;trivial;grind[nt,S.zY,S.iU];intro h2;simp at h2;refine⟨?_,?_,?_⟩;trivial
 . intro h3;refine⟨?_,?_⟩
   . grind[S.fl,S.zY]
   (have hc:=S.fl h2;(simp [S.iU,h2,if_true];grind[S.aqa,S.eX]))
 intro h4;refine V.dI (λh5=>?_) λh6=>?_
 . with_reducible and_intros
   iterate 2 omega
   simp_all[S.fl]
   grind[S.fl,S.zY]
   . (have hc:=S.fl h2;(simp only [S.iU,h2,if_true];grind[S.aqe,S.eX]))
 refine V.dI (λh7=>?_) λh8=>?_
 . with_reducible and_intros
   iterate 4 omega
   . (have hc:=S.fl h2;grind)
   simp_all[S.fl]
   grind[S.fl,S.zY]
   . (have hc:=S.fl h2;(simp only [S.iU,h2,if_true];grind[S.aqf,S.eX]))
 with_reducible and_intros
 iterate 4 omega
 . (have hc:=S.fl h2;grind)
 iterate 2 omega
 . (have hc:=S.fl h2;grind)
 simp_all[S.fl]
 grind[S.fl,S.zY]
 . (have hc:=S.fl h2;(simp only [S.iU,h2,if_true];grind[S.aqg,S.eX]))
def aC4(b:B8)(hp:0<b.length)(hf:Vg.gq J.jd b):((0:Int)<=0/\0<e6 b)/\yb (aSq (aJm b 0)) (aJm b 0=(S.aR b).1) (1=(S.aR b).2) (aKT 5 64) (yb (decide (aJm b 0/lG 2 5=6)) (0<=aJm b 0) ((0:Int)<=31/\qJ (decide (e6 b<2)) (65533=(S.aR b).1) (1=(S.aR b).2) ((0:Int)<=1/\(1:Int)<=2/\2<=e6 b) (∃(x1:Nat),((0:Int)=x1/\Vg.aM (aJm b 0) 31=S.bV b x1)/\S.rb b x1) (∀(x2:Nat),S.rb b x2->qJ (decide (x2<e6 (aRx b))) (uT 0 x2 (e6 (aRx b))) (sC 6 8 (yb (fX (aJm (aRx b) x2/lG 2 6) 2) (65533=(S.aR b).1) (1=(S.aR b).2) (aKT 6 64) (na (S.bV b x2*lG 2 6)/\0<=S.bV b x2*lG 2 6/\0<=Vg.aM (aJm (aRx b) x2) 63/\HJ x2 (∃(x3:Nat),sB x2 x3 (Vg.cy (S.bV b x2*lG 2 6) (Vg.aM (aJm (aRx b) x2) 63)=S.bV b x3) (S.rb b x3) 4)))) True (aMc (aRH (S.bV b x2))) (yb (cE (aRH (S.bV b x2)) (fX (S.eX (S.bV b x2)) 2)) (65533=(S.aR b).1) (1=(S.aR b).2) (S.bV b x2=(S.aR b).1) (2=(S.aR b).2)))) (aKT 4 64) (yb (decide (aJm b 0/lG 2 4=14)) (0<=aJm b 0) ((0:Int)<=15/\qJ (decide (e6 b<3)) (65533=(S.aR b).1) (1=(S.aR b).2) ((0:Int)<=1/\(1:Int)<=3/\3<=e6 b) (∃(x4:Nat),((0:Int)=x4/\Vg.aM (aJm b 0) 15=S.bV b x4)/\S.rb b x4) (∀(x5:Nat),S.rb b x5->qJ (decide (x5<e6 (aRy b))) (uT 0 x5 (e6 (aRy b))) (sC 6 8 (yb (fX (aJm (aRy b) x5/lG 2 6) 2) (65533=(S.aR b).1) (1=(S.aR b).2) (aKT 6 64) (na (S.bV b x5*lG 2 6)/\0<=S.bV b x5*lG 2 6/\0<=Vg.aM (aJm (aRy b) x5) 63/\HJ x5 (∃(x6:Nat),sB x5 x6 (Vg.cy (S.bV b x5*lG 2 6) (Vg.aM (aJm (aRy b) x5) 63)=S.bV b x6) (S.rb b x6) 4)))) True (aMc (aRH (S.bV b x5))) (yb (cE (aRH (S.bV b x5)) (fX (S.eX (S.bV b x5)) 3)) (65533=(S.aR b).1) (1=(S.aR b).2) (S.bV b x5=(S.aR b).1) (3=(S.aR b).2)))) (aKT 3 64) (yb (decide (aJm b 0/lG 2 3=30)) (0<=aJm b 0) ((0:Int)<=7/\qJ (decide (e6 b<4)) (65533=(S.aR b).1) (1=(S.aR b).2) ((0:Int)<=1/\(1:Int)<=4/\4<=e6 b) (∃(x7:Nat),((0:Int)=x7/\Vg.aM (aJm b 0) 7=S.bV b x7)/\S.rb b x7) (∀(x8:Nat),S.rb b x8->qJ (decide (x8<e6 (aRz b))) (uT 0 x8 (e6 (aRz b))) (sC 6 8 (yb (fX (aJm (aRz b) x8/lG 2 6) 2) (65533=(S.aR b).1) (1=(S.aR b).2) (aKT 6 64) (na (S.bV b x8*lG 2 6)/\0<=S.bV b x8*lG 2 6/\0<=Vg.aM (aJm (aRz b) x8) 63/\HJ x8 (∃(x9:Nat),sB x8 x9 (Vg.cy (S.bV b x8*lG 2 6) (Vg.aM (aJm (aRz b) x8) 63)=S.bV b x9) (S.rb b x9) 4)))) True (aMc (aRH (S.bV b x8))) (yb (cE (aRH (S.bV b x8)) (fX (S.eX (S.bV b x8)) 4)) (65533=(S.aR b).1) (1=(S.aR b).2) (S.bV b x8=(S.aR b).1) (4=(S.aR b).2)))) (65533=(S.aR b).1) (1=(S.aR b).2)))):=by
 refine aE ?_;have pT:Vg.hlen b:=hf.1.1;clear hf;have Bn:(0:Int)<b.length:=by omega
 with_reducible and_intros
 iterate 2 omega
 simp_all[dt,S.uf1]
 intro h2;try simp only [df] at h2
 with_reducible and_intros
 iterate 2 omega
 . intro h3;try simp only [dt] at h3
   refine⟨?_,?_,?_,?_⟩;iterate 2 omega
   . intro h4;try simp only [dt] at h4
     refine⟨?_,?_⟩
     . (have hn:=S.uA (b:=b) w! w!;simp_all[S.tN])
     (have hn:=S.uA (b:=b) w! w!;simp_all[S.tN])
   intro h5;try simp only [df] at h5
   with_reducible and_intros
   iterate 3 omega
   . refine⟨0,?_⟩;try dsimp only
     with_reducible and_intros
     omega;grind[S.uA,S.aGJ]
     . (have hn:=S.uA (b:=b) w! w!;simp_all[S.Z7])
   intro x6 h7;refine V.dI (λh8=>?_) λfC=>?_
   . with_reducible and_intros
     iterate 4 omega
     . intro h9;try simp only [nt,df,tn] at h9
       refine⟨?_,?_⟩
       . have hn:=S.uA (b:=b) v! v!;have hb:=S.bP h7;have hx:(x6:Int)+1<2:=by(have hc:=S.cv b 2 w! w!;simp only [hc,show toNat 2=2 by rfl] at *;omega)
         simp only [S.lB b 2 x6 hx,S.oq b 2 x6 hx] at *;rw [S.xX hn h7 w! v!]
       have hn:=S.uA (b:=b) v! v!;have hb:=S.bP h7;have hx:(x6:Int)+1<2:=by(have hc:=S.cv b 2 w! w!;simp only [hc,show toNat 2=2 by rfl] at *;omega)
       simp only [S.lB b 2 x6 hx,S.oq b 2 x6 hx] at *;rw [S.xX hn h7 w! v!]
     intro de;try simp only [nf,dt,tn] at de
     with_reducible and_intros
     iterate 2 omega
     iterate 3
      . (have hn:=S.uA (b:=b) v! v!;(have hb:=S.bP h7;(try simp only [S.cv b 2 w! w!,show toNat 2=2 by rfl] at *);simp only [show toNat 6=6 by rfl,S.ag] at *;omega))
     exact Int.natCast_nonneg _;omega
     . (have hn:=S.uA (b:=b) v! v!;(have hb:=S.bP h7;(try simp only [S.cv b 2 w! w!,show toNat 2=2 by rfl] at *);omega))
     refine⟨(x6+1),?_⟩;try dsimp only
     with_reducible and_intros
     omega
     . have hn:=S.uA (b:=b) v! v!;have hb:=S.bP h7;have hx:(x6:Int)+1<2:=by(have hc:=S.cv b 2 w! w!;simp only [hc,show toNat 2=2 by rfl] at *;omega)
       rw [S.lB b 2 x6 hx];exact S.Z9 h7 w!
     . have hn:=S.uA (b:=b) v! v!;have hb:=S.bP h7;have hx:(x6:Int)+1<2:=by(have hc:=S.cv b 2 w! w!;simp only [hc,show toNat 2=2 by rfl] at *;omega)
       simp only [S.lB b 2 x6 hx,S.oq b 2 x6 hx] at *;exact S.Ui h7 v! w!
     . (have hn:=S.uA (b:=b) v! v!;(have hb:=S.bP h7;(try simp only [S.cv b 2 w! w!,show toNat 2=2 by rfl] at *);simp only [show toNat 6=6 by rfl,S.ag] at *;omega))
   with_reducible and_intros
   trivial
   . intro gY;try simp only [nt] at gY
     trivial
   . intro jM;try simp only [nf] at jM
     trivial
   . intro jZ;try simp only [V.IG,nt,df] at jZ
     refine⟨?_,?_⟩
     . have hn:=S.uA (b:=b) v! v!;have hb:=S.bP h7;have hc:=S.cv b 2 w! w!;rw [hc] at fC;have hx:x6+1=2:=by omega
       rw [S.xY hn h7 hx jZ rfl]
     have hn:=S.uA (b:=b) v! v!;have hb:=S.bP h7;have hc:=S.cv b 2 w! w!;rw [hc] at fC;have hx:x6+1=2:=by omega
     rw [S.xY hn h7 hx jZ rfl]
   intro Cq;try simp only [V.ajY,nf,dt] at Cq
   refine⟨?_,?_⟩
   . have hn:=S.uA (b:=b) v! v!;have hb:=S.bP h7;have hc:=S.cv b 2 w! w!;rw [hc] at fC;have hx:x6+1=2:=by omega
     rw [S.xZ hn h7 hx Cq rfl]
   have hn:=S.uA (b:=b) v! v!;have hb:=S.bP h7;have hc:=S.cv b 2 w! w!;rw [hc] at fC;have hx:x6+1=2:=by omega
   rw [S.xZ hn h7 hx Cq rfl]
 intro zP;try simp only [df] at zP
 with_reducible and_intros
 iterate 2 omega
 . intro HV;try simp only [dt] at HV
   refine⟨?_,?_,?_,?_⟩;iterate 2 omega
   . intro QW;try simp only [dt] at QW
     refine⟨?_,?_⟩
     . (have hn:=S.v7 (b:=b) v! v! v!;rw [S.tN hn w! w!])
     (have hn:=S.v7 (b:=b) v! v! v!;rw [S.tN hn w! w!])
   intro h19;try simp only [df] at h19
   with_reducible and_intros
   iterate 3 omega
   . refine⟨0,?_⟩;try dsimp only
     with_reducible and_intros
     omega
     (exact S.aGK v! v!)
     . (have hn:=S.v7 (b:=b) v! v! v!;exact S.Z7 hn w! w!)
   intro Dt xA;refine V.dI (λh22=>?_) λh25=>?_
   . with_reducible and_intros
     iterate 4 omega
     . intro h23;try simp only [nt,df,tn] at h23
       refine⟨?_,?_⟩
       . have hn:=S.v7 (b:=b) v! v! v!;have hb:=S.bP xA;have hx:(Dt:Int)+1<3:=by(have hc:=S.cv b 3 w! w!;simp only [hc,show toNat 3=3 by rfl] at *;omega)
         simp only [S.lB b 3 Dt hx,S.oq b 3 Dt hx] at *;rw [S.xX hn xA w! v!]
       have hn:=S.v7 (b:=b) v! v! v!;have hb:=S.bP xA;have hx:(Dt:Int)+1<3:=by(have hc:=S.cv b 3 w! w!;simp only [hc,show toNat 3=3 by rfl] at *;omega)
       simp only [S.lB b 3 Dt hx,S.oq b 3 Dt hx] at *;rw [S.xX hn xA w! v!]
     intro h24;try simp only [nf,dt,tn] at h24
     with_reducible and_intros
     iterate 2 omega
     iterate 3
      . (have hn:=S.v7 (b:=b) v! v! v!;(have hb:=S.bP xA;(try simp only [S.cv b 3 w! w!,show toNat 3=3 by rfl] at *);simp only [show toNat 6=6 by rfl,S.ag] at *;omega))
     exact Int.natCast_nonneg _;omega
     . (have hn:=S.v7 (b:=b) v! v! v!;(have hb:=S.bP xA;(try simp only [S.cv b 3 w! w!,show toNat 3=3 by rfl] at *);omega))
     refine⟨(Dt+1),?_⟩;try dsimp only
     with_reducible and_intros
     omega
     . have hn:=S.v7 (b:=b) v! v! v!;have hb:=S.bP xA;have hx:(Dt:Int)+1<3:=by(have hc:=S.cv b 3 w! w!;simp only [hc,show toNat 3=3 by rfl] at *;omega)
       rw [S.lB b 3 Dt hx];exact S.Z9 xA w!
     . have hn:=S.v7 (b:=b) v! v! v!;have hb:=S.bP xA;have hx:(Dt:Int)+1<3:=by(have hc:=S.cv b 3 w! w!;simp only [hc,show toNat 3=3 by rfl] at *;omega)
       simp only [S.lB b 3 Dt hx,S.oq b 3 Dt hx] at *;exact S.Ui xA v! w!
     . (have hn:=S.v7 (b:=b) v! v! v!;(have hb:=S.bP xA;(try simp only [S.cv b 3 w! w!,show toNat 3=3 by rfl] at *);simp only [show toNat 6=6 by rfl,S.ag] at *;omega))
   with_reducible and_intros
   trivial
   . intro h26;try simp only [nt] at h26
     trivial
   . intro h27;try simp only [nf] at h27
     trivial
   . intro h28;try simp only [V.IG,nt,df] at h28
     refine⟨?_,?_⟩
     . have hn:=S.v7 (b:=b) v! v! v!;have hb:=S.bP xA;have hc:=S.cv b 3 w! w!;rw [hc] at h25;have hx:Dt+1=3:=by omega
       rw [S.xY hn xA hx h28 rfl]
     have hn:=S.v7 (b:=b) v! v! v!;have hb:=S.bP xA;have hc:=S.cv b 3 w! w!;rw [hc] at h25;have hx:Dt+1=3:=by omega
     rw [S.xY hn xA hx h28 rfl]
   intro h29;try simp only [V.ajY,nf,dt] at h29
   refine⟨?_,?_⟩
   . have hn:=S.v7 (b:=b) v! v! v!;have hb:=S.bP xA;have hc:=S.cv b 3 w! w!;rw [hc] at h25;have hx:Dt+1=3:=by omega
     rw [S.xZ hn xA hx h29 rfl]
   have hn:=S.v7 (b:=b) v! v! v!;have hb:=S.bP xA;have hc:=S.cv b 3 w! w!;rw [hc] at h25;have hx:Dt+1=3:=by omega
   rw [S.xZ hn xA hx h29 rfl]
 intro h30;try simp only [df] at h30
 with_reducible and_intros
 iterate 2 omega
 . intro h31;try simp only [dt] at h31
   refine⟨?_,?_,?_,?_⟩;iterate 2 omega
   . intro h32;try simp only [dt] at h32
     refine⟨?_,?_⟩
     . (have hn:=S.v8 (b:=b) v! v! v! v!;rw [S.tN hn w! w!])
     (have hn:=S.v8 (b:=b) v! v! v! v!;rw [S.tN hn w! w!])
   intro h33;try simp only [df] at h33
   with_reducible and_intros
   iterate 3 omega
   . refine⟨0,?_⟩;try dsimp only
     with_reducible and_intros
     omega
     (exact S.aGL v! v!)
     . (have hn:=S.v8 (b:=b) v! v! v! v!;exact S.Z7 hn w! w!)
   intro Du zQ;refine V.dI (λh36=>?_) λh39=>?_
   . with_reducible and_intros
     iterate 4 omega
     . intro h37;try simp only [nt,df,tn] at h37
       refine⟨?_,?_⟩
       . have hn:=S.v8 (b:=b) v! v! v! v!;have hb:=S.bP zQ;have hx:(Du:Int)+1<4:=by(have hc:=S.cv b 4 w! w!;simp only [hc,show toNat 4=4 by rfl] at *;omega)
         simp only [S.lB b 4 Du hx,S.oq b 4 Du hx] at *;rw [S.xX hn zQ w! v!]
       have hn:=S.v8 (b:=b) v! v! v! v!;have hb:=S.bP zQ;have hx:(Du:Int)+1<4:=by(have hc:=S.cv b 4 w! w!;simp only [hc,show toNat 4=4 by rfl] at *;omega)
       simp only [S.lB b 4 Du hx,S.oq b 4 Du hx] at *;rw [S.xX hn zQ w! v!]
     intro h38;try simp only [nf,dt,tn] at h38
     with_reducible and_intros
     iterate 2 omega
     iterate 3
      . (have hn:=S.v8 (b:=b) v! v! v! v!;(have hb:=S.bP zQ;(try simp only [S.cv b 4 w! w!,show toNat 4=4 by rfl] at *);simp only [show toNat 6=6 by rfl,S.ag] at *;omega))
     exact Int.natCast_nonneg _;omega
     . (have hn:=S.v8 (b:=b) v! v! v! v!;(have hb:=S.bP zQ;(try simp only [S.cv b 4 w! w!,show toNat 4=4 by rfl] at *);omega))
     refine⟨(Du+1),?_⟩;try dsimp only
     with_reducible and_intros
     omega
     . have hn:=S.v8 (b:=b) v! v! v! v!;have hb:=S.bP zQ;have hx:(Du:Int)+1<4:=by(have hc:=S.cv b 4 w! w!;simp only [hc,show toNat 4=4 by rfl] at *;omega)
       rw [S.lB b 4 Du hx];exact S.Z9 zQ w!
     . have hn:=S.v8 (b:=b) v! v! v! v!;have hb:=S.bP zQ;have hx:(Du:Int)+1<4:=by(have hc:=S.cv b 4 w! w!;simp only [hc,show toNat 4=4 by rfl] at *;omega)
       simp only [S.lB b 4 Du hx,S.oq b 4 Du hx] at *;exact S.Ui zQ v! w!
     . (have hn:=S.v8 (b:=b) v! v! v! v!;(have hb:=S.bP zQ;(try simp only [S.cv b 4 w! w!,show toNat 4=4 by rfl] at *);simp only [show toNat 6=6 by rfl,S.ag] at *;omega))
   with_reducible and_intros
   trivial
   . intro h40;try simp only [nt] at h40
     trivial
   . intro h41;try simp only [nf] at h41
     trivial
   . intro h42;try simp only [V.IG,nt,df] at h42
     refine⟨?_,?_⟩
     . have hn:=S.v8 (b:=b) v! v! v! v!;have hb:=S.bP zQ;have hc:=S.cv b 4 w! w!;rw [hc] at h39;have hx:Du+1=4:=by omega
       rw [S.xY hn zQ hx h42 rfl]
     have hn:=S.v8 (b:=b) v! v! v! v!;have hb:=S.bP zQ;have hc:=S.cv b 4 w! w!;rw [hc] at h39;have hx:Du+1=4:=by omega
     rw [S.xY hn zQ hx h42 rfl]
   intro h43;try simp only [V.ajY,nf,dt] at h43
   refine⟨?_,?_⟩
   . have hn:=S.v8 (b:=b) v! v! v! v!;have hb:=S.bP zQ;have hc:=S.cv b 4 w! w!;rw [hc] at h39;have hx:Du+1=4:=by omega
     rw [S.xZ hn zQ hx h43 rfl]
   have hn:=S.v8 (b:=b) v! v! v! v!;have hb:=S.bP zQ;have hc:=S.cv b 4 w! w!;rw [hc] at h39;have hx:Du+1=4:=by omega
   rw [S.xZ hn zQ hx h43 rfl]
 grind[df,S.uf0]
def aDa(b:B8)(hp:S.small b):(∃(x1:B8×U),(b=x1.1/\[]=x1.2)/\S.tw b x1.1 x1.2)/\(∀(x2:B8×U),S.tw b x2.1 x2.2->pf (aJ7 (length x2.1)) (0<length x2.1) (aOo x2.2 [(S.aR x2.1).1]/\sC (S.aR x2.1).2 (length x2.1) (∃(x3:B8×U),(q92 (S.aR x2.1).2 x2.1=x3.1/\x2.2++[(S.aR x2.1).1]=x3.2)/\S.tw b x3.1 x3.2/\S.len x3.1<S.len x2.1)) (x2.2=S.decode b)):=by
 refine aE ?_;simp [S.small] at hp;refine⟨?_,?_⟩
 . refine⟨((b),([])),?_⟩;grind[S.aAC]
 intro x1 h2;refine⟨?_,?_⟩
 . intro h3;simp at h3;with_reducible and_intros
   omega
   . (have hd:=S.Uj h2 w!;grind)
   iterate 2
    . (have hd:=S.Uj h2 w!;omega)
   refine⟨((drop (toNat ((S.aR (x1.1)).2)) (x1.1)),(x1.2++[(S.aR (x1.1)).1])),?_⟩;dsimp only;with_reducible and_intros
   iterate 2 rfl
   grind[S.agC]
   . (have hd:=S.Uj h2 w!;grind[S.len,List.length_drop,lc,ln])
 grind[df,S.akt]
def aDb(c:Int):(∃(x1:Nat),(0:Int)=x1/\S.pQ c x1)/\(∀(x2:Nat),S.pQ c x2->Fi (decide ((x2:Int)<9)) 0 x2 ((9:Nat):Int) (q14 (mv (getD [65,97,192,216,248,913,931,945,1024] (toNat x2) 0) c (getD [90,122,214,246,255,929,937,969,1119] (toNat x2) 0)) (true=S.letter c) (HJ x2 (∃(x3:Nat),aJ8 x2 x3 (S.pQ c x3) 9))) (false=S.letter c)):=by
 refine aE ?_;refine⟨?_,?_⟩
 . refine⟨(nat_lit 0:Nat),?_⟩;grind[S.pQ]
 intro x1 h2;refine⟨?_,?_⟩
 . intro h3;simp at h3;with_reducible and_intros
   iterate 2 omega
   . intro h4;simp at h4;exact S.Á (x:=x1) w! (S.Ä h4)
   intro h5;simp only [V.ze,df,tn] at h5;with_reducible and_intros
   iterate 2 omega
   refine⟨(x1+nat_lit 1),?_⟩;dsimp only;refine⟨?_,?_,?_⟩;omega;exact S.Â (x:=x1) h2 w! (S.aku h5);simp [S.ag];omega
 grind[df,S.Ã]
def aDc(c:Int):mv 48 c 57=S.digit c:=by
 refine aE ?_;grind[S.digit]
def aDd(c:Int):(∃(x1:Nat),(0:Int)=x1/\S.qs c x1)/\(∀(x2:Nat),S.qs c x2->Fi (decide ((x2:Int)<7)) 0 x2 ((7:Nat):Int) (gl (mv (getD [65,192,216,913,931,1024,1040] (toNat x2) 0) c (getD [90,214,222,929,937,1039,1071] (toNat x2) 0)) (na (c+ahA [32,32,32,32,32,80,32] (toNat x2))) (c+ahA [32,32,32,32,32,80,32] (toNat x2)=S.bT c) (x2+1) (∃(x3:Nat),aJ8 x2 x3 (S.qs c x3) 7)) (c=S.bT c)):=by
 refine aE ?_;refine⟨?_,?_⟩
 . refine⟨(nat_lit 0:Nat),?_⟩;grind[S.qs]
 intro x1 h2;refine⟨?_,?_⟩
 . intro h3;simp at h3;with_reducible and_intros
   iterate 2 omega
   . intro h4;simp at h4;with_reducible and_intros
     iterate 2
      . have hs:=(S.RX (c:=c) (x:=x1) h2 h3 (S.Ä h4)).2;omega
     exact(S.RX (x:=x1) h2 w! (S.Ä h4)).1
   intro h5;simp only [V.ze,df,tn] at h5;with_reducible and_intros
   iterate 2 omega
   refine⟨(x1+nat_lit 1),?_⟩;dsimp only;refine⟨?_,?_,?_⟩;omega;exact S.agE (x:=x1) h2 w! (S.aku h5);simp [S.ag];omega
 grind[df,S.agF]
def aQ4(c a b:Int):mv a c b=S.gW c a b:=by
 refine aE ?_;grind[S.gW]
def aQ5(c:Int):(bif aNc c then aPZ c 55296 (aS1 c) else aS1 c)=S.LK c:=by
 refine aE ?_;grind[S.LK]
def aQ6(c:Int)(hp:0<=c/\c<=1114111):q14 (aSq c) ([HN c]=S.enc c) (pf (decide (c<2048)) (0<=c) ((0:Int)<64/\na (192+c/64)/\0<=c/\(0:Int)<64/\na (128+c%64)/\[HN (192+c/64),HN (128+c%64)]=S.enc c) (pf (decide (c<65536)) (0<=c) ((0:Int)<4096/\na (224+c/4096)/\0<=c/\(0:Int)<64/\0<=c/64/\(0:Int)<64/\na (128+c/64%64)/\0<=c/\(0:Int)<64/\na (128+c%64)/\[HN (224+c/4096),HN (128+c/64%64),HN (128+c%64)]=S.enc c) (0<=c/\(0:Int)<262144/\na (240+c/262144)/\0<=c/\(0:Int)<4096/\0<=c/4096/\(0:Int)<64/\na (128+c/4096%64)/\0<=c/\(0:Int)<64/\0<=c/64/\(0:Int)<64/\na (128+c/64%64)/\0<=c/\(0:Int)<64/\na (128+c%64)/\[HN (240+c/262144),HN (128+c/4096%64),HN (128+c/64%64),HN (128+c%64)]=S.enc c))):=by
 refine aE ?_;refine⟨?_,?_⟩
 . simp_all[dt,S.aOF]
 intro h2;refine V.dI (λh3=>?_) λh4=>?_
 . grind[S.aOG]
 refine⟨?_,?_⟩
 . grind[S.aOH]
 grind[df,S.aOI]
def aQ7(a b:Int):q14 (decide (a<b)) (a=S.ajV a b) (b=S.ajV a b):=by
 refine aE ?_;refine⟨?_,?_⟩
 . simp_all[dt,S.ajV]
 grind[df,S.ajV]
def aQ8(c:Int):aL5 (aSd (S.gW c 65 90) (S.gW c 97 122) (aSd (S.gW c 192 214) (S.gW c 216 246) (aSd (S.gW c 248 255) (S.gW c 913 929) (q79 (S.gW c 931 937) (ec (aMc (S.gW c 945 969))))))) (PB (S.gW c 65 90) (S.gW c 97 122) (PB (S.gW c 192 214) (S.gW c 216 246) (PB (S.gW c 248 255) (S.gW c 913 929) (PB (S.gW c 931 937) (S.gW c 945 969) (S.gW c 1024 1119))))=S.letter c):=by
 refine aE ?_;grind[S.Ç]
def aQ9(c:Int):ec (qJ (S.gW c 1024 1039) (na (c+80)) (c+80=S.bT c) True (aSd (S.gW c 65 90) (S.gW c 192 214) (aSd (S.gW c 216 222) (S.gW c 913 929) (aMc (S.gW c 931 937)))) (pf (PB (S.gW c 65 90) (S.gW c 192 214) (PB (S.gW c 216 222) (S.gW c 913 929) (cE (S.gW c 931 937) (S.gW c 1040 1071)))) (na (c+32)) (c+32=S.bT c) (c=S.bT c))):=by
 refine aE ?_;refine⟨?_,?_,?_⟩;trivial;grind[S.IS];intro h2;with_reducible and_intros
 trivial;iterate 2 grind
 grind[S.IT];grind[S.G4]
def aRa(b:B8)(n:Int)(hp:S.aAl b n)(hf:Vg.gq J.q9p (b,n)):q14 (decide (e6 b<n)) (-(1:Int)=S.eY b n) (((0:Int)<=(0:Int)/\(0:Int)<e6 b)/\uT (0:Int) n (bu [(0:Int),(0:Int),(192:Int),(224:Int),(240:Int)])/\toNat n<length [(0:Int),(0:Int),(192:Int),(224:Int),(240:Int)]/\na (aJm b (0:Int)-ahA [(0:Int),(0:Int),(192:Int),(224:Int),(240:Int)] (toNat n))/\(∃(x1:Nat),((1:Int)=(x1:Int)/\aJm b (0:Int)-ahA [(0:Int),(0:Int),(192:Int),(224:Int),(240:Int)] (toNat n)=S.ayz b n (x1-(1:Nat)))/\S.apq b n x1)/\(∀(x2:Nat),S.apq b n x2->pf (decide ((x2:Int)<n)) (na (S.ayz b n (x2-(1:Nat))*(64:Int))) (aL7 (x2:Int) (e6 b) (aji (S.ayz b n (x2-(1:Nat))*(64:Int)+aJm b (x2:Int)) (S.ayz b n (x2-(1:Nat))*(64:Int)+aJm b (x2:Int)-(128:Int)) (HJ (x2:Int) (∃(x3:Nat),sB x2 x3 (S.ayz b n (x2-(1:Nat))*(64:Int)+aJm b (x2:Int)-(128:Int)=S.ayz b n (x3-(1:Nat))) (S.apq b n x3) (toNat n))))) (S.ayz b n (x2-(1:Nat))=S.eY b n))):=by
 refine aE ?_;have pT:Vg.hlen b:=hf.1.1;have SS:Vg.hint n:=hf.2.1;clear hf;have lI:=hp;simp only [S.aAl] at lI;refine⟨?_,?_⟩
 . intro h1;try simp only [dt] at h1
   grind[S.aJO]
 intro h2;try simp only [df] at h2
 with_reducible and_intros
 iterate 3 omega
 iterate 3 grind
 . have h1:=S.aGM b n 0 w!;grind[S.aJp]
 grind[S.aJp,S.apq,S.ag];intro x3 h4;refine⟨?_,?_⟩
 . intro h5;try simp only [dt] at h5
   with_reducible and_intros
   iterate 2
    . have hq:=S.aLc v! hp;have:=(getD b (toNat (x3:Int)) 0).toNat_lt;omega
   iterate 2 omega
   iterate 4
    . have hq:=S.aLc v! hp;have:=(getD b (toNat (x3:Int)) 0).toNat_lt;omega
   iterate 2 omega
   refine⟨(x3+1),?_⟩;try dsimp only
   with_reducible and_intros
   omega;exact S.aMi v!
   . simp only [S.apq,S.ag] at *;omega
   simp only [S.apq,S.ag] at *;omega
 grind[df,S.aNm]
def aRb(b:B8)(hp:S.small b):(∃(x1:Nat×U),((0:Int)=x1.1/\[]=x1.2)/\S.tw b (drop x1.1 b) x1.2/\x1.1<=aOf b)/\(∀(x2:Nat×U),S.tw b (drop x2.1 b) x2.2/\x2.1<=aOf b->pf (decide ((x2.1:Int)<aOf b)) (∃(x3:Nat×Nat),((1:Int)=((x3.1+1:Nat):Int)/\65533=(S.xc (drop x3.2 b) x3.1).1/\1=(S.xc (drop x3.2 b) x3.1).2)/\x3.1<=4/\(x2.1:Int)=x3.2) (∀(x4:Nat×Nat),x4.1<=4/\(x2.1:Int)=x4.2->yb (decide (((x4.1+1:Nat):Int)<=4)) (aKT x2.1 (aOf b)) (S.aAl (drop (aOg x2) b) ((x4.1+1:Nat):Int)/\aL5 (pf (S.LK (S.eY (drop (aOg x2) b) ((x4.1+1:Nat):Int))) (aKT (S.eY (drop (aOg x2) b) ((x4.1+1:Nat):Int)) 1114111) (na (x2.1+((x4.1+1:Nat):Int))/\ec ((0:Int)<=x2.1/\x2.1<=S.ajV (x2.1+((x4.1+1:Nat):Int)) (aOf b)/\S.ajV (x2.1+((x4.1+1:Nat):Int)) (aOf b)<=aOf b)) True) (na (((x4.1+1:Nat):Int)+1)/\(∃(x5:Nat×Nat),(((x4.1+1:Nat):Int)+1=((x5.1+1:Nat):Int)/\(bif ir (S.LK (S.eY (drop (aOg x2) b) ((x4.1+1:Nat):Int))) (decide (S.enc (S.eY (drop (aOg x2) b) ((x4.1+1:Nat):Int))=drop (aOg x2) (wI (S.ajV (x2.1+((x4.1+1:Nat):Int)) (aOf b)) b))) then S.eY (drop (aOg x2) b) ((x4.1+1:Nat):Int) else(aQw b x4).1)=(S.xc (drop x5.2 b) x5.1).1/\(bif ir (S.LK (S.eY (drop (aOg x2) b) ((x4.1+1:Nat):Int))) (decide (S.enc (S.eY (drop (aOg x2) b) ((x4.1+1:Nat):Int))=drop (aOg x2) (wI (S.ajV (x2.1+((x4.1+1:Nat):Int)) (aOf b)) b))) then((x4.1+1:Nat):Int) else(aQw b x4).2)=(S.xc (drop x5.2 b) x5.1).2)/\(x5.1<=4/\(x2.1:Int)=x5.2)/\q43 4 x5.1 x4.1))) (aOo x2.2 [(aQw b x4).1]) (na (x2.1+(aQw b x4).2)/\(∃(x6:Nat×U),(x2.1+(aQw b x4).2=x6.1/\x2.2++[(aQw b x4).1]=x6.2)/\(S.tw b (drop x6.1 b) x6.2/\x6.1<=aOf b)/\q43 (S.len b) x6.1 x2.1))) (x2.2=S.decode b)):=by
 refine aE ?_;have lI:b.length<=1099511627776:=by grind[S.small]
 refine⟨?_,?_⟩
 . refine⟨(0,([])),?_⟩;grind[S.aOJ]
 intro x1 h2;refine⟨?_,?_⟩
 . intro h3;try simp only [dt] at h3
   refine⟨?_,?_⟩
   . refine⟨(0,x1.1),?_⟩;with_reducible and_intros
     omega;iterate 2 rfl
     iterate 2 omega
   intro x4 h5;refine V.dI (λh6=>?_) λh9=>?_
   . with_reducible and_intros
     iterate 2 omega
     grind[S.aAl,List.length_drop];trivial
     . intro h7;with_reducible and_intros
       iterate 2 (simp_all[S.aKf])
       iterate 2 omega
       trivial;omega;iterate 2 (grind[S.ajV])
     grind;iterate 2 omega
     refine⟨(x4.1+1,x1.1),?_⟩;try dsimp only
     with_reducible and_intros
     omega;simp_all[S.aJq,S.aMk]
     simp_all[S.aJq,S.aMl]
     iterate 2 omega
     grind[S.ag]
   with_reducible and_intros
   . have hq:=S.aoY h2 h3 h5 h9;grind
   iterate 2
    . have hq:=S.aoY h2 h3 h5 h9;omega
   refine⟨((toNat ((↑(x1.1):Int)+(S.xc (drop (x4.2) b) (x4.1)).2)),(x1.2++[(S.xc (drop (x4.2) b) (x4.1)).1])),?_⟩;with_reducible and_intros
   . have hq:=S.aoY h2 h3 h5 h9;omega
   rfl
   . have hq:=S.aoY h2 h3 h5 h9;grind
   . have hq:=S.aoY h2 h3 h5 h9;omega
   have hq:=S.aoY h2 h3 h5 h9;grind[S.ag,S.len]
 grind[df,S.akt,List.length_drop]
def aDe(u:U)(hp:S.okC u):(∃(x1:Nat×B8),((0:Int)=x1.1/\[]=x1.2)/\S.qt u x1.1 x1.2)/\(∀(x2:Nat×B8),S.qt u x2.1 x2.2->Fi (decide (x2.1<bu u)) 0 x2.1 (bu u) (ec (ec (na (length x2.2+length (aR5 u x2))/\q14 (aQl (length x2.2+length (aR5 u x2))) (x2.2=S.jN u) (q19 (length x2.2+length (aR5 u x2))/\na (x2.1+1)/\(∃(x3:Nat×B8),((x2.1:Int)+1=x3.1/\x2.2++aR5 u x2=x3.2)/\S.qt u x3.1 x3.2/\q43 (S.len u) x3.1 x2.1))))) (x2.2=S.jN u)):=by
 refine aE ?_;have hq:=hp.1;refine⟨?_,?_⟩
 . refine⟨(0,([])),?_⟩;grind[S.aqi]
 intro x1 h2;refine⟨?_,?_⟩
 . intro h3;simp at h3;with_reducible and_intros
   iterate 2 omega
   iterate 2 trivial
   omega
   . have:=h2.2.2;grind[S.agK]
   grind[S.É];intro h5;with_reducible and_intros
   grind;iterate 2 omega
   refine⟨((x1.1+1),(x1.2++S.iU (S.bT (getD u (toNat (↑(x1.1):Int)) (0:Int))))),?_⟩;grind[S.È,S.ag,S.len]
 grind[df,S.agJ]
def aDf(b:B8)(hp:S.small b):S.small b/\(∃(x1:Nat×O×U),((0:Int)=x1.1/\[]=x1.2.1/\[]=x1.2.2)/\S.k8 (S.decode b) x1.1 x1.2.1 x1.2.2)/\(∀(x2:Nat×O×U),S.k8 (S.decode b) x2.1 x2.2.1 x2.2.2->Fi (decide ((x2.1:Int)<length (S.decode b))) 0 x2.1 (length (S.decode b)) (toNat x2.1<length (S.decode b)/\aL5 (aMc (S.letter (ahA (S.decode b) (toNat x2.1)))) (pf (cE (S.letter (ahA (S.decode b) (toNat x2.1))) (S.digit (ahA (S.decode b) (toNat x2.1)))) (q82 (length x2.2.2+length [ahA (S.decode b) (toNat x2.1)])) (na (x2.1+1)/\(∃(x3:Nat×O×U),((x2.1:Int)+1=x3.1/\x2.2.1=x3.2.1/\x2.2.2++[ahA (S.decode b) (toNat x2.1)]=x3.2.2)/\S.k8 (S.decode b) x3.1 x3.2.1 x3.2.2/\S.ag (S.len (S.decode b)) x3.1<S.ag (S.len (S.decode b)) x2.1)) (gl (aJ7 (length x2.2.2)) (S.okC x2.2.2) (HR x2.2.1 [S.jN x2.2.2]/\na (x2.1+1)/\(∃(x4:Nat×O×U),((x2.1:Int)+1=x4.1/\x2.2.1++[S.jN x2.2.2]=x4.2.1/\[]=x4.2.2)/\S.k8 (S.decode b) x4.1 x4.2.1 x4.2.2/\S.ag (S.len (S.decode b)) x4.1<S.ag (S.len (S.decode b)) x2.1)) (x2.1+1) (∃(x5:Nat×O×U),((x2.1:Int)+1=x5.1/\x2.2.1=x5.2.1/\x2.2.2=x5.2.2)/\S.k8 (S.decode b) x5.1 x5.2.1 x5.2.2/\S.ag (S.len (S.decode b)) x5.1<S.ag (S.len (S.decode b)) x2.1)))) (pf (aJ7 (length x2.2.2)) (S.okC x2.2.2) (HR x2.2.1 [S.jN x2.2.2]/\x2.2.1++[S.jN x2.2.2]=S.bM b) (x2.2.1=S.bM b))):=by
 refine aE ?_;have lI:b.length<=1099511627776:=hp;refine⟨?_,?_,?_⟩;omega
 . refine⟨(0,(([]),([]))),?_⟩;grind[S.aAK]
 intro x1 h2;refine V.dI (λh3=>?_) λde=>?_
 . with_reducible and_intros
   iterate 3 omega
   trivial;iterate 2 grind
   . intro h6;try simp only [V.IG] at h6
     with_reducible and_intros
     . (have hq:=S.r6 h2 lI;grind)
     omega
     . (have hq:=S.r6 h2 lI;omega)
     refine⟨((x1.1+1),((x1.2.1),(x1.2.2++[getD (S.decode b) (toNat (↑(x1.1):Int)) (0:Int)]))),?_⟩;grind[S.agL,S.akD,S.r6,S.ag,S.len]
   intro h7;try simp only [V.ajY] at h7
   refine V.dI (λh8=>?_) λh9=>?_
   . with_reducible and_intros
     iterate 2
      . (have hq:=S.r6 h2 lI;grind)
     omega
     . (have hq:=S.r6 h2 lI;omega)
     refine⟨((x1.1+1),((x1.2.1++[S.jN (x1.2.2)]),([]))),?_⟩;grind[S.akC,S.Xi,S.r6,S.ag,S.len]
   with_reducible and_intros
   omega
   . (have hq:=S.r6 h2 lI;omega)
   refine⟨((x1.1+1),((x1.2.1),(x1.2.2))),?_⟩;grind[S.agM,S.Xi,S.r6,S.ag,S.len]
 refine⟨?_,?_⟩
 . intro fC;refine⟨?_,?_,?_⟩
   . (have hq:=S.r6 h2 lI;grind)
   . (have hq:=S.r6 h2 lI;simp;omega)
   grind[S.agN]
 grind[df,S.agO]
def aDg(s:B8)(hp:S.small s):S.small s/\pf (decide ((length (S.bM s):Int)=1)) ((0:Int)<=0/\(0:Int)<length (S.bM s)) (aHF 0 (length (S.bM s))) True/\ir (decide ((length (S.bM s):Int)=1)) (decide (mY (S.bM s) 0=s))=S.isTerm s:=by
 refine aE ?_;grind[S.agP]
def aRc(c:Int):ec (cE (S.letter c) (mv 48 c 57)=S.l4 c):=by
 refine aE ?_;grind[S.aMm]
def aRd(l:O)(hf:Vg.gq J.Po l):(∃(x1:Nat),((1:Int)=x1/\(0:Int)=S.oX l x1)/\S.apG l x1)/\(∀(x2:Nat),S.apG l x2->Fi (decide (x2<ml l)) 0 x2 (ml l) (aL7 (S.oX l x2) (ml l) (HJ x2 (∃(x3:Nat),sB x2 x3 ((bif Op.bytesLess (mY l x2) (mY l (S.oX l x2)) then(x2:Int) else(S.oX l x2:Int))=S.oX l x3) (S.apG l x3) (S.len l)))) ((S.oX l x2:Int)=S.nB l)):=by
 refine aE ?_;have PN:Vg.hlen l:=hf.1.1;clear hf;refine⟨?_,?_⟩
 . refine⟨1,?_⟩;try dsimp only
   with_reducible and_intros
   omega;grind[S.aJP];exact⟨Nat.le_refl _,.inr rfl⟩
 intro x1 h2;refine⟨?_,?_⟩
 . intro h3;try simp only [dt] at h3
   with_reducible and_intros
   iterate 3 omega
   . have:=S.Kq (l:=l) x1 w! (by have:=h2.2;omega);omega
   iterate 2 omega
   refine⟨(x1+1),?_⟩;try dsimp only
   with_reducible and_intros
   omega;exact S.aJQ l x1
   . simp only [S.apG] at *;omega
   simp only [S.ag,S.len];omega
 grind[df,S.aKg]
def aRe(l:O)(hp:S.small l):(∃(x1:O×O),(l=x1.1/\[]=x1.2)/\S.aps l x1.1 x1.2)/\(∀(x2:O×O),S.aps l x2.1 x2.2->pf (aJ7 (aO4 x2)) True (uT 0 (S.nB x2.1) (aO4 x2)/\toNat (S.nB x2.1)<aO4 x2/\HR x2.2 [q76 x2.1 (toNat (S.nB x2.1))]/\(∃(x3:Nat×O×O×B8),((0:Int)=x3.1/\[]=x3.2.1)/\S.agD x3.2.2.1 x3.2.2.2 x3.1 x3.2.1/\x2.1=x3.2.2.1/\q76 x2.1 (toNat (S.nB x2.1))=x3.2.2.2)/\(∀(x4:Nat×O×O×B8),S.agD x4.2.2.1 x4.2.2.2 x4.1 x4.2.1/\x2.1=x4.2.2.1/\q76 x2.1 (toNat (S.nB x2.1))=x4.2.2.2->Fi (decide ((x4.1:Int)<aO4 x2)) 0 x4.1 (aO4 x2) (toNat x4.1<aO4 x2/\gl (aP9 (q76 x2.1 (toNat x4.1)) (q76 x2.1 (toNat (S.nB x2.1)))) (uT 0 x4.1 (aO4 x2)) (toNat x4.1<aO4 x2/\HR x4.2.1 [q76 x2.1 (toNat x4.1)]/\na (x4.1+1)/\(∃(x5:Nat×O×O×B8),((x4.1:Int)+1=x5.1/\x4.2.1++[q76 x2.1 (toNat x4.1)]=x5.2.1)/\(S.agD x5.2.2.1 x5.2.2.2 x5.1 x5.2.1/\x2.1=x5.2.2.1/\q76 x2.1 (toNat (S.nB x2.1))=x5.2.2.2)/\S.ag (S.len x5.2.2.1) x5.1<S.ag (S.len x4.2.2.1) x4.1)) (x4.1+1) (∃(x6:Nat×O×O×B8),((x4.1:Int)+1=x6.1/\x4.2.1=x6.2.1)/\(S.agD x6.2.2.1 x6.2.2.2 x6.1 x6.2.1/\x2.1=x6.2.2.1/\q76 x2.1 (toNat (S.nB x2.1))=x6.2.2.2)/\S.ag (S.len x6.2.2.1) x6.1<S.ag (S.len x4.2.2.1) x4.1)) (∃(x7:O×O),(x4.2.1=x7.1/\x2.2++[q76 x2.1 (toNat (S.nB x2.1))]=x7.2)/\S.aps l x7.1 x7.2/\S.len x7.1<S.len x2.1))) (x2.2=S.sorted l)):=by
 refine aE ?_;have lI:l.length<=1099511627776:=hp;refine⟨?_,?_⟩
 . refine⟨((l),([])),?_⟩;grind[S.aOK]
 intro x1 h2;refine⟨?_,?_⟩
 . intro h3;simp only [dt] at h3;with_reducible and_intros
   trivial;omega
   iterate 2
    . have:=S.Kr (l:=x1.1) w!;omega
   . have:=h2.2;simp;omega
   . refine⟨(0,(([]),((x1.1),(getD (x1.1) (toNat (↑(S.nB (x1.1)):Int)) [])))),?_⟩;dsimp only;with_reducible and_intros
     omega;rfl;exact S.aOL _ _;iterate 2 rfl
   intro x4 h5;refine V.dI (λh6=>?_) λh9=>?_
   . with_reducible and_intros
     iterate 3 omega
     . intro h7;with_reducible and_intros
       iterate 3 omega
       . have hr:=S.aMo h5.1;have:=h2.2;simp;omega
       omega
       . have:=h2.2;omega
       refine⟨((x4.1+1),((x4.2.1++[getD (x1.1) (toNat (↑(x4.1):Int)) []]),((x1.1),(getD (x1.1) (toNat (↑(S.nB (x1.1)):Int)) [])))),?_⟩;try dsimp only
       with_reducible and_intros
       omega;with_reducible rfl
       exact S.aKh (S.aFg h5) h6 (by simpa using h7);iterate 2 with_reducible rfl
       have e:x1.1=x4.2.2.1:=h5.2.1;simp only [S.ag,S.len,<-e];omega
     intro h8;with_reducible and_intros
     omega
     . have:=h2.2;omega
     refine⟨((x4.1+1),((x4.2.1),((x1.1),(getD (x1.1) (toNat (↑(S.nB (x1.1)):Int)) [])))),?_⟩;try dsimp only
     with_reducible and_intros
     omega;with_reducible rfl
     exact S.aKi (S.aFg h5) h6 (by simpa using h8);iterate 2 with_reducible rfl
     have e:x1.1=x4.2.2.1:=h5.2.1;simp only [S.ag,S.len,<-e];omega
   refine⟨((x4.2.1),(x1.2++[getD (x1.1) (toNat (↑(S.nB (x1.1)):Int)) []])),?_⟩;with_reducible and_intros
   iterate 2 rfl
   exact(S.aGN h2 h3 (S.aFg h5) h9).1;exact(S.aGN h2 h3 (S.aFg h5) h9).2
 grind[df,S.aMn]
def aRf(s:B8)(hp:S.small s):S.small s/\(∃(x1:Nat),(0:Int)=x1/\S.apt (S.decode s) x1)/\(∀(x2:Nat),S.apt (S.decode s) x2->Fi (decide ((x2:Int)<aO3 s)) 0 x2 (aO3 s) (toNat x2<aO3 s/\aL5 (q79 (Bool.not (S.l4 (ahA (S.decode s) (toNat x2)))) (uT 0 x2 (aO3 s)/\toNat x2<aO3 s/\ec (aL7 x2 (aO3 s) (toNat x2<aO3 s)))) (aJz (cE (Bool.not (S.l4 (ahA (S.decode s) (toNat x2)))) (fX (S.bT (ahA (S.decode s) (toNat x2))) (ahA (S.decode s) (toNat x2)))) (S.Ë s) x2 (∃(x3:Nat),aJ8 x2 x3 (S.apt (S.decode s) x3) (S.len (S.decode s))))) (ir (decide ((0:Int)<aO3 s)) (decide (e6 s<=64))=S.Ë s)):=by
 refine aE ?_;have hq:=S.Bx s;have lI:s.length<=1099511627776:=hp;refine⟨?_,?_,?_⟩;omega;grind[S.aOM];intro x1 h2;refine⟨?_,?_⟩
 . intro h3;simp only [dt] at h3;with_reducible and_intros
   iterate 3 omega
   trivial
   . intro h4;trivial
   . intro h5;with_reducible and_intros
     iterate 3 omega
     trivial;iterate 3 omega
   . intro h6;simp at h6;exact S.aMp h3 h6
   intro h7;simp at h7;with_reducible and_intros
   iterate 2 omega
   refine⟨(x1+nat_lit 1),?_⟩;dsimp only;refine⟨?_,?_,?_⟩;omega;exact S.aKj h2 h3 h7.1 h7.2;simp [S.ag,S.len];omega
 grind[df,S.aMq]
def aDh(s:B8):Bool.not (decide (s=s))=false:=by
 grind
def aDi(a b:B8):ec (ec (q14 false (q14 false (0=S.lL a b) (-1=S.lL a b)) (q14 false (1=S.lL a b) (q14 (Op.bytesLess a b) (-1=S.lL a b) (q14 (Bool.not (Op.bytesLess a b||decide (a=b))) (1=S.lL a b) (0=S.lL a b)))))):=by
 refine aE ?_;grind[S.lL,S.eS,S.pd,S.CV,nt,nf]
def aDj(a b:B8):ec (ake (S.lL a b)=decide (a=b)):=by
 refine aE ?_;grind[S.aqk]
def aDk(l:O)(hp:S.small l):q14 (decide ((aNk l:Int)<2)) (l=S.bW l) ((∃(x1:Nat),(1:Int)=x1/\S.ot l x1)/\(∀(x2:Nat),S.ot l x2->Fi (decide ((x2:Int)<aNk l)) 0 x2 (aNk l) (aMh x2<aNk l/\q77 (x2-1) 0 (aNk l) (toNat (x2-1)<aNk l/\ec (gl (decide (q76 l (aMh x2)=q76 l (toNat (x2-1)))) (aKT x2 (aNk l)) ((∃(x3:Nat×Nat×O×Nat),((x2:Int)=x3.1/\(1:Int)=x3.2.1/\l=x3.2.2.1)/\S.jF l x3.2.2.2 x3.1 x3.2.1 x3.2.2.1/\(x2:Int)=x3.2.2.2)/\(∀(x4:Nat×Nat×O×Nat),S.jF l x4.2.2.2 x4.1 x4.2.1 x4.2.2.1/\(x2:Int)=x4.2.2.2->qJ (decide ((x4.2.1:Int)<((aNk l-aMh x2:Nat):Int))) (uT 0 x4.2.1 ((aNk l-aMh x2:Nat):Int)) (aMh x2+toNat x4.2.1<aOj x4/\q77 (x4.2.1-1) 0 ((aNk l-aMh x2:Nat):Int) (aMh x2+toNat (x4.2.1-1)<aOj x4/\aL5 (Fi (aP9 (q76 x4.2.2.1 (aMh x2+toNat x4.2.1)) (q76 x4.2.2.1 (aMh x2+toNat (x4.2.1-1)))) 0 x4.2.1 ((aNk l-aMh x2:Nat):Int) (aMh x2+toNat x4.2.1<aOj x4/\uT 0 x4.1 (aOj x4)/\aOy x4<aOj x4/\na (x4.1+1)) True) (na (x4.2.1+1)/\(∃(x5:Nat×Nat×O×Nat),((bif aP9 (q76 x4.2.2.1 (aMh x2+toNat x4.2.1)) (q76 x4.2.2.1 (aMh x2+toNat (x4.2.1-1))) then(x4.1:Int)+1 else(x4.1:Int))=x5.1/\(x4.2.1:Int)+1=x5.2.1/\(bif aP9 (q76 x4.2.2.1 (aMh x2+toNat x4.2.1)) (q76 x4.2.2.1 (aMh x2+toNat (x4.2.1-1))) then List.set x4.2.2.1 (aOy x4) (q76 x4.2.2.1 (aMh x2+toNat x4.2.1)) else x4.2.2.1)=x5.2.2.1)/\(S.jF l x5.2.2.2 x5.1 x5.2.1 x5.2.2.1/\(x2:Int)=x5.2.2.2)/\q43 (S.len l) x5.2.1 x4.2.1)))) (aKT x4.1 (aOj x4)) (aOy x4+(aOj x4-aOy x4)<=aOj x4) (sC x4.1 (ml (aS3 x4)) (take (aOy x4) (aS3 x4)=S.bW l)))) (x2+1) (∃(x6:Nat),aJ8 x2 x6 (S.ot l x6) (S.len l))))) (l=S.bW l))):=by
 refine aE ?_;have lI:l.length<=1099511627776:=hp;refine V.dI (λh1=>?_) λh2=>?_
 . exact S.N7 h1
 refine⟨?_,?_⟩
 . grind[S.akF]
 intro x3 h4;refine⟨?_,?_⟩
 . intro h5;try simp only [dt] at h5
   with_reducible and_intros
   iterate 5 omega
   . have:=h4.1;omega
   iterate 2 omega
   trivial
   . intro h6;try simp only [dt,tn] at h6
     with_reducible and_intros
     iterate 2 omega
     . refine⟨((x3),(1,((l),(x3)))),?_⟩;grind[S.abn]
     intro x7 h8;refine⟨?_,?_⟩
     . intro h9;try simp at h9
       with_reducible and_intros
       iterate 2 omega
       . have q1:=h8.1.1;have q2:=h8.1.2.1;have q3:=h8.1.2.2.2.1;have q4:=h8.1.2.2.2.2.1;have q5:=h8.2;omega
       iterate 2 omega
       . have q1:=h8.1.1;have q2:=h8.1.2.1;have q3:=h8.1.2.2.2.1;have q4:=h8.1.2.2.2.2.1;have q5:=h8.2;omega
       omega
       . have q1:=h8.1.1;have q2:=h8.1.2.1;have q3:=h8.1.2.2.2.1;have q4:=h8.1.2.2.2.2.1;have q5:=h8.2;omega
       trivial
       . intro de;with_reducible and_intros
         iterate 2 omega
         . have q1:=h8.1.1;have q2:=h8.1.2.1;have q3:=h8.1.2.2.2.1;have q4:=h8.1.2.2.2.2.1;have q5:=h8.2;omega
         omega
         iterate 2
          . have q1:=h8.1.1;have q2:=h8.1.2.1;have q3:=h8.1.2.2.2.1;have q4:=h8.1.2.2.2.2.1;have q5:=h8.2;omega
         omega;have q1:=h8.1.1;have q2:=h8.1.2.1;have q3:=h8.1.2.2.2.1;have q4:=h8.1.2.2.2.2.1;have q5:=h8.2;omega
       . intro fC;trivial
       iterate 2 omega
       refine⟨((toNat (bif !Decidable.decide (getD (x7.2.2.1) (toNat (↑x3:Int)+toNat (↑(x7.2.1):Int)) []=getD (x7.2.2.1) (toNat (↑x3:Int)+toNat ((↑(x7.2.1):Int)-(1:Int))) []) then(↑(x7.1):Int)+(1:Int) else(↑(x7.1):Int))),((x7.2.1+1),((bif !Decidable.decide (getD (x7.2.2.1) (toNat (↑x3:Int)+toNat (↑(x7.2.1):Int)) []=getD (x7.2.2.1) (toNat (↑x3:Int)+toNat ((↑(x7.2.1):Int)-(1:Int))) []) then List.set (x7.2.2.1) (toNat (↑(x7.1):Int)) (getD (x7.2.2.1) (toNat (↑x3:Int)+toNat (↑(x7.2.1):Int)) []) else Prod.fst (x7.2.2)),(x3)))),?_⟩;try dsimp only
       with_reducible and_intros
       . generalize (!decide (getD x7.2.2.1 (toNat (x3:Int)+toNat (x7.2.1:Int)) []=getD x7.2.2.1 (toNat (x3:Int)+toNat ((x7.2.1:Int)-1)) []))=c;cases c<;>simp only [L!,O!]<;>omega
       omega;trivial
       . have q1:=h8.1.1;have e3:x7.2.2.2=x3:=by have:=h8.2;omega
         have hi:=h8.1;rw [e3] at hi;have e1:toNat (x3:Int)+toNat (x7.2.1:Int)=x3+x7.2.1:=by omega
         have e2:toNat (x3:Int)+toNat ((x7.2.1:Int)-1)=x3+x7.2.1-1:=by omega
         rw [e1,e2];by_cases hd:getD x7.2.2.1 (x3+x7.2.1) []=getD x7.2.2.1 (x3+x7.2.1-1) []
         . rw [K? hd];exact S.N8 hi w! hd
         rw [Y? hd];exact S.R3 hi w! hd
       omega;simp only [S.ag,S.len];omega
     intro gY;with_reducible and_intros
     omega
     iterate 2
      . have q1:=h8.1.2.1;have q2:=h8.1.2.2.2.1;have q3:=h8.1.2.2.2.2.1;omega
     omega
     . have q1:=h8.1.2.1;have q2:=h8.1.2.2.2.1;have q3:=h8.1.2.2.2.2.1;simp;omega
     have q1:=h8.1.2.1;have q2:=h8.1.2.2.2.1;have q3:=h8.1.2.2.2.2.1;grind[toNat,S.KA,S.R4]
   intro jM;try simp only [df,tn] at jM
   with_reducible and_intros
   iterate 2 omega
   refine⟨(x3+1),?_⟩;grind[S.R1,S.ag,S.len]
 grind[df,S.Xl]
def aDl(l:O)(hp:S.small l):S.small l/\S.small l/\S.small (S.fm l)/\S.bW (S.fm l)=S.bW (S.fm l):=by
 grind[S.Us]
def aDm(b:B8)(hp:S.small b):S.small b/\S.small (S.bM b)/\S.bW (S.fm (S.bM b))=S.sorted (S.bM b):=by
 grind[S.Ur,S.N9]
def aDn(l:O)(hf:Vg.gq J.Po l):(∃(x1:Nat),(0:Int)=x1/\S.fg l x1)/\(∀(x2:Nat),S.fg l x2->Fi (decide (x2<ml l)) 0 x2 (ml l) (aJz (aP0 (mY l x2)) (S.bQ l) x2 (∃(x3:Nat),aJ8 x2 x3 (S.fg l x3) (S.len l))) (true=S.bQ l)):=by
 refine aE ?_;have PN:Vg.hlen l:=hf.1.1;refine⟨?_,?_⟩
 . grind[S.abo]
 intro x1 h2;refine⟨?_,?_⟩
 . intro h3;simp only [dt] at h3;with_reducible and_intros
   iterate 2 omega
   . intro h4;simp at h4;exact S.agU h3 h4
   intro h5;simp at h5;with_reducible and_intros
   iterate 2 omega
   refine⟨(x1+nat_lit 1),?_⟩;dsimp only;refine⟨?_,?_,?_⟩;omega;exact S.Ð h2 h3 h5;simp [S.ag,S.len];omega
 grind[df,S.agV]
def aDo(a b:B8):ec (S.aT a b=S.aT a b):=by
 refine aE ?_;grind
def aDp(s:O)(hp:S.aUz s):q77 (aL8 s-2) 0 (aL8 s) (toNat (aL8 s-2)<aL8 s/\q77 (aL8 s-2+1) 0 (aL8 s) (toNat (aL8 s-2+1)<aL8 s/\ec (uT 0 (aL8 s-2) (aL8 s)/\toNat (aL8 s-2)<aL8 s/\na (aL8 s-2+1)/\((0:Int)<=aL8 s-2+1/\aL8 s-2+1<=ml (aS5 s))/\take (toNat (aL8 s-2+1)) (aS5 s)=S.comb s))):=by
 refine aE ?_;have h1:=hp.1;have h2:=hp.2;with_reducible and_intros
 iterate 10 omega
 trivial;iterate 6 omega
 grind;exact S.aqn hp
def aDq(l:O)(hp:S.l8 l)(hf:Vg.gq J.aHU l):(∃(x1:Nat),((0:Int)=x1/\[]=S.jr l x1)/\S.ny l x1)/\(∀(x2:Nat),S.ny l x2->Fi (decide (x2<ml l)) 0 x2 (ml l) (S.aC (mY l x2)/\HR (S.jr l x2) [S.leaf (mY l x2)]/\HJ x2 (∃(x3:Nat),sB x2 x3 (S.jr l x2++[S.leaf (mY l x2)]=S.jr l x3) (S.ny l x3) (S.len l))) (S.jr l x2=S.leaves l)):=by
 refine aE ?_;have PN:Vg.hlen l:=hf.1.1;clear hf;have h1:=hp.1;refine⟨?_,?_⟩
 . refine⟨0,?_⟩;try dsimp only
   with_reducible and_intros
   omega;rfl;grind[S.ny,S.ag,S.len]
 intro x1 h2;refine⟨?_,?_⟩
 . intro h3;try simp only [dt] at h3
   with_reducible and_intros
   iterate 2 omega
   exact S.Xo hp v!
   . have:=S.QQ l x1;simp only [lc,ln];omega
   iterate 2 omega
   refine⟨(x1+1),?_⟩;try dsimp only
   with_reducible and_intros
   omega;exact S.Un v!
   . simp only [S.ny,S.ag,S.len] at *;omega
   simp only [S.ny,S.ag,S.len] at *;omega
 grind[df,S.Xn]
def aDr(l:O)(hp:S.nC l):yb (ake (ml l)) (S.small sy) (S.sum sy=S.root l) (∃(x1:Nat×O),((0:Int)=x1.1/\[]=x1.2)/\S.qu l x1.1 x1.2) (∀(x2:Nat×O),S.qu l x2.1 x2.2->yb (decide (x2.1<ml l)) (uT 0 x2.1 (ml l)) (HR x2.2 [mY l x2.1]/\(∃(x3:Nat×Nat×O×Nat),((x2.1:Int)=x3.2.1/\x2.2++[mY l x2.1]=x3.2.2.1)/\S.pe l x3.2.2.2 x3.1 x3.2.1 x3.2.2.1/\(x2.1:Int)=x3.2.2.2)/\(∀(x4:Nat×Nat×O×Nat),S.pe l x4.2.2.2 x4.1 x4.2.1 x4.2.2.1/\(x2.1:Int)=x4.2.2.2->(0:Int)<=x4.2.1/\(0:Int)<=1/\gl (decide (Vg.aM x4.2.1 1=1)) (S.aUz x4.2.2.1) (sC 1 64 (∃(x5:Nat×Nat×O×Nat),(x4.2.1/lG 2 1=x5.2.1/\S.comb x4.2.2.1=x5.2.2.1)/\(S.pe l x5.2.2.2 x5.1 x5.2.1 x5.2.2.1/\(x2.1:Int)=x5.2.2.2)/\x5.2.1<x4.2.1)) (x2.1+1) (∃(x6:Nat×O),((x2.1:Int)+1=x6.1/\x4.2.2.1=x6.2)/\S.qu l x6.1 x6.2/\q43 (S.len l) x6.1 x2.1))) (∃(x7:O),x2.2=x7/\S.qv l x7) (∀(x8:O),S.qv l x8->qJ (decide ((1:Int)<length x8)) (S.aUz x8) (∃(x9:O),S.comb x8=x9/\S.qv l x9/\S.len x9<S.len x8) ((0:Int)<=0/\(0:Int)<length x8) (aHF 0 (length x8)) (mY x8 0=S.root l))):=by
 refine aE ?_;have lI:=hp.2;refine V.dI (λh1=>?_) λh2=>?_
 . refine⟨?_,?_⟩
   . exact U! _
   exact S.agW h1
 refine⟨?_,?_⟩
 . refine⟨(0,([])),?_⟩;grind[S.aql]
 intro x3 h4;refine V.dI (λh5=>?_) λde=>?_
 . with_reducible and_intros
   iterate 2 omega
   . have:=S.Xp h4;simp;omega
   . refine⟨(0,x3.1,x3.2++[getD l (toNat (x3.1:Int)) []],x3.1),?_⟩;try dsimp only
     with_reducible and_intros
     omega;with_reducible rfl
     exact S.aAM h4 h5;omega
   intro x6 h7;refine⟨?_,?_,?_,?_⟩;iterate 2 omega
   . intro h8;try simp at h8
     with_reducible and_intros
     exact S.akM (S.LM h7) h8 hp;iterate 2 omega
     refine⟨(x6.1+1,x6.2.1/2,S.comb x6.2.2.1,x3.1),?_⟩;try dsimp only
     with_reducible and_intros
     . simp only [show toNat 1=1 by rfl];omega
     with_reducible rfl
     exact(S.IX (S.LM h7) h8).1;omega;exact(S.IX (S.LM h7) h8).2.1
   intro h9;try simp at h9
   with_reducible and_intros
   iterate 2 omega
   refine⟨((x3.1+1),(x6.2.2.1)),?_⟩;try dsimp only
   with_reducible and_intros
   omega;with_reducible rfl
   exact S.akH (S.LM h7) h9;simp only [S.ag,S.len];omega
 refine⟨?_,?_⟩
 . refine⟨(x3.2),?_⟩;refine⟨?_,?_⟩
   . rfl
   exact S.aAN h4 de h2
 intro x11 gY;refine⟨?_,?_⟩
 . intro jM;simp at jM;refine⟨?_,?_⟩
   . have:=S.akL gY;exact⟨w!,w!⟩
   refine⟨(S.comb x11),?_⟩;refine⟨?_,?_,?_⟩;rfl;exact(S.R8 gY jM).1;exact(S.R8 gY jM).2
 grind[df,S.akK]
def aDs(l:O)(hp:S.small l):ec (qJ (Bool.not (S.bQ l)) ([]=S.zp l) (1=S.xe l) (S.nC l) (S.root l=S.zp l) (0=S.xe l)):=by
 refine aE ?_;have lI:l.length<=1099511627776:=hp;grind[nt,S.zp,S.xe,S.nC,nf]
def aDt(n:Int):q14 (aSJ n 2 1099511627776) (0=S.split n) ((∃(x1:Nat×Int),1=x1.2/\S.jq n x1.2 x1.1)/\(∀(x2:Nat×Int),S.jq n x2.2 x2.1->na (2*x2.2)/\pf (decide (2*x2.2<n)) (na (2*x2.2)) (∃(x3:Nat×Int),2*x2.2=x3.2/\S.jq n x3.2 x3.1/\Eg (n-x3.2) (n-x2.2)) (x2.2=S.split n))):=by
 refine aE ?_;refine⟨?_,?_⟩
 . grind[S.Xm]
 intro h2;simp at h2;refine⟨?_,?_⟩
 . refine⟨(0,1),?_⟩;grind[S.Kt]
 intro x3 h4;with_reducible and_intros
 iterate 2
  . (have:=S.kp h4;omega)
 . intro h5;simp at h5;with_reducible and_intros
   . (have:=S.kp h4;omega)
   omega;refine⟨(x3.1+1,2*x3.2),?_⟩;grind[S.kp,S.BE]
 grind[df,S.kp,S.D4]
def aDu(n:Int):q14 (aSJ n 2 1099511627776) (0=S.split n) ((∃(x1:Nat×Int),1=x1.2/\S.jq n x1.2 x1.1)/\(∀(x2:Nat×Int),S.jq n x2.2 x2.1->na (2*x2.2)/\pf (decide (2*x2.2<n)) (na (x2.2*2)) (∃(x3:Nat×Int),x2.2*2=x3.2/\S.jq n x3.2 x3.1/\Eg (n-x3.2) (n-x2.2)) (x2.2=S.split n))):=by
 refine aE ?_;refine⟨?_,?_⟩
 . grind[S.Xm]
 intro h2;simp at h2;refine⟨?_,?_⟩
 . refine⟨(0,1),?_⟩;grind[S.Kt]
 intro x3 h4;with_reducible and_intros
 iterate 2
  . (have:=S.kp h4;omega)
 . intro h5;simp at h5;with_reducible and_intros
   . (have:=S.kp h4;omega)
   omega;refine⟨(x3.1+1,2*x3.2),?_⟩;grind[S.kp,S.BE]
 grind[df,S.kp,S.D4]
def aDv(l:O)(i:Int)(hp:S.dM l):ec (yb (cE (Bool.not (S.bQ l)) (aPZ i 0 (decide (ml l<=i)))) ([]=S.rK l i) (1=S.BW l i) (∃(x1:O×Int×O),(l=x1.1/\i=x1.2.1/\[]=x1.2.2)/\S.gj l i x1) (∀(x2:O×Int×O),S.gj l i x2->qJ (decide (1<ml x2.1)) True (pf (decide (x2.2.1<S.split (ml x2.1))) (aKT (S.split (ml x2.1)) (ml x2.1)) (S.nC (drop (toNat (S.split (ml x2.1))) x2.1)/\đ (length x2.2.2+length [S.root (drop (toNat (S.split (ml x2.1))) x2.1)])/\sC (S.split (ml x2.1)) (ml x2.1) (∃(x3:O×Int×O),(take (toNat (S.split (ml x2.1))) x2.1=x3.1/\x2.2.1=x3.2.1/\x2.2.2++[S.root (drop (toNat (S.split (ml x2.1))) x2.1)]=x3.2.2)/\S.gj l i x3/\S.len x3.1<S.len x2.1)) (sC (S.split (ml x2.1)) (ml x2.1) (S.nC (take (toNat (S.split (ml x2.1))) x2.1)/\đ (length x2.2.2+length [S.root (take (toNat (S.split (ml x2.1))) x2.1)])/\sC (S.split (ml x2.1)) (ml x2.1) (na (x2.2.1-S.split (ml x2.1))/\(∃(x4:O×Int×O),(drop (toNat (S.split (ml x2.1))) x2.1=x4.1/\x2.2.1-S.split (ml x2.1)=x4.2.1/\x2.2.2++[S.root (take (toNat (S.split (ml x2.1))) x2.1)]=x4.2.2)/\S.gj l i x4/\S.len x4.1<S.len x2.1))))) (S.small x2.2.2) (S.OH x2.2.2=S.rK l i) (0=S.BW l i))):=by
 refine aE ?_;have lI:l.length<=1099511627776:=hp;refine⟨?_,?_,?_⟩;trivial
 . intro h1;grind[S.aA0]
 intro h2;refine⟨?_,?_⟩
 . refine⟨((l),((i),([]))),?_⟩;grind[S.ahx]
 intro x3 h4;refine⟨?_,?_⟩
 . intro h5;try simp only [dt] at h5
   refine⟨?_,?_,?_⟩;trivial
   . intro h6;with_reducible and_intros
     iterate 2
      . (have q:=S.Hp lI h4 h5;omega)
     iterate 2
      . (have q:=S.Hp lI h4 h5;grind)
     iterate 2
      . (have q:=S.Hp lI h4 h5;omega)
     refine⟨((take (toNat (S.split (↑(length (x3.1)):Int))) (x3.1)),((x3.2.1),(x3.2.2++[S.root (drop (toNat (S.split (↑(length (x3.1)):Int))) (x3.1))]))),?_⟩;try dsimp only
     with_reducible and_intros
     iterate 3 rfl
     grind[S.aA1]
     . (have q:=S.Hp lI h4 h5;omega)
   intro h7;try simp only [df] at h7
   with_reducible and_intros
   iterate 2
    . (have q:=S.Hp lI h4 h5;omega)
   . (have q:=S.Hp lI h4 h5;grind)
   . (have q:=S.Hp lI h4 h5;exact q.2.2.2.1 _)
   iterate 4
    . (have q:=S.Hp lI h4 h5;omega)
   refine⟨((drop (toNat (S.split (↑(length (x3.1)):Int))) (x3.1)),((x3.2.1-S.split (↑(length (x3.1)):Int)),(x3.2.2++[S.root (take (toNat (S.split (↑(length (x3.1)):Int))) (x3.1))]))),?_⟩;try dsimp only
   with_reducible and_intros
   iterate 3 with_reducible rfl
   exact S.aA2 lI h4 h5 h7
   . (have q:=S.Hp lI h4 h5;omega)
 grind[df,S.aA3,S.aqT]
def aDw(l:U)(hf:Vg.gq J.aHQ l):(∃(x1:Nat),((0:Int)=x1/\-1=S.gi l x1)/\S.mo l x1)/\(∀(x2:Nat),S.mo l x2->Fi (decide (x2<bu l)) 0 x2 (bu l) (aJz (cE (decide (aKd l x2<=S.gi l x2)) (decide (1000<=aKd l x2))) (S.bK l) x2 (∃(x3:Nat),sB x2 x3 (aKd l x2=S.gi l x3) (S.mo l x3) (S.len l))) (true=S.bK l)):=by
 refine aE ?_;have PN:Vg.hlen l:=hf.1.1;refine⟨?_,?_⟩
 . grind[S.yd,S.aqo]
 intro x1 h2;refine⟨?_,?_⟩
 . intro h3;simp only [dt] at h3;with_reducible and_intros
   iterate 2 omega
   . intro h4;simp at h4;exact S.agX h3 h4
   intro h5;simp only [V.ajY,df,tn] at h5;with_reducible and_intros
   iterate 2 omega
   refine⟨(x1+nat_lit 1),?_⟩;dsimp only;with_reducible and_intros
   omega;rw [S.lM,tn];exact S.Ñ h2 h3 h5;simp [S.ag,S.len];omega
 grind[df,S.agY]
def aDx(l:U)(hf:Vg.gq J.aHQ l):ec (qJ (Bool.not (S.bK l)) (1=S.qx l) ([]=S.qw l) (q75 sy) (∃(x1:Nat),((0:Int)=x1/\-1=S.gi l x1/\S.mn sy (length l)=S.jb l x1)/\x1<=length l) (∀(x2:Nat),x2<=length l->yb (decide ((x2:Int)<length l)) (uT 0 x2 (length l)) (aji (aKd l x2-S.gi l x2) (aKd l x2-S.gi l x2-1) (q75 sy/\wJ (S.jb l x2) (S.mn sy (aKd l x2-S.gi l x2-1))/\HJ x2 (∃(x3:Nat),((x2:Int)+1=x3/\aKd l x2=S.gi l x3/\S.jb l x2++S.mn sy (aKd l x2-S.gi l x2-1)=S.jb l x3)/\x3<=length l/\q43 (S.len l) x3 x2))) (0=S.qx l) (S.jb l x2=S.qw l))):=by
 refine aE ?_;have PN:Vg.hlen l:=hf.1.1;clear hf;refine⟨?_,?_,?_⟩;trivial;grind[nt,S.qx,S.qw];intro h2;try simp only [nf] at h2
 refine⟨?_,?_,?_⟩;grind;grind[S.yd,S.ou,S.Sb,S.Sa];intro x3 h4;refine⟨?_,?_⟩
 . intro h5;try simp only [dt] at h5
   with_reducible and_intros
   iterate 2 omega
   iterate 4
    . have:=S.Sc h2 h5;omega
   exact U! _
   . have:=(S.QR h2 h5 (getD l (toNat (x3:Int)) 0-S.gi l x3-1)).1;omega
   iterate 2 omega
   refine⟨(x3+1),?_⟩;try dsimp only
   with_reducible and_intros
   omega;rw [S.lM,tn];exact S.Od h2 h5;omega;simp only [S.ag,S.len];omega
 grind[df,S.qx,S.agZ]
def aDy(l:U):ec (qJ (ahP (S.qx l)) ([]=S.aNO l) (S.qx l=S.qx l) (S.aC (S.qw l)) (S.mF 2 (S.qw l)=S.aNO l) (0=S.qx l)):=by
 refine aE ?_;refine⟨?_,?_,?_⟩;trivial;grind[nt,df,S.bK,absurd,S.qx,S.aNO];intro h2;simp at h2;refine⟨?_,?_,?_⟩
 . have hq:S.bK l=true:=by
    grind[S.bK,S.qx,absurd]
   have hl:=S.Oe hq;simp [S.qw,S.aNO,hq,Q?,S.aC];omega
 . have hq:S.bK l=true:=by
    grind[S.bK,S.qx,absurd]
   simp_all[S.Oe,S.qw,S.aNO,Q?,S.aC]
 omega
def aDz(n:Int)(p q:Bool)(s1 s2:Int):q97 s1 n (decide (n<s2))=S.xf n s1 s2/\s1=s1/\s2=s2:=by
 refine aE ?_;grind[S.xf]
def aDA(a b:U)(s1 s2:Int)(hp:b.length=0):aQH (∃(x1:U×U),(YG a x1.1/\YG b S.sa/\[]=x1.2/\s1=s1/\s2=s2)/\S.nE a s1 s2 x1.1 x1.2) (∀(x2:U×U),S.nE a s1 s2 x2.1 x2.2->qJ (cE (aJ7 (bu x2.1)) (decide (0<HQ))) (aQR (aJ7 (bu x2.1)) (ake HQ) 0 (bu x2.1) HQ) (aQR (aJ7 HQ) (ake (bu x2.1)) 0 HQ (bu x2.1)/\aQG (aQt x2) 0 (bu x2.1) 1/\aQG (aQs x2) 0 HQ 1/\ec (pf (S.xf (aQh (aQs x2) (aSp 0) (aQt x2) (aJn x2.1) 0) s1 s2) (aOo x2.2 [aQh (aQs x2) (aSp 0) (aQt x2) (aJn x2.1) 0]) (∃(x3:U×U),(aNg (aQt x2) 1 x2.1=x3.1/\aNg (aQs x2) 1 S.sa=S.sa/\x2.2++[aQh (aQs x2) (aSp 0) (aQt x2) (aJn x2.1) 0]=x3.2/\s1=s1/\s2=s2)/\S.nE a s1 s2 x3.1 x3.2/\S.len x3.1<S.len x2.1) (∃(x4:U×U),(aNg (aQt x2) 1 x2.1=x4.1/\aNg (aQs x2) 1 S.sa=S.sa/\x2.2=x4.2/\s1=s1/\s2=s2)/\S.nE a s1 s2 x4.1 x4.2/\S.len x4.1<S.len x2.1))) (s1=s1) (s2=s2) (x2.2=S.Oc a s1 s2)):=by
 refine aE ?_;have hb:b=[]:=V! hp;subst hb;refine⟨trivial,trivial,?_,?_⟩
 . refine⟨(S.vv a,[]),⟨?_,?_,rfl,rfl,rfl⟩,S.aqp a s1 s2⟩
   . grind[S.vv,S.bK]
   rfl
 rintro⟨r,out⟩ h;have hl:=h.2;cases r with
 |nil=>grind[S.sa,S.ag1]
 |cons n r=>
  simp [S.sa];refine⟨w!,λhn=>⟨?_,?_⟩,λhn=>?_⟩
  . grind
  . exact⟨r,out++[n],⟨rfl,rfl⟩,S.ag0 h hn,by simp [S.len]⟩
  exact⟨r,out,⟨rfl,rfl⟩,S.akO h hn,by simp [S.len]⟩
def aDB(l:U)(s1 s2:Int):length (Vg.ur Int)=0/\S.Oc l s1 s2=S.Oc l s1 s2:=by
 grind
def aX4(l:U)(hf:Vg.gq J.aHQ l):(∃(x1:Nat),(0:Int)=x1/\S.mo l x1)/\(∀(x2:Nat),S.mo l x2->Fi (decide (x2<bu l)) 0 x2 (bu l) (q79 (decide (aKd l x2<0)) (aL7 x2 (bu l) (q79 (decide (999<aKd l x2)) (Fi (aJ7 x2) 0 x2 (bu l) (na (x2-1)/\uT 0 (x2-1) (bu l)) True)))/\aJz (PB (decide (aKd l x2<0)) (decide (999<aKd l x2)) (ir (aJ7 x2) (decide (aKd l x2<=aKd l (x2-1))))) (S.bK l) x2 (∃(x3:Nat),aJ8 x2 x3 (S.mo l x3) (S.len l))) (true=S.bK l)):=by
 refine aE ?_;have PN:Vg.hlen l:=hf.1.1;refine⟨?_,?_⟩
 . grind[S.aqo]
 intro x1 h2;refine⟨?_,?_⟩
 . intro h3;simp only [dt] at h3;with_reducible and_intros
   iterate 2 omega
   . intro h4;trivial
   . intro h5;with_reducible and_intros
     iterate 2 omega
     . intro h6;trivial
     intro h7;refine V.dI (λh8=>?_) λh9=>?_
     . with_reducible and_intros
       iterate 6 omega
     trivial
   . intro de;simp only [V.IG,dt,tn,V.abe] at de;exact S.aSR h2 h3 de
   intro fC;simp only [V.ajY,df,tn,V.ze] at fC;with_reducible and_intros
   iterate 2 omega
   refine⟨(x1+nat_lit 1),?_⟩;dsimp only;refine⟨?_,?_,?_⟩;omega;exact S.aSz h2 h3 fC;simp [S.ag,S.len];omega
 grind[df,S.agY]
def aDC(a b:U)(hf:Vg.gq J.aHV (a,b)):aQg (fX (bu a) (bu b)) (S.sH a b) ((∃(x1:Nat),(0:Int)=x1/\S.wb a b x1)/\(∀(x2:Nat),S.wb a b x2->Fi (decide (x2<bu a)) 0 x2 (bu a) (aL7 x2 (bu b) (aJz (fX (getD a (toNat x2) 0) (getD b (toNat x2) 0)) (S.sH a b) x2 (∃(x3:Nat),aJ8 x2 x3 (S.wb a b x3) (S.len a)))) (true=S.sH a b))):=by
 refine aE ?_;have azs:Vg.hlen a:=hf.1.1;refine⟨?_,?_⟩
 . grind[nt,df,S.ag3]
 intro h2;simp at h2;refine⟨?_,?_⟩
 . grind[S.aqq]
 intro x3 h4;refine⟨?_,?_⟩
 . intro h5;simp only [dt] at h5;with_reducible and_intros
   iterate 4 omega
   . intro h6;simp at h6;exact S.ag2 h6
   intro h7;simp at h7;with_reducible and_intros
   iterate 2 omega
   refine⟨(x3+nat_lit 1),?_⟩;dsimp only;refine⟨?_,?_,?_⟩;omega;exact S.Ò h4 h5 h7;simp [S.ag,S.len];omega
 grind[df,S.ag4]
def aX5(l:U)(n:Int)(hf:Vg.gq J.amQ (l,n)):(∃(x1:Nat),(0:Int)=x1/\S.aP2 l n x1)/\(∀(x2:Nat),S.aP2 l n x2->Fi (decide (x2<bu l)) 0 x2 (bu l) (q14 (decide (aKd l x2=n)) (true=S.re l n) (HJ x2 (∃(x3:Nat),aJ8 x2 x3 (S.aP2 l n x3) (S.len l)))) (false=S.re l n)):=by
 refine aE ?_;have PN:Vg.hlen l:=hf.1.1;refine⟨?_,?_⟩
 . grind[S.aXz]
 intro x1 h2;refine⟨?_,?_⟩
 . intro h3;simp only [dt] at h3;with_reducible and_intros
   iterate 2 omega
   . intro h4;simp at h4;exact S.aUV h3 h4
   intro h5;simp at h5;with_reducible and_intros
   iterate 2 omega
   refine⟨(x1+nat_lit 1),?_⟩;dsimp only;refine⟨?_,?_,?_⟩;omega;exact S.aUc h2 h3 h5;simp [S.ag,S.len];omega
 grind[df,S.aUW]
def aDD(d:M (B8×U))(hp:S.bn d):(∃(x1:Nat),(0:Int)=x1/\S.Ku d x1)/\(∀(x2:Nat),S.Ku d x2->Fi (decide ((x2:Int)<length d)) 0 x2 (length d) (pf (aJ7 x2) (na (x2-1)) (uT 0 (x2-1) (length d)) True/\aQg (ir (aJ7 x2) (aSK (aGr d x2).1 (aGr d (x2-1)).1)) (S.bg d) (q79 (ake (bu (aGr d x2).2)) (ec (q79 (Bool.not (S.bK (aGr d x2).2)) (S.small (aGr d x2).1)))/\aJz (cE (ake (bu (aGr d x2).2)) (wH (Bool.not (S.bK (aGr d x2).2)) (S.isTerm (aGr d x2).1))) (S.bg d) x2 (∃(x3:Nat),aJ8 x2 x3 (S.Ku d x3) (S.len d)))) (true=S.bg d)):=by
 refine aE ?_;have lI:=hp.1;refine⟨?_,?_⟩
 . grind[S.aGO]
 intro x1 h2;refine⟨?_,?_⟩
 . intro h3;simp only [dt] at h3;with_reducible and_intros
   iterate 2 omega
   iterate 2 grind
   . intro h6;simp only [V.abe,dt] at h6;refine S.abq h3 ((S.Of _ _).2 (.inl ⟨w!,?_⟩));have e:toNat ((x1:Int)-1)=x1-1:=by omega
     have h62:=h6.2;rw [e] at h62;exact h62
   intro h7;simp only [V.ze,df] at h7;with_reducible and_intros
   grind
   . intro h9;refine⟨?_,?_,?_⟩;trivial;grind;intro fC;exact S.ag5 hp
   . intro gY;simp only [V.IG,dt,tn,nt] at gY;exact S.abq h3 ((S.Of _ _).2 (.inr (gY.imp (λq=>by grind[S.jS]) id)))
   intro jM;simp at jM;with_reducible and_intros
   iterate 2 omega
   refine⟨(x1+nat_lit 1),?_⟩;dsimp only;refine⟨?_,?_,?_⟩;omega
   . refine S.akP h2 h3 ((S.uJ _ _).2 ⟨?_,?_,jM.2.1,jM.2.2⟩);rotate_left
     . grind[S.jS]
     rcases h7 with h7|h7
     . omega
     right;have e:toNat ((x1:Int)-1)=x1-1:=by omega
     rw [e] at h7;exact h7
   grind[S.ag,S.len]
 grind[df,S.aqr]
def arS(l1 l2 l3:B8):qJ (aPZ 64 (e6 l1) (aPZ 64 (e6 l2) (fX (length l3) 32))) ([]=S.fW l1 l2 l3) (1=S.kM l1 l2 l3) (S.oV sy l1) (S.oV ([]++S.text l1) l2) (aLm ([]++S.text l1++S.text l2) (length l3)/\[]++S.text l1++S.text l2++l3=S.fW l1 l2 l3/\0=S.kM l1 l2 l3):=by
 refine aE ?_;refine⟨?_,?_⟩
 . simp_all[V.IG,dt,nt,df,S.Ø,S.fW,S.kM]
 intro h2;simp only [V.ajY,df,nf,dt] at h2;with_reducible and_intros
 exact S.Kv (U! _) w!
 . have t1:=S.IY (s:=l1);exact S.Kv (by rw [k?];omega) w!
 grind[S.BN,S.wc,S.IY,List.length_append,ln]
 . have hq:=S.BN h2;simp only [S.fW,hq,Q?];rfl
 simp_all[S.BN,S.wc,S.IY,S.kM,Q?]
def arT(b:B8)(hp:b.length<=140737488355328):q39 b/\q39 (S.an b 0 0 64).1.1/\q39 (vn b).1.1/\ec (qJ (ahP (S.done (aQa b).1.1 (aQa b).1.2.1 (aQa b).1.2.2)) ([]=(S.bj b).1.1) ([]=(S.bj b).1.2.1/\[]=(S.bj b).1.2.2/\S.done (aQa b).1.1 (aQa b).1.2.1 (aQa b).1.2.2=(S.bj b).2) ((S.an b 0 0 64).2=(S.bj b).1.1) ((vn b).2=(S.bj b).1.2.1) ((aQa b).2=(S.bj b).1.2.2/\0=(S.bj b).2)):=by
 refine aE ?_;refine⟨hp,?_,?_,trivial,λh=>?_,λh=>?_⟩
 . grind[S.BM]
 . grind[S.BM]
 . have h':(!decide (S.done (S.uI b).1.1 (S.uI b).1.2.1 (S.uI b).1.2.2=0))=true:=h
   have e:S.bj b=(([],[],[]),S.done (S.uI b).1.1 (S.uI b).1.2.1 (S.uI b).1.2.2):=by
    simp_all[S.bj,J!,K?]
   rw [e];exact⟨rfl,rfl,rfl,rfl⟩
 have h':(!decide (S.done (S.uI b).1.1 (S.uI b).1.2.1 (S.uI b).1.2.2=0))=false:=h
 have e:S.bj b=(((S.Ó b).2,(S.Up b).2,(S.uI b).2),0):=by
  grind[S.bj]
 rw [e];exact⟨rfl,rfl,rfl,rfl⟩
def arU(d:M (B8×U))(hp:S.bn d):S.bn d/\qJ (Bool.not (S.bg d)) (1=S.dE d) ([]=S.bU d) (na (nQ d+1)) (∃(x1:Nat),((0:Int)=x1/\[]=S.iV d x1)/\x1<=nQ d+1) (∀(x2:Nat),x2<=nQ d+1->yb (decide ((x2:Int)<nQ d+1)) (pf (aJ7 x2) (na (x2-1)) (aL7 (x2-1) (nQ d) (na (x2-1)/\uT 0 (x2-1) (nQ d))) True) (pf (decide ((x2:Int)<nQ d)) ((0:Int)<=x2) ((x2:Int)<nQ d) True/\aQH (aAu (length (S.iV d x2)+length (xz d x2))) (HJ x2 (∃(x3:Nat),sB x2 x3 (S.iV d x2++xz d x2=S.iV d x3) (x3<=nQ d+1) (S.len d+1)))) (0=S.dE d) (S.iV d x2=S.bU d)):=by
 refine aE ?_;have lI:=hp.1;refine⟨?_,?_,?_⟩;omega;grind[nt,S.dE,S.bU];intro h2;simp at h2;with_reducible and_intros
 iterate 2 omega
 . refine⟨(nat_lit 0:Nat),?_⟩;dsimp only;with_reducible and_intros
   omega;rfl;omega
 intro x3 h4;refine V.dI (λh5=>?_) λde=>?_
 . with_reducible and_intros
   . intro h6;simp at h6;with_reducible and_intros
     iterate 8 omega
   . intro h7;trivial
   . intro h8;try simp at h8
     refine⟨?_,?_⟩
     . omega
     omega
   . intro h9;trivial
   iterate 2 trivial
   . rw [S.Oh];simp;omega
   iterate 2 omega
   refine⟨(x3+nat_lit 1),?_⟩;try dsimp only
   with_reducible and_intros
   omega;rw [S.aqu h2 w!,S.Xq];omega;simp [S.ag,S.len];omega
 refine⟨?_,?_⟩
 . simp only [S.dE,h2];rfl
 simp [S.bU,h2,Q?];rw [show x3=d.length+1 by omega];rfl
def arV(d:M (B8×U))(hp:S.bn d):S.bn d/\qJ (ahP (S.dE d)) ([]=S.BI d) (S.dE d=S.dE d) (S.l8 (S.bU d)) (S.small (S.leaves (S.bU d))) (S.zp (S.leaves (S.bU d))=S.BI d/\S.xe (S.leaves (S.bU d))=S.dE d):=by
 refine aE ?_;refine⟨?_,?_,?_⟩;omega;grind[nt,df,S.BI,S.aGP];intro h2;simp at h2;refine⟨?_,?_,?_,?_⟩
 . have hr:=S.Hf h2;have hq:=S.pz hp hr;simp_all[S.bU,S.ie,Q?]
 . have hr:=S.Hf h2;have hq:=S.pz hp hr;have e:S.bU d=S.ie d:=by simp_all[S.bU,Q?]
   rw [e];exact hq.2.2
 . have hr:=S.Hf h2;have hq:=S.pz hp hr;have e:S.bU d=S.ie d:=by simp_all[S.bU,Q?]
   rw [e];simp [S.BI,S.zp,hr,hq.2.1,Q?];rfl
 have hr:=S.Hf h2;have hq:=S.pz hp hr;have e:S.bU d=S.ie d:=by simp_all[S.bU,Q?]
 rw [e];simp [S.dE,S.xe,hr,hq.2.1,Q?]
def arW(d:M (B8×U))(t:B8)(hp:S.bn d):S.bn d/\yb (Bool.not (S.bg d)) (-1=S.bt d t) (false=S.k9 d t) (∃(x1:Nat),((0:Int)=x1/\-1=S.ek d t x1)/\x1<=length d) (∀(x2:Nat),x2<=length d->yb (decide ((x2:Int)<length d)) (uT 0 x2 (length d)) (HJ x2 (∃(x3:Nat),sB x2 x3 ((bif aSK (aGr d x2).1 t then(x2:Int) else S.ek d t x2)=S.ek d t x3) (x3<=length d) (S.len d))) (pf (aNc (S.ek d t x2)) (0<=S.ek d t x2) (S.ek d t x2<length d) True) ((bif aNc (S.ek d t x2) then S.ek d t x2 else S.ek d t x2)=S.bt d t/\ir (aNc (S.ek d t x2)) (decide ((aGr d (S.ek d t x2)).1=t))=S.k9 d t)):=by
 refine aE ?_;have lI:=hp.1;refine⟨?_,?_,?_⟩;omega
 . intro h1;simp at h1;refine⟨?_,?_⟩
   . exact(S.Sd h1).1
   exact(S.Sd h1).2
 intro h2;simp at h2;refine⟨?_,?_⟩
 . refine⟨(nat_lit 0:Nat),?_⟩;dsimp only;with_reducible and_intros
   omega;rfl;omega
 intro x3 h4;refine V.dI (λh5=>?_) λh6=>?_
 . with_reducible and_intros
   iterate 4 omega
   refine⟨(x3+nat_lit 1),?_⟩;dsimp only;with_reducible and_intros
   omega;exact S.aqv d t x3;omega;simp [S.ag,S.len];omega
 with_reducible and_intros
 . intro h7;simp at h7;refine⟨?_,?_⟩
   . omega
   have:=(S.He (d:=d) (t:=t) x3).2;omega
 . intro h8;trivial
 . rw [show x3=d.length by omega,S.akQ h2];cases decide (0<=S.bt d t)<;>rfl
 rw [show x3=d.length by omega];exact S.akR h2
def arX(d:M (B8×U))(t:B8)(hp:S.bn d):S.bn d/\q14 (Bool.not (S.k9 d t)) ([]=S.qz d t) (uT 0 (S.bt d t) (length d)/\S.small (aGr d (S.bt d t)).2/\(aGr d (S.bt d t)).2=S.qz d t):=by
 refine aE ?_;grind[nt,S.aqz,nf,S.LN,S.aqA]
def aV6(l1 l2 l3:B8):q97 (e6 l1) 64 (q97 (e6 l2) 64 (decide (e6 l3=32)))=S.fU l1 l2 l3:=by
 refine aE ?_;grind[S.fU]
def aV7(l1 l2 l3:B8)(hp:S.fU l1 l2 l3=true):S.small l1/\S.small l2/\wJ (S.text l1) (S.text l2)/\wJ (S.text l1++S.text l2) l3/\S.text l1++S.text l2++l3=S.qy l1 l2 l3:=by
 refine aE ?_;have q:=(S.wc _ _ _).1 hp;have t1:=S.IY (s:=l1);have t2:=S.IY (s:=l2);with_reducible and_intros
 iterate 2 (grind[S.small])
 omega;grind;rfl
def aV8(b:B8)(hp:b.length<=140737488355328):ec (yb (ahP (aOh b).2.2) ([]=(S.EV b).1.1) ([]=(S.EV b).1.2.1/\[]=(S.EV b).1.2.2/\(aOh b).2.2=(S.EV b).2) (aKT (aOh b).2.1 (e6 b)) (ec (qJ (ahP (aO8 b).2.2) ([]=(S.EV b).1.1) ([]=(S.EV b).1.2.1/\[]=(S.EV b).1.2.2/\(aO8 b).2.2=(S.EV b).2) (na ((aOh b).2.1+(aO8 b).2.1)) (aKT ((aOh b).2.1+(aO8 b).2.1) (e6 b)) (pf (decide (e6 (q92 ((aOh b).2.1+(aO8 b).2.1) b)<32)) ([]=(S.EV b).1.1) ([]=(S.EV b).1.2.1/\[]=(S.EV b).1.2.2/\4=(S.EV b).2) (qJ (decide (32<e6 (q92 ((aOh b).2.1+(aO8 b).2.1) b))) ([]=(S.EV b).1.1) ([]=(S.EV b).1.2.1/\[]=(S.EV b).1.2.2/\2=(S.EV b).2) ((aOh b).1=(S.EV b).1.1) ((aO8 b).1=(S.EV b).1.2.1) (q92 ((aOh b).2.1+(aO8 b).2.1) b=(S.EV b).1.2.2/\0=(S.EV b).2)))))):=by
 refine aE ?_;refine⟨?_,?_,?_⟩;trivial;grind[nt,df,S.EV];intro h2;simp at h2;with_reducible and_intros
 iterate 2 (simp_all[S.xg])
 trivial;grind[nt,df,S.EV];intro h4;simp at h4;with_reducible and_intros
 . (have q1:=S.xg b 64 h2;have q2:=S.xg _ 64 h4;omega)
 . (have q1:=S.xg b 64 h2;have q2:=S.xg _ 64 h4;grind)
 . (have q1:=S.xg b 64 h2;have q2:=S.xg _ 64 h4;omega)
 . (have q1:=S.xg b 64 h2;have q2:=S.xg _ 64 h4;grind)
 simp_all[dt,S.EV]
 intro h6;refine⟨?_,?_⟩
 . grind[S.EV]
 grind[df,S.EV]
def arY(s1 s2:Int):aSW 0 s1 s2:=by
 refine aE ?_;grind[S.jO,S.uD]
def arZ(s1 s2:Int)(s3:M (B8×U))(hp:S.bn s3)(hf:Vg.gq J.aHW (s1,s2,s3)):aL5 (q79 (Bool.not (S.jO s1 s2)) (S.bn s3)) (aQg (wH (Bool.not (S.jO s1 s2)) (S.bg s3)) (S.amC s1 s2 s3) ((∃(x1:Nat),(0:Int)=x1/\S.we s1 s2 s3 x1)/\(∀(x2:Nat),S.we s1 s2 s3 x2->Fi (decide ((x2:Int)<length s3)) 0 x2 (length s3) (ec (aJz (fX (bu (S.Oc (aGr s3 x2).2 s1 s2)) (bu (aGr s3 x2).2)) (S.amC s1 s2 s3) x2 (∃(x3:Nat),aJ8 x2 x3 (S.we s1 s2 s3 x3) (S.len s3)))) (true=S.amC s1 s2 s3)))):=by
 refine aE ?_;have aDE:Vg.hlen s3:=hf.2.2.1.1;with_reducible and_intros
 trivial;iterate 2 grind
 . intro h3;simp at h3;exact S.aqx h3
 intro h4;refine⟨?_,?_⟩
 . grind[S.aAQ]
 intro x5 h6;refine⟨?_,?_⟩
 . intro h7;simp only [dt] at h7;with_reducible and_intros
   iterate 2 omega
   trivial
   . intro h8;simp at h8;exact S.akV h7 (Y? h8)
   intro h9;simp at h9;with_reducible and_intros
   iterate 2 omega
   refine⟨(x5+nat_lit 1),?_⟩;dsimp only;refine⟨?_,?_,?_⟩;omega;exact S.ahc h6 h7 (decide_eq_true h9);simp [S.ag,S.len];omega
 grind[df,S.akW]
def ar0(s1 s2:Int)(s3:M (B8×U))(hp:S.bn s3):S.bn s3/\yb (Bool.not (S.amC s1 s2 s3)) (0=(S.sJ s1 s2 s3).1.1) (0=(S.sJ s1 s2 s3).1.2.1/\0=(S.sJ s1 s2 s3).1.2.2.1/\[]=(S.sJ s1 s2 s3).1.2.2.2/\1=(S.sJ s1 s2 s3).2) (S.bn s3) (gl (ahP (S.dE s3)) (0=(S.sJ s1 s2 s3).1.1) (0=(S.sJ s1 s2 s3).1.2.1/\0=(S.sJ s1 s2 s3).1.2.2.1/\[]=(S.sJ s1 s2 s3).1.2.2.2/\1=(S.sJ s1 s2 s3).2) (length s3+1) (s1=(S.sJ s1 s2 s3).1.1/\s2=(S.sJ s1 s2 s3).1.2.1/\length s3+1=(S.sJ s1 s2 s3).1.2.2.1/\S.BI s3=(S.sJ s1 s2 s3).1.2.2.2/\0=(S.sJ s1 s2 s3).2)):=by
 refine aE ?_;have lI:=hp.1;refine⟨?_,?_,?_⟩;omega;grind[nt,S.Ú];intro h2;refine⟨?_,?_,?_⟩;omega;grind[nt,df,S.Kz];grind[S.Kz]
def ar1(s1 s2 s3:Int)(s4:B8):ec (ir (S.jO s1 s2) (q97 1 s3 (q97 s3 1099511627776 (decide (e6 s4=32))))=S.jH s1 s2 s3 s4):=by
 refine aE ?_;grind[S.jH,S.uD]
def ar2(docs:O)(s1 s2:Int):ec (aRF (ahP (S.lD docs s1 s2).2) (0=(S.cm docs s1 s2).1.1) (0=(S.cm docs s1 s2).1.2.1/\[]=(S.cm docs s1 s2).1.2.2/\(S.lD docs s1 s2).2=(S.cm docs s1 s2).2) (decide (s1=s2)) (0=(S.cm docs s1 s2).1.2.1/\[]=(S.cm docs s1 s2).1.2.2/\1=(S.cm docs s1 s2).2) (s1=(S.cm docs s1 s2).1.1) (s2=(S.cm docs s1 s2).1.2.1/\(S.lD docs s1 s2).1=(S.cm docs s1 s2).1.2.2/\0=(S.cm docs s1 s2).2)):=by
 refine aE ?_;simp_all[nt,df,S.ak0,nf,dt,S.ak2,S.ak3]
def ar3(l:M (Int×Int×Int×B8))(n:Int):aQg (aQl (length l)) (S.kW l n) ((∃(x1:Nat),((0:Int)=x1/\0=S.rowAt l x1)/\S.xT l x1)/\(∀(x2:Nat),S.xT l x2->Fi (decide ((x2:Int)<length l)) 0 x2 (length l) (aMc (Bool.not (Bool.rec false (Bool.rec false (decide ((amK l x2 0).2.2.2=(amK l x2 0).2.2.2)) (decide ((amK l x2 0).2.2.1=(amK l x2 0).2.2.1))) (Bool.rec false (decide ((amK l x2 0).2.1=(amK l x2 0).2.1)) (decide ((amK l x2 0).1=S.rowAt l x2)))))/\aJz (wH (Bool.not (Bool.rec false (Bool.rec false (decide ((amK l x2 0).2.2.2=(amK l x2 0).2.2.2)) (decide ((amK l x2 0).2.2.1=(amK l x2 0).2.2.1))) (Bool.rec false (decide ((amK l x2 0).2.1=(amK l x2 0).2.1)) (decide ((amK l x2 0).1=S.rowAt l x2))))) (S.jH (amK l x2 0).1 (amK l x2 0).2.1 (amK l x2 0).2.2.1 (amK l x2 0).2.2.2)) (S.kW l n) x2 (∃(x3:Nat),sB x2 x3 ((amK l x2 0).2.1=S.rowAt l x3) (S.xT l x3) (S.len l))) (decide (S.rowAt l x2=n)=S.kW l n))):=by
 refine aE ?_;refine V.dI (λh1=>?_) λh2=>?_
 . exact S.ak4 h1
 refine⟨?_,?_⟩
 . grind[S.Om,S.aqy]
 intro x3 h4;refine⟨?_,?_⟩
 . intro h5;simp only [dt] at h5;with_reducible and_intros
   iterate 2 omega
   . intro h6;trivial
   . intro h7;trivial
   . intro h8;refine S.ahh h4 h5 (S.Xz ?_);simpa [S.Xx,S.sg] using h8
   intro h9;with_reducible and_intros
   iterate 2 omega
   refine⟨(x3+nat_lit 1),?_⟩;dsimp only;with_reducible and_intros
   omega;exact(S.Xy l x3).symm
   . refine S.Û h4 h5 (S.Ü ?_);simpa [S.Xx,S.sg] using h9
   simp [S.ag,S.len];omega
 grind[df,S.ahi]
def ar4(s1 s2:Int):aSW 0 s1 s2:=by
 refine aE ?_;grind[S.jO,S.uD]
def ar5(s1 s2 s3:Int)(s4:B8):ec (ir (S.jO s1 s2) (ir (decide (0<s3)) (q97 s3 1099511627776 (decide (e6 s4=32))))=S.jH s1 s2 s3 s4):=by
 refine aE ?_;grind[S.jH,S.uD]
def ar6(l:M (Int×Int×Int×B8))(n:Int)(hf:Vg.gq J.aHY (l,n)):q14 (ake (aNd l)) (ake n=S.kW l n) ((∃(x1:Nat),(0:Int)=x1/\S.wg l x1)/\(∀(x2:Nat),S.wg l x2->yb (decide (x2<aNd l)) (uT 0 x2 (aNd l)) (aL5 (q79 (Bool.not (S.jH (amK l x2 0).1 (amK l x2 0).2.1 (amK l x2 0).2.2.1 (amK l x2 0).2.2.2)) (Fi (aJ7 x2) 0 x2 (aNd l) (na (x2-1)/\uT 0 (x2-1) (aNd l)) True)) (aJz (cE (Bool.not (S.jH (amK l x2 0).1 (amK l x2 0).2.1 (amK l x2 0).2.2.1 (amK l x2 0).2.2.2)) (ir (aJ7 x2) (fX (amK l x2 0).1 (amK l (x2-1) 0).2.1))) (S.kW l n) x2 (∃(x3:Nat),aJ8 x2 x3 (S.wg l x3) (S.len l)))) (pf (decide (aNd l<=64)) ((0:Int)<=0/\0<aNd l) (pf (ake (getD l (toNat 0) (0,0,0,[])).1) (na (aNd l-1)) (uT 0 (aNd l-1) (aNd l)) True) True) (ir (decide (aNd l<=64)) (ir (ake (getD l (toNat 0) (0,0,0,[])).1) (decide ((amK l (aNd l-1) 0).2.1=n)))=S.kW l n))):=by
 refine aE ?_;have PN:Vg.hlen l:=hf.1.1;refine⟨?_,?_⟩
 . simp_all[dt,S.kW,M!]
 intro h2;simp only [df] at h2;refine⟨?_,?_⟩
 . grind[S.aAR]
 intro x3 h4;refine V.dI (λh5=>?_) λgY=>?_
 . with_reducible and_intros
   iterate 2 omega
   trivial
   . intro h6;trivial
   . intro h7;refine V.dI (λh8=>?_) λh9=>?_
     . with_reducible and_intros
       iterate 6 omega
     trivial
   . intro de;try simp only [V.IG,nt,V.abe,dt,df,tn] at de
     refine S.akX h5 (S.ahg ?_);rcases de with q|⟨q1,q2⟩
     . exact .inl q
     right;rw [show toNat ((x3:Int)-1)=x3-1 by omega] at q2;exact⟨q1,q2⟩
   intro fC;try simp only [V.ajY,nf,V.ze,df,dt,tn] at fC
   with_reducible and_intros
   iterate 2 omega
   refine⟨(x3+nat_lit 1),?_⟩;try dsimp only
   refine⟨?_,?_,?_⟩;omega
   . refine S.ahf h4 h5 (S.akZ fC.1 ?_);rcases fC.2 with q|q
     . exact .inl q
     by_cases h0:0<(x3:Int)
     . rw [show toNat ((x3:Int)-1)=x3-1 by omega] at q;exact .inr q
     exact .inl h0
   simp only [S.ag,S.len];omega
 with_reducible and_intros
 . intro jM;with_reducible and_intros
   iterate 2 omega
   . intro jZ;with_reducible and_intros
     iterate 4 omega
   intro Cq;trivial
 . intro zP;trivial
 grind[S.akY]
def ar7(l:B8)(hp:S.small l):(l=[]->[]=l)/\wJ sy l/\[]++l=l:=by
 refine aE ?_;refine⟨?_,?_,?_⟩;grind
 . simp [S.small,Vg.ur,ln] at *;omega
 rfl
def ar8(l:M (B8×U))(hp:S.small l):(l=[]->[]=l)/\aSc (length (Vg.ur q34)+length l)/\[]++l=l:=by
 refine aE ?_;refine⟨?_,?_,?_⟩;grind
 . simp [S.small,Vg.ur,ln] at *;omega
 rfl
def ar9(a b:U)(hf:Vg.gq J.aHV (a,b)):aQg (fX (bu a) (bu b)) (S.I4 a b) ((∃(x1:Nat),(0:Int)=x1/\S.Hn a b x1)/\(∀(x2:Nat),S.Hn a b x2->Fi (decide (x2<bu a)) 0 x2 (bu a) (aL7 x2 (bu b) (aJz (fX (getD a (toNat x2) 0) (getD b (toNat x2) 0)) (S.I4 a b) x2 (∃(x3:Nat),aJ8 x2 x3 (S.Hn a b x3) (S.len a)))) (true=S.I4 a b))):=by
 refine aE ?_;have azs:Vg.hlen a:=hf.1.1;refine⟨?_,?_⟩
 . intro h1;simp at h1;exact(Y? (S.XK h1)).symm
 intro h2;simp at h2;refine⟨?_,?_⟩
 . refine⟨(nat_lit 0:Nat),?_⟩;dsimp only;refine⟨?_,?_⟩
   . omega
   exact S.alm h2
 intro x3 h4;refine V.dI (λh5=>?_) λh8=>?_
 . with_reducible and_intros
   iterate 4 omega
   . intro h6;simp at h6;exact(Y? (S.XL 0 h6)).symm
   intro h7;simp at h7;with_reducible and_intros
   iterate 2 omega
   refine⟨(x3+nat_lit 1),?_⟩;dsimp only;refine⟨?_,?_,?_⟩;omega;exact S.Sk 0 h4 h5 h7;simp [S.ag,S.len,S.gX,S.sY] at *;omega
 exact(K? (S.XJ h4 h8)).symm
def asa(a1:B8)(a2:U)(b1:B8)(b2:U):aMc (decide (a1=b1))/\ir (decide (a1=b1)) (S.I4 a2 b2)=S.BV a1 a2 b1 b2:=by
 refine aE ?_;simp_all[dt,df,S.BV,S.I4,decide]
def asb(a b:M (B8×U))(hf:Vg.Row.ok (Vg.TA.dp [.dR (.slice [.str,.slice [.int .i64]]),.dR (.slice [.str,.slice [.int .i64]]),.fn (.func 214) [] []]) (a,b)):aQg (fX (length a) (length b)) (S.sI a b) ((∃(x1:Nat),(0:Int)=x1/\S.Hb a b x1)/\(∀(x2:Nat),S.Hb a b x2->Fi (decide ((x2:Int)<length a)) 0 x2 (length a) (aL7 x2 (length b) (ec (aJz (Bool.not (S.BV (getD a (toNat x2) ([],[])).1 (getD a (toNat x2) ([],[])).2 (getD b (toNat x2) ([],[])).1 (getD b (toNat x2) ([],[])).2)) (S.sI a b) x2 (∃(x3:Nat),aJ8 x2 x3 (S.Hb a b x3) (S.len a))))) (true=S.sI a b))):=by
 refine aE ?_;have azs:Vg.hlen a:=hf.1.1;refine⟨?_,?_⟩
 . intro h1;simp at h1;exact(Y? (S.XK h1)).symm
 intro h2;simp at h2;refine⟨?_,?_⟩
 . refine⟨(nat_lit 0:Nat),?_⟩;dsimp only;refine⟨?_,?_⟩
   . omega
   exact S.alm h2
 intro x3 h4;refine V.dI (λh5=>?_) λh8=>?_
 . with_reducible and_intros
   iterate 4 omega
   trivial
   . intro h6;simp at h6;exact(Y? (S.XL ([],[]) (S.aqF h6))).symm
   intro h7;simp at h7;with_reducible and_intros
   iterate 2 omega
   refine⟨(x3+nat_lit 1),?_⟩;dsimp only;refine⟨?_,?_,?_⟩;omega;exact S.Sk ([],[]) h4 h5 (S.aqE h7);simp [S.ag,S.len,S.gX,S.sY] at *;omega
 exact(K? (S.XJ h4 h8)).symm
def asc(a b:M (B8×U)):ec (S.sI a b=S.sI a b):=by
 refine aE ?_;grind
def asd(y1:O)(y2:M (Int×Int×M (B8×U))):aQg (aPZ 1000 (ml y1) (aQl (length y2))) (S.bG y1 y2) ((∃(x1:Nat),(0:Int)=x1/\S.Ow y1 y2 x1)/\(∀(x2:Nat),S.Ow y1 y2 x2->yb (decide (x2<ml y1)) (uT 0 x2 (ml y1)) (aJz (Eh 2000 (mY y1 x2)) (S.bG y1 y2) x2 (∃(x3:Nat),aJ8 x2 x3 (S.Ow y1 y2 x3) (S.len y1))) (∃(x4:Nat),((0:Int)=x4/\0=S.ig y2 x4)/\S.BT y1 y2 x4) (∀(x5:Nat),S.BT y1 y2 x5->Fi (decide ((x5:Int)<length y2)) 0 x5 (length y2) (aQg (PB (fX (aNi y2 x5).1 (S.ig y2 x5)) (decide ((aNi y2 x5).2.1<=S.ig y2 x5)) (decide (ml y1<(aNi y2 x5).2.1))) (S.bG y1 y2) (aL5 (aMc (ahP (S.cm y1 (aNi y2 x5).1 (aNi y2 x5).2.1).2)) (aJz (wH (ahP (S.cm y1 (aNi y2 x5).1 (aNi y2 x5).2.1).2) (S.sI (S.cm y1 (aNi y2 x5).1 (aNi y2 x5).2.1).1.2.2 (aNi y2 x5).2.2)) (S.bG y1 y2) x5 (∃(x6:Nat),sB x5 x6 ((aNi y2 x5).2.1=S.ig y2 x6) (S.BT y1 y2 x6) (S.len y2))))) (true=S.bG y1 y2)))):=by
 refine aE ?_;refine⟨?_,?_⟩
 . intro h1;simp at h1;exact S.aGQ h1
 intro h2;simp at h2;refine⟨?_,?_⟩
 . refine⟨(nat_lit 0:Nat),?_⟩;dsimp only;refine⟨?_,?_⟩
   . omega
   exact⟨w!,w!,S.aqt _⟩
 intro x3 h4;refine V.dI (λh5=>?_) λh8=>?_
 . with_reducible and_intros
   iterate 2 omega
   . intro h6;try simp only [dt,tn] at h6
     exact S.aGR h5 h6
   intro h7;try simp only [df,tn] at h7
   with_reducible and_intros
   iterate 2 omega
   refine⟨(x3+nat_lit 1),?_⟩;try dsimp only
   refine⟨?_,?_,?_⟩;omega;exact⟨h4.1,h4.2.1,S.Ö h4.2.2 h5 w!⟩;simp only [S.ag,S.len,S.gX,S.sY] at *;omega
 refine⟨?_,?_⟩
 . refine⟨(nat_lit 0:Nat),?_⟩;dsimp only;with_reducible and_intros
   omega;rfl;exact S.aln h4 h8
 intro x9 de;refine⟨?_,?_⟩
 . intro fC;simp only [dt] at fC;with_reducible and_intros
   iterate 2 omega
   . intro gY;simp at gY;exact S.abv fC (S.aGS gY)
   intro jM;simp only [V.ajY,nf,dt,tn,df] at jM;with_reducible and_intros
   trivial
   . intro jZ;trivial
   . intro Cq;trivial
   . intro zP;simp at zP;exact S.abv fC (S.aGT de jM zP)
   intro HV;simp at HV;with_reducible and_intros
   iterate 2 omega
   refine⟨(x9+nat_lit 1),?_⟩;try dsimp only
   with_reducible and_intros
   omega;exact S.ahn _ _;exact S.alo de fC (S.aGU de jM HV);simp [S.ag,S.len,S.gX,S.sY] at *;omega
 grind[df,S.aqD]
def ase(y1:O)(y2:M (Int×Int×M (B8×U))):ec (yb (Bool.not (S.bG y1 y2)) ([]=(S.ao y1 y2).1) ([]=(S.ao y1 y2).2) (y1=(S.ao y1 y2).1) (y2=(S.ao y1 y2).2)):=by
 refine aE ?_;grind[nt,S.alp,nf,S.me]
def asf(y1:O)(y2:M (Int×Int×M (B8×U)))(hf:Vg.gq J.acz (y1,y2)):q14 (ake (length y2)) (0=S.cO y2) (q77 (length y2-1) 0 (length y2) ((getD y2 (toNat (length y2-1)) (0,0,[])).2.1=S.cO y2)):=by
 refine aE ?_;have JC:Vg.hlen y2:=hf.2.1.1;refine V.dI (λh1=>?_) λh2=>?_
 . exact S.aAU h1
 with_reducible and_intros
 iterate 4 omega
 exact S.aAV h2
def asg(y1:O)(y2:M (Int×Int×M (B8×U)))(hp:S.wo y1 y2)(hf:Vg.gq J.acz (y1,y2)):(0<=ml y1/\ml y1<=ml y1/\ml y1<=aRX ((24:Nat):Int))/\((0:Int)<=length y2/\(length y2:Int)<=length y2/\length y2<=aRX ((40:Nat):Int))/\(∃(x1:Nat),((0:Int)=x1/\replicate (toNat (ml y1)) sy=S.eo sy y1 x1)/\S.gX y1 x1)/\(∀(x2:Nat),S.gX y1 x2->yb (decide (x2<ml y1)) (uT 0 x2 (ml y1)) (S.small (q76 y1 (toNat x2))/\uT 0 x2 (length (S.eo sy y1 x2))/\toNat x2<length (S.eo sy y1 x2)/\HJ x2 (∃(x3:Nat),sB x2 x3 (List.set (S.eo sy y1 x2) (toNat x2) (q76 y1 (toNat x2))=S.eo sy y1 x3) (S.gX y1 x3) (S.len y1))) (∃(x4:Nat),((0:Int)=x4/\replicate (toNat (length y2)) (0,0,[])=S.eo (0,0,[]) y2 x4)/\S.gX y2 x4) (∀(x5:Nat),S.gX y2 x5->yb (decide ((x5:Int)<length y2)) (uT 0 x5 (length y2)) (S.small (aOX y2 x5).2.2/\uT 0 x5 (length (S.eo (0,0,[]) y2 x5))/\toNat x5<length (S.eo (0,0,[]) y2 x5)/\(∃(x6:Nat×Nat×M S.aY),((0:Int)=x6.1/\List.set (S.eo (0,0,[]) y2 x5) (toNat x5) ((aOX y2 x5).1,(aOX y2 x5).2.1,[])=x6.2.2/\toNat x5=x6.2.1/\(aOX y2 x5).2.2=(S.ba y2 x6.2.1).2.2)/\S.wu y2 x6.2.2 x6.2.1 x6.1/\(x5:Int)=x6.2.1)/\(∀(x7:Nat×Nat×M S.aY),S.wu y2 x7.2.2 x7.2.1 x7.1/\(x5:Int)=x7.2.1->yb (decide ((x7.1:Int)<length (aOX y2 x5).2.2)) (uT 0 x7.1 (length (aOX y2 x5).2.2)) (uT 0 x5 (length x7.2.2)/\toNat x5<length x7.2.2/\toNat x5=x7.2.1/\S.small (getD (aOX y2 x5).2.2 (toNat x7.1) ([],[])).2/\uT 0 x7.1 (length (S.ba y2 x7.2.1).2.2)/\toNat x7.1<length (S.ba y2 x7.2.1).2.2/\na (x7.1+1)/\(∃(x8:Nat×Nat×M S.aY),((x7.1:Int)+1=x8.1/\x7.2.2=x8.2.2/\x7.2.1=x8.2.1/\List.set (S.ba y2 x7.2.1).2.2 (toNat x7.1) ((getD (S.ba y2 x7.2.1).2.2 (toNat x7.1) ([],[])).1,(getD (aOX y2 x5).2.2 (toNat x7.1) ([],[])).2)=(S.ba y2 x8.2.1).2.2)/\(S.wu y2 x8.2.2 x8.2.1 x8.1/\(x5:Int)=x8.2.1)/\S.ag (S.sY y2 x8.2.1) x8.1<S.ag (S.sY y2 x7.2.1) x7.1)) (x7.2.1<length x7.2.2) (HJ x5 (∃(x9:Nat),sB x5 x9 (List.set x7.2.2 x7.2.1 ((getD x7.2.2 x7.2.1 (0,0,[])).1,(getD x7.2.2 x7.2.1 (0,0,[])).2.1,(S.ba y2 x7.2.1).2.2)=S.eo (0,0,[]) y2 x9) (S.gX y2 x9) (S.len y2))))) (S.eo sy y1 x2=y1) (S.eo (0,0,[]) y2 x5=y2))):=by
 refine aE ?_;have ğ:Vg.hlen y1:=hf.1.1;have JC:Vg.hlen y2:=hf.2.1.1;clear hf;with_reducible and_intros
 iterate 2 omega
 . have:=hp.1;omega
 iterate 2 omega
 . have:=hp.2.1;omega
 grind[S.abw,S.ag,S.len,S.gX,S.sY];intro x1 h2;refine V.dI (λh3=>?_) λh4=>?_
 . with_reducible and_intros
   iterate 2 omega
   exact S.XN hp _;omega;exact(S.C2 _ h3).1;exact(S.C2 _ h3).2;iterate 2 omega
   refine⟨(x1+1),?_⟩;try dsimp only
   with_reducible and_intros
   omega;exact S.XM _ h3
   . simp only [S.ag,S.len,S.gX,S.sY] at *;omega
   simp only [S.ag,S.len,S.gX,S.sY] at *;omega
 refine⟨?_,?_⟩
 . refine⟨0,?_⟩;try dsimp only
   with_reducible and_intros
   omega;exact S.abw _ _;simp only [S.ag,S.len,S.gX,S.sY] at *;omega
 intro x5 h6;refine⟨?_,?_⟩
 . intro h7;try simp only [dt] at h7
   with_reducible and_intros
   iterate 2 omega
   exact(S.E1 hp _).1;omega;exact(S.C2 _ h7).1;exact(S.C2 _ h7).2
   . refine⟨(0,((toNat (↑x5:Int)),(List.set (S.eo ((0:Int),(0:Int),[]) y2 x5) (toNat (↑x5:Int)) ((getD y2 (toNat (↑x5:Int)) ((0:Int),(0:Int),[])).1,((getD y2 (toNat (↑x5:Int)) ((0:Int),(0:Int),[])).2).1,[])))),?_⟩;try dsimp only
     with_reducible and_intros
     omega;rfl;omega;rfl;exact S.aAW h7;omega
   intro x8 h9;refine⟨?_,?_⟩
   . intro de;try simp only [dt,tn] at de
     with_reducible and_intros
     omega;trivial;omega
     . have q:=h9.1.2.2.1;have q3:=h9.2;omega
     . have q:=h9.1.2.2.1;have q2:=h9.1.1;have q3:=h9.2;omega
     omega;exact(S.E1 hp _).2 _;omega
     iterate 2
      . have e:x5=x8.2.1:=w!;subst e;first|exact de|exact Int.ofNat_lt.1 de
     omega
     . have q:=(S.E1 hp x5).1;exact S.ahp q de
     refine⟨((x8.1+1),((x8.2.1),(x8.2.2))),?_⟩;try dsimp only
     with_reducible and_intros
     omega;rfl;omega
     . have e:x5=x8.2.1:=w!;subst e;exact S.CD _ _ _
     . have e:x5=x8.2.1:=w!;subst e;exact S.ahq h9.1 de
     omega;have e:x5=x8.2.1:=w!;subst e;exact S.ahr de
   intro fC;with_reducible and_intros
   . have q:=h9.1.2.2.1;have q3:=h9.2;omega
   iterate 2 omega
   refine⟨(x5+1),?_⟩;try dsimp only
   with_reducible and_intros
   omega
   . have e:x5=x8.2.1:=w!;subst e;exact S.alq h9.1
   . simp only [S.ag,S.len,S.gX,S.sY] at *;omega
   simp only [S.ag,S.len,S.gX,S.sY] at *;omega
 grind[df,S.aho]
def ash(y1:O)(y2:M (Int×Int×M (B8×U))):ec (ec (S.cO (S.ao y1 y2).2=S.mc y1 y2)):=by
 refine aE ?_;refine⟨?_,?_,?_⟩;iterate 2 trivial
 rfl
def asi(y1:O)(y2:M (Int×Int×M (B8×U)))(d:B8):ec (pf (Eh 2000 d) ((S.ao y1 y2).1=(S.cP y1 y2 d).1.1) ((S.ao y1 y2).2=(S.cP y1 y2 d).1.2/\1=(S.cP y1 y2 d).2) (qJ (decide ((1000:Int)<=length (S.ao y1 y2).1)) ((S.ao y1 y2).1=(S.cP y1 y2 d).1.1) ((S.ao y1 y2).2=(S.cP y1 y2 d).1.2/\3=(S.cP y1 y2 d).2) (S.wo (S.ao y1 y2).1 (S.ao y1 y2).2) (S.small d) (aAu (length (S.ao y1 y2).1+length [d])/\(S.ao y1 y2).1++[d]=(S.cP y1 y2 d).1.1/\(S.ao y1 y2).2=(S.cP y1 y2 d).1.2/\0=(S.cP y1 y2 d).2))):=by
 refine aE ?_;refine⟨?_,?_,?_⟩;trivial;simp_all[dt,S.aGV]
 intro h2;refine⟨?_,?_⟩
 . simp_all[dt,S.aGW]
 grind[df,S.KE,S.small,S.yk,List.length_singleton,S.ayC]
def asj(y1:O)(y2:M (Int×Int×M (B8×U))):ec (ec (pf (decide (S.cO (S.ao y1 y2).2=ml (S.ao y1 y2).1)) ((S.ao y1 y2).1=(S.bY y1 y2).1.1) ((S.ao y1 y2).2=(S.bY y1 y2).1.2/\5=(S.bY y1 y2).2) (yb (decide ((64:Int)<=length (S.ao y1 y2).2)) ((S.ao y1 y2).1=(S.bY y1 y2).1.1) ((S.ao y1 y2).2=(S.bY y1 y2).1.2/\3=(S.bY y1 y2).2) True (qJ (ahP (S.cm (S.ao y1 y2).1 (S.cO (S.ao y1 y2).2) (ml (S.ao y1 y2).1)).2) ((S.ao y1 y2).1=(S.bY y1 y2).1.1) ((S.ao y1 y2).2=(S.bY y1 y2).1.2/\(S.cm (S.ao y1 y2).1 (S.cO (S.ao y1 y2).2) (ml (S.ao y1 y2).1)).2=(S.bY y1 y2).2) (S.wo (S.ao y1 y2).1 (S.ao y1 y2).2) (aSc (length (S.ao y1 y2).2+length [((S.cm (S.ao y1 y2).1 (S.cO (S.ao y1 y2).2) (ml (S.ao y1 y2).1)).1.1,(S.cm (S.ao y1 y2).1 (S.cO (S.ao y1 y2).2) (ml (S.ao y1 y2).1)).1.2.1,(S.cm (S.ao y1 y2).1 (S.cO (S.ao y1 y2).2) (ml (S.ao y1 y2).1)).1.2.2)])) ((S.ao y1 y2).1=(S.bY y1 y2).1.1/\(S.ao y1 y2).2++[((S.cm (S.ao y1 y2).1 (S.cO (S.ao y1 y2).2) (ml (S.ao y1 y2).1)).1.1,(S.cm (S.ao y1 y2).1 (S.cO (S.ao y1 y2).2) (ml (S.ao y1 y2).1)).1.2.1,(S.cm (S.ao y1 y2).1 (S.cO (S.ao y1 y2).2) (ml (S.ao y1 y2).1)).1.2.2)]=(S.bY y1 y2).1.2/\0=(S.bY y1 y2).2))))):=by
 refine aE ?_;refine⟨?_,?_,?_,?_⟩;iterate 2 trivial
 simp_all[dt,S.aGX]
 intro h2;refine⟨?_,?_⟩
 . simp_all[dt,S.aGY]
 intro h4;refine⟨?_,?_,?_⟩;trivial;grind[nt,df,S.ayD];grind[S.KE,S.yk,List.length_singleton,S.aGZ]
def asl(y1:O)(y2:M (Int×Int×M (B8×U)))(hf:Vg.gq J.acz (y1,y2)):aL5 ((0:Int)<=0/\aKT (length (S.ao y1 y2).2) (aRX ((40:Nat):Int))) ((∃(x1:Nat),((0:Int)=x1/\replicate (toNat 0) (0,0,0,[])=S.lE y1 y2 x1)/\x1<=S.gL y1 y2)/\(∀(x2:Nat),x2<=S.gL y1 y2->Fi (decide ((x2:Int)<length (S.ao y1 y2).2)) 0 x2 (length (S.ao y1 y2).2) (S.bn (aR3 y1 y2 x2).2.2/\aSc (length (S.lE y1 y2 x2)+length [((aOE y1 y2 x2).1,(aOE y1 y2 x2).2.1,(aOE y1 y2 x2).2.2.1,(aOE y1 y2 x2).2.2.2)])/\HJ x2 (∃(x3:Nat),sB x2 x3 (S.lE y1 y2 x2++[((aOE y1 y2 x2).1,(aOE y1 y2 x2).2.1,(aOE y1 y2 x2).2.2.1,(aOE y1 y2 x2).2.2.2)]=S.lE y1 y2 x3) (x3<=S.gL y1 y2) (S.gL y1 y2))) (S.lE y1 y2 x2=S.cB y1 y2))):=by
 refine aE ?_;have ğ:Vg.hlen y1:=hf.1.1;have JC:Vg.hlen y2:=hf.2.1.1;clear hf;with_reducible and_intros
 trivial;iterate 2 omega
 grind[S.yk]
 . refine⟨0,?_⟩;try dsimp only
   with_reducible and_intros
   omega;rfl;omega
 intro x1 h2;refine⟨?_,?_⟩
 . intro h3;try simp only [dt] at h3
   with_reducible and_intros
   iterate 2 omega
   exact(S.Sl y1 y2 (k:=x1) w!).2
   . have:=S.UC y1 y2 x1;simp only [C?];omega
   omega
   . have:=(S.yk y1 y2).2.1;omega
   refine⟨(x1+1),?_⟩;try dsimp only
   with_reducible and_intros
   omega;exact S.alr h3
   . simp only [S.gL,S.ag] at *;omega
   simp only [S.gL,S.ag] at *;omega
 grind[df,S.aqH]
def asm(y1:Int)(y2:B8)(y3:M (Int×Int×Int×B8)):q14 (aNc y1) (q14 (decide (y1<=1000)) (aMc (decide (e6 y2=32))) True) True/\ir (aNc y1) (ir (decide (y1<=1000)) (ir (decide (e6 y2=32)) (S.kW y3 y1)))=S.bN y1 y2 y3:=by
 refine aE ?_;grind[S.aqO]
def asn(y1:O)(y2:M (Int×Int×M (B8×U))):aL5 (aMc (Bool.not (S.bG y1 y2))) (qJ (cE (Bool.not (S.bG y1 y2)) (fX (S.mc y1 y2) (ml y1))) (0=(S.iv y1 y2).1.1) ([]=(S.iv y1 y2).1.2.1/\[]=(S.iv y1 y2).1.2.2/\7=(S.iv y1 y2).2) (S.l8 y1) (S.small (S.leaves y1)) (yb (ahP (S.xe (S.leaves y1))) (0=(S.iv y1 y2).1.1) ([]=(S.iv y1 y2).1.2.1/\[]=(S.iv y1 y2).1.2.2/\S.xe (S.leaves y1)=(S.iv y1 y2).2) True (ml y1=(S.iv y1 y2).1.1/\S.zp (S.leaves y1)=(S.iv y1 y2).1.2.1/\S.cB y1 y2=(S.iv y1 y2).1.2.2/\0=(S.iv y1 y2).2))):=by
 refine aE ?_;with_reducible and_intros
 trivial;iterate 2 grind
 simp_all[V.IG,nt,df,S.aqP]
 intro h4;simp at h4;refine⟨?_,?_,?_,?_⟩;grind[S.OC];exact(S.OC h4.1).2;grind[nt,df,S.XT];simp_all[nf,dt,S.XS,S.XT]
def aso(v q:Int)(hp:S.fT v=false/\q=0):yb (ake q) (q75 sy) (S.xV v=0/\S.mn sy v=S.num v) (q=0) ([]=S.num v):=by
 refine aE ?_;refine⟨?_,?_⟩
 . grind[S.ayE]
 grind
def asp(v q:Int)(l:B8)(hp:S.fT v=false/\q=0/\l.length<=35184372088832):yb (ake q) (q75 l) (S.xV v=0/\S.mn l v=l++S.num v) (q=0) (l=l++S.num v):=by
 refine aE ?_;refine⟨?_,?_⟩
 . grind[S.ayE]
 grind
def asq(d l:B8)(hp:l.length<=35184372088832/\d.length<=35184372088832):wJ l d/\l++d=l++d:=by
 refine aE ?_;grind
def asr(y1:Int)(y2:B8)(y3:M (Int×Int×Int×B8))(hf:Vg.gq J.vg (y1,y2,y3)):ec (qJ (Bool.not (S.bN y1 y2 y3)) (1=(S.hW y1 y2 y3).2) ([]=(S.hW y1 y2 y3).1) (S.fT y1=false/\(0:Int)=0) (q75 (S.num y1)/\q75 y2) ((S.fT (length y3)=false/\(0:Int)=0/\q75 (S.num y1++y2))/\(∃(x1:Nat),((0:Int)=x1/\S.num y1++y2++S.num (length y3)=S.sK y1 y2 y3 x1/\(0:Int)=0)/\S.D7 y1 y2 y3 x1)/\(∀(x2:Nat),S.D7 y1 y2 y3 x2->Fi (decide ((x2:Int)<length y3)) 0 x2 (length y3) ((S.fT (amK y3 x2 0).2.1=false/\(0:Int)=0/\q75 (S.sK y1 y2 y3 x2))/\(S.fT (amK y3 x2 0).2.2.1=false/\(0:Int)=0/\q75 (S.sK y1 y2 y3 x2++S.num (amK y3 x2 0).2.1))/\(q75 (S.sK y1 y2 y3 x2++S.num (amK y3 x2 0).2.1++S.num (amK y3 x2 0).2.2.1)/\q75 (amK y3 x2 0).2.2.2)/\HJ x2 (∃(x3:Nat),sB x2 x3 (S.sK y1 y2 y3 x2++S.num (amK y3 x2 0).2.1++S.num (amK y3 x2 0).2.2.1++(amK y3 x2 0).2.2.2=S.sK y1 y2 y3 x3/\(0:Int)=0) (S.D7 y1 y2 y3 x3) (S.len y3))) (pf (aRZ 0) (0=(S.hW y1 y2 y3).2) ([]=(S.hW y1 y2 y3).1) (0=(S.hW y1 y2 y3).2/\S.sK y1 y2 y3 x2=(S.hW y1 y2 y3).1))))):=by
 refine aE ?_;have anr:Vg.hlen y3:=hf.2.2.1.1;clear hf;refine⟨?_,?_,?_⟩;trivial;grind[nt,S.í];intro h2;try simp at h2
 with_reducible and_intros
 grind[S.jm,S.OD];rfl;grind[S.cX];grind[S.jm];grind[S.rJ,S.jm,S.OD];rfl;grind[S.cX,S.jm,List.length_append]
 . refine⟨0,?_⟩;try dsimp only
   with_reducible and_intros
   omega;grind[S.ayF];rfl;exact⟨h2,Nat.zero_le _⟩
 intro x3 h4;refine⟨?_,?_⟩
 . intro h5;try simp only [dt] at h5
   with_reducible and_intros
   iterate 2 omega
   exact(S.E5 h4 h5).1;rfl
   . have:=S.C6 h4;omega
   exact(S.E5 h4 h5).2.1;rfl
   . have q:=S.C6 h4;have q2:=S.cX (y3.getD (toNat (x3:Int)) (0,0,0,[])).2.1;simp only [K!];omega
   . have q:=S.C6 h4;have q2:=S.cX (y3.getD (toNat (x3:Int)) (0,0,0,[])).2.1;have q3:=S.cX (y3.getD (toNat (x3:Int)) (0,0,0,[])).2.2.1;simp only [K!];omega
   exact X? (Nat.le_of_eq (S.E5 h4 h5).2.2) (by decide);iterate 2 omega
   refine⟨(x3+1),?_⟩;try dsimp only
   with_reducible and_intros
   omega;exact S.XU h5;rfl;exact⟨h4.1,w!⟩;simp only [S.ag,S.len];omega
 simp_all[df,nt,nf,dt,S.LQ,S.UD]
def ass(r1:B8)(r2 r3:Int)(hp:r1.length<=140737488355328):q39 r1/\(S.af r1 r2 r3).2=(S.af r1 r2 r3).2/\(S.af r1 r2 r3).1.1=r1/\(S.af r1 r2 r3).1.2.1=(S.af r1 r2 r3).1.2.1/\(S.af r1 r2 r3).1.2.2=(S.af r1 r2 r3).1.2.2:=by
 refine aE ?_;grind[S.C4]
def ast(r1:B8)(r2 r3:Int)(hp:r1.length<=140737488355328):q39 r1/\(S.ar r1 r2 r3).2=(S.ar r1 r2 r3).2/\(S.ar r1 r2 r3).1.1=r1/\(S.ar r1 r2 r3).1.2.1=(S.ar r1 r2 r3).1.2.1/\(S.ar r1 r2 r3).1.2.2=(S.ar r1 r2 r3).1.2.2:=by
 refine aE ?_;simp_all[S.C4]
def asu(a:Int)(r1:B8)(r2 r3:Int)(hp:r1.length<=140737488355328):q39 r1/\q39 r1/\q39 r1/\a=a/\(S.af r1 r2 r3).2=(S.tC r1 r2 r3 a).2.2.1/\(S.af r1 (S.af r1 r2 r3).1.2.1 (S.af r1 r2 r3).1.2.2).2=(S.tC r1 r2 r3 a).2.2.2.1/\(S.ar r1 (S.af r1 (S.af r1 r2 r3).1.2.1 (S.af r1 r2 r3).1.2.2).1.2.1 (S.af r1 (S.af r1 r2 r3).1.2.1 (S.af r1 r2 r3).1.2.2).1.2.2).2=(S.tC r1 r2 r3 a).2.2.2.2/\(S.af r1 r2 r3).2=(S.tC r1 r2 r3 a).2.2.1/\0=0/\0=0/\r1=r1/\(S.ar r1 (S.af r1 (S.af r1 r2 r3).1.2.1 (S.af r1 r2 r3).1.2.2).1.2.1 (S.af r1 (S.af r1 r2 r3).1.2.1 (S.af r1 r2 r3).1.2.2).1.2.2).1.2.1=(S.tC r1 r2 r3 a).1.1/\(S.ar r1 (S.af r1 (S.af r1 r2 r3).1.2.1 (S.af r1 r2 r3).1.2.2).1.2.1 (S.af r1 (S.af r1 r2 r3).1.2.1 (S.af r1 r2 r3).1.2.2).1.2.2).1.2.2=(S.tC r1 r2 r3 a).1.2:=by
 refine aE ?_;with_reducible and_intros
 iterate 3 omega
 iterate 10 rfl
def asv(b:B8)(hp:b.length<=140737488355328):q39 b/\q39 b/\q39 b/\yb (aQl (S.af b (aOu b).1.2.1 (aOu b).1.2.2).2) (0=(S.hR b).1.1) ([]=(S.hR b).1.2.1/\[]=(S.hR b).1.2.2/\2=(S.hR b).2) (∃(x1:Nat),((0:Int)=x1/\b=b/\(S.af b (aOu b).1.2.1 (aOu b).1.2.2).1.2.1=(S.jJ b x1).1.1/\(S.af b (aOu b).1.2.1 (aOu b).1.2.2).1.2.2=(S.jJ b x1).1.2/\0=(S.jJ b x1).2.1/\0=0/\0=0/\(S.af b 0 0).2=(aM4 b).1/\(aOu b).2=(aM4 b).2.1/\[]=(S.jJ b x1).2.2)/\x1<=S.pN b/\(aM4 b).2.2<=64) (∀(x2:Nat),x2<=S.pN b/\(aM4 b).2.2<=64->yb (decide (x2<(S.af b (aOu b).1.2.1 (aOu b).1.2.2).2)) (q39 b) (aSc (length (S.jJ b x2).2.2+length [((S.jJ b x2).2.1,(aOw b x2).2.2.1,(aOw b x2).2.2.2.1,(aOw b x2).2.2.2.2)])/\HJ x2 (∃(x3:Nat),sB x2 x3 (b=b/\(aOw b x2).1.1=(S.jJ b x3).1.1/\(aOw b x2).1.2=(S.jJ b x3).1.2/\(aOw b x2).2.2.1=(S.jJ b x3).2.1/\0=0/\0=0/\(aM4 b).1=(aM4 b).1/\(aM4 b).2.1=(aM4 b).2.1/\(S.jJ b x2).2.2++[((S.jJ b x2).2.1,(aOw b x2).2.2.1,(aOw b x2).2.2.2.1,(aOw b x2).2.2.2.2)]=(S.jJ b x3).2.2) (x3<=S.pN b/\(aM4 b).2.2<=64) (S.pN b))) True (yb (ahP (S.done b (S.jJ b x2).1.1 (S.jJ b x2).1.2)) (0=(S.hR b).1.1) ([]=(S.hR b).1.2.1/\[]=(S.hR b).1.2.2/\S.done b (S.jJ b x2).1.1 (S.jJ b x2).1.2=(S.hR b).2) True (qJ (Bool.not (S.bN (aM4 b).1 (aM4 b).2.1 (S.jJ b x2).2.2)) (0=(S.hR b).1.1) ([]=(S.hR b).1.2.1/\[]=(S.hR b).1.2.2/\2=(S.hR b).2) ((aM4 b).1=(S.hR b).1.1) ((aM4 b).2.1=(S.hR b).1.2.1) ((S.jJ b x2).2.2=(S.hR b).1.2.2/\0=(S.hR b).2)))):=by
 refine aE ?_;with_reducible and_intros
 iterate 3 omega
 . intro h1;simp at h1;refine⟨?_,?_,?_,?_⟩;iterate 3 (rw [S.XR h1])
   rw [S.XR h1]
 intro h2;simp only [df] at h2;refine⟨?_,?_⟩
 . refine⟨(nat_lit 0:Nat),?_⟩;dsimp only;with_reducible and_intros
   omega;iterate 9 rfl
   omega;exact Int.not_lt.1 h2
 intro x3 h4;refine V.dI (λh5=>?_) λh6=>?_
 . with_reducible and_intros
   omega
   . have q:=S.aAY b x3;have q2:=h4.2;have q3:(x3:Int)<(S.iw b).1.2.2:=h5;simp only [C?];omega
   omega
   . have q2:=h4.2;have q3:(x3:Int)<(S.iw b).1.2.2:=h5;omega
   refine⟨(x3+nat_lit 1),?_⟩;try dsimp only
   with_reducible and_intros
   omega;iterate 9 rfl
   exact S.alw h5;omega;have q:=S.alw h5;simp only [S.ag];omega
 refine⟨?_,?_,?_⟩;trivial
 . intro h7;simp at h7;refine⟨?_,?_,?_,?_⟩;iterate 3 (rw [S.ayG h2 h4.1 h6 h7])
   rw [S.ayG h2 h4.1 h6 h7]
 intro h8;simp at h8;refine⟨?_,?_,?_⟩;trivial
 . intro h9;simp at h9;refine⟨?_,?_,?_,?_⟩;iterate 3 (rw [S.ayH h2 h4.1 h6 h8 h9])
   rw [S.ayH h2 h4.1 h6 h8 h9]
 intro de;simp at de;refine⟨?_,?_,?_,?_⟩;iterate 3 (rw [S.ayI h2 h4.1 h6 h8 de])
 rw [S.ayI h2 h4.1 h6 h8 de]
def asw(d:M (B8×U))(t:B8)(hp:S.bn d/\S.small t):S.bn d/\q79 (ahP (S.dE d)) (S.small t)/\yb (wH (ahP (S.dE d)) (S.isTerm t)) (0=(S.ij d t).1.1) ([]=(S.ij d t).1.2.1/\[]=(S.ij d t).1.2.2.1/\[]=(S.ij d t).1.2.2.2.1/\[]=(S.ij d t).1.2.2.2.2.1/\[]=(S.ij d t).1.2.2.2.2.2/\1=(S.ij d t).2) (S.bn d) (q77 (S.bt d t+1) 0 (length (S.bU d)) (toNat (S.bt d t+1)<length (S.bU d)/\q39 (q76 (S.bU d) (toNat (S.bt d t+1)))/\S.l8 (S.bU d)/\S.dM (S.leaves (S.bU d))/\qJ (S.k9 d t) (S.bn d) (ec (S.bt d t+1=(S.ij d t).1.1/\(S.bj (q76 (S.bU d) (toNat (S.bt d t+1)))).1.1=(S.ij d t).1.2.1/\(S.bj (q76 (S.bU d) (toNat (S.bt d t+1)))).1.2.1=(S.ij d t).1.2.2.1/\(S.bj (q76 (S.bU d) (toNat (S.bt d t+1)))).1.2.2=(S.ij d t).1.2.2.2.1/\S.rK (S.leaves (S.bU d)) (S.bt d t+1)=(S.ij d t).1.2.2.2.2.1/\S.qw (S.qz d t)=(S.ij d t).1.2.2.2.2.2/\0=(S.ij d t).2)) (S.bt d t+1=(S.ij d t).1.1) ((S.bj (q76 (S.bU d) (toNat (S.bt d t+1)))).1.1=(S.ij d t).1.2.1) ((S.bj (q76 (S.bU d) (toNat (S.bt d t+1)))).1.2.1=(S.ij d t).1.2.2.1/\(S.bj (q76 (S.bU d) (toNat (S.bt d t+1)))).1.2.2=(S.ij d t).1.2.2.2.1/\S.rK (S.leaves (S.bU d)) (S.bt d t+1)=(S.ij d t).1.2.2.2.2.1/\[]=(S.ij d t).1.2.2.2.2.2/\0=(S.ij d t).2))):=by
 refine aE ?_;have lI:=hp.1;with_reducible and_intros
 omega;iterate 2 grind
 . intro h3;simp at h3;with_reducible and_intros
   iterate 6
    . rw [S.abD w!];rfl
   grind[S.abD]
 intro h4;simp at h4;with_reducible and_intros
 omega
 iterate 2
  . (have q:=S.X2 lI (S.Hf (And.left (by assumption))) t;omega)
 iterate 3 (simp_all[S.X2,S.Hf,And.left])
 . (have q:=S.X2 lI (S.Hf (And.left (by assumption))) t;omega)
 iterate 2
  . (have q:=S.X2 lI (S.Hf (And.left (by assumption))) t;grind)
 iterate 2 (simp_all[S.dE,S.isTerm,S.OJ,S.Hf,S.aA4,M!,J!])
def asx(l:O)(hp:S.small l):q14 (decide ((aNl l:Int)<2)) (l=S.bW l) ((∃(x1:Nat),(1:Int)=x1/\S.ot l x1)/\(∀(x2:Nat),S.ot l x2->Fi (decide ((x2:Int)<aNl l)) 0 x2 (aNl l) (aMy x2<aNl l/\q77 (x2-1) 0 (aNl l) (toNat (x2-1)<aNl l/\gl (decide (q76 l (aMy x2)=q76 l (toNat (x2-1)))) (aKT x2 (aNl l)) ((∃(x3:Nat×Nat×O×Nat),((x2:Int)=x3.1/\(1:Int)=x3.2.1/\l=x3.2.2.1)/\S.jF l x3.2.2.2 x3.1 x3.2.1 x3.2.2.1/\(x2:Int)=x3.2.2.2)/\(∀(x4:Nat×Nat×O×Nat),S.jF l x4.2.2.2 x4.1 x4.2.1 x4.2.2.1/\(x2:Int)=x4.2.2.2->qJ (decide ((x4.2.1:Int)<((aNl l-aMy x2:Nat):Int))) (uT 0 x4.2.1 ((aNl l-aMy x2:Nat):Int)) (aMy x2+toNat x4.2.1<aOk x4/\q77 (x4.2.1-1) 0 ((aNl l-aMy x2:Nat):Int) (aMy x2+toNat (x4.2.1-1)<aOk x4/\Fi (aP9 (q76 x4.2.2.1 (aMy x2+toNat x4.2.1)) (q76 x4.2.2.1 (aMy x2+toNat (x4.2.1-1)))) 0 x4.2.1 ((aNl l-aMy x2:Nat):Int) (aMy x2+toNat x4.2.1<aOk x4/\uT 0 x4.1 (aOk x4)/\aOz x4<aOk x4/\na (x4.1+1)) True/\na (x4.2.1+1)/\(∃(x5:Nat×Nat×O×Nat),((bif aP9 (q76 x4.2.2.1 (aMy x2+toNat x4.2.1)) (q76 x4.2.2.1 (aMy x2+toNat (x4.2.1-1))) then(x4.1:Int)+1 else(x4.1:Int))=x5.1/\(x4.2.1:Int)+1=x5.2.1/\(bif aP9 (q76 x4.2.2.1 (aMy x2+toNat x4.2.1)) (q76 x4.2.2.1 (aMy x2+toNat (x4.2.1-1))) then List.set x4.2.2.1 (aOz x4) (q76 x4.2.2.1 (aMy x2+toNat x4.2.1)) else x4.2.2.1)=x5.2.2.1)/\(S.jF l x5.2.2.2 x5.1 x5.2.1 x5.2.2.1/\(x2:Int)=x5.2.2.2)/\q43 (S.len l) x5.2.1 x4.2.1))) (aKT x4.1 (aOk x4)) (aOz x4+(aOk x4-aOz x4)<=aOk x4) (sC x4.1 (ml (aS4 x4)) (take (aOz x4) (aS4 x4)=S.bW l)))) (x2+1) (∃(x6:Nat),aJ8 x2 x6 (S.ot l x6) (S.len l)))) (l=S.bW l))):=by
 refine aE ?_;have lI:l.length<=1099511627776:=hp;refine V.dI (λh1=>?_) λh2=>?_
 . exact S.N7 h1
 refine⟨?_,?_⟩
 . grind[S.akF]
 intro x3 h4;refine⟨?_,?_⟩
 . intro h5;try simp only [dt] at h5
   with_reducible and_intros
   iterate 5 omega
   . have:=h4.1;omega
   iterate 2 omega
   . intro h6;try simp only [dt,tn] at h6
     with_reducible and_intros
     iterate 2 omega
     . refine⟨((x3),(1,((l),(x3)))),?_⟩;grind[S.abn]
     intro x7 h8;refine⟨?_,?_⟩
     . intro h9;try simp at h9
       with_reducible and_intros
       iterate 2 omega
       . have q1:=h8.1.1;have q2:=h8.1.2.1;have q3:=h8.1.2.2.2.1;have q4:=h8.1.2.2.2.2.1;omega
       iterate 2 omega
       . have q1:=h8.1.1;omega
       omega
       . have q1:=h8.1.1;have q2:=h8.1.2.1;have q3:=h8.1.2.2.2.1;have q4:=h8.1.2.2.2.2.1;omega
       . intro de;with_reducible and_intros
         iterate 2 omega
         . have q1:=h8.1.1;have q2:=h8.1.2.1;have q3:=h8.1.2.2.2.1;have q4:=h8.1.2.2.2.2.1;have q5:=h8.2;omega
         omega
         iterate 2
          . have q1:=h8.1.1;have q2:=h8.1.2.1;have q3:=h8.1.2.2.2.1;have q4:=h8.1.2.2.2.2.1;have q5:=h8.2;omega
         omega;have q1:=h8.1.1;have q2:=h8.1.2.1;have q3:=h8.1.2.2.2.1;have q4:=h8.1.2.2.2.2.1;have q5:=h8.2;omega
       . intro fC;trivial
       iterate 2 omega
       refine⟨((toNat (bif !Decidable.decide (getD (x7.2.2.1) (toNat (↑x3:Int)+toNat (↑(x7.2.1):Int)) []=getD (x7.2.2.1) (toNat (↑x3:Int)+toNat ((↑(x7.2.1):Int)-(1:Int))) []) then(↑(x7.1):Int)+(1:Int) else(↑(x7.1):Int))),((x7.2.1+1),((bif !Decidable.decide (getD (x7.2.2.1) (toNat (↑x3:Int)+toNat (↑(x7.2.1):Int)) []=getD (x7.2.2.1) (toNat (↑x3:Int)+toNat ((↑(x7.2.1):Int)-(1:Int))) []) then List.set (x7.2.2.1) (toNat (↑(x7.1):Int)) (getD (x7.2.2.1) (toNat (↑x3:Int)+toNat (↑(x7.2.1):Int)) []) else Prod.fst (x7.2.2)),(x3)))),?_⟩;try dsimp only
       with_reducible and_intros
       . generalize (!decide (getD x7.2.2.1 (toNat (x3:Int)+toNat (x7.2.1:Int)) []=getD x7.2.2.1 (toNat (x3:Int)+toNat ((x7.2.1:Int)-1)) []))=c;cases c<;>simp<;>omega
       omega;trivial
       . have q1:=h8.1.1;have e3:x7.2.2.2=x3:=by have:=h8.2;omega
         have hi:=h8.1;rw [e3] at hi;have e1:toNat (x3:Int)+toNat (x7.2.1:Int)=x3+x7.2.1:=by omega
         have e2:toNat (x3:Int)+toNat ((x7.2.1:Int)-1)=x3+x7.2.1-1:=by omega
         rw [e1,e2];by_cases hd:getD x7.2.2.1 (x3+x7.2.1) []=getD x7.2.2.1 (x3+x7.2.1-1) []
         . rw [K? hd];exact S.N8 hi w! hd
         rw [Y? hd];exact S.R3 hi w! hd
       omega;simp only [S.ag,S.len];omega
     intro gY;with_reducible and_intros
     omega
     iterate 2
      . have q1:=h8.1.2.1;have q2:=h8.1.2.2.2.1;have q3:=h8.1.2.2.2.2.1;omega
     omega
     . have q1:=h8.1.2.1;have q2:=h8.1.2.2.2.1;have q3:=h8.1.2.2.2.2.1;simp;omega
     have q1:=h8.1.2.1;have q2:=h8.1.2.2.2.1;have q3:=h8.1.2.2.2.2.1;grind[toNat,S.KA,S.R4]
   intro jM;try simp only [df,tn] at jM
   with_reducible and_intros
   iterate 2 omega
   refine⟨(x3+1),?_⟩;grind[S.R1,S.ag,S.len]
 grind[df,S.Xl]
def asy(l:M (Int×B8))(hp:S.fV l):(∃(x:Nat),((0:Int)=(↑x:Int)/\(0:Int)=S.gw l x/\(0:Int)=S.nW l x)/\S.oF l x)/\∀(x:Nat),S.oF l x->(decide ((↑x:Int)<(↑(length l):Int))=true->((0:Int)<=(↑x:Int)/\(↑x:Int)<(↑(length l):Int))/\(decide ((getD l (toNat (↑x:Int)) ((0:Int),[])).1=(0:Int))=true->S.small ((getD l (toNat (↑x:Int)) ((0:Int),[])).2)/\((!S.isTerm ((getD l (toNat (↑x:Int)) ((0:Int),[])).2))=true->false=S.bw l)/\((!S.isTerm ((getD l (toNat (↑x:Int)) ((0:Int),[])).2))=false->((-9223372036854775808:Int)<=S.gw l x+(1:Int)/\S.gw l x+(1:Int)<=(9223372036854775807:Int))/\((-9223372036854775808:Int)<=S.nW l x+(1:Int)/\S.nW l x+(1:Int)<=(9223372036854775807:Int))/\((-9223372036854775808:Int)<=(↑x:Int)+(1:Int)/\(↑x:Int)+(1:Int)<=(9223372036854775807:Int))/\∃(vo:Nat),((↑x:Int)+(1:Int)=(↑vo:Int)/\S.gw l x+(1:Int)=S.gw l vo/\S.nW l x+(1:Int)=S.nW l vo)/\S.oF l vo/\S.ag (S.len l) vo<S.ag (S.len l) x))/\(decide ((getD l (toNat (↑x:Int)) ((0:Int),[])).1=(0:Int))=false->(decide ((getD l (toNat (↑x:Int)) ((0:Int),[])).1=(1:Int))=true->((bif !decide ((getD l (toNat (↑x:Int)) ((0:Int),[])).2=[]) then true else decide (S.gw l x<(2:Int)))=true->false=S.bw l)/\((bif !decide ((getD l (toNat (↑x:Int)) ((0:Int),[])).2=[]) then true else decide (S.gw l x<(2:Int)))=false->((-9223372036854775808:Int)<=S.gw l x-(1:Int)/\S.gw l x-(1:Int)<=(9223372036854775807:Int))/\((-9223372036854775808:Int)<=(↑x:Int)+(1:Int)/\(↑x:Int)+(1:Int)<=(9223372036854775807:Int))/\∃(vo:Nat),((↑x:Int)+(1:Int)=(↑vo:Int)/\S.gw l x-(1:Int)=S.gw l vo/\S.nW l x=S.nW l vo)/\S.oF l vo/\S.ag (S.len l) vo<S.ag (S.len l) x))/\(decide ((getD l (toNat (↑x:Int)) ((0:Int),[])).1=(1:Int))=false->(decide ((getD l (toNat (↑x:Int)) ((0:Int),[])).1=(2:Int))=true->((bif !decide ((getD l (toNat (↑x:Int)) ((0:Int),[])).2=[]) then true else decide (S.gw l x<(2:Int)))=true->false=S.bw l)/\((bif !decide ((getD l (toNat (↑x:Int)) ((0:Int),[])).2=[]) then true else decide (S.gw l x<(2:Int)))=false->((-9223372036854775808:Int)<=S.gw l x-(1:Int)/\S.gw l x-(1:Int)<=(9223372036854775807:Int))/\((-9223372036854775808:Int)<=(↑x:Int)+(1:Int)/\(↑x:Int)+(1:Int)<=(9223372036854775807:Int))/\∃(vo:Nat),((↑x:Int)+(1:Int)=(↑vo:Int)/\S.gw l x-(1:Int)=S.gw l vo/\S.nW l x=S.nW l vo)/\S.oF l vo/\S.ag (S.len l) vo<S.ag (S.len l) x))/\(decide ((getD l (toNat (↑x:Int)) ((0:Int),[])).1=(2:Int))=false->(decide ((getD l (toNat (↑x:Int)) ((0:Int),[])).1=(3:Int))=true->((bif !decide ((getD l (toNat (↑x:Int)) ((0:Int),[])).2=[]) then true else decide (S.gw l x<(2:Int)))=true->false=S.bw l)/\((bif !decide ((getD l (toNat (↑x:Int)) ((0:Int),[])).2=[]) then true else decide (S.gw l x<(2:Int)))=false->((-9223372036854775808:Int)<=S.gw l x-(1:Int)/\S.gw l x-(1:Int)<=(9223372036854775807:Int))/\((-9223372036854775808:Int)<=(↑x:Int)+(1:Int)/\(↑x:Int)+(1:Int)<=(9223372036854775807:Int))/\∃(vo:Nat),((↑x:Int)+(1:Int)=(↑vo:Int)/\S.gw l x-(1:Int)=S.gw l vo/\S.nW l x=S.nW l vo)/\S.oF l vo/\S.ag (S.len l) vo<S.ag (S.len l) x))/\(decide ((getD l (toNat (↑x:Int)) ((0:Int),[])).1=(3:Int))=false->false=S.bw l)))))/\(decide ((↑x:Int)<(↑(length l):Int))=false->(bif decide (S.gw l x=(1:Int)) then decide (S.nW l x<=(16:Int)) else false)=S.bw l):=by
 have lI:l.length<=1099511627776:=hp.1;have hq:=hp;clear hp;refine⟨?_,?_⟩
 . refine⟨0,?_⟩;try dsimp only
   with_reducible and_intros
   iterate 3 rfl
   exact S.aG4 hq.1
 intro x1 h2;refine⟨?_,?_⟩
 . intro h3;try simp only [dt] at h3
   with_reducible and_intros
   iterate 2 omega
   . intro h4;try simp only [dt,tn] at h4
     refine⟨?_,?_,?_⟩;exact S.aA5 hq _
     . intro h5;try simp only [nt] at h5
       exact S.alG h3 h4 h5
     intro h6;try simp only [nf] at h6
     with_reducible and_intros
     iterate 6
      . have q:=S.xk l x1;have q2:S.gw l x1=2*S.nW l x1-x1:=rfl;omega
     refine⟨(x1+1),?_⟩;try dsimp only
     with_reducible and_intros
     . have q:=S.xk l x1;have q2:S.gw l x1=2*S.nW l x1-x1:=rfl;omega
     exact(S.X3 (by assumption)).symm;exact(S.UI (by assumption)).symm;exact S.alF h2 h3 h4 h6;grind [S.ag,S.len]
   intro h7;try simp only [df,tn] at h7
   refine⟨?_,?_⟩
   . intro h8;try simp only [dt,tn] at h8
     refine⟨?_,?_⟩
     . intro h9;try simp at h9
       exact S.Hq h3 h7 (.inr (by assumption))
     intro de;try simp only [V.ajY,nf,dt,tn,df] at de
     with_reducible and_intros
     iterate 4
      . have q:=S.xk l x1;have q2:S.gw l x1=2*S.nW l x1-x1:=rfl;omega
     refine⟨(x1+1),?_⟩;try dsimp only
     with_reducible and_intros
     . have q:=S.xk l x1;have q2:S.gw l x1=2*S.nW l x1-x1:=rfl;omega
     exact(S.LS (by assumption)).symm;exact(S.OK (by assumption)).symm;exact S.OM h2 h3 h7 w! (by assumption);grind [S.ag,S.len]
   intro fC;refine⟨?_,?_⟩
   . intro gY;try simp only [dt,tn] at gY
     refine⟨?_,?_⟩
     . intro jM;try simp at jM
       exact S.Hq h3 h7 (.inr (by assumption))
     intro jZ;try simp only [V.ajY,nf,dt,tn,df] at jZ
     with_reducible and_intros
     iterate 4
      . have q:=S.xk l x1;have q2:S.gw l x1=2*S.nW l x1-x1:=rfl;omega
     refine⟨(x1+1),?_⟩;try dsimp only
     with_reducible and_intros
     . have q:=S.xk l x1;have q2:S.gw l x1=2*S.nW l x1-x1:=rfl;omega
     exact(S.LS (by assumption)).symm;exact(S.OK (by assumption)).symm;exact S.OM h2 h3 h7 w! (by assumption);grind [S.ag,S.len]
   intro Cq;refine⟨?_,?_⟩
   . intro zP;try simp only [dt,tn] at zP
     refine⟨?_,?_⟩
     . intro HV;try simp at HV
       exact S.Hq h3 h7 (.inr (by assumption))
     intro QW;try simp only [V.ajY,nf,dt,tn,df] at QW
     with_reducible and_intros
     iterate 4
      . have q:=S.xk l x1;have q2:S.gw l x1=2*S.nW l x1-x1:=rfl;omega
     refine⟨(x1+1),?_⟩;try dsimp only
     with_reducible and_intros
     . have q:=S.xk l x1;have q2:S.gw l x1=2*S.nW l x1-x1:=rfl;omega
     exact(S.LS (by assumption)).symm;exact(S.OK (by assumption)).symm;exact S.OM h2 h3 h7 w! (by assumption);grind [S.ag,S.len]
   grind[df,tn,S.Hq]
 grind[df,S.aqX]
def asz(l:M (Int×B8))(hp:S.small l):(∃(x1:Nat),((0:Int)=x1/\[]=S.bS l x1)/\S.gX l x1)/\(∀(x2:Nat),S.gX l x2->qJ (decide ((x2:Int)<length l)) (uT 0 x2 (length l)) (gl (ake (aKt l x2).1) (HR (S.bS l x2) [(aKt l x2).2]) (HJ x2 (∃(x3:Nat),az6 x2 x3 (S.bS l x2++[(aKt l x2).2]=S.bS l x3) (S.gX l x3) (S.len l) x3 (S.ag (S.len l) x2))) (x2+1) (∃(x4:Nat),az6 x2 x4 (S.bS l x2=S.bS l x4) (S.gX l x4) (S.len l) x4 (S.ag (S.len l) x2))) (S.small (S.bS l x2)) (S.small (S.fm (S.bS l x2))) (S.bW (S.fm (S.bS l x2))=S.ax l)):=by
 refine aE ?_;have lI:l.length<=1099511627776:=hp;refine⟨?_,?_⟩
 . grind[S.ag,S.len,S.gX,S.aG5]
 intro x1 h2;refine V.dI (λh3=>?_) λh6=>?_
 . with_reducible and_intros
   iterate 2 (grind [S.ag,S.len,S.gX])
   . intro h4;try simp only [dt,tn] at h4
     with_reducible and_intros
     . (have q:=S.alI lI h2 [];exact q.1)
     iterate 2 (grind [S.ag,S.len,S.gX])
     refine⟨(x1+1),?_⟩;try dsimp only
     with_reducible and_intros
     grind [S.ag,S.len,S.gX];exact S.alH h3 h4;iterate 2 (grind [S.ag,S.len,S.gX])
   intro h5;try simp only [df,tn] at h5
   with_reducible and_intros
   iterate 2 (grind [S.ag,S.len,S.gX])
   refine⟨(x1+1),?_⟩;try dsimp only
   with_reducible and_intros
   grind [S.ag,S.len,S.gX];exact S.alD h3 h5;iterate 2 (grind [S.ag,S.len,S.gX])
 refine⟨?_,?_,?_⟩
 . (have q:=S.alI lI h2 [];exact q.2.1)
 . (have q:=S.alI lI h2 [];exact q.2.2.1)
 grind[S.aqY]
def asA(b:B8)(hp:S.small b):S.small b/\q14 (ake (length (S.bM b))) ([]=S.hdT (S.bM b)) (((0:Int)<=0/\(0:Int)<length (S.bM b))/\aHF 0 (length (S.bM b))/\mY (S.bM b) 0=S.hdT (S.bM b)):=by
 refine aE ?_;refine⟨?_,?_,?_⟩;omega
 . intro h1;simp only [dt] at h1;rw [show S.bM b=[] from d?.1 w!];rfl
 intro h2;simp only [df] at h2;with_reducible and_intros
 iterate 3 omega
 rfl
def asB(st:Int)(bb:B8)(at_:Int)(hp:st=0/\bb=S.zA/\at_=3):qJ (aNc st) (0<=st/\st<=at_/\at_<=e6 bb) (S.small (q92 st (wI at_ bb))/\length ([(-1,st,S.hdT (S.bM (q92 st (wI at_ bb))))]:M (Int×Int×B8))<=4398046511104/\-(1:Int)=-1/\bb=bb/\at_=at_/\[(-1,st,S.hdT (S.bM (q92 st (wI at_ bb))))]=S.kE1) (st=-1) (bb=bb) (at_=at_/\[]=S.kE1):=by
 refine aE ?_;obtain⟨q1,q2,q3⟩:=hp;subst q1;subst q2;subst q3;refine⟨?_,?_⟩
 . intro h1;with_reducible and_intros
   iterate 2 omega
   decide;exact(show(drop 0 (take 3 S.zA)).length<=1099511627776 by decide);decide;iterate 4 rfl
 grind
def asC(b:B8)(hp:b=S.zA):S.small b/\(∃(x1:Nat),aOD x1 (b=b/\(0:Int)=(x1:Int)/\-(1:Int)=S.tD x1) (3:Nat))/\(∀(x2:Nat),S.cc x2 (3:Nat)->qJ (decide ((x2:Int)<(length (S.decode b):Int))) (uT (0:Int) (x2:Int) (length (S.decode b):Int)) (aMe x2<length (S.decode b)/\aL5 (aMc (S.letter (ahA (S.decode b) (aMe x2)))) (yb (cE (S.letter (ahA (S.decode b) (aMe x2))) (S.digit (ahA (S.decode b) (aMe x2)))) True (na ((x2:Int)+e6 (S.iU (ahA (S.decode b) (aMe x2))))/\HJ (x2:Int) (∃(x3:Nat),az6 (x2:Int) (x3:Int) (b=b/\(x2:Int)+e6 (S.iU (ahA (S.decode b) (aMe x2)))=(x3:Int)/\(bif decide (S.tD x2<(0:Int)) then(x2:Int) else S.tD x2)=S.tD x3) (S.cc x3 (3:Nat)) (3:Nat) x3 (S.ag (3:Nat) x2))) (S.tD x2=(0:Int)/\b=S.zA/\(x2:Int)=(3:Int)) (pf (decide (ahA (S.decode b) (aMe x2)=(32:Int))) (na ((x2:Int)+(1:Int))) (HJ (x2:Int) (∃(x4:Nat),az6 (x2:Int) (x4:Int) (b=b/\False/\(x2:Int)+(1:Int)=(x4:Int)/\-(1:Int)=S.tD x4) (S.cc x4 (3:Nat)) (3:Nat) x4 (S.ag (3:Nat) x2))) (yb (bif decide (ahA (S.decode b) (aMe x2)=(40:Int)) then decide (ahA (S.decode b) (aMe x2)=(40:Int)) else bif decide (ahA (S.decode b) (aMe x2)=(41:Int)) then decide (ahA (S.decode b) (aMe x2)=(41:Int)) else bif decide (ahA (S.decode b) (aMe x2)=(124:Int)) then decide (ahA (S.decode b) (aMe x2)=(124:Int)) else bif decide (ahA (S.decode b) (aMe x2)=(38:Int)) then decide (ahA (S.decode b) (aMe x2)=(38:Int)) else decide (ahA (S.decode b) (aMe x2)=(33:Int))) (aTz [(ahA (S.decode b) (aMe x2),(x2:Int),([]:B8))]) (HJ (x2:Int) (HJ (x2:Int) (∃(x5:Nat),az6 (x2:Int) (x5:Int) (b=b/\False/\(x2:Int)+(1:Int)=(x5:Int)/\-(1:Int)=S.tD x5) (S.cc x5 (3:Nat)) (3:Nat) x5 (S.ag (3:Nat) x2)))) (aTz [(-(3:Int),(x2:Int),([]:B8))]) (S.kE1++[(-(3:Int),(x2:Int),([]:B8))]=S.kE))))) (S.tD x2=(0:Int)/\b=S.zA/\(x2:Int)=(3:Int)) (aTz [(-(2:Int),e6 b,([]:B8))]) (S.kE1++[(-(2:Int),e6 b,([]:B8))]=S.kE)):=by
 refine aE ?_;subst hp;refine⟨?_,?_,?_⟩;exact(show S.zA.length<=1099511627776 by decide)
 . refine⟨0,?_⟩;with_reducible and_intros
   decide;rfl;iterate 2 decide
   exact U! _
 intro x1 h2;refine V.dI (λh3=>?_) λgY=>?_
 . with_reducible and_intros
   iterate 3 omega
   trivial
   . intro h4;trivial
   . intro h5;trivial
   . intro h6;with_reducible and_intros
     trivial;omega
     . rcases S.ym h3 with rfl|rfl|rfl<;>first|exact absurd h7.1 (by decide)|decide
     omega
     . rcases S.ym h3 with rfl|rfl|rfl<;>first|exact absurd h7.1 (by decide)|decide
     refine⟨(x1+1),?_⟩;try dsimp only
     with_reducible and_intros
     omega;rfl
     iterate 2
      . rcases S.ym h3 with rfl|rfl|rfl<;>first|exact absurd h7.1 (by decide)|decide
     . unfold S.cc;have :x1<3:=by have:=S.ym h3;omega
       omega
     rcases S.ym h3 with rfl|rfl|rfl<;>first|exact absurd h7.1 (by decide)|decide
   intro h7;try simp only [V.ajY] at h7
   with_reducible and_intros
   . rcases S.ym h3 with rfl|rfl|rfl<;>first|exact absurd h7.1 (by decide)|decide
   with_reducible rfl
   . rcases S.ym h3 with rfl|rfl|rfl<;>first|exact absurd h7.1 (by decide)|decide
   . intro h8;with_reducible and_intros
     omega
     . rcases S.ym h3 with rfl|rfl|rfl<;>first|exact absurd h7.1 (by decide)|decide
     omega
     . rcases S.ym h3 with rfl|rfl|rfl<;>first|exact absurd h7.1 (by decide)|decide
     refine⟨(x1+1),?_⟩;try dsimp only
     with_reducible and_intros
     omega;rfl
     . rcases S.ym h3 with rfl|rfl|rfl<;>first|exact absurd h7.1 (by decide)|decide
     omega
     iterate 2
      . rcases S.ym h3 with rfl|rfl|rfl<;>first|exact absurd h7.1 (by decide)|decide
     rcases S.ym h3 with rfl|rfl|rfl<;>first|exact absurd h7.1 (by decide)|decide
   intro h9;refine⟨?_,?_⟩
   . intro de;with_reducible and_intros
     . rcases S.ym h3 with rfl|rfl|rfl<;>first|exact absurd h7.1 (by decide)|decide
     omega
     . rcases S.ym h3 with rfl|rfl|rfl<;>first|exact absurd h7.1 (by decide)|decide
     omega
     . rcases S.ym h3 with rfl|rfl|rfl<;>first|exact absurd h7.1 (by decide)|decide
     refine⟨(x1+1),?_⟩;try dsimp only
     with_reducible and_intros
     omega;rfl
     . rcases S.ym h3 with rfl|rfl|rfl<;>first|exact absurd h7.1 (by decide)|decide
     omega
     iterate 2
      . rcases S.ym h3 with rfl|rfl|rfl<;>first|exact absurd h7.1 (by decide)|decide
     rcases S.ym h3 with rfl|rfl|rfl<;>first|exact absurd h7.1 (by decide)|decide
   intro fC;refine⟨?_,?_⟩
   . rcases S.ym h3 with rfl|rfl|rfl<;>first|exact absurd h7.1 (by decide)|decide
   rcases S.ym h3 with rfl|rfl|rfl<;>first|exact absurd h7.1 (by decide)|decide
 with_reducible and_intros
 . (have hx:=S.ge3 h2 gY;subst hx;decide)
 rfl
 . (have hx:=S.ge3 h2 gY;subst hx;decide)
 iterate 2 decide
def asD(e:M (Int×Int×B8))(n w:Int)(hp:0<=n/\n<e.length):aL7 n (length e) ((getD e (toNat n) (0,0,[])).1=(S.vw e n).1/\(getD e (toNat n) (0,0,[])).2.1=(S.vw e n).2.1/\(getD e (toNat n) (0,0,[])).2.2=(S.vw e n).2.2/\e=e/\n=n/\w=w):=by
 refine aE ?_;with_reducible and_intros
 iterate 2 omega
 iterate 6 rfl
def asE(e:M (Int×Int×B8))(n w:Int)(l:M (Int×B8))(hp:0<=n/\n<e.length):aL7 n (length e) ((getD e (toNat n) (0,0,[])).1=(S.vw e n).1/\(getD e (toNat n) (0,0,[])).2.1=(S.vw e n).2.1/\(getD e (toNat n) (0,0,[])).2.2=(S.vw e n).2.2/\e=e/\n=n/\w=w/\l=l):=by
 refine aE ?_;with_reducible and_intros
 iterate 2 omega
 iterate 7 rfl
def asF(d:Int)(e:M (Int×Int×B8))(n w:Int)(hp:e=S.kE/\n=0/\w=0):aL7 n (length e:Int) (q14 (decide ((S.vw e n).1=-(1:Int))) (gl (decide ((16:Int)<=w)) ((8:Int)=(0:Int)) (e=e/\n=(1:Int)/\w=(1:Int)/\aFG) (w+(1:Int)) (HJ n (aAu (length [((0:Int),(S.vw e n).2.2)])/\(0:Int)=(0:Int)/\e=e/\n+(1:Int)=(1:Int)/\w+(1:Int)=(1:Int)/\[((0:Int),(S.vw e n).2.2)]=S.fy))) (q14 (decide ((S.vw e n).1=(40:Int))) (gl (decide ((8:Int)<=d)) ((8:Int)=(0:Int)) (e=e/\n=(1:Int)/\w=(1:Int)/\aFG) (n+(1:Int)) False) (pf (decide ((S.vw e n).1=(33:Int))) ((9:Int)=(0:Int)) (e=e/\n=(1:Int)/\w=(1:Int)/\aFG) ((2:Int)=(0:Int)/\e=e/\n=(1:Int)/\w=(1:Int)/\aFG)))):=by
 refine aE ?_;obtain⟨q1,q2,q3⟩:=hp;subst q1;subst q2;refine⟨⟨?_,?_⟩,⟨?_,?_⟩⟩
 . omega
 . decide
 . intro h1;refine⟨?_,?_⟩
   . grind
   intro h3;with_reducible and_intros
   iterate 4 omega
   decide;iterate 2 rfl
   iterate 2 omega
   decide
 intro h4;simp at h4;refine V.dI (λh5=>?_) λh8=>?_
 . refine V.dI (λh6=>?_) λh7=>?_
   . with_reducible and_intros
     exact absurd rfl h4;rfl;iterate 3 exact absurd rfl h4
   with_reducible and_intros
   iterate 2 omega
   exact absurd rfl h4
 refine V.dI (λh9=>?_) λde=>?_
 . with_reducible and_intros
   exact absurd rfl h4;rfl;iterate 3 exact absurd rfl h4
 with_reducible and_intros
 exact absurd rfl h4;rfl;iterate 3 exact absurd rfl h4
def asG(d:Int)(e:M (Int×Int×B8))(n w:Int)(hp:e=S.kE/\n=0/\w=0):(e=S.kE/\n=0/\w=0)/\yb (aRZ 0) ((0:Int)=0) (e=e/\aSN 1) (∃(x1:Nat),(e=e/\(1:Int)=1/\(1:Int)=1/\S.fy=S.fy)/\x1=0) (∀(x2:Nat),x2=0->aL7 1 (length e) (pf (decide ((S.vw e 1).1=38)) (na (1+1)) False (qJ (decide ((S.vw e 1).1=33)) (na (1+1)) False ((0:Int)=0) (e=e) (aSN 1)))):=by
 refine aE ?_;obtain⟨q1,q2,q3⟩:=hp;subst q1;subst q2;subst q3;with_reducible and_intros
 iterate 3 rfl
 grind;intro h2;refine⟨?_,?_⟩
 . grind
 intro x3 h4;with_reducible and_intros
 omega;decide
 . intro h5;with_reducible and_intros
   iterate 2 omega
   exact absurd h5 (by decide)
 intro h6;refine⟨?_,?_⟩
 . intro h7;with_reducible and_intros
   iterate 2 omega
   exact absurd h7 (by decide)
 grind
def asH(d:Int)(e:M (Int×Int×B8))(n w:Int)(hp:e=S.kE/\n=0/\w=0):(e=S.kE/\n=0/\w=0)/\yb (aRZ 0) ((0:Int)=0) (e=e/\aSN 1) (∃(x1:Nat),(e=e/\(1:Int)=1/\(1:Int)=1/\S.fy=S.fy)/\x1=0) (∀(x2:Nat),x2=0->aL7 1 (length e) (qJ (decide ((S.vw e 1).1=124)) (na (1+1)) False ((0:Int)=0) (e=e) (aSN 1))):=by
 refine aE ?_;obtain⟨q1,q2,q3⟩:=hp;subst q1;subst q2;subst q3;with_reducible and_intros
 iterate 3 rfl
 grind;intro h2;refine⟨?_,?_⟩
 . grind
 intro x3 h4;with_reducible and_intros
 omega;decide
 . intro h5;with_reducible and_intros
   iterate 2 omega
   exact absurd h5 (by decide)
 grind
def asI(b:B8)(hp:b=S.zA):qJ (Eh 2000 b) aFG ((0:Int)=0/\(8:Int)=0) (b=S.zA) (S.kE=S.kE/\(0:Int)=0/\(0:Int)=0) (pf (ake 0) ((0:Int)<=1) ((1:Int)<length S.kE) True/\yb (ahP (aSV 0 1 2)) (uT 0 (bif ake 0 then 1 else 1) (length (bif ake 0 then S.kE else S.kE))) (aFG/\(S.vw (bif ake 0 then S.kE else S.kE) (bif ake 0 then 1 else 1)).2.1=0/\aSV 0 1 2=0) ((bif ake 0 then S.fy else S.fy)=S.fy) ((0:Int)=0/\(0:Int)=0)):=by
 refine aE ?_;subst hp;refine V.dI (λh1=>?_) λh2=>?_
 . refine⟨?_,?_,?_⟩;exact absurd h1 (by decide);rfl;exact absurd h1 (by decide)
 with_reducible and_intros
 iterate 4 rfl
 . intro h3;refine⟨?_,?_⟩
   . omega
   decide
 grind
 . intro h5;simp at h5;with_reducible and_intros
   iterate 2 decide
   iterate 2 (exact absurd (by decide) h5)
   decide
 grind
def aPk(l:M (Int×B8))(hp:S.fV l):(∃(x:Nat),((0:Int)=(↑x:Int)/\(0:Int)=S.nW l x)/\S.oF l x)/\∀(x:Nat),S.oF l x->(decide ((↑x:Int)<(↑(length l):Int))=true->((0:Int)<=(↑x:Int)/\(↑x:Int)<(↑(length l):Int))/\(decide ((getD l (toNat (↑x:Int)) ((0:Int),[])).1=(0:Int))=true->((0:Int)<=(↑x:Int)/\(↑x:Int)<(↑(length l):Int))/\S.small ((getD l (toNat (↑x:Int)) ((0:Int),[])).2)/\((!S.Ë ((getD l (toNat (↑x:Int)) ((0:Int),[])).2))=true->false=S.bw l)/\((!S.Ë ((getD l (toNat (↑x:Int)) ((0:Int),[])).2))=false->((-9223372036854775808:Int)<=S.nW l x+(1:Int)/\S.nW l x+(1:Int)<=(9223372036854775807:Int))/\((-9223372036854775808:Int)<=(↑x:Int)+(1:Int)/\(↑x:Int)+(1:Int)<=(9223372036854775807:Int))/\∃(vo:Nat),((↑x:Int)+(1:Int)=(↑vo:Int)/\S.nW l x+(1:Int)=S.nW l vo)/\S.oF l vo/\S.ag (S.len l) vo<S.ag (S.len l) x))/\(decide ((getD l (toNat (↑x:Int)) ((0:Int),[])).1=(0:Int))=false->((0:Int)<=(↑x:Int)/\(↑x:Int)<(↑(length l):Int))/\((decide ((getD l (toNat (↑x:Int)) ((0:Int),[])).1<(0:Int))=true->True)/\(decide ((getD l (toNat (↑x:Int)) ((0:Int),[])).1<(0:Int))=false->((0:Int)<=(↑x:Int)/\(↑x:Int)<(↑(length l):Int))/\(decide ((3:Int)<(getD l (toNat (↑x:Int)) ((0:Int),[])).1)=true->True)/\(decide ((3:Int)<(getD l (toNat (↑x:Int)) ((0:Int),[])).1)=false->((0:Int)<=(↑x:Int)/\(↑x:Int)<(↑(length l):Int))/\((!decide ((getD l (toNat (↑x:Int)) ((0:Int),[])).2=[]))=true->True)/\((!decide ((getD l (toNat (↑x:Int)) ((0:Int),[])).2=[]))=false->((-9223372036854775808:Int)<=(↑x:Int)-S.nW l x/\(↑x:Int)-S.nW l x<=(9223372036854775807:Int))/\(-9223372036854775808:Int)<=(↑x:Int)-S.nW l x+(2:Int)/\(↑x:Int)-S.nW l x+(2:Int)<=(9223372036854775807:Int)))))/\((bif decide ((getD l (toNat (↑x:Int)) ((0:Int),[])).1<(0:Int)) then true else bif decide ((3:Int)<(getD l (toNat (↑x:Int)) ((0:Int),[])).1) then true else bif !decide ((getD l (toNat (↑x:Int)) ((0:Int),[])).2=[]) then true else decide (S.nW l x<(↑x:Int)-S.nW l x+(2:Int)))=true->false=S.bw l)/\((bif decide ((getD l (toNat (↑x:Int)) ((0:Int),[])).1<(0:Int)) then true else bif decide ((3:Int)<(getD l (toNat (↑x:Int)) ((0:Int),[])).1) then true else bif !decide ((getD l (toNat (↑x:Int)) ((0:Int),[])).2=[]) then true else decide (S.nW l x<(↑x:Int)-S.nW l x+(2:Int)))=false->((-9223372036854775808:Int)<=(↑x:Int)+(1:Int)/\(↑x:Int)+(1:Int)<=(9223372036854775807:Int))/\∃(vo:Nat),((↑x:Int)+(1:Int)=(↑vo:Int)/\S.nW l x=S.nW l vo)/\S.oF l vo/\S.ag (S.len l) vo<S.ag (S.len l) x)))/\(decide ((↑x:Int)<(↑(length l):Int))=false->((-9223372036854775808:Int)<=(↑(length l):Int)-S.nW l x/\(↑(length l):Int)-S.nW l x<=(9223372036854775807:Int))/\((-9223372036854775808:Int)<=(↑(length l):Int)-S.nW l x+(1:Int)/\(↑(length l):Int)-S.nW l x+(1:Int)<=(9223372036854775807:Int))/\(bif decide (S.nW l x=(↑(length l):Int)-S.nW l x+(1:Int)) then decide (S.nW l x<=(16:Int)) else false)=S.bw l):=by
 have lI:l.length<=1099511627776:=hp.1;have hq:=hp;refine⟨?_,?_⟩
 . refine⟨0,?_⟩;with_reducible and_intros
   iterate 2 rfl
   exact S.aG4 hq.1
 intro x1 h2;refine V.dI (λh3=>?_) λzP=>?_
 . with_reducible and_intros
   iterate 2
    . have q:=S.xk l x1;have q2:=h2.1;omega
   . intro h4;try simp only [dt,tn] at h4
     with_reducible and_intros
     iterate 2
      . have q:=S.xk l x1;have q2:=h2.1;omega
     exact S.aA5 hq _
     . intro h5;try simp only [nt] at h5
       exact S.alG h3 (by assumption) (by rw [<-S.agQ];assumption)
     intro h6;try simp only [nf] at h6
     with_reducible and_intros
     iterate 4
      . have q:=S.xk l x1;have q2:=h2.1;omega
     refine⟨(x1+1),?_⟩;try dsimp only
     with_reducible and_intros
     . have q:=S.xk l x1;have q2:=h2.1;omega
     exact(S.UI (by assumption)).symm
     . exact S.alF h2 h3 (by assumption) (by rw [<-S.agQ];assumption)
     grind [S.ag,S.len]
   intro h7;try simp only [df,tn] at h7
   with_reducible and_intros
   iterate 2
    . have q:=S.xk l x1;have q2:=h2.1;omega
   . intro h8;trivial
   . intro h9;with_reducible and_intros
     iterate 2
      . have q:=S.xk l x1;have q2:=h2.1;omega
     . intro de;trivial
     intro fC;with_reducible and_intros
     iterate 2
      . have q:=S.xk l x1;have q2:=h2.1;omega
     . intro gY;trivial
     intro jM;with_reducible and_intros
     iterate 3
      . have q:=S.xk l x1;have q2:=h2.1;omega
     have q:=S.xk l x1;have q2:=h2.1;omega
   . intro jZ;try simp at jZ
     exact S.aNM h3 (by assumption) (by assumption)
   intro Cq;try simp only [V.ajY,df,tn,nf,dt] at Cq
   with_reducible and_intros
   iterate 2
    . have q:=S.xk l x1;have q2:=h2.1;omega
   refine⟨(x1+1),?_⟩;try dsimp only
   with_reducible and_intros
   . have q:=S.xk l x1;have q2:=h2.1;omega
   exact(S.OK (by assumption)).symm;exact S.aMx h2 h3 (by assumption) (by assumption);grind [S.ag,S.len]
 with_reducible and_intros
 . have q:=S.xk l x1;have q2:=h2.1;omega
 . have q:=S.xk l x1;omega
 . have q:=S.xk l x1;have q2:=h2.1;omega
 . have q:=S.xk l x1;omega
 grind[S.aNN]
def aPl(l:M (Int×B8))(hp:S.small l):(∃(x1:Nat),((0:Int)=x1/\[]=S.bS l x1)/\S.gX l x1)/\(∀(x2:Nat),S.gX l x2->yb (decide ((x2:Int)<length l)) (uT 0 x2 (length l)) (gl (ake (aKt l x2).1) (uT 0 x2 (length l)) (HR (S.bS l x2) [(aKt l x2).2]/\HJ x2 (∃(x3:Nat),az6 x2 x3 (S.bS l x2++[(aKt l x2).2]=S.bS l x3) (S.gX l x3) (S.len l) x3 (S.ag (S.len l) x2))) (x2+1) (∃(x4:Nat),az6 x2 x4 (S.bS l x2=S.bS l x4) (S.gX l x4) (S.len l) x4 (S.ag (S.len l) x2))) (S.small (S.bS l x2)) (S.sorted (S.bS l x2)=S.ax l)):=by
 refine aE ?_;have lI:l.length<=1099511627776:=hp;refine⟨?_,?_⟩
 . grind[S.ag,S.len,S.gX,S.aG5]
 intro x1 h2;refine V.dI (λh3=>?_) λh6=>?_
 . with_reducible and_intros
   iterate 2 (grind [S.ag,S.len,S.gX])
   . intro h4;try simp at h4
     with_reducible and_intros
     iterate 2 (grind [S.ag,S.len,S.gX])
     . (have q:=S.alI lI h2 [];exact q.1)
     iterate 2 (grind [S.ag,S.len,S.gX])
     refine⟨(x1+1),?_⟩;try dsimp only
     with_reducible and_intros
     grind [S.ag,S.len,S.gX];exact S.alH h3 h4;iterate 2 (grind [S.ag,S.len,S.gX])
   intro h5;try simp at h5
   with_reducible and_intros
   iterate 2 (grind [S.ag,S.len,S.gX])
   refine⟨(x1+1),?_⟩;try dsimp only
   with_reducible and_intros
   grind [S.ag,S.len,S.gX];exact S.alD h3 h5;iterate 2 (grind [S.ag,S.len,S.gX])
 refine⟨?_,?_⟩
 . (have q:=S.alI lI h2 [];exact q.2.1)
 grind[S.aqY]
def aPm(l:M (Int×B8))(hp:S.aAt l)(hf:Vg.gq J.aIa l):(∃(x1:Nat),((0:Int)=x1/\[]=take x1 l)/\S.gX l x1)/\(∀(x2:Nat),S.gX l x2->Fi (decide ((x2:Int)<length l)) 0 x2 (length l) (uT 0 x2 (length l)/\aAu (length (take x2 l)+length [((aKt l x2).1,(aKt l x2).2)])/\HJ x2 (∃(x3:Nat),sB x2 x3 (take x2 l++[((aKt l x2).1,(aKt l x2).2)]=take x3 l) (S.gX l x3) (S.len l))) (take x2 l=l)):=by
 refine aE ?_;have PN:Vg.hlen l:=hf.1.1;clear hf;have lI:l.length<=5864062014805:=hp;clear hp;refine⟨?_,?_⟩
 . refine⟨0,?_⟩;try dsimp only
   with_reducible and_intros
   omega;iterate 2 (grind [S.ag,S.len,S.gX,List.take_add_one])
 intro x1 h2;refine⟨?_,?_⟩
 . intro h3;try simp only [dt] at h3
   with_reducible and_intros
   iterate 4 omega
   grind [S.ag,S.len,S.gX,List.take_add_one];iterate 2 omega
   refine⟨(x1+1),?_⟩;try dsimp only
   with_reducible and_intros
   omega;iterate 3 (grind [S.ag,S.len,S.gX,List.take_add_one])
 intro h4;try simp only [df] at h4
 grind [S.ag,S.len,S.gX,List.take_add_one]
def aPn(l:M (Int×B8))(hf:Vg.gq J.aIa l):(∃(x1:Nat),(0:Int)=x1/\S.aAX l x1)/\(∀(x2:Nat),S.aAX l x2->Fi (decide ((x2:Int)<length l)) 0 x2 (length l) (q14 (Eh 200 (aKt l x2).2) (true=S.ajc l) (HJ x2 (∃(x3:Nat),aJ8 x2 x3 (S.aAX l x3) (S.len l)))) (decide ((60:Int)<length l)=S.ajc l)):=by
 refine aE ?_;have PN:Vg.hlen l:=hf.1.1;refine⟨?_,?_⟩
 . refine⟨(nat_lit 0:Nat),?_⟩;dsimp only;refine⟨?_,?_⟩
   . omega
   exact⟨U! _,z!⟩
 intro x1 h2;refine⟨?_,?_⟩
 . intro h3;simp only [dt] at h3;with_reducible and_intros
   iterate 2 omega
   . intro h4;simp at h4;exact S.aOZ h3 (by assumption)
   intro h5;simp only [df,tn] at h5;with_reducible and_intros
   iterate 2 omega
   refine⟨(x1+nat_lit 1),?_⟩;dsimp only;refine⟨?_,?_,?_⟩;omega;exact S.aNK h2 h3 (by assumption);grind [S.ag,S.len]
 grind[df,S.aO0]
def asJ(v:Int)(d:Bool)(l:B8)(hp:l.length<=35184372088832):q75 sy/\wJ l (S.mn sy v)/\cE (ahP (S.xV v)) d=S.rM d (S.lO v)/\l++S.mn sy v=aL3 l (S.lO v):=by
 refine aE ?_;refine⟨?_,?_,?_,?_⟩;grind;grind[S.aq2];grind[S.aG9];rw [S.aG8 v];rfl
def asK(b:B8)(m:Int)(d:Bool)(l:B8)(hp:l.length<=35184372088832/\b.length<=1099511627776):qJ (Eh m b) (true=S.rM d (S.ik b m)) (l=aL3 l (S.ik b m)) (S.oV sy b) (wJ l ([]++S.text b)) (d=S.rM d (S.ik b m)/\l++([]++S.text b)=aL3 l (S.ik b m)):=by
 refine aE ?_;refine V.dI (λh1=>?_) λh2=>?_
 . refine⟨?_,?_⟩
   . rw [S.abL h1];exact(x? d).symm
   rw [S.abL h1];exact(H? l).symm
 refine⟨?_,?_,?_,?_⟩;exact⟨U! _,w!⟩
 . have:=S.alK b;simp;omega
 . rw [S.alO h2];exact(Bool.or_false d).symm
 rw [S.alO h2];rfl
def asL(y1:Int)(y2:B8)(y3:M (Int×Int×Int×B8))(d:Bool)(l:B8)(hp:l.length<=35184372088832):ec (qJ (ahP (S.hW y1 y2 y3).2) (true=S.rM d (S.ajd y1 y2 y3)) (l=aL3 l (S.ajd y1 y2 y3)) (q75 l/\aSb (S.hW y1 y2 y3).1) (S.rM d (S.ik (S.hW y1 y2 y3).1 10000)=S.rM d (S.ajd y1 y2 y3)) (aL3 l (S.ik (S.hW y1 y2 y3).1 10000)=aL3 l (S.ajd y1 y2 y3))):=by
 refine aE ?_;refine⟨?_,?_,?_⟩;trivial
 . intro h1;simp at h1;refine⟨?_,?_⟩
   . rw [S.alP h1];exact(x? d).symm
   rw [S.alP h1];exact(H? l).symm
 grind[S.aq3]
def asM(p:O)(d:Bool)(l:B8)(hp:l.length<=17592186044416):qJ (aQl (ml p)) (true=S.rM d (S.kO p)) (l=aL3 l (S.kO p)) (q75 l) (∃(x1:Nat),((0:Int)=x1/\S.rM d (S.lO (ml p))=d/\aL3 l (S.lO (ml p))=l++S.aL4 p x1)/\S.mA p x1) (∀(x2:Nat),S.mA p x2->yb (decide (x2<ml p)) (uT 0 x2 (ml p)) (yb (fX (length (mY p x2)) 32) (true=S.rM d (S.kO p)) (l++S.aL4 p x2=aL3 l (S.kO p)) (aLm (l++S.aL4 p x2) (length (mY p x2))) (HJ x2 (∃(x3:Nat),sB x2 x3 (d=d/\l++S.aL4 p x2++mY p x2=l++S.aL4 p x3) (S.mA p x3) (S.len p)))) (d=S.rM d (S.kO p)) (l++S.aL4 p x2=aL3 l (S.kO p))):=by
 refine aE ?_;refine V.dI (λh1=>?_) λh2=>?_
 . refine⟨?_,?_⟩
   . rw [S.alL h1];exact(x? d).symm
   rw [S.alL h1];exact(H? l).symm
 refine⟨?_,?_,?_⟩;omega
 . refine⟨(nat_lit 0:Nat),?_⟩;dsimp only;with_reducible and_intros
   omega
   . rw [S.LX w!];exact Bool.or_false d
   grind[S.LX,S.aL4,S.bytesOf];exact S.aG7 h2
 intro x3 h4;refine V.dI (λh5=>?_) λh8=>?_
 . with_reducible and_intros
   iterate 2 omega
   . intro h6;simp at h6;refine⟨?_,?_⟩
     . rw [S.abJ h4 h5 h6];exact(x? d).symm
     rw [S.abJ h4 h5 h6];rfl
   intro h7;simp only [nf,dt,tn] at h7;with_reducible and_intros
   . have q:=S.aq0 h4;rw [K!,tn];omega
   iterate 2 omega
   refine⟨(x3+nat_lit 1),?_⟩;dsimp only;with_reducible and_intros
   omega;rfl;rw [tn,W!,(S.Ya h4 h5 h7).2];exact(S.Ya h4 h5 h7).1;simp [S.ag,S.len];omega
 refine⟨?_,?_⟩
 . rw [S.abK h4 h8];exact(Bool.or_false d).symm
 rw [S.abK h4 h8];rfl
def asN(p1:Int)(p2 p3 p4:B8)(p5:O)(p6:B8)(d:Bool)(l:B8)(hp:l.length<=8796093022208/\p6.length<=1099511627776):q75 l/\ec (qJ (ahP (S.kM p2 p3 p4)) (true=S.rM d (S.ku (p1,p2,p3,p4,p5,p6))) (aL3 l (S.lO p1)=aL3 l (S.ku (p1,p2,p3,p4,p5,p6))) (q75 (aL3 l (S.lO p1))/\aSb (S.fW p2 p3 p4)) (q82 (length (aL3 (aL3 l (S.lO p1)) (S.ik (S.fW p2 p3 p4) 200)))) ((q75 (aL3 (aL3 (aL3 l (S.lO p1)) (S.ik (S.fW p2 p3 p4) 200)) (S.kO p5))/\aSb p6)/\S.rM (S.rM (S.rM (S.rM d (S.lO p1)) (S.ik (S.fW p2 p3 p4) 200)) (S.kO p5)) (S.ik p6 4000)=S.rM d (S.ku (p1,p2,p3,p4,p5,p6))/\aL3 (aL3 (aL3 (aL3 l (S.lO p1)) (S.ik (S.fW p2 p3 p4) 200)) (S.kO p5)) (S.ik p6 4000)=aL3 l (S.ku (p1,p2,p3,p4,p5,p6)))):=by
 refine aE ?_;have a1:=S.X8 p1;have a2:=S.C9 (S.fW p2 p3 p4) (m:=200) (by decide);have a3:=S.OO p5;have a4:=S.aq4 p2 p3 p4;refine⟨?_,?_,?_,?_⟩;omega;trivial
 . intro h1;simp at h1;refine⟨?_,?_⟩
   . rw [S.abM h1];exact(x? d).symm
   rw [S.abM h1];rfl
 grind[S.bytesOf,List.length_append,S.alQ,S.rM,S.cat,Bool.or_assoc,List.append_assoc]
def asO(d:Bool)(l:B8):aRF d ([]=S.wy (l,d)) (1=S.wz (l,d)) (Eh 1048576 l) (3=S.wz (l,d)) (l=S.wy (l,d)) (0=S.wz (l,d)):=by
 refine aE ?_;simp_all[dt,S.wy,J!,M!,S.wz,df]
def asP(a1:Int)(a2:B8)(a3:M (Int×Int×Int×B8))(a4:M (M (Int×B8×B8×B8×O×B8)))(hp:S.qD a4)(hf:Vg.gq J.azc (a1,a2,a3,a4)):q75 [1]/\yb (fX (length a4) (length a3)) ([]=(S.kv a1 a2 a3 a4).1) (1=(S.kv a1 a2 a3 a4).2) (∃(x1:Nat),((0:Int)=x1/\aR0 false (S.ajd a1 a2 a3) (S.cY a1 a2 a3 a4 x1)/\aL3 [1] (S.ajd a1 a2 a3)=S.bytesOf (S.cY a1 a2 a3 a4 x1))/\S.kz a3 a4 x1) (∀(x2:Nat),S.kz a3 a4 x2->qJ (decide ((x2:Int)<length a4)) (uT 0 x2 (length a4)) (qJ (decide ((16:Int)<length (getD a4 (toNat x2) []))) ([]=(S.kv a1 a2 a3 a4).1) (1=(S.kv a1 a2 a3 a4).2) (q75 (S.bytesOf (S.cY a1 a2 a3 a4 x2))) (∃(x3:Nat×Nat),((0:Int)=x3.1/\aR0 (S.iG (S.cY a1 a2 a3 a4 x2)) (S.lO (length (getD a4 (toNat x2) []))) (S.dN a1 a2 a3 a4 x3.2 x3.1)/\aL3 (S.bytesOf (S.cY a1 a2 a3 a4 x2)) (S.lO (length (getD a4 (toNat x2) [])))=S.bytesOf (S.dN a1 a2 a3 a4 x3.2 x3.1))/\S.iH a3 a4 x3.2 x3.1/\(x2:Int)=x3.2) (∀(x4:Nat×Nat),S.iH a3 a4 x4.2 x4.1/\(x2:Int)=x4.2->gl (decide ((x4.1:Int)<length (getD a4 (toNat x2) []))) (uT 0 x4.1 (length (getD a4 (toNat x2) []))) ((đ (length (S.bytesOf (S.dN a1 a2 a3 a4 x4.2 x4.1)))/\aSb (aM5 a4 x2 x4).2.2.2.2.2)/\na (x4.1+1)/\(∃(x5:Nat×Nat),((x4.1:Int)+1=x5.1/\aR0 (S.iG (S.dN a1 a2 a3 a4 x4.2 x4.1)) (S.ku ((aM5 a4 x2 x4).1,(aM5 a4 x2 x4).2.1,(aM5 a4 x2 x4).2.2.1,(aM5 a4 x2 x4).2.2.2.1,(aM5 a4 x2 x4).2.2.2.2.1,(aM5 a4 x2 x4).2.2.2.2.2)) (S.dN a1 a2 a3 a4 x5.2 x5.1)/\aL3 (S.bytesOf (S.dN a1 a2 a3 a4 x4.2 x4.1)) (S.ku ((aM5 a4 x2 x4).1,(aM5 a4 x2 x4).2.1,(aM5 a4 x2 x4).2.2.1,(aM5 a4 x2 x4).2.2.2.1,(aM5 a4 x2 x4).2.2.2.2.1,(aM5 a4 x2 x4).2.2.2.2.2))=S.bytesOf (S.dN a1 a2 a3 a4 x5.2 x5.1))/\(S.iH a3 a4 x5.2 x5.1/\(x2:Int)=x5.2)/\S.ag (S.len (S.iE a4 x5.2)) x5.1<S.ag (S.len (S.iE a4 x4.2)) x4.1)) (x2+1) (∃(x6:Nat),sB x2 x6 (S.iG (S.dN a1 a2 a3 a4 x4.2 x4.1)=S.iG (S.cY a1 a2 a3 a4 x6)/\S.bytesOf (S.dN a1 a2 a3 a4 x4.2 x4.1)=S.bytesOf (S.cY a1 a2 a3 a4 x6)) (S.kz a3 a4 x6) (S.len a4)))) True (S.wy (S.bytesOf (S.cY a1 a2 a3 a4 x2),S.iG (S.cY a1 a2 a3 a4 x2))=(S.kv a1 a2 a3 a4).1) (S.wz (S.bytesOf (S.cY a1 a2 a3 a4 x2),S.iG (S.cY a1 a2 a3 a4 x2))=(S.kv a1 a2 a3 a4).2)):=by
 refine aE ?_;have aDF:Vg.hlen a3:=hf.2.2.1.1;refine⟨?_,?_,?_⟩;decide;grind[nt,df,S.alN];intro h2;simp at h2;refine⟨?_,?_⟩
 . refine⟨(nat_lit 0:Nat),?_⟩;dsimp only;with_reducible and_intros
   omega;iterate 2 rfl
   grind[S.ayL]
 intro x3 h4;refine V.dI (λh5=>?_) λgY=>?_
 . with_reducible and_intros
   iterate 2 omega
   . intro h6;try simp at h6
     refine⟨?_,?_⟩
     . rw [S.LV h5 h6]
     rw [S.LV h5 h6]
   intro h7;try simp only [df,tn] at h7
   refine⟨?_,?_,?_⟩;exact X? (S.UK (n:=a1) (g:=a2) h4) (by decide)
   . refine⟨((nat_lit 0:Nat),(x3)),?_⟩;try dsimp only
     with_reducible and_intros
     omega
     iterate 2
      . rw [tn,S.LX w!];rfl
     exact S.alM h4 h5 h7;with_reducible rfl
   intro x8 h9;refine⟨?_,?_⟩
   . intro de;try simp only [dt,tn] at de
     with_reducible and_intros
     omega;assumption;exact X? (S.Yd (n:=a1) (g:=a2) h9.1) (by decide)
     . obtain⟨q,e⟩:=h9;have e':x8.2=x3:=by omega
       rw [e'] at q;exact S.Yc q de
     iterate 2 omega
     refine⟨((Prod.fst x8+nat_lit 1),(x3)),?_⟩;try dsimp only
     with_reducible and_intros
     omega
     . obtain⟨q,e⟩:=h9;have e':x8.2=x3:=by omega
       rw [e',tn,tn];exact(S.abN _ rfl _ _ rfl rfl).1
     . obtain⟨q,e⟩:=h9;have e':x8.2=x3:=by omega
       rw [e',tn,tn];exact(S.abN _ rfl _ _ rfl rfl).2
     . obtain⟨q,e⟩:=h9;have e':x8.2=x3:=by omega
       rw [e'] at q;exact S.Yb q de
     with_reducible rfl
     obtain⟨q,e⟩:=h9;have e':x8.2=x3:=by omega
     rw [e'];have hh:(x8.1:Int)<((S.iE a4 x3).length:Int):=de;simp only [S.ag,S.len];omega
   intro fC;try simp only [df,tn] at fC
   with_reducible and_intros
   iterate 2 omega
   refine⟨(x3+nat_lit 1),?_⟩;try dsimp only
   with_reducible and_intros
   omega
   iterate 2
    . obtain⟨q,e⟩:=h9;have e':x8.2=x3:=by omega
      rw [e'] at q |-;rw [(S.LU (n:=a1) (g:=a2) q fC).2]
   . obtain⟨q,e⟩:=h9;have e':x8.2=x3:=by omega
     rw [e'] at q;exact(S.LU (n:=a1) (g:=a2) q fC).1
   simp only [S.ag,S.len];omega
 refine⟨?_,?_,?_⟩;trivial
 . rw [S.LW h4 gY];rfl
 rw [S.LW h4 gY];rfl
def asQ(b:B8)(c:UInt8)(hp:S.dY b c=0):aRF (decide (1048576<e6 b)) False ((3:Int)=0/\False) (ake (e6 b)) ((4:Int)=0/\False) ((0:Int)<=0/\0<e6 b) (qJ (fX (aJm b 0) (o8 c)) False ((2:Int)=0/\False) (0=0) ((0:Int)=0) (b=b/\(1:Int)=1/\(0:Int)=0)):=by
 refine aE ?_;refine⟨?_,?_⟩
 . intro h1;simp_all[dt,S.abO]
 intro h2;refine⟨?_,?_⟩
 . intro h3;simp_all[dt,S.abP]
 grind[df,nt,S.alR]
def asR(b:B8)(c:UInt8)(hp:¬S.dY b c=0):q14 (decide (1048576<e6 b)) (3=S.dY b c) (q14 (ake (e6 b)) (4=S.dY b c) (((0:Int)<=0/\0<e6 b)/\q14 (fX (aJm b 0) (o8 c)) (2=S.dY b c) (False/\0=S.dY b c))):=by
 refine aE ?_;refine⟨?_,?_⟩
 . simp_all[dt,S.abO]
 intro h2;refine⟨?_,?_⟩
 . simp_all[dt,S.abP]
 intro h4;simp only [df] at h4;with_reducible and_intros
 iterate 2 omega
 grind[nt,df,S.alR];intro h6;simp_all[nf,dt,S.aA7]
def asS(r1:B8)(r2 r3:Int)(hp:r1.length<=140737488355328):q39 r1/\(S.af r1 r2 r3).2=(S.af r1 r2 r3).2/\(S.af r1 r2 r3).1.1=r1/\(S.af r1 r2 r3).1.2.1=(S.af r1 r2 r3).1.2.1/\(S.af r1 r2 r3).1.2.2=(S.af r1 r2 r3).1.2.2:=by
 refine aE ?_;grind[S.C4]
def asT(m:Int)(r1:B8)(r2 r3:Int)(hp:r1.length<=140737488355328):q39 r1/\(S.an r1 r2 r3 m).2=(S.an r1 r2 r3 m).2/\(S.an r1 r2 r3 m).1.1=r1/\(S.an r1 r2 r3 m).1.2.1=(S.an r1 r2 r3 m).1.2.1/\(S.an r1 r2 r3 m).1.2.2=(S.an r1 r2 r3 m).1.2.2:=by
 refine aE ?_;grind[S.BM]
def asU(m:Int)(r1:B8)(r2 r3:Int)(hp:r1.length<=140737488355328):q39 r1/\qJ (decide (m<(S.af r1 r2 r3).2)) (0=(S.dh r1 r2 r3 m).2) (r1=r1/\(S.af r1 r2 r3).1.2.1=(S.dh r1 r2 r3 m).1.1/\2=(S.dh r1 r2 r3 m).1.2) ((S.af r1 r2 r3).2=(S.dh r1 r2 r3 m).2) (r1=r1) ((S.af r1 r2 r3).1.2.1=(S.dh r1 r2 r3 m).1.1/\(S.af r1 r2 r3).1.2.2=(S.dh r1 r2 r3 m).1.2):=by
 refine aE ?_;simp_all[dt,S.aq6,df,S.aA8]
def asV(r1:B8)(r2 r3:Int)(hp:r1.length<=140737488355328):q39 r1/\yb (ahP (S.an r1 r2 r3 10000).1.2.2) (0=(S.cC r1 r2 r3).2.1) ([]=(S.cC r1 r2 r3).2.2.1/\[]=(S.cC r1 r2 r3).2.2.2/\r1=r1/\(S.an r1 r2 r3 10000).1.2.1=(S.cC r1 r2 r3).1.1/\(S.an r1 r2 r3 10000).1.2.2=(S.cC r1 r2 r3).1.2) (q39 (S.an r1 r2 r3 10000).2) ((S.hR (S.an r1 r2 r3 10000).2).1.1=(S.cC r1 r2 r3).2.1/\(S.hR (S.an r1 r2 r3 10000).2).1.2.1=(S.cC r1 r2 r3).2.2.1/\(S.hR (S.an r1 r2 r3 10000).2).1.2.2=(S.cC r1 r2 r3).2.2.2/\r1=r1/\(S.an r1 r2 r3 10000).1.2.1=(S.cC r1 r2 r3).1.1/\(S.hR (S.an r1 r2 r3 10000).2).2=(S.cC r1 r2 r3).1.2):=by
 refine aE ?_;refine⟨?_,?_,?_⟩;omega;grind[nt,df,S.aA9];grind[S.LY,S.aq7]
def asW(r1:B8)(r2 r3:Int)(hp:r1.length<=140737488355328):q39 r1/\qJ (ahP (S.an r1 r2 r3 200).1.2.2) ([]=(S.kQ r1 r2 r3).2.1) ([]=(S.kQ r1 r2 r3).2.2.1/\[]=(S.kQ r1 r2 r3).2.2.2/\r1=r1/\(S.an r1 r2 r3 200).1.2.1=(S.kQ r1 r2 r3).1.1/\(S.an r1 r2 r3 200).1.2.2=(S.kQ r1 r2 r3).1.2) (q39 (S.an r1 r2 r3 200).2) ((S.bj (S.an r1 r2 r3 200).2).1.1=(S.kQ r1 r2 r3).2.1) ((S.bj (S.an r1 r2 r3 200).2).1.2.1=(S.kQ r1 r2 r3).2.2.1/\(S.bj (S.an r1 r2 r3 200).2).1.2.2=(S.kQ r1 r2 r3).2.2.2/\r1=r1/\(S.an r1 r2 r3 200).1.2.1=(S.kQ r1 r2 r3).1.1/\(S.bj (S.an r1 r2 r3 200).2).2=(S.kQ r1 r2 r3).1.2):=by
 refine aE ?_;refine⟨?_,?_,?_⟩;omega;grind[nt,df,S.aBa];grind[S.LY,S.aq8]
def asX(r1:B8)(r2 r3:Int)(hp:r1.length<=140737488355328):q39 r1/\(∃(x1:Nat),aOD x1 ([]=(S.dB r1 r2 r3 x1).2/\r1=r1/\(S.dh r1 r2 r3 64).1.1=(S.dB r1 r2 r3 x1).1.1/\(S.dh r1 r2 r3 64).1.2=(S.dB r1 r2 r3 x1).1.2) (S.pg r1 r2 r3))/\(∀(x2:Nat),S.cc x2 (S.pg r1 r2 r3)->qJ (decide (x2<(S.dh r1 r2 r3 64).2)) (q39 r1) (HR (S.dB r1 r2 r3 x2).2 [(S.ar r1 (S.dB r1 r2 r3 x2).1.1 (S.dB r1 r2 r3 x2).1.2).2]/\HJ x2 (∃(x3:Nat),aRY x2 x3 ((S.dB r1 r2 r3 x2).2++[(S.ar r1 (S.dB r1 r2 r3 x2).1.1 (S.dB r1 r2 r3 x2).1.2).2]=(S.dB r1 r2 r3 x3).2/\(S.ar r1 (S.dB r1 r2 r3 x2).1.1 (S.dB r1 r2 r3 x2).1.2).1.1=r1/\(S.ar r1 (S.dB r1 r2 r3 x2).1.1 (S.dB r1 r2 r3 x2).1.2).1.2.1=(S.dB r1 r2 r3 x3).1.1/\(S.ar r1 (S.dB r1 r2 r3 x2).1.1 (S.dB r1 r2 r3 x2).1.2).1.2.2=(S.dB r1 r2 r3 x3).1.2) (S.pg r1 r2 r3))) ((S.dB r1 r2 r3 x2).2=(S.iK r1 r2 r3).2) (r1=r1) ((S.dB r1 r2 r3 x2).1.1=(S.iK r1 r2 r3).1.1/\(S.dB r1 r2 r3 x2).1.2=(S.iK r1 r2 r3).1.2)):=by
 refine aE ?_;refine⟨?_,?_,?_⟩;omega
 . refine⟨(nat_lit 0:Nat),?_⟩;dsimp only;with_reducible and_intros
   omega;iterate 4 rfl
   exact U! _
 intro x1 h2;refine V.dI (λh3=>?_) λh4=>?_
 . with_reducible and_intros
   omega
   . have:=S.LZ r1 r2 r3 x1;have:=S.OP r1 r2 r3;have q:x1<=S.pg r1 r2 r3:=h2
     rw [C?];omega
   omega
   . have:=S.OP r1 r2 r3;have q:x1<=S.pg r1 r2 r3:=h2
     omega
   refine⟨(x1+nat_lit 1),?_⟩;dsimp only;with_reducible and_intros
   omega;exact rfl;exact(S.C4 _ _ _).2;iterate 2 exact rfl
   exact S.ó h3;have e:S.pg r1 r2 r3=(S.dh r1 r2 r3 64).2.toNat:=rfl;simp [S.ag];omega
 refine⟨?_,?_,?_,?_⟩
 . have e:=S.OQ h2 h4;rw [e];rfl
 rfl
 . have e:=S.OQ h2 h4;rw [e];rfl
 have e:=S.OQ h2 h4;rw [e];rfl
def asY(r1:B8)(r2 r3:Int)(hp:r1.length<=140737488355328):q39 r1/\q39 r1/\q39 r1/\q39 r1/\(S.af r1 r2 r3).2=(S.iF r1 r2 r3).2.1/\(aMd r1 r2 r3).2.1=(S.iF r1 r2 r3).2.2.1/\(aMd r1 r2 r3).2.2.1=(S.iF r1 r2 r3).2.2.2.1/\(aMd r1 r2 r3).2.2.2=(S.iF r1 r2 r3).2.2.2.2.1/\(S.iK r1 (aMd r1 r2 r3).1.1 (aMd r1 r2 r3).1.2).2=(S.iF r1 r2 r3).2.2.2.2.2.1/\(S.an r1 (S.iK r1 (aMd r1 r2 r3).1.1 (aMd r1 r2 r3).1.2).1.1 (S.iK r1 (aMd r1 r2 r3).1.1 (aMd r1 r2 r3).1.2).1.2 4000).2=(S.iF r1 r2 r3).2.2.2.2.2.2/\r1=r1/\(S.an r1 (S.iK r1 (aMd r1 r2 r3).1.1 (aMd r1 r2 r3).1.2).1.1 (S.iK r1 (aMd r1 r2 r3).1.1 (aMd r1 r2 r3).1.2).1.2 4000).1.2.1=(S.iF r1 r2 r3).1.1/\(S.an r1 (S.iK r1 (aMd r1 r2 r3).1.1 (aMd r1 r2 r3).1.2).1.1 (S.iK r1 (aMd r1 r2 r3).1.1 (aMd r1 r2 r3).1.2).1.2 4000).1.2.2=(S.iF r1 r2 r3).1.2:=by
 refine aE ?_;with_reducible and_intros
 iterate 4 omega
 iterate 9 rfl
def asZ(b:B8)(hp:b.length<=140737488355328/\S.dY b 1=0):S.dY b 1=0/\qJ (aRZ 0) (0=(S.bp b).1.1) ([]=(S.bp b).1.2.1/\[]=(S.bp b).1.2.2.1/\[]=(S.bp b).1.2.2.2/\0=(S.bp b).2) (q39 b) (∃(x1:Nat),aOD x1 (b=b/\(S.cC b 1 0).1.1=(S.js b x1).1.1/\(S.cC b 1 0).1.2=(S.js b x1).1.2/\(S.cC b 1 0).2.1=(aLY b).1/\(S.cC b 1 0).2.2.1=(aLY b).2.1/\(S.cC b 1 0).2.2.2=(aLY b).2.2/\[]=(S.js b x1).2) (S.aN b)) (∀(x2:Nat),S.cc x2 (S.aN b)->yb (decide ((x2:Int)<length (S.cC b 1 0).2.2.2)) (q39 b) ((∃(x3:Nat×Nat),((0:Int)=x3.1/\[]=(S.BX b x3.2 x3.1).2/\b=b/\(S.dh b (S.js b x2).1.1 (S.js b x2).1.2 16).1.1=(S.BX b x3.2 x3.1).1.1/\(S.dh b (S.js b x2).1.1 (S.js b x2).1.2 16).1.2=(S.BX b x3.2 x3.1).1.2/\(aLY b).1=(aLY b).1/\(aLY b).2.1=(aLY b).2.1/\(aLY b).2.2=(aLY b).2.2/\(S.js b x2).2=(S.js b x3.2).2)/\(S.cc x3.1 (S.qE b x3.2)/\x3.2+1<=S.aN b)/\(x2:Int)=x3.2)/\(∀(x4:Nat×Nat),(S.cc x4.1 (S.qE b x4.2)/\x4.2+1<=S.aN b)/\(x2:Int)=x4.2->yb (decide (x4.1<(S.dh b (S.js b x2).1.1 (S.js b x2).1.2 16).2)) (q39 b) (length (aOY b x4).2+length [((aMX b x4).2.1,(aMX b x4).2.2.1,(aMX b x4).2.2.2.1,(aMX b x4).2.2.2.2.1,(aMX b x4).2.2.2.2.2.1,(aMX b x4).2.2.2.2.2.2)]<=1353245080339/\na (x4.1+1)/\(∃(x5:Nat×Nat),((x4.1:Int)+1=x5.1/\(aOY b x4).2++[((aMX b x4).2.1,(aMX b x4).2.2.1,(aMX b x4).2.2.2.1,(aMX b x4).2.2.2.2.1,(aMX b x4).2.2.2.2.2.1,(aMX b x4).2.2.2.2.2.2)]=(S.BX b x5.2 x5.1).2/\b=b/\(aMX b x4).1.1=(S.BX b x5.2 x5.1).1.1/\(aMX b x4).1.2=(S.BX b x5.2 x5.1).1.2/\(aLY b).1=(aLY b).1/\(aLY b).2.1=(aLY b).2.1/\(aLY b).2.2=(aLY b).2.2/\(S.js b x4.2).2=(S.js b x5.2).2)/\((S.cc x5.1 (S.qE b x5.2)/\x5.2+1<=S.aN b)/\(x2:Int)=x5.2)/\S.ag (S.qE b x5.2) x5.1<S.ag (S.qE b x4.2) x4.1)) (aSO (S.js b x4.2).2 [(aOY b x4).2]) (HJ x2 (∃(x6:Nat),aRY x2 x6 (b=b/\(aOY b x4).1.1=(S.js b x6).1.1/\(aOY b x4).1.2=(S.js b x6).1.2/\(aLY b).1=(aLY b).1/\(aLY b).2.1=(aLY b).2.1/\(aLY b).2.2=(aLY b).2.2/\(S.js b x4.2).2++[(aOY b x4).2]=(S.js b x6).2) (S.aN b))))) True (qJ (ahP (S.done b (S.js b x2).1.1 (S.js b x2).1.2)) (0=(S.bp b).1.1) ([]=(S.bp b).1.2.1/\[]=(S.bp b).1.2.2.1/\[]=(S.bp b).1.2.2.2/\S.done b (S.js b x2).1.1 (S.js b x2).1.2=(S.bp b).2) ((aLY b).1=(S.bp b).1.1) ((aLY b).2.1=(S.bp b).1.2.1) ((aLY b).2.2=(S.bp b).1.2.2.1/\(S.js b x2).2=(S.bp b).1.2.2.2/\0=(S.bp b).2))):=by
 refine aE ?_;have qg:=hp.2;refine⟨?_,?_,?_⟩;omega;grind;intro h2;refine⟨?_,?_,?_⟩;omega
 . refine⟨(nat_lit 0:Nat),?_⟩;dsimp only;with_reducible and_intros
   omega;iterate 7 rfl
   exact U! _
 intro x3 h4;refine V.dI (λh5=>?_) λde=>?_
 . refine⟨?_,?_,?_⟩;omega
   . refine⟨((nat_lit 0:Nat),(x3)),?_⟩;try dsimp only
     with_reducible and_intros
     omega;exact rfl;rfl;iterate 2 exact rfl
     iterate 3 rfl
     with_reducible rfl
     exact U! _;exact S.UL h5;with_reducible rfl
   intro x6 h7;refine V.dI (λh8=>?_) λh9=>?_
   . with_reducible and_intros
     omega
     . rw [S.aq9,C?];have:=S.alT b x6.2;have :x6.1<=S.qE b x6.2:=h7.1.1
       omega
     omega
     . have:=S.alT b x6.2;have :x6.1<=S.qE b x6.2:=h7.1.1
       omega
     refine⟨((Prod.fst x6+nat_lit 1),(x3)),?_⟩;try dsimp only
     with_reducible and_intros
     omega
     . have e':x6.2=x3:=by have:=h7.2;omega
       rw [e'];exact rfl
     rfl
     iterate 2
      . have e':x6.2=x3:=by have:=h7.2;omega
        rw [e'];exact rfl
     iterate 3 rfl
     . have e':x6.2=x3:=by have:=h7.2;omega
       rw [e']
     exact S.ó (by assumption);omega;with_reducible rfl
     have e':x6.2=x3:=by have:=h7.2;omega
     rw [e'];have q:=S.ó (by assumption);have w:S.qE b x3=(S.dh b (S.js b x3).1.1 (S.js b x3).1.2 16).2.toNat:=rfl
     simp only [S.ag];omega
   with_reducible and_intros
   . rw [S.ara,C?];have:=S.ô b;have:=h7.1.2;omega
   omega
   . have:=S.ô b;have:=S.UL h5;omega
   refine⟨(x3+nat_lit 1),?_⟩;try dsimp only
   with_reducible and_intros
   omega;rfl
   iterate 2
    . have e':x6.2=x3:=by have:=h7.2;omega
      rw [e'];have q:x6.1=S.qE b x3:=S.OQ (e'▸h7.1.1) (by assumption)
      rw [q];exact rfl
   iterate 3 rfl
   . have e':x6.2=x3:=by have:=h7.2;omega
     rw [e'];have q:x6.1=S.qE b x3:=S.OQ (e'▸h7.1.1) (by assumption)
     rw [q];exact rfl
   exact S.UL h5;have:=S.UL h5;simp only [S.ag];omega
 refine⟨?_,?_,?_⟩;trivial
 . intro fC;simp at fC;with_reducible and_intros
   iterate 4 (rw [S.alU qg (S.õ h4 (by assumption)) (by assumption)])
   rw [S.alU qg (S.õ h4 (by assumption)) (by assumption)]
 grind[S.ayN,S.õ]
def as1(b:B8)(hp:¬S.dY b 1=0):(S.dY b 1=0->False)/\pf (ahP (S.dY b 1)) (0=(S.bp b).1.1) ([]=(S.bp b).1.2.1/\[]=(S.bp b).1.2.2.1/\[]=(S.bp b).1.2.2.2/\S.dY b 1=(S.bp b).2) False:=by
 refine aE ?_;simp_all[nt,df,S.ayM,nf,dt]
def as6(y1:Int)(y2:B8)(y3:M (Int×Int×Int×B8))(hp:S.bN y1 y2 y3=true)(hf:Vg.gq J.vg (y1,y2,y3)):0<=y1/\wJ (S.num y1) y2/\(0:Int)<=length y3/\wJ (S.num y1++y2) (S.num (length y3))/\(∃(x1:Nat),((0:Int)=x1/\S.num y1++y2++S.num (length y3)=S.sK y1 y2 y3 x1)/\S.D7 y1 y2 y3 x1)/\(∀(x2:Nat),S.D7 y1 y2 y3 x2->Fi (decide ((x2:Int)<length y3)) 0 x2 (length y3) (0<=(amK y3 x2 0).2.1/\wJ (S.sK y1 y2 y3 x2) (S.num (amK y3 x2 0).2.1)/\0<=(amK y3 x2 0).2.2.1/\wJ (S.sK y1 y2 y3 x2++S.num (amK y3 x2 0).2.1) (S.num (amK y3 x2 0).2.2.1)/\wJ (S.sK y1 y2 y3 x2++S.num (amK y3 x2 0).2.1++S.num (amK y3 x2 0).2.2.1) (amK y3 x2 0).2.2.2/\HJ x2 (∃(x3:Nat),sB x2 x3 (S.sK y1 y2 y3 x2++S.num (amK y3 x2 0).2.1++S.num (amK y3 x2 0).2.2.1++(amK y3 x2 0).2.2.2=S.sK y1 y2 y3 x3) (S.D7 y1 y2 y3 x3) (S.len y3))) (S.sK y1 y2 y3 x2=S.hB y1 y2 y3)):=by
 refine aE ?_;have ğ:Vg.hint y1:=hf.1;have JC:Vg.hlen y2:=hf.2.1;have anr:Vg.hlen y3:=hf.2.2.1.1;clear hf;have hb:=S.pT hp;have n1:=S.cX y1;have n2:=S.cX (y3.length:Int);with_reducible and_intros
 iterate 3 omega
 grind
 . refine⟨0,?_⟩;try dsimp only
   with_reducible and_intros
   omega;grind[S.ayF];exact⟨hp,Nat.zero_le _⟩
 intro x1 h2;refine⟨?_,?_⟩
 . intro h3;try simp only [dt] at h3
   with_reducible and_intros
   iterate 2 omega
   . have q:=S.E5 h2 h3;rw [tn];have:=S.L0 q.1;have:=S.L0 q.2.1;unfold S.sg at *;omega
   . have q:=S.C6 h2;have w:=S.E5 h2 h3;have a1:=S.cX (y3.getD (toNat (x1:Int)) (0,0,0,[])).2.1;have a2:=S.cX (y3.getD (toNat (x1:Int)) (0,0,0,[])).2.2.1;have a3:(y3.getD (toNat (x1:Int)) (0,0,0,[])).2.2.2.length=32:=w.2.2
     omega
   . have q:=S.E5 h2 h3;rw [tn];have:=S.L0 q.1;have:=S.L0 q.2.1;unfold S.sg at *;omega
   iterate 2
    . have q:=S.C6 h2;have w:=S.E5 h2 h3;have a1:=S.cX (y3.getD (toNat (x1:Int)) (0,0,0,[])).2.1;have a2:=S.cX (y3.getD (toNat (x1:Int)) (0,0,0,[])).2.2.1;have a3:(y3.getD (toNat (x1:Int)) (0,0,0,[])).2.2.2.length=32:=w.2.2
      simp only [K!];omega
   iterate 2 omega
   refine⟨(x1+1),?_⟩;try dsimp only
   with_reducible and_intros
   omega
   . rw [tn];exact S.XU h3
   exact⟨hp,w!⟩;simp only [S.ag,S.len];omega
 grind[df,S.UD]
def as7(y1:Int)(y2:B8)(y3:M (Int×Int×Int×B8))(hp:S.bN y1 y2 y3=true):S.bN y1 y2 y3/\S.aC (S.hB y1 y2 y3)/\S.eW 3 (S.hB y1 y2 y3)=S.uW y1 y2 y3:=by
 refine⟨?_,?_,?_⟩;omega;grind[S.abT];rfl
def as8(y1:Int)(y2:B8)(y3:M (Int×Int×Int×B8)):ec (qJ (ahP (S.hW y1 y2 y3).2) ([]=(S.im y1 y2 y3).1) ((S.hW y1 y2 y3).2=(S.im y1 y2 y3).2) (S.aC (S.hW y1 y2 y3).1) (S.mF 3 (S.hW y1 y2 y3).1=(S.im y1 y2 y3).1) (0=(S.im y1 y2 y3).2)):=by
 refine aE ?_;simp_all[nt,df,S.aBe,nf,dt,S.arc]
def as9(y1:O)(y2:M (Int×Int×M (B8×U))):ec (qJ (ahP (S.iv y1 y2).2) ([]=(S.mG y1 y2).1) (7=(S.mG y1 y2).2) True ((S.im (S.iv y1 y2).1.1 (S.iv y1 y2).1.2.1 (S.iv y1 y2).1.2.2).1=(S.mG y1 y2).1) ((S.im (S.iv y1 y2).1.1 (S.iv y1 y2).1.2.1 (S.iv y1 y2).1.2.2).2=(S.mG y1 y2).2)):=by
 refine aE ?_;simp_all[nt,df,S.aBf,nf,dt,S.ard]
def ata(t:B8)(dd:M (B8×U))(er:Int)(hp:S.bn dd/\S.bg dd=true/\S.isTerm t=true/\er=0):(S.bn dd/\S.small t)/\length [((S.ij dd t).1.1,(S.ij dd t).1.2.1,(S.ij dd t).1.2.2.1,(S.ij dd t).1.2.2.2.1,(S.ij dd t).1.2.2.2.2.1,(S.ij dd t).1.2.2.2.2.2)]<=1353245080339/\dd=dd/\(bif ake er then(S.ij dd t).2 else er)=0/\[((S.ij dd t).1.1,(S.ij dd t).1.2.1,(S.ij dd t).1.2.2.1,(S.ij dd t).1.2.2.2.1,(S.ij dd t).1.2.2.2.2.1,(S.ij dd t).1.2.2.2.2.2)]=[S.la dd t]:=by
 refine aE ?_;grind[S.KK,List.length_singleton,S.OJ]
def atb(t:B8)(dd:M (B8×U))(er:Int)(l:M (Int×B8×B8×B8×O×B8))(hp:S.bn dd/\S.bg dd=true/\S.isTerm t=true/\er=0/\l.length<=100000):(S.bn dd/\S.small t)/\length l+length [((S.ij dd t).1.1,(S.ij dd t).1.2.1,(S.ij dd t).1.2.2.1,(S.ij dd t).1.2.2.2.1,(S.ij dd t).1.2.2.2.2.1,(S.ij dd t).1.2.2.2.2.2)]<=1353245080339/\dd=dd/\(bif ake er then(S.ij dd t).2 else er)=0/\l++[((S.ij dd t).1.1,(S.ij dd t).1.2.1,(S.ij dd t).1.2.2.1,(S.ij dd t).1.2.2.2.1,(S.ij dd t).1.2.2.2.2.1,(S.ij dd t).1.2.2.2.2.2)]=l++[S.la dd t]:=by
 refine aE ?_;grind[S.KK,List.length_singleton,S.OJ]
def atc(d:M (B8×U))(er:Int)(ts:O)(hp:S.Jc d ts/\er=0)(hf:Vg.akd J.acD d)(hg:Vg.fB.ok J.azd (er,(ts,()))):(∃(x1:Nat),((0:Int)=x1/\d=d/\[]=S.rN d ts x1/\er=0/\ts=ts)/\S.gX ts x1)/\(∀(x2:Nat),S.gX ts x2->qJ (decide (x2<ml ts)) (uT 0 x2 (ml ts)) ((S.bn d/\S.bg d/\S.isTerm (mY ts x2)/\(0:Int)=0/\length (S.rN d ts x2)<=100000)/\HJ x2 (∃(x3:Nat),sB x2 x3 (d=d/\S.rN d ts x2++[S.la d (mY ts x2)]=S.rN d ts x3/\(0:Int)=0/\ts=ts) (S.gX ts x3) (S.len ts))) (S.rN d ts x2=S.Lm d ts) ((0:Int)=0) (ts=ts)):=by
 refine aE ?_;have aLE:Vg.hlen d:=hf.1.1;have aK4:Vg.hint er:=hg.1.1;have aK5:Vg.hlen ts:=hg.2.1.1.1;clear hf hg;obtain⟨qg,q4⟩:=hp;subst q4;refine⟨?_,?_⟩
 . refine⟨0,?_⟩;try dsimp only
   with_reducible and_intros
   omega;iterate 4 rfl
   exact U! _
 intro x1 h2;refine⟨?_,?_⟩
 . intro h3;try simp only [dt] at h3
   with_reducible and_intros
   iterate 2 omega
   exact qg.1;exact qg.2.1;exact S.aBg qg h3;rfl
   . have:=S.are d ts x1;have:=qg.2.2.1;omega
   iterate 2 omega
   refine⟨(x1+1),?_⟩;try dsimp only
   with_reducible and_intros
   omega;rfl;exact S.al3 h3;iterate 2 rfl
   . unfold S.gX;omega
   simp only [S.ag,S.len];omega
 grind[df,S.arf]
def atd(y1:O)(y2:M (Int×Int×M (B8×U)))(l:M (Int×B8))(hp:S.fV l)(hf:Vg.gq J.am6 (y1,y2,l)):ec (yb (ahP (S.iv y1 y2).2) ([]=(S.fE y1 y2 l).1) (7=(S.fE y1 y2 l).2) (S.fV l) (qJ (Bool.not (S.bw l)) ([]=(S.fE y1 y2 l).1) (1=(S.fE y1 y2 l).2) (S.small l) (∃(x1:Nat),((0:Int)=x1/\(S.iv y1 y2).2=0/\S.ax l=S.ax l/\(S.iv y1 y2).1.1=S.len y1/\(S.iv y1 y2).1.2.1=aQ2 y1/\(S.iv y1 y2).1.2.2=S.cB y1 y2/\[]=S.iL y2 (S.ax l) x1)/\S.gX y2 x1/\S.gv y1 y2/\S.bw l) (∀(x2:Nat),S.gX y2 x2/\S.gv y1 y2/\S.bw l->Fi (decide ((x2:Int)<length y2)) 0 x2 (length y2) ((S.Jc (getD y2 (toNat x2) (0,0,[])).2.2 (S.ax l)/\(0:Int)=0)/\aSO (S.iL y2 (S.ax l) x2) [S.Lm (getD y2 (toNat x2) (0,0,[])).2.2 (S.ax l)]/\HJ x2 (∃(x3:Nat),sB x2 x3 ((0:Int)=0/\S.ax l=S.ax l/\(S.len y1:Int)=S.len y1/\aQ2 y1=aQ2 y1/\S.cB y1 y2=S.cB y1 y2/\S.iL y2 (S.ax l) x2++[S.Lm (getD y2 (toNat x2) (0,0,[])).2.2 (S.ax l)]=S.iL y2 (S.ax l) x3) (S.gX y2 x3/\S.gv y1 y2/\S.bw l) (S.len y2))) (qJ (aRZ 0) ([]=(S.fE y1 y2 l).1) (0=(S.fE y1 y2 l).2) (S.qD (S.iL y2 (S.ax l) x2)) ((S.kv (S.len y1) (aQ2 y1) (S.cB y1 y2) (S.iL y2 (S.ax l) x2)).1=(S.fE y1 y2 l).1) ((S.kv (S.len y1) (aQ2 y1) (S.cB y1 y2) (S.iL y2 (S.ax l) x2)).2=(S.fE y1 y2 l).2))))):=by
 refine aE ?_;have JC:Vg.hlen y2:=hf.2.1.1;refine⟨?_,?_,?_⟩;trivial;grind[nt,df,S.al4];intro h2;simp at h2;refine⟨?_,?_,?_⟩;omega;grind[nt,S.abW];intro h4;simp at h4;refine⟨?_,?_,?_⟩;exact hp.1
 . refine⟨(nat_lit 0:Nat),?_⟩;dsimp only;with_reducible and_intros
   iterate 2 omega
   rfl;exact(S.wA h2).2.1;iterate 2 (simp_all[S.wA])
   rfl;exact Nat.zero_le _;grind[S.wA];omega
 intro x5 h6;refine V.dI (λh7=>?_) λh8=>?_
 . with_reducible and_intros
   iterate 2 omega
   exact S.abV h6.2.1 h6.2.2 h7;rfl
   . have:=S.abU y2 (S.ax l) x5;have:=S.Jd h6.2.1;rw [C?];omega
   iterate 2 omega
   refine⟨(x5+nat_lit 1),?_⟩;try dsimp only
   with_reducible and_intros
   omega;iterate 5 rfl
   exact S.Yg h7
   . unfold S.gX;omega
   exact h6.2.1;omega;simp only [S.ag,S.len];omega
 refine⟨?_,?_⟩
 . intro h9;refine⟨?_,?_⟩
   . grind
   grind
 grind[S.abX]
def ate(i n:Int)(hp:S.eM i n):(∃(x1:Int×Int×M Bool),(i=x1.1/\n=x1.2.1/\[]=x1.2.2)/\S.j6 i n x1)/\(∀(x2:Int×Int×M Bool),S.j6 i n x2->pf (decide (1<x2.2.1)) True (yb (decide (x2.1<S.split x2.2.1)) (q19 (length x2.2.2+length [false])) (∃(x3:Int×Int×M Bool),(x2.1=x3.1/\S.split x2.2.1=x3.2.1/\x2.2.2++[false]=x3.2.2)/\S.j6 i n x3/\aHF x3.2.1 (toNat x2.2.1)) (q19 (length x2.2.2+length [true])) (aji (x2.1-S.split x2.2.1) (x2.2.1-S.split x2.2.1) (∃(x4:Int×Int×M Bool),(x2.1-S.split x2.2.1=x4.1/\x2.2.1-S.split x2.2.1=x4.2.1/\x2.2.2++[true]=x4.2.2)/\S.j6 i n x4/\aHF x4.2.1 (toNat x2.2.1)))) (x2.2.2=S.aZ i n)):=by
 refine aE ?_;refine⟨?_,?_⟩
 . refine⟨((i),((n),([]))),?_⟩;grind[S.aHa]
 intro x1 h2;refine⟨?_,?_⟩
 . intro h3;refine⟨?_,?_,?_⟩;trivial
   . intro h4;refine⟨?_,?_⟩
     . grind[S.OR,lc,ln]
     refine⟨((x1.1),((S.split (x1.2.1)),(x1.2.2++[Bool.false]))),?_⟩;grind[S.aHb,S.OR]
   intro h5;simp at h5;with_reducible and_intros
   grind[S.OR,lc,ln];omega;iterate 3 (grind[S.OR])
   refine⟨((x1.1-S.split (x1.2.1)),((x1.2.1-S.split (x1.2.1)),(x1.2.2++[Bool.true]))),?_⟩;grind[S.aHc,S.OR]
 grind[df,S.sd_end]
def atf(d:B8)(i n:Int)(p:O)(hp:S.dM p)(hf:Vg.gq J.aze (d,i,n,p)):qJ (cE (aP0 d) (aPZ n (1:Int) (aPZ (1099511627776:Int) n (aPZ i (0:Int) (decide (n<=i)))))) (([]:B8)=S.kq d i n p) ((1:Int)=S.eQ d i n p) (S.eM i n) (aMc (fX (ml p) (length (S.aZ i n):Int))) (yb (wH (fX (ml p) (length (S.aZ i n):Int)) (S.bQ p)) (([]:B8)=S.kq d i n p) ((6:Int)=S.eQ d i n p) (∃(x1:Nat),((0:Int)=(x1:Int)/\d=S.jL d i n p x1)/\S.eQ d i n p=(0:Int)/\x1<=S.len p) (∀(x2:Nat),S.eQ d i n p=(0:Int)/\x2<=S.len p->yb (decide ((x2:Int)<ml p)) (na ((length (S.aZ i n):Int)-(1:Int))) (q77 ((length (S.aZ i n):Int)-(1:Int)-(x2:Int)) (0:Int) (length (S.aZ i n):Int) (toNat ((length (S.aZ i n):Int)-(1:Int)-(x2:Int))<length (S.aZ i n)/\((getD (S.aZ i n) (toNat ((length (S.aZ i n):Int)-(1:Int)-(x2:Int))) false=true->aL7 (x2:Int) (ml p) True)/\(getD (S.aZ i n) (toNat ((length (S.aZ i n):Int)-(1:Int)-(x2:Int))) false=false->aL7 (x2:Int) (ml p) True))/\HJ (x2:Int) (∃(x3:Nat),((x2:Int)+(1:Int)=(x3:Int)/\(bif getD (S.aZ i n) (toNat ((length (S.aZ i n):Int)-(1:Int)-(x2:Int))) false then S.aT (mY p (x2:Int)) (S.jL d i n p x2) else S.aT (S.jL d i n p x2) (mY p (x2:Int)))=S.jL d i n p x3)/\(S.eQ d i n p=(0:Int)/\x3<=S.len p)/\q43 (S.len p) x3 x2))) (S.jL d i n p x2=S.kq d i n p) ((0:Int)=S.eQ d i n p))):=by
 refine aE ?_;have YK:Vg.hlen p:=hf.2.2.2.1.1;refine⟨?_,?_⟩
 . grind[S.aBh]
 intro h2;simp at h2;with_reducible and_intros
 grind[S.abY];iterate 2 grind
 grind[S.arj];intro h6;simp at h6;refine⟨?_,?_⟩
 . grind[S.aHd,S.aBi]
 intro x7 h8;refine⟨?_,?_⟩
 . intro h9;simp at h9;with_reducible and_intros
   iterate 7 omega
   iterate 2 grind
   iterate 2 omega
   refine⟨(x7+nat_lit 1),?_⟩;dsimp only;with_reducible and_intros
   omega
   ((exact S.al6 x! w!))
   omega;iterate 2 (grind [S.ag,S.len])
 grind[df,S.mg,S.abY,S.Je,S.ark]
def atg(m:Nat)(i n:Int)(hm:n.toNat<m+1)(hp:S.eM i n)(hf:Vg.gq J.aHO (i,n)):q14 (decide (n<2)) (0=S.e8 i n) (ec (gl (decide (i<S.split n)) (aHF (S.split n) m/\S.eM i (S.split n)) (na (1+S.e8 i (S.split n))/\1+S.e8 i (S.split n)=S.e8 i n) (i-S.split n) (na (n-S.split n)/\(aHF (n-S.split n) m/\S.eM (i-S.split n) (n-S.split n))/\na (1+S.e8 (i-S.split n) (n-S.split n))/\1+S.e8 (i-S.split n) (n-S.split n)=S.e8 i n))):=by
 refine aE ?_;have acK:Vg.hint i:=hf.1;have SS:Vg.hint n:=hf.2.1;refine⟨?_,?_⟩
 . simp_all[dt,S.e8,S.jK]
 intro h2;simp at h2;refine⟨?_,?_,?_⟩;trivial
 . intro h3;simp at h3;with_reducible and_intros
   . (have q:=S.Jf hp w! w!;omega)
   simp_all[S.Jf]
   . (have q:=S.Jf hp w! w!;have e:S.e8 i (S.split n)=(S.aZ i (S.split n)).length:=rfl;omega)
   . (have q:=S.Jf hp w! w!;have l:=S.mg q.2.1;have e:S.e8 i (S.split n)=(S.aZ i (S.split n)).length:=rfl;omega)
   grind[S.Jf,S.mg]
 intro h4;simp at h4;with_reducible and_intros
 omega
 . (have q:=S.E7 hp w! w!;omega)
 omega
 iterate 2
  . (have q:=S.E7 hp w! w!;omega)
 simp_all[S.E7]
 . (have q:=S.E7 hp w! w!;have e:S.e8 (i-S.split n) (n-S.split n)=(S.aZ (i-S.split n) (n-S.split n)).length:=rfl;omega)
 . (have q:=S.E7 hp w! w!;have l:=S.mg q.2.1;have e:S.e8 (i-S.split n) (n-S.split n)=(S.aZ (i-S.split n) (n-S.split n)).length:=rfl;omega)
 grind[S.E7,S.mg]
def ath(m:Nat)(d:B8)(i n:Int)(p:O)(hm:n.toNat<m+1)(hp:S.mB d i n p)(hf:Vg.gq J.aze (d,i,n,p)):q14 (decide (n<2)) (d=S.kN d i n p) (ec (na (ml p-1)/\yb (decide (i<S.split n)) (aKT (ml p-1) (ml p)) ((aHF (S.split n) m/\S.mB d i (S.split n) (aQx p))/\uT 0 (ml p-1) (ml p)/\S.aC (S.kN d i (S.split n) (aQx p)++q76 p (toNat (ml p-1)))/\S.eW 1 (S.kN d i (S.split n) (aQx p)++q76 p (toNat (ml p-1)))=S.kN d i n p) (uT 0 (ml p-1) (ml p)) (aji (i-S.split n) (n-S.split n) (sC (ml p-1) (ml p) ((aHF (n-S.split n) m/\S.mB d (i-S.split n) (n-S.split n) (aQx p))/\S.aC (q76 p (toNat (ml p-1))++S.kN d (i-S.split n) (n-S.split n) (aQx p))/\S.eW 1 (q76 p (toNat (ml p-1))++S.kN d (i-S.split n) (n-S.split n) (aQx p))=S.kN d i n p))))):=by
 refine aE ?_;have acK:Vg.hint i:=hf.2.1;have SS:Vg.hint n:=hf.2.2.1;have YK:Vg.hlen p:=hf.2.2.2.1.1;refine V.dI (λh1=>?_) λh2=>?_
 . grind[S.aHe]
 with_reducible and_intros
 trivial;iterate 2 omega
 grind[S.aHf,S.mg];grind[df,S.aHg,S.mg]
def ati(b:B8)(hp:b.length<=140737488355328):q39 b/\aRF (ahP (S.af b 0 0).1.2.2) ([]=(S.b8 b).1) ((S.af b 0 0).1.2.2=(S.b8 b).2) (decide (1000<(S.af b 0 0).2)) (2=(S.b8 b).2) (∃(x1:Nat×Int×Int×Int×U),((0:Int)=x1.1/\-1=x1.2.2.2.1/\[]=x1.2.2.2.2/\(S.af b 0 0).1.1=b/\(S.af b 0 0).1.2.1=x1.2.1/\(S.af b 0 0).1.2.2=x1.2.2.1)/\S.uY b x1.1 x1.2) (∀(x2:Nat×Int×Int×Int×U),S.uY b x2.1 x2.2->yb (decide (x2.1<(S.af b 0 0).2)) (q39 b) (gl (ahP (S.af b x2.2.1 x2.2.2.1).1.2.2) ([]=(S.b8 b).1) ((S.af b x2.2.1 x2.2.2.1).1.2.2=(S.b8 b).2) (999-x2.2.2.2.1) (na (999-x2.2.2.2.1-1)/\gl (decide (999-x2.2.2.2.1-1<(S.af b x2.2.1 x2.2.2.1).2)) ([]=(S.b8 b).1) (2=(S.b8 b).2) ((S.af b x2.2.1 x2.2.2.1).2+1) (na (x2.2.2.2.1+((S.af b x2.2.1 x2.2.2.1).2+1))/\aOo x2.2.2.2.2 [x2.2.2.2.1+((S.af b x2.2.1 x2.2.2.1).2+1)]/\na (x2.1+1)/\(∃(x3:Nat×Int×Int×Int×U),((x2.1:Int)+1=x3.1/\x2.2.2.2.1+((S.af b x2.2.1 x2.2.2.1).2+1)=x3.2.2.2.1/\x2.2.2.2.2++[x2.2.2.2.1+((S.af b x2.2.1 x2.2.2.1).2+1)]=x3.2.2.2.2/\(S.af b x2.2.1 x2.2.2.1).1.1=b/\(S.af b x2.2.1 x2.2.2.1).1.2.1=x3.2.1/\(S.af b x2.2.1 x2.2.2.1).1.2.2=x3.2.2.1)/\S.uY b x3.1 x3.2/\q43 1000 x3.1 x2.1)))) True (yb (ahP (S.done b x2.2.1 x2.2.2.1)) ([]=(S.b8 b).1) (S.done b x2.2.1 x2.2.2.1=(S.b8 b).2) (x2.2.2.2.2=(S.b8 b).1) (0=(S.b8 b).2))):=by
 refine aE ?_;refine⟨?_,?_,?_⟩;grind
 . intro h1;simp at h1;refine⟨?_,?_⟩
   . exact(S.ab4 h1).1
   exact(S.ab4 h1).2
 intro h2;simp at h2;refine V.dI (λh3=>?_) λh4=>?_
 . refine⟨?_,?_⟩
   . exact(S.Ym h2 h3).1
   exact(S.Ym h2 h3).2
 refine⟨?_,?_⟩
 . refine⟨(0,(((((S.af b (0:Int) (0:Int)).1).2).1),(((((S.af b (0:Int) (0:Int)).1).2).2),(((-1:Int)),([]))))),?_⟩;with_reducible and_intros
   grind;iterate 2 rfl
   grind[S.C4];iterate 2 rfl
   exact S.aHl h2 h4
 intro x5 h6;refine V.dI (λh7=>?_) λgY=>?_
 . refine⟨?_,?_,?_⟩;omega
   . intro h8;try simp only [nt,df] at h8
     refine⟨?_,?_⟩
     . exact(S.ab5 h6 h7 h8).1
     exact(S.ab5 h6 h7 h8).2
   intro h9;try simp only [nf,dt] at h9
   with_reducible and_intros
   iterate 4
    . (have q1:=h6.2.2.2.2.1;have q2:=h6.2.2.2.2.2.1;have q3:=h6.2.2.2.2.2.2;have q4:=h6.2.2.1;have q5:=S.qG b x5.2.1 x5.2.2.1;have q6:=h6.1;omega)
   . intro de;try simp only [dt] at de
     refine⟨?_,?_⟩
     . exact(S.ab6 h6 h7 h9 w!).1
     exact(S.ab6 h6 h7 h9 w!).2
   intro fC;try simp only [df] at fC
   with_reducible and_intros
   iterate 4
    . (have q1:=h6.2.2.2.2.1;have q2:=h6.2.2.2.2.2.1;have q3:=h6.2.2.2.2.2.2;have q4:=h6.2.2.1;have q5:=S.qG b x5.2.1 x5.2.2.1;have q6:=h6.1;omega)
   . (have q1:=h6.2.2.2.2.1;have q2:=h6.2.2.2.2.2.1;have q3:=h6.2.2.2.2.2.2;have q4:=h6.2.2.1;have q5:=S.qG b x5.2.1 x5.2.2.1;have q6:=h6.1;have q7:(S.o0 b).2=(S.af b 0 0).2:=rfl;rw [C?];omega)
   . (have q1:=h6.2.2.2.2.1;have q2:=h6.2.2.2.2.2.1;have q3:=h6.2.2.2.2.2.2;have q4:=h6.2.2.1;have q5:=S.qG b x5.2.1 x5.2.2.1;have q6:=h6.1;omega)
   . (have q1:=h6.2.2.2.2.1;have q2:=h6.2.2.2.2.2.1;have q3:=h6.2.2.2.2.2.2;have q4:=h6.2.2.1;have q5:=S.qG b x5.2.1 x5.2.2.1;have q6:=h6.1;have q7:(S.o0 b).2=(S.af b 0 0).2:=rfl;omega)
   refine⟨((x5.1+1),(((((S.af b (x5.2.1) (x5.2.2.1)).1).2).1),(((((S.af b (x5.2.1) (x5.2.2.1)).1).2).2),((x5.2.2.2.1+((S.af b (x5.2.1) (x5.2.2.1)).2+(1:Int))),(x5.2.2.2.2++[x5.2.2.2.1+((S.af b (x5.2.1) (x5.2.2.1)).2+(1:Int))]))))),?_⟩;try dsimp only
   with_reducible and_intros
   . (have q1:=h6.2.2.2.2.1;have q2:=h6.2.2.2.2.2.1;have q3:=h6.2.2.2.2.2.2;have q4:=h6.2.2.1;have q5:=S.qG b x5.2.1 x5.2.2.1;have q6:=h6.1;have q7:(S.o0 b).2=(S.af b 0 0).2:=rfl;omega)
   iterate 2 with_reducible rfl
   exact(S.C4 b _ _).1;iterate 2 with_reducible rfl
   exact S.ame h6 h7 h9 w!
   . (have q1:=h6.2.2.2.2.1;have q2:=h6.2.2.2.2.2.1;have q3:=h6.2.2.2.2.2.2;have q4:=h6.2.2.1;have q5:=S.qG b x5.2.1 x5.2.2.1;have q6:=h6.1;have q7:(S.o0 b).2=(S.af b 0 0).2:=rfl;simp only [S.ag];omega)
 refine⟨?_,?_,?_⟩;trivial
 . intro jM;simp at jM;refine⟨?_,?_⟩
   . rw [S.Hx h6 gY,J! jM]
   rw [S.Hx h6 gY,J! jM]
 intro jZ;simp at jZ;refine⟨?_,?_⟩
 . rw [S.Hx h6 gY,M! jZ]
 rw [S.Hx h6 gY,M! jZ]
def atj(n:Int)(p q:Bool):ir p q=S.Ea p q:=by
 refine aE ?_;grind[S.Ea]
def atk(n:Int)(p q:Bool):cE p q=S.UM p q:=by
 refine aE ?_;rfl
def atl(n:Int)(p q:Bool):ir p (Bool.not q)=S.Eb p q:=by
 refine aE ?_;grind[S.Eb]
def atm(a b:U):aQH (∃(x1:U×U×U),(YG a x1.1/\YG b x1.2.1/\[]=x1.2.2)/\S.lF S.Ea a b x1) (∀(x2:U×U×U),S.lF S.Ea a b x2->pf (cE (aJ7 (bu x2.1)) (aJ7 (bu x2.2.1))) (aQR (aJ7 (bu x2.1)) (ake (bu x2.2.1)) 0 (bu x2.1) (bu x2.2.1)) (aQR (aJ7 (bu x2.2.1)) (ake (bu x2.1)) 0 (bu x2.2.1) (bu x2.1)/\aQG (aQn x2) 0 (bu x2.1) 1/\aQG (aQm x2) 0 (bu x2.2.1) 1/\ec (pf (S.Ea (aQn x2) (aQm x2)) (aOo x2.2.2 [aQh (aQm x2) (aJn x2.2.1) (aQn x2) (aJn x2.1) 0]) (∃(x3:U×U×U),(aNg (aQn x2) 1 x2.1=x3.1/\aNg (aQm x2) 1 x2.2.1=x3.2.1/\x2.2.2++[aQh (aQm x2) (aJn x2.2.1) (aQn x2) (aJn x2.1) 0]=x3.2.2)/\S.lF S.Ea a b x3/\S.jc x3<S.jc x2) (∃(x4:U×U×U),(aNg (aQn x2) 1 x2.1=x4.1/\aNg (aQm x2) 1 x2.2.1=x4.2.1/\x2.2.2=x4.2.2)/\S.lF S.Ea a b x4/\S.jc x4<S.jc x2))) (x2.2.2=S.E8 a b)):=by
 refine aE ?_;refine⟨trivial,trivial,⟨(S.vv a,S.vv b,[]),⟨S.Dc a,S.Dc b,rfl⟩,S.ama ..⟩,λx h=>⟨λhc=>?_,λhc=>S.UO rfl h hc⟩⟩;have q:=S.û rfl h hc;refine⟨⟨λh1=>⟨λ_=>trivial,λh2=>⟨⟨Int.le_refl _,of_decide_eq_true h1⟩,Int.le_refl _,x!⟩⟩,λ_=>trivial⟩,⟨λh1=>⟨λ_=>trivial,λh2=>⟨⟨Int.le_refl _,of_decide_eq_true h1⟩,Int.le_refl _,x!⟩⟩,λ_=>trivial⟩,⟨λhA=>⟨⟨Int.le_refl _,(S.mr hA).1⟩,by decide,(S.mr hA).2⟩,λ_=>trivial⟩,⟨λhA=>⟨⟨Int.le_refl _,(S.mr hA).1⟩,by decide,(S.mr hA).2⟩,λ_=>trivial⟩,trivial,λhk=>⟨x!,(S.pG (S.jt x.1 x.2.1) x.1,S.pG (S.jt x.2.1 x.1) x.2.1,x.2.2++[S.Hv x.1 x.2.1]),⟨rfl,rfl,rfl⟩,q.2.1 hk,q.2.2.2.1⟩,λhk=>⟨(S.pG (S.jt x.1 x.2.1) x.1,S.pG (S.jt x.2.1 x.1) x.2.1,x.2.2),⟨rfl,rfl,rfl⟩,q.2.2.1 hk,q.2.2.2.2⟩⟩
def atn(a b:U):aQH (∃(x1:U×U×U),(YG a x1.1/\YG b x1.2.1/\[]=x1.2.2)/\S.lF S.UM a b x1) (∀(x2:U×U×U),S.lF S.UM a b x2->pf (cE (aJ7 (bu x2.1)) (aJ7 (bu x2.2.1))) (aQR (aJ7 (bu x2.1)) (ake (bu x2.2.1)) 0 (bu x2.1) (bu x2.2.1)) (aQR (aJ7 (bu x2.2.1)) (ake (bu x2.1)) 0 (bu x2.2.1) (bu x2.1)/\aQG (aQr x2) 0 (bu x2.1) 1/\aQG (aQq x2) 0 (bu x2.2.1) 1/\ec (pf (S.UM (aQr x2) (aQq x2)) (aOo x2.2.2 [aQh (aQq x2) (aJn x2.2.1) (aQr x2) (aJn x2.1) 0]) (∃(x3:U×U×U),(aNg (aQr x2) 1 x2.1=x3.1/\aNg (aQq x2) 1 x2.2.1=x3.2.1/\x2.2.2++[aQh (aQq x2) (aJn x2.2.1) (aQr x2) (aJn x2.1) 0]=x3.2.2)/\S.lF S.UM a b x3/\S.jc x3<S.jc x2) (∃(x4:U×U×U),(aNg (aQr x2) 1 x2.1=x4.1/\aNg (aQq x2) 1 x2.2.1=x4.2.1/\x2.2.2=x4.2.2)/\S.lF S.UM a b x4/\S.jc x4<S.jc x2))) (x2.2.2=S.uX a b)):=by
 refine aE ?_;refine⟨trivial,trivial,⟨(S.vv a,S.vv b,[]),⟨S.Dc a,S.Dc b,rfl⟩,S.ama ..⟩,λx h=>⟨λhc=>?_,λhc=>S.UO rfl h hc⟩⟩;have q:=S.û rfl h hc;refine⟨⟨λh1=>⟨λ_=>trivial,λh2=>⟨⟨Int.le_refl _,of_decide_eq_true h1⟩,Int.le_refl _,x!⟩⟩,λ_=>trivial⟩,⟨λh1=>⟨λ_=>trivial,λh2=>⟨⟨Int.le_refl _,of_decide_eq_true h1⟩,Int.le_refl _,x!⟩⟩,λ_=>trivial⟩,⟨λhA=>⟨⟨Int.le_refl _,(S.mr hA).1⟩,by decide,(S.mr hA).2⟩,λ_=>trivial⟩,⟨λhA=>⟨⟨Int.le_refl _,(S.mr hA).1⟩,by decide,(S.mr hA).2⟩,λ_=>trivial⟩,trivial,λhk=>⟨x!,(S.pG (S.jt x.1 x.2.1) x.1,S.pG (S.jt x.2.1 x.1) x.2.1,x.2.2++[S.Hv x.1 x.2.1]),⟨rfl,rfl,rfl⟩,q.2.1 hk,q.2.2.2.1⟩,λhk=>⟨(S.pG (S.jt x.1 x.2.1) x.1,S.pG (S.jt x.2.1 x.1) x.2.1,x.2.2),⟨rfl,rfl,rfl⟩,q.2.2.1 hk,q.2.2.2.2⟩⟩
def ato(a b:U):aQH (∃(x1:U×U×U),(YG a x1.1/\YG b x1.2.1/\[]=x1.2.2)/\S.lF S.Eb a b x1) (∀(x2:U×U×U),S.lF S.Eb a b x2->pf (cE (aJ7 (bu x2.1)) (aJ7 (bu x2.2.1))) (aQR (aJ7 (bu x2.1)) (ake (bu x2.2.1)) 0 (bu x2.1) (bu x2.2.1)) (aQR (aJ7 (bu x2.2.1)) (ake (bu x2.1)) 0 (bu x2.2.1) (bu x2.1)/\aQG (aQo x2) 0 (bu x2.1) 1/\aQG (aQp x2) 0 (bu x2.2.1) 1/\ec (pf (S.Eb (aQo x2) (aQp x2)) (aOo x2.2.2 [aQh (aQp x2) (aJn x2.2.1) (aQo x2) (aJn x2.1) 0]) (∃(x3:U×U×U),(aNg (aQo x2) 1 x2.1=x3.1/\aNg (aQp x2) 1 x2.2.1=x3.2.1/\x2.2.2++[aQh (aQp x2) (aJn x2.2.1) (aQo x2) (aJn x2.1) 0]=x3.2.2)/\S.lF S.Eb a b x3/\S.jc x3<S.jc x2) (∃(x4:U×U×U),(aNg (aQo x2) 1 x2.1=x4.1/\aNg (aQp x2) 1 x2.2.1=x4.2.1/\x2.2.2=x4.2.2)/\S.lF S.Eb a b x4/\S.jc x4<S.jc x2))) (x2.2.2=S.OS a b)):=by
 refine aE ?_;refine⟨trivial,trivial,⟨(S.vv a,S.vv b,[]),⟨S.Dc a,S.Dc b,rfl⟩,S.ama ..⟩,λx h=>⟨λhc=>?_,λhc=>S.UO rfl h hc⟩⟩;have q:=S.û rfl h hc;refine⟨⟨λh1=>⟨λ_=>trivial,λh2=>⟨⟨Int.le_refl _,of_decide_eq_true h1⟩,Int.le_refl _,x!⟩⟩,λ_=>trivial⟩,⟨λh1=>⟨λ_=>trivial,λh2=>⟨⟨Int.le_refl _,of_decide_eq_true h1⟩,Int.le_refl _,x!⟩⟩,λ_=>trivial⟩,⟨λhA=>⟨⟨Int.le_refl _,(S.mr hA).1⟩,by decide,(S.mr hA).2⟩,λ_=>trivial⟩,⟨λhA=>⟨⟨Int.le_refl _,(S.mr hA).1⟩,by decide,(S.mr hA).2⟩,λ_=>trivial⟩,trivial,λhk=>⟨x!,(S.pG (S.jt x.1 x.2.1) x.1,S.pG (S.jt x.2.1 x.1) x.2.1,x.2.2++[S.Hv x.1 x.2.1]),⟨rfl,rfl,rfl⟩,q.2.1 hk,q.2.2.2.1⟩,λhk=>⟨(S.pG (S.jt x.1 x.2.1) x.1,S.pG (S.jt x.2.1 x.1) x.2.1,x.2.2),⟨rfl,rfl,rfl⟩,q.2.2.1 hk,q.2.2.2.2⟩⟩
def atp(a b:U):ec (S.E8 a b=S.E8 a b):=by
 refine aE ?_;grind
def atq(a b:U):ec (S.uX a b=S.uX a b):=by
 refine aE ?_;grind
def atr(a b:U):ec (S.OS a b=S.OS a b):=by
 refine aE ?_;grind
def ats(s:B8):Bool.not (decide (s=s))=false:=by
 grind
def att(a b:B8):aL5 (aMc false) ((bif false then cE (Bool.not false) (Op.bytesLess a b) else Op.bytesLess a b)=Op.bytesLess a b):=by
 refine aE ?_;grind
def atu(x:O)(t:B8)(hp:S.xn x):(∃(x1:Int×Int),(0=x1.1/\ml x=x1.2)/\S.rO x t x1.1 x1.2)/\(∀(x2:Int×Int),S.rO x t x2.1 x2.2->yb (decide (x2.1<x2.2)) (na (x2.1+x2.2)) (aKT 1 64/\q77 (aPP x2) 0 (ml x) (aL5 (pf (Op.bytesLess (mY x (aPP x2)) t) (q2<=aPP x2+1) (q1 (aPP x2+1)) True) (∃(x3:Int×Int),((bif Op.bytesLess (mY x (aPP x2)) t then aPP x2+1 else x2.1)=x3.1/\(bif Op.bytesLess (mY x (aPP x2)) t then x2.2 else aPP x2)=x3.2)/\S.rO x t x3.1 x3.2/\Eg (x3.2-x3.1) (x2.2-x2.1)))) (Fi (decide (x2.1<ml x)) 0 x2.1 (ml x) (q79 (decide (mY x x2.1=t)) (aL7 x2.1 (ml x) (ec (aMc false)))) True) ((bif decide (x2.1<ml x) then bif decide (mY x x2.1=t) then x2.1 else bif false then x2.1 else x2.1 else x2.1)=S.pE x t/\ir (decide (x2.1<ml x)) (cE (decide (mY x x2.1=t)) (bif false then false else false))=S.BY x t)):=by
 refine aE ?_;refine⟨?_,?_⟩
 . refine⟨(((0:Int)),((↑(length x):Int))),?_⟩;with_reducible and_intros
   iterate 2 rfl
   exact⟨Int.le_refl _,w!,Int.le_refl _,λk hk=>by omega,λk hk hk2=>by omega⟩
 intro x1 h2;refine V.dI (λh3=>?_) λh6=>?_
 . with_reducible and_intros
   iterate 2
    . obtain⟨e,q1,q2,q3,q4,q5⟩:=S.Hw hp h2 h3;omega
   iterate 2 omega
   iterate 3 grind
   . obtain⟨e,q1,q2,q3,q4,q5⟩:=S.Hw hp h2 h3;omega
   trivial
   . intro h4;refine⟨?_,?_⟩
     . grind
     obtain⟨e,q1,q2,q3,q4,q5⟩:=S.Hw hp h2 h3;omega
   grind;refine⟨((bif Op.bytesLess (getD x (toNat ((x1.1+x1.2)%(18446744073709551616:Int)/(2:Int)^toNat (1:Int))) []) t then(x1.1+x1.2)%(18446744073709551616:Int)/(2:Int)^toNat (1:Int)+(1:Int) else Prod.fst x1),(bif Op.bytesLess (getD x (toNat ((x1.1+x1.2)%(18446744073709551616:Int)/(2:Int)^toNat (1:Int))) []) t then Prod.snd x1 else(x1.1+x1.2)%(18446744073709551616:Int)/(2:Int)^toNat (1:Int))),?_⟩;with_reducible and_intros
   iterate 2 rfl
   . obtain⟨e,q1,q2,q3,q4,q5⟩:=S.Hw hp h2 h3;rw [e];exact(S.aBn hp h2 q2 q3).1
   obtain⟨e,q1,q2,q3,q4,q5⟩:=S.Hw hp h2 h3;grind
 with_reducible and_intros
 . intro h7;simp at h7;with_reducible and_intros
   . have q:=h2.1;omega
   omega;grind;intro h9;with_reducible and_intros
   . have q:=h2.1;omega
   omega;trivial;iterate 2 grind
 grind;grind[S.aro];exact S.arp hp h2 h6
def atv(s:B8)(t:O)(f:M U)(hp:S.BZ t f):S.xn t/\q14 (Bool.not (S.BY t s)) ([]=S.mH t f s) (uT 0 (S.pE t s) (length f)/\S.small (yu f (toNat (S.pE t s)))/\yu f (toNat (S.pE t s))=S.mH t f s):=by
 refine aE ?_;refine⟨?_,?_,?_⟩;exact hp.1;grind[nt,S.ars];intro h2;with_reducible and_intros
 omega
 . have q:=(S.ý hp (s:=s) x!).1;omega
 exact(S.ý hp x!).2.1;exact(S.ý hp x!).2.2
def atw(s:B8)(l:M U)(hp:S.sb l):aTA (Ğ l-1) (Ğ l-1-1) 0 (Ğ l) (toNat (Ğ l-1-1)) (Ğ l) (toNat (Ğ l-1)) [S.E8 (yu l (toNat (Ğ l-1-1))) (yu l (toNat (Ğ l-1)))] l 1:=by
 refine aE ?_;obtain⟨p1,p2⟩:=hp;have p3:l.length<=1099511627776:=p2;have e1:toNat ((l.length:Int)-1-1)=l.length-2:=by omega
 have e2:toNat ((l.length:Int)-1)=l.length-1:=by omega
 with_reducible and_intros
 iterate 14 omega
 trivial;grind[List.length_singleton];rw [e1,e2];rfl
def atx(s:B8)(l:M U)(hp:S.sb l):aTA (Vj l-1) (Vj l-1-1) 0 (Vj l) (toNat (Vj l-1-1)) (Vj l) (toNat (Vj l-1)) [S.uX (yu l (toNat (Vj l-1-1))) (yu l (toNat (Vj l-1)))] l 2:=by
 refine aE ?_;obtain⟨p1,p2⟩:=hp;have p3:l.length<=1099511627776:=p2;have e1:toNat ((l.length:Int)-1-1)=l.length-2:=by omega
 have e2:toNat ((l.length:Int)-1)=l.length-1:=by omega
 with_reducible and_intros
 iterate 14 omega
 trivial;grind[List.length_singleton];rw [e1,e2];rfl
def aty(s:B8)(l:M U)(hp:S.sb l):aTA (mL l-1) (mL l-1-1) 0 (mL l) (toNat (mL l-1-1)) (mL l) (toNat (mL l-1)) [S.OS (yu l (toNat (mL l-1-1))) (yu l (toNat (mL l-1)))] l 3:=by
 refine aE ?_;obtain⟨p1,p2⟩:=hp;have p3:l.length<=1099511627776:=p2;have e1:toNat ((l.length:Int)-1-1)=l.length-2:=by omega
 have e2:toNat ((l.length:Int)-1)=l.length-1:=by omega
 with_reducible and_intros
 iterate 14 omega
 trivial;grind[List.length_singleton];rw [e1,e2];rfl
def atz(s:B8)(t:O)(f l:M U)(hp:S.BZ t f/\S.small l):S.BZ t f/\aAu (length l+length [S.mH t f s])/\[t]=[t]/\0=0/\[f]=[f]/\0=0/\l++[S.mH t f s]=S.Hu l (S.mH t f s):=by
 refine aE ?_;with_reducible and_intros
 grind;grind[S.small,List.length_singleton];iterate 5 rfl
def atA(l:M (Int×B8))(t:O)(f:M U)(hp:S.E9 l t f)(hf:Vg.akd J.aIh (l,t,f)):(∃(x1:Nat),((0:Int)=x1/\[]=S.gC (S.mH t f) l x1/\[t]=[t]/\0=0/\[f]=[f]/\0=0)/\S.pF l (S.gC (S.mH t f) l x1) x1)/\(∀(x2:Nat),S.pF l (S.gC (S.mH t f) l x2) x2->qJ (decide ((x2:Int)<length l)) (uT 0 x2 (length l)) (((aKt l x2).1=0->(aKt l x2).1=0/\(S.BZ t f/\S.small (S.gC (S.mH t f) l x2))/\HJ x2 (∃(x3:Nat),az6 x2 x3 (S.Hu (S.gC (S.mH t f) l x2) (S.mH t f (aKt l x2).2)=S.gC (S.mH t f) l x3/\[t]=[t]/\0=0/\[f]=[f]/\0=0) (S.pF l (S.gC (S.mH t f) l x3) x3) (S.len l) x3 (S.ag (S.len l) x2)))/\((aKt l x2).1=1->(aKt l x2).1=1/\S.sb (S.gC (S.mH t f) l x2)/\HJ x2 (∃(x4:Nat),az6 x2 x4 (S.xo 1 (S.gC (S.mH t f) l x2)=S.gC (S.mH t f) l x4/\[t]=[t]/\0=0/\[f]=[f]/\0=0) (S.pF l (S.gC (S.mH t f) l x4) x4) (S.len l) x4 (S.ag (S.len l) x2)))/\((aKt l x2).1=2->(aKt l x2).1=2/\S.sb (S.gC (S.mH t f) l x2)/\HJ x2 (∃(x5:Nat),az6 x2 x5 (S.xo 2 (S.gC (S.mH t f) l x2)=S.gC (S.mH t f) l x5/\[t]=[t]/\0=0/\[f]=[f]/\0=0) (S.pF l (S.gC (S.mH t f) l x5) x5) (S.len l) x5 (S.ag (S.len l) x2)))/\((aKt l x2).1=3->(aKt l x2).1=3/\S.sb (S.gC (S.mH t f) l x2)/\HJ x2 (∃(x6:Nat),az6 x2 x6 (S.xo 3 (S.gC (S.mH t f) l x2)=S.gC (S.mH t f) l x6/\[t]=[t]/\0=0/\[f]=[f]/\0=0) (S.pF l (S.gC (S.mH t f) l x6) x6) (S.len l) x6 (S.ag (S.len l) x2)))/\(((aKt l x2).1=0->False)/\((aKt l x2).1=1->False)/\((aKt l x2).1=2->False)/\((aKt l x2).1=3->False)/\True->False)) ((0:Int)<=0/\(0:Int)<length (S.gC (S.mH t f) l x2)) (aHF 0 (length (S.gC (S.mH t f) l x2))) (yu (S.gC (S.mH t f) l x2) (toNat 0)=S.OT l t f)):=by
 refine aE ?_;have PN:Vg.hlen l:=hf.1.1;refine⟨?_,?_⟩
 . grind[S.art,S.aHk]
 intro x1 h2;refine V.dI (λh3=>?_) λh9=>?_
 . with_reducible and_intros
   iterate 2 omega
   . intro h4;with_reducible and_intros
     omega;exact hp.2.2;exact S.ahE hp h2;iterate 2 omega
     refine⟨(x1+1),?_⟩;try dsimp only
     with_reducible and_intros
     omega;exact S.Yl h3 h4;iterate 4 rfl
     exact S.amc h2 h3 h4;simp only [S.ag,S.len];omega
   . intro h5;with_reducible and_intros
     omega
     . exact S.L2 hp h2 h3 (by rw [show(S.jY l x1).1=1 from h5];decide)
     iterate 2 omega
     refine⟨(x1+1),?_⟩;try dsimp only
     with_reducible and_intros
     omega;exact S.L1 h3 h5 (by decide);iterate 4 rfl
     exact S.OX hp h2 h3 h5 (by decide);simp only [S.ag,S.len];omega
   . intro h6;with_reducible and_intros
     omega
     . exact S.L2 hp h2 h3 (by rw [show(S.jY l x1).1=2 from h6];decide)
     iterate 2 omega
     refine⟨(x1+1),?_⟩;try dsimp only
     with_reducible and_intros
     omega;exact S.L1 h3 h6 (by decide);iterate 4 rfl
     exact S.OX hp h2 h3 h6 (by decide);simp only [S.ag,S.len];omega
   . intro h7;with_reducible and_intros
     omega
     . exact S.L2 hp h2 h3 (by rw [show(S.jY l x1).1=3 from h7];decide)
     iterate 2 omega
     refine⟨(x1+1),?_⟩;try dsimp only
     with_reducible and_intros
     omega;exact S.L1 h3 h7 (by decide);iterate 4 rfl
     exact S.OX hp h2 h3 h7 (by decide);simp only [S.ag,S.len];omega
   intro h8;have q:0<=(getD l (toNat (x1:Int)) (0,[])).1/\(getD l (toNat (x1:Int)) (0,[])).1<=3:=⟨(S.UP hp.1 h3).1,(S.UP hp.1 h3).2.1⟩;grind
 with_reducible and_intros
 omega
 iterate 2
  . have:=S.ab1 hp h2 h9;omega
 rw [(S.ab1 hp h2 h9).2];rfl
def atB(l:M (Int×B8))(f:M U)(hp:S.fV l)(hf:Vg.gq J.aIi (l,f)):S.fV l/\yb (Bool.not (S.bw l)) ([]=(S.mh l f).1) (1=(S.mh l f).2) (S.small l) (yb (fX (length f) (ml (S.ax l))) ([]=(S.mh l f).1) (1=(S.mh l f).2) (∃(x1:Nat),(0:Int)=x1/\S.Fa f x1) (∀(x2:Nat),S.Fa f x2->qJ (decide ((x2:Int)<length f)) (uT 0 x2 (length f)) (ec (gl (Bool.not (S.bK (yu f (toNat x2)))) ([]=(S.mh l f).1) (1=(S.mh l f).2) (x2+1) (∃(x3:Nat),aJ8 x2 x3 (S.Fa f x3) (S.len f)))) (S.E9 l (S.ax l) f) (S.OT l (S.ax l) f=(S.mh l f).1) (0=(S.mh l f).2))):=by
 refine aE ?_;have aIC:Vg.hlen f:=hf.2.1.1;refine⟨?_,?_,?_⟩;omega
 . intro h1;refine⟨?_,?_⟩
   . exact(S.Ji (by simp_all[S.mT,Bool.false_and])).1
   exact(S.Ji (by simp_all[S.mT,Bool.false_and])).2
 intro h2;simp at h2;refine⟨?_,?_,?_⟩;exact hp.1
 . intro h3;refine⟨?_,?_⟩
   . exact(S.Ji (by simp [S.mT,h2,Bool.true_and];grind)).1
   exact(S.Ji (by simp [S.mT,h2,Bool.true_and];grind)).2
 intro h4;simp at h4;refine⟨?_,?_⟩
 . refine⟨(nat_lit 0:Nat),?_⟩;dsimp only;refine⟨?_,?_⟩
   . omega
   exact⟨Nat.zero_le _,λx hx=>by grind⟩
 intro x5 h6;refine V.dI (λh7=>?_) λde=>?_
 . with_reducible and_intros
   iterate 2 omega
   trivial
   . intro h8;try simp only [nt] at h8
     refine⟨?_,?_⟩
     . exact(S.Ji (by simp only [S.mT,S.ab3 h7 h8,Bool.and_false])).1
     exact(S.Ji (by simp only [S.mT,S.ab3 h7 h8,Bool.and_false])).2
   intro h9;try simp only [nf] at h9
   with_reducible and_intros
   iterate 2 omega
   refine⟨(x5+nat_lit 1),?_⟩;try dsimp only
   refine⟨?_,?_,?_⟩;omega;exact S.amd h6 h7 h9;simp only [S.ag,S.len];omega
 refine⟨?_,?_,?_⟩;exact⟨h2,hp.1,S.Sx hp.1,w!,Z!.1 (S.UQ h6 (by assumption))⟩
 . exact(S.ab2 (by simp only [S.mT,h2,S.UQ h6 (by assumption),Bool.true_and,Bool.and_true];exact K? w!)).1
 . exact(S.ab2 (by simp only [S.mT,h2,S.UQ h6 (by assumption),Bool.true_and,Bool.and_true];exact K? w!)).2
def atC(p1:Int)(p2 p3 p4:B8)(p5:O)(p6 t:B8)(e:Int)(hp:S.aC p6):q14 (decide (p2=t)) (q14 (ake e) (S.aC p6) True) True/\ir (decide (p2=t)) (ir (ake e) (decide (S.mF 2 p6=p4)))=S.KL t e p2 p4 p6:=by
 refine aE ?_;simp_all[dt,df,S.KL]
def atD(p1:Int)(p2 p3 p4:B8)(p5:O)(p6 t:B8):ir (Op.bytesLess p2 t) (bif Bool.not (aSK p3 t) then ake (e6 p6) else ir (decide (p3=[])) (ake (e6 p6)))=S.KM t p2 p3 p6:=by
 refine aE ?_;grind[S.aBp,S.KM,Op.bytesLess,decide]
def atE(t:B8)(p1:Int)(p2 p3 p4:B8)(p5:O)(p6:B8)(hp:p6.length<=140737488355328):q39 p6/\[t]=[t]/\0=0/\[(S.b8 p6).2]=[(S.b8 p6).2]/\0=0/\(S.b8 p6).1=(S.b8 p6).1/\[t]=[t]/\0=0:=by
 refine aE ?_;grind
def atF(root:B8)(n:Int)(t:B8)(p1:Int)(p2 p3 p4:B8)(p5:O)(p6:B8)(hp:S.B0 t p5 p6):q79 (aP0 root) (q79 (decide (n<1)) (q79 (decide (1099511627776<n)) (S.small t)))/\yb (PB (aP0 root) (decide (n<1)) (wH (decide (1099511627776<n)) (S.isTerm t))) ([]=(S.iI root n t (p1,p2,p3,p4,p5,p6)).1) (1=(S.iI root n t (p1,p2,p3,p4,p5,p6)).2) True (qJ (ahP (S.kM p2 p3 p4)) ([]=(S.iI root n t (p1,p2,p3,p4,p5,p6)).1) (6=(S.iI root n t (p1,p2,p3,p4,p5,p6)).2) (S.aC (S.fW p2 p3 p4)) (S.dM p5) (qJ (wH (ahP (S.eQ (S.leaf (S.fW p2 p3 p4)) p1 n p5)) (decide (S.kq (S.leaf (S.fW p2 p3 p4)) p1 n p5=root))) ([]=(S.iI root n t (p1,p2,p3,p4,p5,p6)).1) (6=(S.iI root n t (p1,p2,p3,p4,p5,p6)).2) (q39 p6) (∃(x1:Nat),(0:Int)=x1/\S.ov root n t (p1,p2,p3,p4,p5,p6) x1) (∀(x2:Nat),S.ov root n t (p1,p2,p3,p4,p5,p6) x2->q14 (decide ((x2:Int)<((2:Nat):Int))) (((x2:Int)=((0:Nat):Int)->(x2:Int)=((0:Nat):Int)/\S.aC p6/\gl (S.KL t (S.b8 p6).2 p2 p4 p6) ((S.b8 p6).1=(S.iI root n t (p1,p2,p3,p4,p5,p6)).1) (0=(S.iI root n t (p1,p2,p3,p4,p5,p6)).2) (x2+1) (∃(x3:Nat),(x2:Int)+1=x3/\S.ov root n t (p1,p2,p3,p4,p5,p6) x3/\S.ag 2 x3<S.ag 2 x2))/\(x2=Fq->x2=Fq/\ec (gl (S.KM t p2 p3 p6) ([]=(S.iI root n t (p1,p2,p3,p4,p5,p6)).1) (0=(S.iI root n t (p1,p2,p3,p4,p5,p6)).2) (x2+1) (∃(x4:Nat),(x2:Int)+1=x4/\S.ov root n t (p1,p2,p3,p4,p5,p6) x4/\S.ag 2 x4<S.ag 2 x2)))/\(((x2:Int)=((0:Nat):Int)->False)/\(x2=Fq->False)/\True->False)) ([]=(S.iI root n t (p1,p2,p3,p4,p5,p6)).1/\6=(S.iI root n t (p1,p2,p3,p4,p5,p6)).2)))):=by
 refine aE ?_;with_reducible and_intros
 grind
 . intro h2;refine⟨?_,?_⟩
   . grind
   intro h4;refine⟨?_,?_⟩
   . grind
   intro h6;exact hp.1
 . intro h7;grind[S.aru,S.arv]
 intro h8;refine⟨?_,?_,?_⟩;trivial;grind[nt,df,S.amf,S.UT,S.arw];intro de;refine⟨?_,?_,?_,?_⟩;grind[S.þ];exact hp.2.1
 . intro fC;grind[S.amf,S.UT,S.arx]
 intro gY;refine⟨?_,?_,?_⟩
 . have:=hp.2.2.2;grind[S.small]
 grind[S.aBr,S.UT,S.aBq];intro JB jZ;refine⟨?_,?_⟩
 . intro Cq;try simp only [dt] at Cq
   refine⟨?_,?_,?_⟩
   . intro zP;refine⟨?_,?_,?_,?_⟩;exact(by assumption);exact hp.2.2.1
     . intro HV;refine⟨?_,?_⟩
       . exact(S.ab7 jZ HV).1
       exact(S.ab7 jZ HV).2
     intro QW;with_reducible and_intros
     iterate 2 omega
     refine⟨(JB+1),?_⟩;try dsimp only
     refine⟨?_,?_,?_⟩;omega;exact S.aBs jZ zP QW;simp only [S.ag];omega
   . intro h19;refine⟨?_,?_,?_,?_⟩;exact(by assumption);trivial
     . intro h20;refine⟨?_,?_⟩
       . exact(S.ab8 jZ h19 h20).1
       exact(S.ab8 jZ h19 h20).2
     intro xA;with_reducible and_intros
     iterate 2 omega
     refine⟨(JB+1),?_⟩;try dsimp only
     refine⟨?_,?_,?_⟩;omega;exact S.aBt jZ h19 xA;simp only [S.ag];omega
   intro h22;have q:(JB:Int)=((0:Nat):Int)\/(JB:Int)=((1:Nat):Int):=by omega
   exact q.elim h22.1 h22.2.1
 grind[df,S.ary]
def atK(h1:Int)(h2:B8)(h3:M (Int×Int×Int×B8))(root:B8):ec (azH (S.im h1 h2 h3).2 0 (decide ((S.im h1 h2 h3).1=root))=S.vz h1 h2 h3 root):=by
 refine aE ?_;grind[S.ari]
def atL(h1:Int)(h2:B8)(h3:M (Int×Int×Int×B8))(root:B8): [(h1,h2,h3)]=[(h1,h2,h3)]/\0=0/\[root]=[root]/\0=0:=by
 grind
def atM(a1:Int)(a2:B8)(a3:M (Int×Int×Int×B8))(a4:M (M (Int×B8×B8×B8×O×B8)))(i:Int)(t:O)(hp:0<=i/\i<(S.len a4:Nat)):aL7 i (length a4) (decide (length (getD a4 (toNat i) [])=ml t)=S.qF a4 i t):=by
 refine aE ?_;grind[S.qF,S.len]
def atO(l:U)(s1 s2:Int)(hf:Vg.gq J.acy (l,s1,s2)):(∃(x1:Nat),(0:Int)=x1/\S.xl l s1 s2 x1/\x1<=S.len l)/\(∀(x2:Nat),S.xl l s1 s2 x2/\x2<=S.len l->Fi (decide (x2<bu l)) 0 x2 (bu l) (aJz (aPZ (aKd l x2) s1 (decide (s2<=aKd l x2))) (S.wB l s1 s2) x2 (∃(x3:Nat),aJ8 x2 x3 (S.xl l s1 s2 x3/\x3<=S.len l) (S.len l))) (true=S.wB l s1 s2)):=by
 refine aE ?_;have PN:Vg.hlen l:=hf.1.1;have anp:Vg.hint s1:=hf.2.1;have anq:Vg.hint s2:=hf.2.2.1;clear hf;refine⟨?_,?_⟩
 . grind[S.xl,S.zB,S.Da,S.Hr,S.ag,S.len]
 intro x1 h2;refine⟨?_,?_⟩
 . intro h3;try simp only [dt] at h3
   with_reducible and_intros
   iterate 2 omega
   . intro h4;try simp only [V.IG,dt,tn] at h4
     grind [S.xl,S.zB,S.Da,S.Hr,S.ag,S.len]
   intro h5;try simp only [V.ajY,df,tn] at h5
   with_reducible and_intros
   iterate 2 omega
   refine⟨(x1+1),?_⟩;try dsimp only
   with_reducible and_intros
   omega;iterate 3 (grind [S.xl,S.zB,S.Da,S.Hr,S.ag,S.len])
 grind[df,S.zB,S.Da,S.Hr]
def atS(g1 g2 g3:Int)(g4 w:B8)(a1:Int)(a2:B8)(a3:M (Int×Int×Int×B8))(a4:M (M (Int×B8×B8×B8×O×B8)))(i j:Int)(xs:M Value)(q:Nat)(l:U)(hp:S.OZ w a4 i j/\S.Sz j q xs.length l/\S.sZ (g1,g2,g3,g4) w a4 i j=true):aL7 i (length a4) (uT 0 j (length (getD a4 (toNat i) []))/\S.B0 w (nP a4 i j).2.2.2.2.1 (nP a4 i j).2.2.2.2.2/\aMc (ahP (sT a4 g3 g4 i j w).2)/\qJ (wH (ahP (sT a4 g3 g4 i j w).2) (S.wB (sT a4 g3 g4 i j w).1 g1 g2)) (false=true) (xs=xs/\q=q/\l=S.SA l (S.Ak (g1,g2,g3,g4) w a4 i j).1) (uT 0 j (Vg.bk.A4 xs)) (toNat j<Vg.bk.A4 xs) (toNat j=q/\aOo l (sT a4 g3 g4 i j w).1/\uT 0 j (Vg.bk.A4 xs)/\toNat j<Vg.bk.A4 xs/\toNat j=q/\true=true/\xs=xs/\q=q/\l++(sT a4 g3 g4 i j w).1=S.SA l (S.Ak (g1,g2,g3,g4) w a4 i j).1)):=by
 refine aE ?_;obtain⟨⟨p1,p2,p3⟩,⟨p4,p5,p6⟩,p7⟩:=hp;have p8:(S.Ak (g1,g2,g3,g4) w a4 i j).2=0/\S.wB (S.Ak (g1,g2,g3,g4) w a4 i j).1 g1 g2=true:=by grind[S.sZ]
 have g1':0<=j/\j<(xs.length:Int):=⟨p2.1,w!⟩;have Zv:toNat j<xs.length:=by omega
 have g3':(S.Ak (g1,g2,g3,g4) w a4 i j).1.length<=1000:=S.SC _ _ _ _;have g4':l.length<=1099511627776:=p6;have g5':l.length+(S.Ak (g1,g2,g3,g4) w a4 i j).1.length<=17592186044416:=by omega
 refine⟨p1,p2,p3,⟨λ_=>trivial,λ_=>trivial⟩,λh3=>?_,λh4=>⟨g1',Zv,p4.symm,g5',g1',Zv,p4.symm,rfl,rfl,rfl,rfl⟩⟩;change (bif !decide ((S.Ak (g1,g2,g3,g4) w a4 i j).2=0) then true else !S.wB (S.Ak (g1,g2,g3,g4) w a4 i j).1 g1 g2)=true at h3;grind
def atU(g1 g2 g3:Int)(g4 w:B8)(a1:Int)(a2:B8)(a3:M (Int×Int×Int×B8))(a4:M (M (Int×B8×B8×B8×O×B8)))(i j:Int)(xs:M Value)(q:Nat)(l:U)(hp:S.OZ w a4 i j/\S.Sz j q xs.length l/\S.sZ (g1,g2,g3,g4) w a4 i j=false):aL7 i (length a4) (uT 0 j (length (getD a4 (toNat i) []))/\S.B0 w (vk a4 i j).2.2.2.2.1 (vk a4 i j).2.2.2.2.2/\aMc (ahP (S.iI g4 g3 w ((vk a4 i j).1,(vk a4 i j).2.1,(vk a4 i j).2.2.1,(vk a4 i j).2.2.2.1,(vk a4 i j).2.2.2.2.1,(vk a4 i j).2.2.2.2.2)).2)/\qJ (wH (ahP (S.iI g4 g3 w ((vk a4 i j).1,(vk a4 i j).2.1,(vk a4 i j).2.2.1,(vk a4 i j).2.2.2.1,(vk a4 i j).2.2.2.2.1,(vk a4 i j).2.2.2.2.2)).2) (S.wB (S.iI g4 g3 w ((vk a4 i j).1,(vk a4 i j).2.1,(vk a4 i j).2.2.1,(vk a4 i j).2.2.2.1,(vk a4 i j).2.2.2.2.1,(vk a4 i j).2.2.2.2.2)).1 g1 g2)) (false=false) (xs=xs/\q=q/\l=l) (uT 0 j (Vg.bk.A4 xs)) (toNat j<Vg.bk.A4 xs) (toNat j=q/\aOo l (S.iI g4 g3 w ((vk a4 i j).1,(vk a4 i j).2.1,(vk a4 i j).2.2.1,(vk a4 i j).2.2.2.1,(vk a4 i j).2.2.2.2.1,(vk a4 i j).2.2.2.2.2)).1/\uT 0 j (Vg.bk.A4 xs)/\toNat j<Vg.bk.A4 xs/\toNat j=q/\true=false/\False/\False)):=by
 refine aE ?_;obtain⟨⟨p1,p2,p3⟩,⟨p4,p5,p6⟩,p7⟩:=hp;refine⟨p1,p2,p3,⟨λ_=>trivial,λ_=>trivial⟩,λh3=>⟨rfl,rfl,rfl,rfl⟩,λh4=>?_⟩;change (bif !decide ((S.Ak (g1,g2,g3,g4) w a4 i j).2=0) then true else !S.wB (S.Ak (g1,g2,g3,g4) w a4 i j).1 g1 g2)=false at h4;change (decide ((S.Ak (g1,g2,g3,g4) w a4 i j).2=0)&&S.wB (S.Ak (g1,g2,g3,g4) w a4 i j).1 g1 g2)=false at p7;grind
def atV(root:B8)(l:M (Int×B8))(b:B8)(hp:b.length<1099511627776/\S.fV l):q79 (aP0 root) (S.fV l)/\yb (wH (aP0 root) (S.bw l)) ([]=(S.kA root l b).1) (1=(S.kA root l b).2) (q39 b) (qJ (ahP (Ĝ b).2) ([]=(S.kA root l b).1) ((Ĝ b).2=(S.kA root l b).2) (S.small l) (0<=ml (S.ax l)/\ml (S.ax l)<=ml (S.ax l)/\ml (S.ax l)<=aRX ((24:Nat):Int)) (aL5 (∃(x1:Nat),((0:Int)=x1/\[λ(x2:Vg.Z)=>(True,Vg.AV.bool (S.vz (Ĝ b).1.1 (Ĝ b).1.2.1 (Ĝ b).1.2.2.1 root),x2)]=S.conds 27 3 root (Ĝ b).1.1 (Ĝ b).1.2.1 (Ĝ b).1.2.2.1 (Ĝ b).1.2.2.2 (S.ax l) x1)/\S.aca b x1) (∀(x3:Nat),S.aca b x3->yb (decide ((x3:Int)<length (Ĝ b).1.2.2.1)) (uT 0 x3 (length (Ĝ b).1.2.2.1)) (q82 (Nat.succ (Vg.bk.len (S.conds 27 3 root (Ĝ b).1.1 (Ĝ b).1.2.1 (Ĝ b).1.2.2.1 (Ĝ b).1.2.2.2 (S.ax l) x3)))/\(∃(x4:Nat×Nat),((0:Int)=x4.2/\Vg.bk.cat (S.conds 27 3 root (Ĝ b).1.1 (Ĝ b).1.2.1 (Ĝ b).1.2.2.1 (Ĝ b).1.2.2.2 (S.ax l) x3) [λ(x5:Vg.Z)=>(uT 0 x3 (S.len (Ĝ b).1.2.2.2),Vg.AV.bool (S.qF (Ĝ b).1.2.2.2 x3 (S.ax l)),x5)]=S.nJ 27 3 root (Ĝ b).1.1 (Ĝ b).1.2.1 (Ĝ b).1.2.2.1 (Ĝ b).1.2.2.2 (S.ax l) x4.1 x4.2)/\S.UU b (S.ax l) x4.1 x4.2/\(x3:Int)=x4.1)/\(∀(x6:Nat×Nat),S.UU b (S.ax l) x6.1 x6.2/\(x3:Int)=x6.1->gl (decide (x6.2<ml (S.ax l))) (uT 0 x6.2 (ml (S.ax l))) (q82 (Nat.succ (Vg.bk.len (S.nJ 27 3 root (Ĝ b).1.1 (Ĝ b).1.2.1 (Ĝ b).1.2.2.1 (Ĝ b).1.2.2.2 (S.ax l) x6.1 x6.2)))/\na (x6.2+1)/\(∃(x7:Nat×Nat),((x6.2:Int)+1=x7.2/\Vg.bk.cat (S.nJ 27 3 root (Ĝ b).1.1 (Ĝ b).1.2.1 (Ĝ b).1.2.2.1 (Ĝ b).1.2.2.2 (S.ax l) x6.1 x6.2) [S.B2 27 3 ((xy b x3).1,(xy b x3).2.1,(xy b x3).2.2.1,(xy b x3).2.2.2) (mY (S.ax l) x6.2) (Ĝ b).1.2.2.2 x3 x6.2]=S.nJ 27 3 root (Ĝ b).1.1 (Ĝ b).1.2.1 (Ĝ b).1.2.2.1 (Ĝ b).1.2.2.2 (S.ax l) x7.1 x7.2)/\(S.UU b (S.ax l) x7.1 x7.2/\(x3:Int)=x7.1)/\q43 (S.len (S.ax l)) x7.2 x6.2)) (x3+1) (∃(x8:Nat),sB x3 x8 (S.nJ 27 3 root (Ĝ b).1.1 (Ĝ b).1.2.1 (Ĝ b).1.2.2.1 (Ĝ b).1.2.2.2 (S.ax l) x6.1 x6.2=S.conds 27 3 root (Ĝ b).1.1 (Ĝ b).1.2.1 (Ĝ b).1.2.2.1 (Ĝ b).1.2.2.2 (S.ax l) x8) (S.aca b x8) (S.len (Ĝ b).1.2.2.1)))) (Vg.bk.MP (toNat (ml (S.ax l)))=Vg.bk.MP (toNat (ml (S.ax l)))/\(zO b l root x3).1) (qJ (ahP (bif (zO b l root x3).2.1 then 0 else 6)) ([]=(S.kA root l b).1) ((bif (zO b l root x3).2.1 then 0 else 6)=(S.kA root l b).2) (S.fV l) ((S.mh l (Vg.bk.rows (zO b l root x3).2.2)).1=(S.kA root l b).1) ((S.mh l (Vg.bk.rows (zO b l root x3).2.2)).2=(S.kA root l b).2))))):=by
 refine aE ?_;with_reducible and_intros
 iterate 2 grind
 grind[S.arB,S.aBu];intro h4;try simp at h4
 refine⟨?_,?_,?_⟩;omega;grind[nt,df,S.arC,S.O4];intro h6;simp at h6;with_reducible and_intros
 exact hp.2.1;iterate 2 omega
 grind[S.pS];trivial
 . refine⟨0,?_⟩;try dsimp only
   with_reducible and_intros
   omega;rfl;exact⟨U! _,h6⟩
 intro x7 h8;refine V.dI (λh9=>?_) λjZ=>?_
 . with_reducible and_intros
   iterate 2 omega
   . have e:=S.Fe (e0:=27) (ei0:=3) (root:=root) (n:=(S.bp b).1.1) (g:=(S.bp b).1.2.1) (s:=(S.bp b).1.2.2.1) (a:=(S.bp b).1.2.2.2) (t:=S.ax l) x7;have q:=S.ace hp.1 hp.2 h6 h4.2 h8.1;show length _+1<=_;omega
   . refine⟨((x7),0),?_⟩;try dsimp only
     with_reducible and_intros
     omega;rfl;exact⟨w!,U! _,h6⟩;omega
   intro FE fC;refine⟨?_,?_⟩
   . intro gY;try simp only [dt] at gY
     with_reducible and_intros
     iterate 2 omega
     . have e:=S.UX (e0:=27) (ei0:=3) (root:=root) (n:=(S.bp b).1.1) (g:=(S.bp b).1.2.1) (s:=(S.bp b).1.2.2.1) (a:=(S.bp b).1.2.2.2) (t:=S.ax l) FE.1 FE.2;have q:=S.ace hp.1 hp.2 h6 h4.2 (Nat.le_of_lt fC.1.1);have q2:=fC.1.2.1;have q3:=S.pS h4.2;show length _+1<=_;omega
     omega
     . have q:=S.pS h4.2;omega
     refine⟨((x7),(FE.2+1)),?_⟩;try dsimp only
     with_reducible and_intros
     omega
     . have e:x7=FE.1:=by have:=fC.2;omega
       rw [<-e];exact S.QV x7 FE.2
     . have:=fC.1.1;exact⟨w!,w!,h6⟩
     omega;simp only [S.ag,S.len];omega
   intro jM;try simp only [df] at jM
   with_reducible and_intros
   omega
   . have q:=S.acd hp.1 hp.2 h6;omega
   refine⟨(x7+1),?_⟩;try dsimp only
   with_reducible and_intros
   omega
   . have e:x7=FE.1:=by have:=fC.2;omega
     have e2:FE.2=(S.ax l).length:=by have:=fC.1.2.1;omega
     rw [<-e,e2];rfl
   exact⟨w!,h6⟩;simp only [S.ag,S.len];omega
 with_reducible and_intros
 rfl
 . exact(S.Hy hp.1 hp.2 h6 (by have:=h8.1;omega)).pre
 . intro Cq;try simp at Cq
   refine⟨?_,?_⟩
   . exact(S.amj (S.O4 h4) h6 (S.Hy hp.1 hp.2 h6 (by have:=h8.1;omega)) Cq).1
   exact(S.amj (S.O4 h4) h6 (S.Hy hp.1 hp.2 h6 (by have:=h8.1;omega)) Cq).2
 intro zP;try simp at zP
 refine⟨?_,?_,?_⟩;exact hp.2
 . rw [S.acf (S.O4 h4) h6 (S.Hy hp.1 hp.2 h6 (by have:=h8.1;omega)) zP]
 rw [S.acf (S.O4 h4) h6 (S.Hy hp.1 hp.2 h6 (by have:=h8.1;omega)) zP]
def atZ(l:O)(hf:Vg.gq J.Po l):(∃(x1:Nat),(0:Int)=x1/\S.fg l x1)/\(∀(x2:Nat),S.fg l x2->Fi (decide (x2<ml l)) 0 x2 (ml l) (aJz (aP0 (mY l x2)) (S.bQ l) x2 (∃(x3:Nat),aJ8 x2 x3 (S.fg l x3) (S.len l))) (true=S.bQ l)):=by
 refine aE ?_;have PN:Vg.hlen l:=hf.1.1;clear hf;refine⟨?_,?_⟩
 . grind[S.fg,S.bQ]
 intro x1 h2;refine⟨?_,?_⟩
 . intro h3;try simp only [dt] at h3
   with_reducible and_intros
   iterate 2 omega
   . intro h4;try simp only [nt,df,tn] at h4
     grind [S.fg,S.bQ]
   intro h5;try simp only [nf,dt,tn] at h5
   with_reducible and_intros
   iterate 2 omega
   refine⟨(x1+1),?_⟩;try dsimp only
   refine⟨?_,?_,?_⟩;omega;exact S.Yr h2 h3 h5;simp only [S.ag,S.len];omega
 grind[df,S.fg,S.bQ]
def at0(y1:Int)(y2:B8)(y3:M (Int×Int×Int×B8)):q14 (aNc y1) (q14 (decide (y1<=1000)) (aMc (decide (e6 y2=32))) True) True/\ir (aNc y1) (ir (decide (y1<=1000)) (ir (decide (e6 y2=32)) (S.kW y3 y1)))=S.bN y1 y2 y3:=by
 refine aE ?_;simp_all[dt,df,S.bN]
def at1(b:B8)(f:Int)(hp:b.length<=140737488355328):ec (yb (ahP (S.first b).2.2) (0=(S.dw b f).1.1) (0=(S.dw b f).1.2.1/\0=(S.dw b f).1.2.2.1/\[]=(S.dw b f).1.2.2.2/\0=(S.dw b f).2.1/\(S.first b).2.2=(S.dw b f).2.2) (aKT (S.first b).2.1 (e6 b)) (ec (gl (ahP (aL9 b).2.2) (0=(S.dw b f).1.1) (0=(S.dw b f).1.2.1/\0=(S.dw b f).1.2.2.1/\[]=(S.dw b f).1.2.2.2/\0=(S.dw b f).2.1/\(aL9 b).2.2=(S.dw b f).2.2) ((S.first b).2.1+(aL9 b).2.1) (na ((S.first b).2.1+(aL9 b).2.1+32)/\gl (decide (e6 b<(S.first b).2.1+(aL9 b).2.1+32)) (0=(S.dw b f).1.1) (0=(S.dw b f).1.2.1/\0=(S.dw b f).1.2.2.1/\[]=(S.dw b f).1.2.2.2/\0=(S.dw b f).2.1/\4=(S.dw b f).2.2) ((S.first b).2.1+(aL9 b).2.1) (aji ((S.first b).2.1+(aL9 b).2.1) ((S.first b).2.1+(aL9 b).2.1+32) ((0<=(S.first b).2.1+(aL9 b).2.1/\(S.first b).2.1+(aL9 b).2.1<=(S.first b).2.1+(aL9 b).2.1+32/\(S.first b).2.1+(aL9 b).2.1+32<=e6 b)/\aji ((S.first b).2.1+(aL9 b).2.1) ((S.first b).2.1+(aL9 b).2.1+32) (f=(S.dw b f).1.1/\(S.first b).1=(S.dw b f).1.2.1/\(aL9 b).1=(S.dw b f).1.2.2.1/\q92 ((S.first b).2.1+(aL9 b).2.1) (wI ((S.first b).2.1+(aL9 b).2.1+32) b)=(S.dw b f).1.2.2.2/\(S.first b).2.1+(aL9 b).2.1+32=(S.dw b f).2.1/\0=(S.dw b f).2.2))))))):=by
 refine aE ?_;have q1:=S.yp b;have q2:=S.yp (drop (toNat (((S.first b).2).1)) b);rw [List.length_drop] at q2;refine⟨?_,?_,?_⟩;trivial;grind[nt,df,S.dw];intro h2;with_reducible and_intros
 iterate 2 omega
 trivial;grind[nt,df,S.dw];intro h4;with_reducible and_intros
 iterate 4 omega
 simp_all[dt,S.dw]
 grind[df,S.dw,S.amt]
def at2(b:B8)(hp:b.length<=140737488355328):ec (gl (ahP (S.first b).2.2) (0=(S.hR b).1.1) ([]=(S.hR b).1.2.1/\[]=(S.hR b).1.2.2/\(S.first b).2.2=(S.hR b).2) ((S.first b).2.1+32) (qJ (decide (e6 b<(S.first b).2.1+32)) (0=(S.hR b).1.1) ([]=(S.hR b).1.2.1/\[]=(S.hR b).1.2.2/\4=(S.hR b).2) (na ((S.first b).2.1+32)) (0<=(S.first b).2.1/\(S.first b).2.1<=(S.first b).2.1+32/\(S.first b).2.1+32<=e6 b) (na ((S.first b).2.1+32)/\(0<=(S.first b).2.1+32/\(S.first b).2.1+32<=e6 b)/\ec (pf (ahP (aQz b).2.2) (0=(S.hR b).1.1) ([]=(S.hR b).1.2.1/\[]=(S.hR b).1.2.2/\(aQz b).2.2=(S.hR b).2) (qJ (aQl (aQz b).1) (0=(S.hR b).1.1) ([]=(S.hR b).1.2.1/\[]=(S.hR b).1.2.2/\2=(S.hR b).2) (na ((S.first b).2.1+32+(aQz b).2.1)) (∃(x1:Nat),((S.first b).2.1+32+(aQz b).2.1=(S.cw b (S.ix b) x1).2.2.1/\0=(S.cw b (S.ix b) x1).2.1/\(0:Int)=x1/\(S.first b).1=S.U1 b/\q92 (S.first b).2.1 (take (toNat ((S.first b).2.1+32)) b)=S.U2 b/\[]=(S.cw b (S.ix b) x1).1)/\S.ve b x1) (∀(x2:Nat),S.ve b x2->yb (decide (x2<(aQz b).1)) (aKT (apO b x2).2.2.1 (e6 b)) (q39 (q92 (apO b x2).2.2.1 b)/\yb (ahP (S.dw (q92 (apO b x2).2.2.1 b) (apO b x2).2.1).2.2) (0=(S.hR b).1.1) ([]=(S.hR b).1.2.1/\[]=(S.hR b).1.2.2/\(S.dw (q92 (apO b x2).2.2.1 b) (apO b x2).2.1).2.2=(S.hR b).2) (aSc (length (apO b x2).1+length [((S.dw (q92 (apO b x2).2.2.1 b) (apO b x2).2.1).1.1,(S.dw (q92 (apO b x2).2.2.1 b) (apO b x2).2.1).1.2.1,(S.dw (q92 (apO b x2).2.2.1 b) (apO b x2).2.1).1.2.2.1,(S.dw (q92 (apO b x2).2.2.1 b) (apO b x2).2.1).1.2.2.2)])) (na ((apO b x2).2.2.1+(S.dw (q92 (apO b x2).2.2.1 b) (apO b x2).2.1).2.1)/\HJ x2 (∃(x3:Nat),((apO b x2).2.2.1+(S.dw (q92 (apO b x2).2.2.1 b) (apO b x2).2.1).2.1=(S.cw b (S.ix b) x3).2.2.1/\(S.dw (q92 (apO b x2).2.2.1 b) (apO b x2).2.1).1.2.1=(S.cw b (S.ix b) x3).2.1/\(x2:Int)+1=x3/\S.U1 b=S.U1 b/\S.U2 b=S.U2 b/\(apO b x2).1++[((S.dw (q92 (apO b x2).2.2.1 b) (apO b x2).2.1).1.1,(S.dw (q92 (apO b x2).2.2.1 b) (apO b x2).2.1).1.2.1,(S.dw (q92 (apO b x2).2.2.1 b) (apO b x2).2.1).1.2.2.1,(S.dw (q92 (apO b x2).2.2.1 b) (apO b x2).2.1).1.2.2.2)]=(S.cw b (S.ix b) x3).1)/\S.ve b x3/\q43 (S.Lq b) x3 x2))) (aMc (decide ((apO b x2).2.2.1<e6 b))) (qJ (wH (decide ((apO b x2).2.2.1<e6 b)) (S.bN (S.U1 b) (S.U2 b) (apO b x2).1)) (0=(S.hR b).1.1) ([]=(S.hR b).1.2.1/\[]=(S.hR b).1.2.2/\2=(S.hR b).2) (S.U1 b=(S.hR b).1.1) (S.U2 b=(S.hR b).1.2.1) ((apO b x2).1=(S.hR b).1.2.2/\0=(S.hR b).2)))))))):=by
 refine aE ?_;have q1:=S.yp b;have q2:=S.yp (drop (toNat (Prod.fst (Prod.snd (S.first b))+32)) b);rw [List.length_drop] at q2;refine⟨?_,?_,?_⟩;trivial;grind[nt,df,S.hR];intro h2;with_reducible and_intros
 iterate 2 omega
 simp_all[dt,S.hR]
 intro h4;simp at h4;with_reducible and_intros
 iterate 9 omega
 trivial;grind[nt,df,S.hR];intro h6;refine V.dI (λh7=>?_) λh8=>?_
 . grind[S.hR]
 with_reducible and_intros
 iterate 2 omega
 . refine⟨(nat_lit 0:Nat),?_⟩;dsimp only;with_reducible and_intros
   iterate 2 rfl
   omega;rfl
   . rw [S.amt w! w!];rfl
   rfl;grind[S.aHv]
 intro x9 de;refine V.dI (λfC=>?_) λjZ=>?_
 . with_reducible and_intros
   iterate 2
    . have:=S.U3 de;omega
   . have:=S.U3 de;rw [N?];omega
   . intro gY;try simp at gY
     refine⟨?_,?_,?_,?_⟩;iterate 3 (rw [S.amv de fC gY])
     rw [S.amv de fC gY]
   intro jM;try simp at jM
   with_reducible and_intros
   . have:=S.U3 de;rw [C?];omega
   iterate 2
    . have q:=S.U3 de;have q3:=S.aBE (drop (toNat (Prod.fst (Prod.snd (Prod.snd (S.cw b (S.ix b) x9))))) b) (Prod.fst (Prod.snd (S.cw b (S.ix b) x9)));rw [N?] at q3;omega
   iterate 2 omega
   refine⟨(x9+nat_lit 1),?_⟩;try dsimp only
   with_reducible and_intros
   iterate 2 (rw [(S.U4 de fC jM).1])
   omega;iterate 2 rfl
   rw [(S.U4 de fC jM).1];exact(S.U4 de fC jM).2;simp only [S.ag];have:=(S.U4 de fC jM).2.2.1;omega
 with_reducible and_intros
 . intro Cq;trivial
 . intro zP;trivial
 . intro HV;simp at HV;refine⟨?_,?_,?_,?_⟩;iterate 3 (rw [S.L4 de jZ,M! HV])
   rw [S.L4 de jZ,M! HV]
 intro QW;simp only [V.ajY,df,nf] at QW;refine⟨?_,?_,?_,?_⟩
 iterate 3
  . rw [S.L4 de jZ,J! (by rcases QW with⟨g1,g2⟩;rintro(g|g);exact g1 g;rw [g2] at g;cases g)]
 rw [S.L4 de jZ,J! (by rcases QW with⟨g1,g2⟩;rintro(g|g);exact g1 g;rw [g2] at g;cases g)]
def at3(a1:B8)(a2:Int):qJ (ahP a2) (a1=(S.gD a1 a2).1.1) (a2=(S.gD a1 a2).1.2/\0=(S.gD a1 a2).2) True (aKT (S.first a1).2.1 (e6 a1)) (q92 (S.first a1).2.1 a1=(S.gD a1 a2).1.1/\(S.first a1).2.2=(S.gD a1 a2).1.2/\(S.first a1).1=(S.gD a1 a2).2):=by
 refine aE ?_;simp_all[S.yp,nt,df,S.gD,nf,dt]
def at4(a1:B8)(a2 m:Int):qJ (ahP a2) (a1=(S.iq a1 a2 m).1.1) (a2=(S.iq a1 a2 m).1.2/\[]=(S.iq a1 a2 m).2) True (aKT (S.aq a1 m).2.1 (e6 a1)) (q92 (S.aq a1 m).2.1 a1=(S.iq a1 a2 m).1.1/\(S.aq a1 m).2.2=(S.iq a1 a2 m).1.2/\(S.aq a1 m).1=(S.iq a1 a2 m).2):=by
 refine aE ?_;refine⟨?_,?_⟩
 . grind[nt,df,S.iq]
 intro h2;with_reducible and_intros
 trivial
 . have q1:=S.yp a1;grind [S.aq]
 grind[S.yp,S.aq];iterate 3 (grind [S.iq])
def at5(a1:B8)(a2 m:Int):ec (yb (azH (S.gD a1 a2).1.2 0 (decide (m<(S.gD a1 a2).2))) ([]=(S.bO a1 a2 m).1.1) (2=(S.bO a1 a2 m).1.2/\0=(S.bO a1 a2 m).2) ((S.gD a1 a2).1.1=(S.bO a1 a2 m).1.1) ((S.gD a1 a2).1.2=(S.bO a1 a2 m).1.2/\(S.gD a1 a2).2=(S.bO a1 a2 m).2)):=by
 refine aE ?_;refine⟨?_,?_,?_⟩;trivial;simp_all[V.abe,dt,S.bO]
 grind[S.bO]
def at6(a1:B8)(a2:Int):aL5 (∃(x1:Nat),((0:Int)=x1/\(S.bO a1 a2 64).1.1=S.qI a1 a2 x1/\(S.bO a1 a2 64).1.2=(S.bO a1 a2 64).1.2/\[]=S.nK (S.bO a1 a2 64).1.1 x1)/\S.xq a1 a2 x1) (∀(x2:Nat),S.xq a1 a2 x2->q14 (decide (x2<(S.bO a1 a2 64).2)) (qJ (decide (e6 (S.qI a1 a2 x2)<32)) ([]=(S.fM a1 a2).1.1) (4=(S.fM a1 a2).1.2/\[]=(S.fM a1 a2).2) (aKT 32 (e6 (S.qI a1 a2 x2))) (HR (S.nK (S.bO a1 a2 64).1.1 x2) [wI 32 (S.qI a1 a2 x2)]) (sC 32 (e6 (S.qI a1 a2 x2)) (HJ x2 (∃(x3:Nat),sB x2 x3 (q92 32 (S.qI a1 a2 x2)=S.qI a1 a2 x3/\(S.bO a1 a2 64).1.2=(S.bO a1 a2 64).1.2/\S.nK (S.bO a1 a2 64).1.1 x2++[wI 32 (S.qI a1 a2 x2)]=S.nK (S.bO a1 a2 64).1.1 x3) (S.xq a1 a2 x3) (S.Ln a1 a2))))) (S.qI a1 a2 x2=(S.fM a1 a2).1.1/\(S.bO a1 a2 64).1.2=(S.fM a1 a2).1.2/\S.nK (S.bO a1 a2 64).1.1 x2=(S.fM a1 a2).2)):=by
 refine aE ?_;refine⟨?_,?_,?_⟩;trivial
 . refine⟨0,?_⟩;with_reducible and_intros
   omega;iterate 3 rfl
   exact S.aHx ..
 intro x1 h2;refine⟨?_,?_⟩
 . intro h3;simp at h3;refine V.dI (λh4=>?_) λh5=>?_
   . refine⟨?_,?_,?_⟩;iterate 2 (rw [S.amx h2 h3 h4])
     rw [S.amx h2 h3 h4]
   with_reducible and_intros
   iterate 2 omega
   . have:=S.amw h2;rw [C?];omega
   iterate 3 omega
   . have:=S.amw h2;omega
   refine⟨(x1+nat_lit 1),?_⟩;dsimp only;with_reducible and_intros
   omega;exact(S.U5 h2 h3 h5).1;rfl;exact(S.U5 h2 h3 h5).2.1;exact(S.U5 h2 h3 h5).2.2;simp [S.ag];have:=(S.U5 h2 h3 h5).2.2.1;omega
 grind[df,S.acp]
def at7(a1:B8)(a2:Int):ec (yb (ahP (aOx a1 a2).1.2) ((aOx a1 a2).1.1=(S.e9 a1 a2).1.1) ((aOx a1 a2).1.2=(S.e9 a1 a2).1.2/\0=(S.e9 a1 a2).2.1/\[]=(S.e9 a1 a2).2.2.1/\[]=(S.e9 a1 a2).2.2.2) (q39 (aOx a1 a2).2) ((aOx a1 a2).1.1=(S.e9 a1 a2).1.1/\(S.hR (aOx a1 a2).2).2=(S.e9 a1 a2).1.2/\(S.hR (aOx a1 a2).2).1.1=(S.e9 a1 a2).2.1/\(S.hR (aOx a1 a2).2).1.2.1=(S.e9 a1 a2).2.2.1/\(S.hR (aOx a1 a2).2).1.2.2=(S.e9 a1 a2).2.2.2)):=by
 refine aE ?_;refine⟨?_,?_,?_⟩;trivial;grind[nt,df,S.e9];intro h2;with_reducible and_intros
 . have:=S.arO a1 a2 10000 (by decide);omega
 iterate 5 (grind [S.e9])
def aua(b:B8)(kind:UInt8):aRF (decide (1048576<e6 b)) ([]=(S.gQ b kind).1) (3=(S.gQ b kind).2) (ake (e6 b)) (4=(S.gQ b kind).2) ((0:Int)<=0/\0<e6 b) (qJ (fX (aJm b 0) (o8 kind)) ([]=(S.gQ b kind).1) (2=(S.gQ b kind).2) (aKT 1 (e6 b)) (q92 1 b=(S.gQ b kind).1) (0=(S.gQ b kind).2)):=by
 refine aE ?_;refine⟨?_,?_⟩
 . simp_all[dt,S.gQ]
 intro h2;refine⟨?_,?_⟩
 . simp_all[dt,S.gQ]
 intro h4;simp only [df] at h4;with_reducible and_intros
 iterate 2 omega
 grind[nt,df,S.gQ];grind[S.amy,S.acr]
def aub(a1:B8)(a2:Int):q14 (azH a2 0 (Eh 0 a1)) (2=S.jT a1 a2) (a2=S.jT a1 a2):=by
 refine aE ?_;simp_all[V.abe,dt,S.jT,V.ze,df]
def aui(a1:B8)(a2:Int):ec (ec (yb (ahP (aL1 a1 a2).1.2) ((aL1 a1 a2).1.1=(S.uPf a1 a2).1.1) ((aL1 a1 a2).1.2=(S.uPf a1 a2).1.2/\(S.gD a1 a2).2=(S.uPf a1 a2).2.1/\[]=(S.uPf a1 a2).2.2.1/\[]=(S.uPf a1 a2).2.2.2.1/\[]=(S.uPf a1 a2).2.2.2.2.1/\[]=(S.uPf a1 a2).2.2.2.2.2.1/\[]=(S.uPf a1 a2).2.2.2.2.2.2) (q39 (aL1 a1 a2).2) (yb (ahP (S.EV (aL1 a1 a2).2).2) ([]=(S.uPf a1 a2).1.1) ((S.EV (aL1 a1 a2).2).2=(S.uPf a1 a2).1.2/\(S.gD a1 a2).2=(S.uPf a1 a2).2.1/\[]=(S.uPf a1 a2).2.2.1/\[]=(S.uPf a1 a2).2.2.2.1/\[]=(S.uPf a1 a2).2.2.2.2.1/\[]=(S.uPf a1 a2).2.2.2.2.2.1/\[]=(S.uPf a1 a2).2.2.2.2.2.2) True (aL5 ((S.iq (S.fM (aL1 a1 a2).1.1 (aL1 a1 a2).1.2).1.1 (S.fM (aL1 a1 a2).1.1 (aL1 a1 a2).1.2).1.2 4000).1.1=(S.uPf a1 a2).1.1) ((S.iq (S.fM (aL1 a1 a2).1.1 (aL1 a1 a2).1.2).1.1 (S.fM (aL1 a1 a2).1.1 (aL1 a1 a2).1.2).1.2 4000).1.2=(S.uPf a1 a2).1.2/\(S.gD a1 a2).2=(S.uPf a1 a2).2.1/\(S.EV (aL1 a1 a2).2).1.1=(S.uPf a1 a2).2.2.1/\(S.EV (aL1 a1 a2).2).1.2.1=(S.uPf a1 a2).2.2.2.1/\(S.EV (aL1 a1 a2).2).1.2.2=(S.uPf a1 a2).2.2.2.2.1/\(S.fM (aL1 a1 a2).1.1 (aL1 a1 a2).1.2).2=(S.uPf a1 a2).2.2.2.2.2.1/\(S.iq (S.fM (aL1 a1 a2).1.1 (aL1 a1 a2).1.2).1.1 (S.fM (aL1 a1 a2).1.1 (aL1 a1 a2).1.2).1.2 4000).2=(S.uPf a1 a2).2.2.2.2.2.2))))):=by
 refine aE ?_;refine⟨?_,?_,?_,?_⟩;iterate 2 trivial
 grind[nt,df,S.uPf,S.u1,S.u2,S.u3,S.u4];intro h2;refine⟨?_,?_,?_⟩
 . have:=S.arO (S.gD a1 a2).1.1 (S.gD a1 a2).1.2 200 (by decide);omega
 grind[nt,df,S.uPf,S.u1,S.u2,S.u3,S.u4];simp_all[nf,dt,S.uPf,S.u1,S.u2,S.u3,S.u4]
def auj(b:B8):aQH (∃(x1:Nat),((0:Int)=x1/\(aQA b).1.1=(S.ef b x1).1.1/\(aQA b).1.2=(S.ef b x1).1.2/\(aQA b).2.1=(aLZ b).1/\(aQA b).2.2.1=(aLZ b).2.1/\(aQA b).2.2.2=(aLZ b).2.2/\[]=(S.ef b x1).2)/\S.aOs b x1) (∀(x2:Nat),S.aOs b x2->pf (azH (S.ef b x2).1.2 0 (decide ((x2:Int)<length (aQA b).2.2.2))) True ((∃(x3:Nat×Nat),((0:Int)=x3.1/\[]=(S.uRw b x3.2 x3.1).2/\(S.bO (S.ef b x2).1.1 (S.ef b x2).1.2 16).1.1=(S.uRw b x3.2 x3.1).1.1/\(S.bO (S.ef b x2).1.1 (S.ef b x2).1.2 16).1.2=(S.uRw b x3.2 x3.1).1.2/\(aLZ b).1=(aLZ b).1/\(aLZ b).2.1=(aLZ b).2.1/\(aLZ b).2.2=(aLZ b).2.2/\(S.ef b x2).2=(S.ef b x3.2).2)/\S.aNn b x3.2 x3.1/\(x2:Int)=x3.2)/\(∀(x4:Nat×Nat),S.aNn b x4.2 x4.1/\(x2:Int)=x4.2->yb (azH (azX b x4).1.2 0 (decide (x4.1<(S.bO (S.ef b x2).1.1 (S.ef b x2).1.2 16).2))) True (length (azX b x4).2+length [((S.uPf (azX b x4).1.1 (azX b x4).1.2).2.1,(S.uPf (azX b x4).1.1 (azX b x4).1.2).2.2.1,(S.uPf (azX b x4).1.1 (azX b x4).1.2).2.2.2.1,(S.uPf (azX b x4).1.1 (azX b x4).1.2).2.2.2.2.1,(S.uPf (azX b x4).1.1 (azX b x4).1.2).2.2.2.2.2.1,(S.uPf (azX b x4).1.1 (azX b x4).1.2).2.2.2.2.2.2)]<=1353245080339/\na (x4.1+1)/\(∃(x5:Nat×Nat),((x4.1:Int)+1=x5.1/\(azX b x4).2++[((S.uPf (azX b x4).1.1 (azX b x4).1.2).2.1,(S.uPf (azX b x4).1.1 (azX b x4).1.2).2.2.1,(S.uPf (azX b x4).1.1 (azX b x4).1.2).2.2.2.1,(S.uPf (azX b x4).1.1 (azX b x4).1.2).2.2.2.2.1,(S.uPf (azX b x4).1.1 (azX b x4).1.2).2.2.2.2.2.1,(S.uPf (azX b x4).1.1 (azX b x4).1.2).2.2.2.2.2.2)]=(S.uRw b x5.2 x5.1).2/\(S.uPf (azX b x4).1.1 (azX b x4).1.2).1.1=(S.uRw b x5.2 x5.1).1.1/\(S.uPf (azX b x4).1.1 (azX b x4).1.2).1.2=(S.uRw b x5.2 x5.1).1.2/\(aLZ b).1=(aLZ b).1/\(aLZ b).2.1=(aLZ b).2.1/\(aLZ b).2.2=(aLZ b).2.2/\(S.ef b x4.2).2=(S.ef b x5.2).2)/\(S.aNn b x5.2 x5.1/\(x2:Int)=x5.2)/\S.ag (S.aP3 b x5.2) x5.1<S.ag (S.aP3 b x4.2) x4.1)) (aSO (S.ef b x4.2).2 [(azX b x4).2]) (HJ x2 (∃(x6:Nat),sB x2 x6 ((azX b x4).1.1=(S.ef b x6).1.1/\(azX b x4).1.2=(S.ef b x6).1.2/\(aLZ b).1=(aLZ b).1/\(aLZ b).2.1=(aLZ b).2.1/\(aLZ b).2.2=(aLZ b).2.2/\(S.ef b x4.2).2++[(azX b x4).2]=(S.ef b x6).2) (S.aOs b x6) (S.uvN b))))) (ec (qJ (ahP (S.jT (S.ef b x2).1.1 (S.ef b x2).1.2)) True (0=(S.bp b).1.1/\[]=(S.bp b).1.2.1/\[]=(S.bp b).1.2.2.1/\[]=(S.bp b).1.2.2.2/\S.jT (S.ef b x2).1.1 (S.ef b x2).1.2=(S.bp b).2) ((aLZ b).1=(S.bp b).1.1) ((aLZ b).2.1=(S.bp b).1.2.1) ((aLZ b).2.2=(S.bp b).1.2.2.1/\(S.ef b x2).2=(S.bp b).1.2.2.2/\0=(S.bp b).2)))):=by
 refine aE ?_;refine⟨?_,?_,?_,?_⟩;iterate 2 trivial
 . refine⟨0,?_⟩;with_reducible and_intros
   omega;iterate 6 rfl
   exact S.aY5 b
 intro x1 h2;refine⟨?_,?_⟩
 . intro h3;try simp only [V.abe,dt] at h3
   refine⟨?_,?_,?_⟩;trivial
   . refine⟨((nat_lit 0:Nat),(x1)),?_⟩;try dsimp only
     with_reducible and_intros
     omega;iterate 6 rfl
     with_reducible rfl
     exact S.aXE h2 h3;with_reducible rfl
   intro x4 h5;refine⟨?_,?_⟩
   . intro h6;try simp at h6
     with_reducible and_intros
     trivial
     . have q:=S.aRL h5.1;rw [C?];omega
     omega
     . have q:=S.aRL h5.1;omega
     refine⟨((Prod.fst x4+nat_lit 1),(x1)),?_⟩;try dsimp only
     with_reducible and_intros
     omega
     iterate 3
      . (have e:x1=x4.2:=by omega);subst e;rw [(S.aST h5.1 h6).1]
     iterate 3 rfl
     . (have e:x1=x4.2:=by omega);subst e;rfl
     . (have e:x1=x4.2:=by omega);subst e;exact(S.aST h5.1 h6).2
     rfl
     . (have e:x1=x4.2:=by omega);subst e;have:=(S.aST h5.1 h6).2.2.1;simp only [S.ag];omega
   intro h7;try simp only [V.ze,df] at h7
   with_reducible and_intros
   . have q:=S.aRL h5.1;rw [C?];omega
   omega
   . have q:=S.aRL h5.1;omega
   refine⟨(x1+nat_lit 1),?_⟩;try dsimp only
   with_reducible and_intros
   omega
   iterate 2
    . (have e:x1=x4.2:=by omega);subst e;rw [(S.aRM h5.1 h7).1]
   iterate 3 rfl
   . (have e:x1=x4.2:=by omega);subst e;rw [(S.aRM h5.1 h7).1]
   . (have e:x1=x4.2:=by omega);subst e;exact(S.aRM h5.1 h7).2
   . (have e:x1=x4.2:=by omega);subst e;have:=(S.aRM h5.1 h7).2.1;simp only [S.ag];omega
 intro h8;try simp only [V.ze,df] at h8
 refine⟨?_,?_,?_⟩;trivial
 . intro h9;try simp at h9
   with_reducible and_intros
   trivial;iterate 4 (rw [S.aU2 h2 h8 h9])
   rw [S.aU2 h2 h8 h9]
 intro de;try simp at de
 with_reducible and_intros
 iterate 4 (rw [S.aTp h2 h8 de])
 rw [S.aTp h2 h8 de]
def auk(l:U):ec (q14 (S.bK l) (l=S.vv l) ([]=S.vv l)):=by
 refine aE ?_;grind[S.vv]
def aul(l:U)(s1 s2:Int):aL5 (∃(x1:Nat),((0:Int)=x1/\[]=S.aM8 l s1 s2 x1)/\S.gX (S.vv l) x1) (∀(x2:Nat),S.gX (S.vv l) x2->Fi (decide (x2<bu (S.vv l))) 0 x2 (bu (S.vv l)) (pf (decide (s1<=aKd (S.vv l) x2)) ((0:Int)<=x2) (x2<bu (S.vv l)) True/\gl (ir (decide (s1<=aKd (S.vv l) x2)) (decide (aKd (S.vv l) x2<s2))) (uT 0 x2 (bu (S.vv l))) (aOo (S.aM8 l s1 s2 x2) [aKd (S.vv l) x2]/\HJ x2 (∃(x3:Nat),az6 x2 x3 (S.aM8 l s1 s2 x2++[aKd (S.vv l) x2]=S.aM8 l s1 s2 x3) (S.gX (S.vv l) x3) (S.len (S.vv l)) x3 (S.ag (S.len (S.vv l)) x2))) (x2+1) (∃(x4:Nat),az6 x2 x4 (S.aM8 l s1 s2 x2=S.aM8 l s1 s2 x4) (S.gX (S.vv l) x4) (S.len (S.vv l)) x4 (S.ag (S.len (S.vv l)) x2))) (S.aM8 l s1 s2 x2=S.Oc l s1 s2)):=by
 refine aE ?_;refine⟨?_,?_,?_⟩;trivial
 . refine⟨0,?_⟩;with_reducible and_intros
   omega;rfl;exact U! _
 intro x1 h2;refine⟨?_,?_⟩
 . intro h3;simp only [dt] at h3;with_reducible and_intros
   iterate 2 omega
   . intro h4;refine⟨?_,?_⟩
     . omega
     omega
   . intro h5;trivial
   . intro h6;simp at h6;with_reducible and_intros
     iterate 2 omega
     . have:=S.aVR (l:=l) (a:=s1) (b:=s2) (k:=x1);rw [C?];omega
     omega
     . have:=S.aRO l;omega
     refine⟨(x1+nat_lit 1),?_⟩;dsimp only;with_reducible and_intros
     omega;exact S.aVS h3 h6
     . show x1+1<=(S.vv l).length;omega
     simp [S.ag,S.len];omega
   intro h7;simp only [V.ze,df,tn] at h7;with_reducible and_intros
   omega
   . have:=S.aRO l;omega
   refine⟨(x1+nat_lit 1),?_⟩;dsimp only;with_reducible and_intros
   omega;exact S.aXH h3 h7
   . show x1+1<=(S.vv l).length;omega
   simp [S.ag,S.len];omega
 grind[df,S.aVT]
def aum(a b:U)(o:Int):aQH (∃(x1:Nat),aOD x1 (([]:U)=S.aM9 o a b x1) (1000:Nat)) (∀(x2:Nat),S.cc x2 (1000:Nat)->pf (decide ((x2:Int)<(1000:Int))) True (ec (gl (bif ake o then bif S.re (S.vv a) (x2:Int) then cE (S.re (S.vv b) (x2:Int)) (bif decide (o=(1:Int)) then PB (S.re (S.vv a) (x2:Int)) (S.re (S.vv b) (x2:Int)) (aQy a b o x2) else aQy a b o x2) else bif decide (o=(1:Int)) then PB (S.re (S.vv a) (x2:Int)) (S.re (S.vv b) (x2:Int)) (aQy a b o x2) else aQy a b o x2 else bif decide (o=(1:Int)) then PB (S.re (S.vv a) (x2:Int)) (S.re (S.vv b) (x2:Int)) (aQy a b o x2) else aQy a b o x2) (aOo (S.aM9 o a b x2) [(x2:Int)]) (HJ (x2:Int) (∃(x3:Nat),az6 (x2:Int) (x3:Int) (S.aM9 o a b x2++[(x2:Int)]=S.aM9 o a b x3) (S.cc x3 (1000:Nat)) (1000:Nat) x3 (S.ag (1000:Nat) x2))) ((x2:Int)+(1:Int)) (∃(x4:Nat),az6 (x2:Int) (x4:Int) (S.aM9 o a b x2=S.aM9 o a b x4) (S.cc x4 (1000:Nat)) (1000:Nat) x4 (S.ag (1000:Nat) x2)))) (S.aM9 o a b x2=S.aRS o a b)):=by
 refine aE ?_;refine⟨?_,?_,?_,?_⟩;iterate 2 trivial
 . refine⟨0,?_⟩;with_reducible and_intros
   omega;rfl;exact U! _
 intro x1 h2;refine⟨?_,?_⟩
 . intro h3;simp at h3;refine⟨?_,?_,?_,?_⟩;iterate 2 trivial
   . intro h4;with_reducible and_intros
     . have:=S.aVV (o:=o) (a:=a) (b:=b) (k:=x1);rw [C?];omega
     iterate 2 omega
     refine⟨(x1+nat_lit 1),?_⟩;dsimp only;with_reducible and_intros
     omega
     . exact S.aVW w! (by simp [S.kB,Bool.or_eq_true,Bool.and_eq_true,dt,nt];grind)
     . show x1+1<=1000;omega
     simp [S.ag];omega
   intro h5;with_reducible and_intros
   iterate 2 omega
   refine⟨(x1+nat_lit 1),?_⟩;dsimp only;with_reducible and_intros
   omega
   . exact S.aVX w! (by simp [S.kB,Bool.or_eq_false_iff,Bool.and_eq_false_iff,df,nf];grind)
   . show x1+1<=1000;omega
   simp [S.ag];omega
 grind[df,S.aVY]
def aV9(b:B8)(hp:b.length<=140737488355328):ec (aRF (ahP (S.first b).2.2) ([]=(S.b8 b).1) ((S.first b).2.2=(S.b8 b).2) (decide (1000<(S.first b).1)) (2=(S.b8 b).2) (∃(x1:Nat×Int×Int×U),((0:Int)=x1.1/\(S.first b).2.1=x1.2.1/\0=x1.2.2.1/\[]=x1.2.2.2)/\S.aNZ b x1.1 x1.2) (∀(x2:Nat×Int×Int×U),S.aNZ b x2.1 x2.2->pf (decide (x2.1<(S.first b).1)) (aKT x2.2.1 (e6 b)) (ec (gl (ahP (aNj b x2).2.2) ([]=(S.b8 b).1) ((aNj b x2).2.2=(S.b8 b).2) (999-x2.2.2.1) (qJ (decide (999-x2.2.2.1<(aNj b x2).1)) ([]=(S.b8 b).1) (2=(S.b8 b).2) (na (x2.2.2.1+(aNj b x2).1)) (aOo x2.2.2.2 [x2.2.2.1+(aNj b x2).1]) (aji (x2.2.2.1+(aNj b x2).1) (x2.2.2.1+(aNj b x2).1+1) (aji (x2.2.1+(aNj b x2).2.1) (x2.1+1) (∃(x3:Nat×Int×Int×U),((x2.1:Int)+1=x3.1/\x2.2.1+(aNj b x2).2.1=x3.2.1/\x2.2.2.1+(aNj b x2).1+1=x3.2.2.1/\x2.2.2.2++[x2.2.2.1+(aNj b x2).1]=x3.2.2.2)/\S.aNZ b x3.1 x3.2/\q43 1000 x3.1 x2.1)))))) (yb (decide (x2.2.1<e6 b)) ([]=(S.b8 b).1) (2=(S.b8 b).2) (x2.2.2.2=(S.b8 b).1) (0=(S.b8 b).2)))):=by
 refine aE ?_;refine⟨?_,?_,?_⟩;trivial;grind[nt,df,S.aU4];intro h2;refine V.dI (λh3=>?_) λh4=>?_
 . grind[S.aSC]
 refine⟨?_,?_⟩
 . refine⟨((nat_lit 0:Nat),((Prod.fst (Prod.snd (S.first b))),(((0:Int)),([])))),?_⟩;grind[S.aY6]
 intro x5 h6;refine V.dI (λh7=>?_) λgY=>?_
 . with_reducible and_intros
   iterate 2
    . have:=S.aQ0 h6 h7;omega
   trivial;grind[nt,df,S.aTq];intro h9;with_reducible and_intros
   iterate 2
    . have:=S.aQ0 h6 h7;omega
   . intro de;grind[S.aTr]
   intro fC;try simp at fC
   with_reducible and_intros
   . have q:=S.aQ0 h6 h7;have q2:=S.yp (drop x5.2.1.toNat b);omega
   omega
   . have:=S.aQ0 h6 h7;grind
   . have q:=S.aQ0 h6 h7;have q2:=S.yp (drop x5.2.1.toNat b);omega
   omega
   . have q:=S.aQ0 h6 h7;have q2:=S.yp (drop x5.2.1.toNat b);omega
   omega
   . have q:=S.aQ0 h6 h7;have q2:=S.yp (drop x5.2.1.toNat b);omega
   . have q:=S.aQ0 h6 h7;have q2:=S.yp (drop x5.2.1.toNat b);grind
   iterate 2 omega
   refine⟨((Prod.fst x5+nat_lit 1),((Prod.fst (Prod.snd x5)+Prod.fst (Prod.snd (S.first (drop (toNat (Prod.fst (Prod.snd x5))) b)))),((Prod.fst (Prod.snd (Prod.snd x5))+Prod.fst (S.first (drop (toNat (Prod.fst (Prod.snd x5))) b))+(1:Int)),(Prod.snd (Prod.snd (Prod.snd x5))++[Prod.fst (Prod.snd (Prod.snd x5))+Prod.fst (S.first (drop (toNat (Prod.fst (Prod.snd x5))) b))])))),?_⟩;grind[S.aXG,S.aQ0,S.ag]
 refine V.dI (λjM=>?_) λjZ=>?_
 . refine⟨?_,?_⟩
   . rw [S.aRN h6 gY,M! jM]
   rw [S.aRN h6 gY,M! jM]
 refine⟨?_,?_⟩
 . rw [S.aRN h6 gY,J! jZ]
 rw [S.aRN h6 gY,J! jZ]
def aun(root:B8)(n:Int)(t:B8)(p1:Int)(p2 p3 p4:B8)(p5:O)(p6:B8)(hp:S.aN0 root n t p5 p6):aL5 (q79 (Bool.not (S.fU p2 p3 p4)) (q79 (decide (p1<0)) (q79 (decide (n<=p1)) (ec (q79 (Bool.not (S.bQ p5)) (S.eM p1 n)))))) (qJ (PB (Bool.not (S.fU p2 p3 p4)) (decide (p1<0)) (PB (decide (n<=p1)) (Bool.not (S.bQ p5)) (fX (ml p5) (S.e8 p1 n)))) ([]=(S.iI root n t (p1,p2,p3,p4,p5,p6)).1) (false=ake (S.iI root n t (p1,p2,p3,p4,p5,p6)).2) (S.fU p2 p3 p4=true) (S.aC (S.qy p2 p3 p4)) (S.mB (S.eW 0 (S.qy p2 p3 p4)) p1 n p5/\pf (aP9 (S.kN (S.eW 0 (S.qy p2 p3 p4)) p1 n p5) root) ([]=(S.iI root n t (p1,p2,p3,p4,p5,p6)).1) (false=ake (S.iI root n t (p1,p2,p3,p4,p5,p6)).2) (pf (Bool.not (Op.bytesLess p2 t||decide (p2=t))) ([]=(S.iI root n t (p1,p2,p3,p4,p5,p6)).1) (false=ake (S.iI root n t (p1,p2,p3,p4,p5,p6)).2) (qJ (Op.bytesLess p2 t) ([]=(S.iI root n t (p1,p2,p3,p4,p5,p6)).1) (azH (length p6) 0 (wH (decide (p3=[])) (aSK p3 t))=ake (S.iI root n t (p1,p2,p3,p4,p5,p6)).2) (q19 (length p6)) (q79 (ahP (S.b8 p6).2) (S.aC p6)) (yb (wH (ahP (S.b8 p6).2) (decide (S.eW 2 p6=p4))) ([]=(S.iI root n t (p1,p2,p3,p4,p5,p6)).1) (false=ake (S.iI root n t (p1,p2,p3,p4,p5,p6)).2) ((S.b8 p6).1=(S.iI root n t (p1,p2,p3,p4,p5,p6)).1) (true=ake (S.iI root n t (p1,p2,p3,p4,p5,p6)).2)))))):=by
 refine aE ?_;with_reducible and_intros
 trivial;grind;grind[nf,df,nt,S.aSH];simp_all[V.IG,nt,dt,df,S.aU6]
 intro de;try simp only [V.ajY,nf,df,dt] at de
 with_reducible and_intros
 grind;exact(S.aPY hp de).1;exact(S.aPY hp de).2.1;simp_all[nt,df,S.aPY,if_neg]
 intro gY;try simp at gY
 refine⟨?_,?_⟩
 . simp_all[nt,S.aPY,M!,S.aU7]
 intro jZ;simp only [nf] at jZ;refine⟨?_,?_⟩
 . intro Cq;refine⟨?_,?_⟩
   . simp_all[S.aPY,M!,S.aU8]
   rw [(S.aPY hp de).2.2,if_pos gY,S.aU8 Cq,S.aV2];grind
 intro zP;with_reducible and_intros
 . have:=(S.aTt hp).2.2.2;grind[S.aC]
 grind
 . intro QW;exact(S.aTt hp).2.2.2
 . intro h19;refine⟨?_,?_⟩
   . rw [(S.aPY hp de).2.2,if_pos gY,S.aSw w! zP,if_neg (λg=>by grind)]
   rw [(S.aPY hp de).2.2,if_pos gY,S.aSw w! zP,if_neg (λg=>by grind)];rfl
 simp_all[V.ajY,nf,dt,S.aPY,M!,S.aSw]
def aWa(s1 s2 s3:Int)(s4 t:B8)(p1:Int)(p2 p3 p4:B8)(p5:O)(p6:B8)(hp:S.aN0 s4 s3 t p5 p6):S.aN0 s4 s3 t p5 p6/\yb (ahP (S.iI s4 s3 t (p1,p2,p3,p4,p5,p6)).2) ([]=(S.iI s4 s3 t (p1,p2,p3,p4,p5,p6)).1) (false=S.aQc (s1,s2,s3,s4) t (p1,p2,p3,p4,p5,p6)) True (aL5 ((S.iI s4 s3 t (p1,p2,p3,p4,p5,p6)).1=(S.iI s4 s3 t (p1,p2,p3,p4,p5,p6)).1) (S.sH (S.Oc (S.iI s4 s3 t (p1,p2,p3,p4,p5,p6)).1 s1 s2) (S.iI s4 s3 t (p1,p2,p3,p4,p5,p6)).1=S.aQc (s1,s2,s3,s4) t (p1,p2,p3,p4,p5,p6))):=by
 refine aE ?_;refine⟨?_,?_,?_⟩;omega;grind[nt,df,S.aV1,S.aQc,decide_eq_false];simp_all[nf,dt,S.aQc,decide_eq_true,Bool.true_and,S.aU9,S.aRV]
def aWb(a1:Int)(a2:B8)(a3:M (Int×Int×Int×B8))(a4:M (M (Int×B8×B8×B8×O×B8)))(t:O)(hp:S.aQj a3 a4 t):(∃(x1:Nat),((0:Int)=x1/\[]=S.aNa a3 a4 t x1)/\S.aP4 a3 a4 t x1)/\(∀(x2:Nat),S.aP4 a3 a4 t x2->yb (decide (x2<ml t)) (∃(x3:Nat×Nat),((0:Int)=x3.1/\[]=S.xp a3 a4 t x3.2 x3.1/\S.aNa a3 a4 t x2=S.aNa a3 a4 t x3.2)/\S.aNo a3 a4 t x3.2 x3.1/\(x2:Int)=x3.2) (∀(x4:Nat×Nat),S.aNo a3 a4 t x4.2 x4.1/\(x2:Int)=x4.2->yb (decide ((x4.1:Int)<length a3)) (uT 0 x4.1 (length a4)) (yb (fX (length (getD a4 (toNat x4.1) [])) (ml t)) ([]=S.fdR a3 a4 t) (false=S.Fc a3 a4 t (S.len a3)) (uT 0 x4.1 (length a3)) (aL7 x2 (ml t) (aL7 x4.1 (length a4) (uT 0 x2 (length (getD a4 (toNat x4.1) []))/\S.aN0 (aOi a3 x4).2.2.2 (aOi a3 x4).2.2.1 (q76 t (toNat x2)) (aL6 a4 x2 x4).2.2.2.2.1 (aL6 a4 x2 x4).2.2.2.2.2/\yb (Bool.not (S.aQc ((aOi a3 x4).1,(aOi a3 x4).2.1,(aOi a3 x4).2.2.1,(aOi a3 x4).2.2.2) (q76 t (toNat x2)) ((aL6 a4 x2 x4).1,(aL6 a4 x2 x4).2.1,(aL6 a4 x2 x4).2.2.1,(aL6 a4 x2 x4).2.2.2.1,(aL6 a4 x2 x4).2.2.2.2.1,(aL6 a4 x2 x4).2.2.2.2.2))) ([]=S.fdR a3 a4 t) (false=S.Fc a3 a4 t (S.len a3)) (aOo (S.xp a3 a4 t x4.2 x4.1) (S.iI (aOi a3 x4).2.2.2 (aOi a3 x4).2.2.1 (q76 t (toNat x2)) ((aL6 a4 x2 x4).1,(aL6 a4 x2 x4).2.1,(aL6 a4 x2 x4).2.2.1,(aL6 a4 x2 x4).2.2.2.1,(aL6 a4 x2 x4).2.2.2.2.1,(aL6 a4 x2 x4).2.2.2.2.2)).1) (na (x4.1+1)/\(∃(x5:Nat×Nat),((x4.1:Int)+1=x5.1/\S.xp a3 a4 t x4.2 x4.1++(S.iI (aOi a3 x4).2.2.2 (aOi a3 x4).2.2.1 (q76 t (toNat x2)) ((aL6 a4 x2 x4).1,(aL6 a4 x2 x4).2.1,(aL6 a4 x2 x4).2.2.1,(aL6 a4 x2 x4).2.2.2.1,(aL6 a4 x2 x4).2.2.2.2.1,(aL6 a4 x2 x4).2.2.2.2.2)).1=S.xp a3 a4 t x5.2 x5.1/\S.aNa a3 a4 t x4.2=S.aNa a3 a4 t x5.2)/\(S.aNo a3 a4 t x5.2 x5.1/\(x2:Int)=x5.2)/\q43 (S.len a3) x5.1 x4.1)))))) (aAu (length (S.aNa a3 a4 t x4.2)+length [S.xp a3 a4 t x4.2 x4.1])) (HJ x2 (∃(x6:Nat),sB x2 x6 (S.aNa a3 a4 t x4.2++[S.xp a3 a4 t x4.2 x4.1]=S.aNa a3 a4 t x6) (S.aP4 a3 a4 t x6) (S.len t)))) (S.aNa a3 a4 t x2=S.fdR a3 a4 t) (true=S.Fc a3 a4 t (S.len a3))):=by
 refine aE ?_;refine⟨?_,?_⟩
 . refine⟨0,?_⟩;with_reducible and_intros
   omega;rfl;exact S.aY8 ..
 intro x1 h2;refine V.dI (λh3=>?_) λgY=>?_
 . refine⟨?_,?_⟩
   . refine⟨((nat_lit 0:Nat),(x1)),?_⟩;dsimp only;with_reducible and_intros
     omega;iterate 2 rfl
     exact S.aXK h2 h3;omega
   intro x4 h5;refine V.dI (λh6=>?_) λfC=>?_
   . with_reducible and_intros
     omega
     . have:=hp.1.1;omega
     . intro h7;try simp only [nt,df,tn] at h7
       refine⟨?_,?_⟩
       . exact(S.aVa (S.aVb h6 h7)).symm
       exact(S.aVb h6 h7).symm
     intro h8;try simp only [nf,dt,tn] at h8
     with_reducible and_intros
     iterate 5 omega
     . have:=hp.1.1;omega
     omega
     . rw [tn];omega
     exact S.aXM hp h6 h3 h8
     . intro h9;try simp only [nt] at h9
       refine⟨?_,?_⟩
       . exact(S.aVa (S.aSx h6 (.inr ⟨x1,w!,h9⟩))).symm
       exact(S.aSx h6 (.inr ⟨x1,w!,h9⟩)).symm
     intro de;try simp only [nf] at de
     with_reducible and_intros
     refine X? (S.aRQ hp h5.1 _ _ _ _).1 (by decide)
     iterate 2
      . have:=(S.aRQ hp h5.1 [] 0 [] S.X0).2.2.1;omega
     refine⟨((Prod.fst x4+nat_lit 1),(x1)),?_⟩;try dsimp only
     with_reducible and_intros
     omega
     iterate 2
      . (have e:x1=x4.2:=by omega);subst e;rfl
     . (have e:x1=x4.2:=by omega);subst e;exact S.aXL h5.1 h6 h8 de
     omega;simp only [S.ag,S.len];omega
   with_reducible and_intros
   . have:=(S.aRQ hp h5.1 [] 0 [] S.X0).2.1;rw [C?];omega
   omega
   . have:=(S.aRQ hp h5.1 [] 0 [] S.X0).2.2.2;omega
   refine⟨(x1+nat_lit 1),?_⟩;dsimp only;with_reducible and_intros
   omega
   . (have e:x1=x4.2:=by omega);subst e;exact(S.aTu h5.1 fC).1
   . (have e:x1=x4.2:=by omega);subst e;exact(S.aTu h5.1 fC).2
   simp [S.ag,S.len];omega
 refine⟨?_,?_⟩
 . exact(S.aTv hp h2 gY).1
 exact(S.aTv hp h2 gY).2.symm
def aWc(root:B8)(l:M (Int×B8))(b:B8)(hp:b.length<1099511627776/\S.fV l):q79 (aP0 root) (S.fV l)/\yb (wH (aP0 root) (S.bw l)) ([]=(S.kA root l b).1) (1=(S.kA root l b).2) True (yb (ahP (S.bp b).2) ([]=(S.kA root l b).1) ((S.bp b).2=(S.kA root l b).2) (S.bN (S.bp b).1.1 (S.bp b).1.2.1 (S.bp b).1.2.2.1=true) (qJ (aP9 (S.uW (S.bp b).1.1 (S.bp b).1.2.1 (S.bp b).1.2.2.1) root) ([]=(S.kA root l b).1) (6=(S.kA root l b).2) (S.small l) (S.aQj (S.bp b).1.2.2.1 (S.bp b).1.2.2.2 (S.ax l)) (qJ (Bool.not (S.Fc (S.bp b).1.2.2.1 (S.bp b).1.2.2.2 (S.ax l) (S.len (S.bp b).1.2.2.1))) ([]=(S.kA root l b).1) (6=(S.kA root l b).2) (S.mT l (S.fdR (S.bp b).1.2.2.1 (S.bp b).1.2.2.2 (S.ax l))/\S.small l) (S.OT l (S.ax l) (S.fdR (S.bp b).1.2.2.1 (S.bp b).1.2.2.2 (S.ax l))=(S.kA root l b).1) (0=(S.kA root l b).2)))):=by
 refine aE ?_;with_reducible and_intros
 iterate 2 grind
 simp_all[V.IG,nt,df,S.aVc]
 intro h4;simp at h4;refine⟨?_,?_,?_⟩;trivial;grind[nt,df,S.aTx];intro h6;simp at h6;refine⟨?_,?_,?_⟩;exact S.aOA h6;simp_all[nt,df,S.aQ1,if_neg]
 intro h8;simp at h8;refine⟨?_,?_,?_,?_⟩;exact hp.2.1;grind[S.aV3]
 . intro h9;simp at h9;refine⟨?_,?_⟩
   . rw [S.aQ1 h4 h6,if_neg (λx=>by have h9':S.Fc (S.bp b).1.2.2.1 (S.bp b).1.2.2.2 (S.ax l) (S.bp b).1.2.2.1.length=false:=h9;grind)]
   rw [S.aQ1 h4 h6,if_neg (λx=>by have h9':S.Fc (S.bp b).1.2.2.1 (S.bp b).1.2.2.2 (S.ax l) (S.bp b).1.2.2.1.length=false:=h9;grind)]
 intro de;simp at de;with_reducible and_intros
 . have aWP:S.Fc (S.bp b).1.2.2.1 (S.bp b).1.2.2.2 (S.ax l) (S.bp b).1.2.2.1.length=true:=de;unfold S.fdR;grind[S.aTw,S.aOA]
 exact hp.2.1;rw [S.aQ1 h4 h6,M! ⟨h8,de⟩];rw [S.aQ1 h4 h6,M! ⟨h8,de⟩]
def aOq(s:B8)(t:O)(f:M U)(hp:S.BZ t f)(hf:Vg.gq J.KR (s,t,f)):(∃(x1:Nat),(0:Int)=x1/\S.aP5 t s x1)/\(∀(x2:Nat),S.aP5 t s x2->Fi (decide (x2<ml t)) 0 x2 (ml t) (gl (decide (q76 t (toNat x2)=s)) (uT 0 x2 (length f)) (yu f (toNat x2)=S.mH t f s) (x2+1) (∃(x3:Nat),aJ8 x2 x3 (S.aP5 t s x3) (S.len t))) ([]=S.mH t f s)):=by
 refine aE ?_;have aTB:Vg.hlen t:=hf.2.1.1;refine⟨?_,?_⟩
 . grind[S.aY7]
 intro x1 h2;refine⟨?_,?_⟩
 . intro h3;simp only [dt] at h3;with_reducible and_intros
   iterate 2 omega
   . intro h4;simp at h4;with_reducible and_intros
     omega
     . have:=hp.2.1;omega
     exact S.aVZ hp h3 h4
   intro h5;simp at h5;with_reducible and_intros
   iterate 2 omega
   refine⟨(x1+nat_lit 1),?_⟩;dsimp only;refine⟨?_,?_,?_⟩;omega;exact S.aXI h2 h3 h5;simp [S.ag,S.len];omega
 grind[df,S.aU5]
def aPo(l:M (Int×B8))(hp:S.aNb l/\S.small l/\¬(S.jY l (l.length-1)).1=0)(hf:Vg.gq J.aIa l):na (length l-1)/\(∃(x1:Nat×Int),((length l:Int)-1=x1.1/\1=x1.2)/\S.aNe l x1.2 x1.1)/\(∀(x2:Nat×Int),S.aNe l x2.2 x2.1->pf (aJ7 x2.2) (na (x2.1-1)) (uT 0 (x2.1-1) (length l)/\yb (ake (aKt l (x2.1-1)).1) (q2<=x2.2-1) (q1 (x2.2-1)) (q2<=x2.2+1) (q1 (x2.2+1))/\(∃(x3:Nat×Int),((x2.1:Int)-1=x3.1/\(bif ake (aKt l (x2.1-1)).1 then x2.2-1 else x2.2+1)=x3.2)/\S.aNe l x3.2 x3.1/\x3.1<x2.1)) (x2.1=S.aOm l)):=by
 refine aE ?_;have PN:Vg.hlen l:=hf.1.1;obtain⟨p1,p2,p3⟩:=hp;have p4:=S.aR7 p1;have p5:toNat ((l.length:Int)-1)=l.length-1:=by omega
 with_reducible and_intros
 iterate 2 omega
 . refine⟨((toNat ((↑(length l):Int)-(1:Int))),((1:Int))),?_⟩;grind[S.aWO]
 intro x1 h2;refine⟨?_,?_⟩
 . intro h3;simp at h3;with_reducible and_intros
   omega
   . have q2:=h2.1;omega
   . have q:=S.aPR p1 p3 h2;omega
   . have q2:=h2.1;omega
   . intro h4;refine⟨?_,?_⟩
     . omega
     have q:=S.aPR p1 p3 h2;have q2:=h2.1;omega
   . intro h5;refine⟨?_,?_⟩
     . omega
     have q:=S.aPR p1 p3 h2;have q2:=h2.1;omega
   refine⟨((toNat ((↑(Prod.fst x1):Int)-(1:Int))),(bif Decidable.decide (Prod.fst (getD l (toNat ((↑(Prod.fst x1):Int)-(1:Int))) ((0:Int),[]))=(0:Int)) then Prod.snd x1-(1:Int) else Prod.snd x1+(1:Int))),?_⟩;with_reducible and_intros
   . have q:=S.aPR p1 p3 h2;omega
   omega
   . rw [show toNat ((x1.1:Int)-1)=x1.1-1 by omega];exact S.aSD p1 p3 h2 h3
   have q:=S.aPR p1 p3 h2;omega
 grind[df,S.aV0]
def aWd(m:Nat)(l:M (Int×B8))(t:O)(f:M U)(hm:S.len l<m+1)(hp:S.aQZ l t f)(hf:Vg.gq J.acF (l,t,f)):q77 (aMI l-1) 0 (aMI l) (qJ (ake (aR4 l).1) (uT 0 (aMI l-1) (aMI l)) (S.BZ t f/\S.mH t f (aR4 l).2=S.aM0 (S.mH t f) l) (S.aNb l/\S.small l/\((S.jY l (aMI l-1)).1=0->False)) (aKT (S.aOm l) (aMI l)) ((S.len (take (toNat (S.aOm l)) l)<m/\S.aQZ (take (toNat (S.aOm l)) l) t f)/\(0<=S.aOm l/\S.aOm l<=aMI l-1/\(aMI l:Int)-1<=aMI l)/\(S.len (drop (toNat (S.aOm l)) (take (toNat (aMI l-1)) l))<m/\S.aQZ (drop (toNat (S.aOm l)) (take (toNat (aMI l-1)) l)) t f)/\aL7 (aMI l-1) (aMI l) (na ((aR4 l).1-1)/\ec (S.aRS ((aR4 l).1-1) (S.aM0 (S.mH t f) (take (toNat (S.aOm l)) l)) (S.aM0 (S.mH t f) (drop (toNat (S.aOm l)) (take (toNat (aMI l-1)) l)))=S.aM0 (S.mH t f) l)))):=by
 refine aE ?_;have PN:Vg.hlen l:=hf.1.1;obtain⟨p1,p2,p3⟩:=hp;have p4:=S.aR7 p1;have p5:toNat ((l.length:Int)-1)=l.length-1:=by omega
 have p6:S.len l=l.length:=rfl;rw [p5];with_reducible and_intros
 iterate 4 omega
 . intro h1;try simp at h1
   with_reducible and_intros
   iterate 3 omega
   exact S.aUh p1 h1
 intro h2;try simp at h2
 with_reducible and_intros
 iterate 2 omega
 . intro h3;exact h2 h3
 iterate 2
  . obtain⟨i,e,i1,i2,_⟩:=S.aOe p1 h2;omega
 . obtain⟨i,e,i1,i2,_⟩:=S.aOe p1 h2;rw [e];show(take i l).length<m;grind
 . obtain⟨i,e,i1,i2,i3,i4⟩:=S.aOe p1 h2;rw [e];exact⟨(S.aQk p1 h2 i1 i2 i3 i4).1,by show(take i l).length<=_;rw [J?];have :l.length<=1099511627776:=p2;omega,p3⟩
 iterate 2
  . obtain⟨i,e,i1,i2,_⟩:=S.aOe p1 h2;omega
 omega
 . obtain⟨i,e,i1,i2,_⟩:=S.aOe p1 h2;rw [e];show(drop i (take (l.length-1) l)).length<m;grind
 . obtain⟨i,e,i1,i2,i3,i4⟩:=S.aOe p1 h2;rw [e];exact⟨(S.aQk p1 h2 i1 i2 i3 i4).2,by show(drop i (take (l.length-1) l)).length<=_;rw [N?,J?];have :l.length<=1099511627776:=p2;omega,p3⟩
 iterate 2 omega
 iterate 2
  . have q:0<=(l.getD (l.length-1) (0,[])).1/\(l.getD (l.length-1) (0,[])).1<=3:=(p1.1 (l.length-1) w!).1;omega
 trivial;obtain⟨i,e,i1,i2,i3,i4⟩:=S.aOe p1 h2;rw [e];exact S.aUi p1 h2 i1 i2 i3 i4
def aWe(l:M (Int×B8))(f:M U)(hp:S.mT l f=true/\S.small l):S.small l/\S.aQZ l (S.ax l) f/\S.aM0 (S.mH (S.ax l) f) l=S.OT l (S.ax l) f:=by
 refine⟨?_,?_,?_⟩;grind;grind[S.aVd];rfl
def aWf(d:Bool)(l:B8):pf d (1=S.wz (l,d)) ([]=S.wy (l,d)) (yb (Eh 1048576 l) (3=S.wz (l,d)) ([]=S.wy (l,d)) (0=S.wz (l,d)) (l=S.wy (l,d))):=by
 refine aE ?_;simp_all[dt,S.wz,J!,M!,S.wy,df]
def aWg(a1:Int)(a2:B8)(a3:M (Int×Int×Int×B8))(a4:M (M (Int×B8×B8×B8×O×B8)))(hp:S.qD a4)(hf:Vg.gq J.azc (a1,a2,a3,a4)):q75 [1]/\yb (fX (length a4) (length a3)) (1=(S.kv a1 a2 a3 a4).2) ([]=(S.kv a1 a2 a3 a4).1) (∃(x1:Nat),((0:Int)=x1/\aR0 false (S.ajd a1 a2 a3) (S.cY a1 a2 a3 a4 x1)/\aL3 [1] (S.ajd a1 a2 a3)=S.bytesOf (S.cY a1 a2 a3 a4 x1))/\S.kz a3 a4 x1) (∀(x2:Nat),S.kz a3 a4 x2->yb (decide ((x2:Int)<length a4)) (uT 0 x2 (length a4)) (qJ (decide ((16:Int)<length (getD a4 (toNat x2) []))) (1=(S.kv a1 a2 a3 a4).2) ([]=(S.kv a1 a2 a3 a4).1) (q75 (S.bytesOf (S.cY a1 a2 a3 a4 x2))) (∃(x3:Nat×Nat),((0:Int)=x3.1/\aR0 (S.iG (S.cY a1 a2 a3 a4 x2)) (S.lO (length (getD a4 (toNat x2) []))) (S.dN a1 a2 a3 a4 x3.2 x3.1)/\aL3 (S.bytesOf (S.cY a1 a2 a3 a4 x2)) (S.lO (length (getD a4 (toNat x2) [])))=S.bytesOf (S.dN a1 a2 a3 a4 x3.2 x3.1))/\S.iH a3 a4 x3.2 x3.1/\(x2:Int)=x3.2) (∀(x4:Nat×Nat),S.iH a3 a4 x4.2 x4.1/\(x2:Int)=x4.2->gl (decide ((x4.1:Int)<length (getD a4 (toNat x2) []))) (uT 0 x4.1 (length (getD a4 (toNat x2) []))) ((đ (length (S.bytesOf (S.dN a1 a2 a3 a4 x4.2 x4.1)))/\aSb (aM6 a4 x2 x4).2.2.2.2.2)/\na (x4.1+1)/\(∃(x5:Nat×Nat),((x4.1:Int)+1=x5.1/\aR0 (S.iG (S.dN a1 a2 a3 a4 x4.2 x4.1)) (S.ku ((aM6 a4 x2 x4).1,(aM6 a4 x2 x4).2.1,(aM6 a4 x2 x4).2.2.1,(aM6 a4 x2 x4).2.2.2.1,(aM6 a4 x2 x4).2.2.2.2.1,(aM6 a4 x2 x4).2.2.2.2.2)) (S.dN a1 a2 a3 a4 x5.2 x5.1)/\aL3 (S.bytesOf (S.dN a1 a2 a3 a4 x4.2 x4.1)) (S.ku ((aM6 a4 x2 x4).1,(aM6 a4 x2 x4).2.1,(aM6 a4 x2 x4).2.2.1,(aM6 a4 x2 x4).2.2.2.1,(aM6 a4 x2 x4).2.2.2.2.1,(aM6 a4 x2 x4).2.2.2.2.2))=S.bytesOf (S.dN a1 a2 a3 a4 x5.2 x5.1))/\(S.iH a3 a4 x5.2 x5.1/\(x2:Int)=x5.2)/\S.ag (S.len (S.iE a4 x5.2)) x5.1<S.ag (S.len (S.iE a4 x4.2)) x4.1)) (x2+1) (∃(x6:Nat),sB x2 x6 (S.iG (S.dN a1 a2 a3 a4 x4.2 x4.1)=S.iG (S.cY a1 a2 a3 a4 x6)/\S.bytesOf (S.dN a1 a2 a3 a4 x4.2 x4.1)=S.bytesOf (S.cY a1 a2 a3 a4 x6)) (S.kz a3 a4 x6) (S.len a4)))) True (S.wz (S.bytesOf (S.cY a1 a2 a3 a4 x2),S.iG (S.cY a1 a2 a3 a4 x2))=(S.kv a1 a2 a3 a4).2/\S.wy (S.bytesOf (S.cY a1 a2 a3 a4 x2),S.iG (S.cY a1 a2 a3 a4 x2))=(S.kv a1 a2 a3 a4).1)):=by
 refine aE ?_;have aDF:Vg.hlen a3:=hf.2.2.1.1;refine⟨?_,?_,?_⟩;decide;grind[nt,df,S.alN];intro h2;simp at h2;refine⟨?_,?_⟩
 . refine⟨(nat_lit 0:Nat),?_⟩;dsimp only;with_reducible and_intros
   omega;iterate 2 rfl
   grind[S.ayL]
 intro x3 h4;refine V.dI (λh5=>?_) λgY=>?_
 . with_reducible and_intros
   iterate 2 omega
   . intro h6;try simp at h6
     refine⟨?_,?_⟩
     . rw [S.LV h5 h6]
     rw [S.LV h5 h6]
   intro h7;try simp only [df,tn] at h7
   refine⟨?_,?_,?_⟩;exact X? (S.UK (n:=a1) (g:=a2) h4) (by decide)
   . refine⟨((nat_lit 0:Nat),(x3)),?_⟩;try dsimp only
     with_reducible and_intros
     omega
     iterate 2
      . rw [tn,S.LX w!];rfl
     exact S.alM h4 h5 h7;with_reducible rfl
   intro x8 h9;refine⟨?_,?_⟩
   . intro de;try simp only [dt,tn] at de
     with_reducible and_intros
     omega;assumption;exact X? (S.Yd (n:=a1) (g:=a2) h9.1) (by decide)
     . obtain⟨q,e⟩:=h9;have e':x8.2=x3:=by omega
       rw [e'] at q;exact S.Yc q de
     iterate 2 omega
     refine⟨((Prod.fst x8+nat_lit 1),(x3)),?_⟩;try dsimp only
     with_reducible and_intros
     omega
     . obtain⟨q,e⟩:=h9;have e':x8.2=x3:=by omega
       rw [e',tn,tn];exact(S.abN _ rfl _ _ rfl rfl).1
     . obtain⟨q,e⟩:=h9;have e':x8.2=x3:=by omega
       rw [e',tn,tn];exact(S.abN _ rfl _ _ rfl rfl).2
     . obtain⟨q,e⟩:=h9;have e':x8.2=x3:=by omega
       rw [e'] at q;exact S.Yb q de
     with_reducible rfl
     obtain⟨q,e⟩:=h9;have e':x8.2=x3:=by omega
     rw [e'];have hh:(x8.1:Int)<((S.iE a4 x3).length:Int):=de;simp only [S.ag,S.len];omega
   intro fC;try simp only [df,tn] at fC
   with_reducible and_intros
   iterate 2 omega
   refine⟨(x3+nat_lit 1),?_⟩;try dsimp only
   with_reducible and_intros
   omega
   iterate 2
    . obtain⟨q,e⟩:=h9;have e':x8.2=x3:=by omega
      rw [e'] at q |-;rw [(S.LU (n:=a1) (g:=a2) q fC).2]
   . obtain⟨q,e⟩:=h9;have e':x8.2=x3:=by omega
     rw [e'] at q;exact(S.LU (n:=a1) (g:=a2) q fC).1
   simp only [S.ag,S.len];omega
 refine⟨?_,?_,?_⟩;trivial
 . rw [S.LW h4 gY];rfl
 rw [S.LW h4 gY];rfl
def aWh(y1:O)(y2:M (Int×Int×M (B8×U)))(l:M (Int×B8))(hp:S.fV l)(hf:Vg.gq J.am6 (y1,y2,l)):ec (yb (ahP (S.iv y1 y2).2) (7=(S.fE y1 y2 l).2) ([]=(S.fE y1 y2 l).1) (S.fV l) (qJ (Bool.not (S.bw l)) (1=(S.fE y1 y2 l).2) ([]=(S.fE y1 y2 l).1) (S.small l) (∃(x1:Nat),((0:Int)=x1/\(S.iv y1 y2).2=0/\S.ax l=S.ax l/\(S.iv y1 y2).1.1=S.len y1/\(S.iv y1 y2).1.2.1=aQ3 y1/\(S.iv y1 y2).1.2.2=S.cB y1 y2/\[]=S.iL y2 (S.ax l) x1)/\S.gX y2 x1/\S.gv y1 y2/\S.bw l) (∀(x2:Nat),S.gX y2 x2/\S.gv y1 y2/\S.bw l->Fi (decide ((x2:Int)<length y2)) 0 x2 (length y2) ((S.Jc (getD y2 (toNat x2) (0,0,[])).2.2 (S.ax l)/\(0:Int)=0)/\aSO (S.iL y2 (S.ax l) x2) [S.Lm (getD y2 (toNat x2) (0,0,[])).2.2 (S.ax l)]/\HJ x2 (∃(x3:Nat),sB x2 x3 ((0:Int)=0/\S.ax l=S.ax l/\(S.len y1:Int)=S.len y1/\aQ3 y1=aQ3 y1/\S.cB y1 y2=S.cB y1 y2/\S.iL y2 (S.ax l) x2++[S.Lm (getD y2 (toNat x2) (0,0,[])).2.2 (S.ax l)]=S.iL y2 (S.ax l) x3) (S.gX y2 x3/\S.gv y1 y2/\S.bw l) (S.len y2))) (yb (aRZ 0) (0=(S.fE y1 y2 l).2) ([]=(S.fE y1 y2 l).1) (S.qD (S.iL y2 (S.ax l) x2)) ((S.kv (S.len y1) (aQ3 y1) (S.cB y1 y2) (S.iL y2 (S.ax l) x2)).2=(S.fE y1 y2 l).2/\(S.kv (S.len y1) (aQ3 y1) (S.cB y1 y2) (S.iL y2 (S.ax l) x2)).1=(S.fE y1 y2 l).1))))):=by
 refine aE ?_;have JC:Vg.hlen y2:=hf.2.1.1;refine⟨?_,?_,?_⟩;trivial;grind[nt,df,S.al4];intro h2;simp at h2;refine⟨?_,?_,?_⟩;omega;grind[nt,S.abW];intro h4;simp at h4;refine⟨?_,?_,?_⟩;exact hp.1
 . refine⟨(nat_lit 0:Nat),?_⟩;dsimp only;with_reducible and_intros
   iterate 2 omega
   rfl;exact(S.wA h2).2.1;iterate 2 (simp_all[S.wA])
   rfl;exact Nat.zero_le _;grind[S.wA];omega
 intro x5 h6;refine V.dI (λh7=>?_) λh8=>?_
 . with_reducible and_intros
   iterate 2 omega
   exact S.abV h6.2.1 h6.2.2 h7;rfl
   . have:=S.abU y2 (S.ax l) x5;have:=S.Jd h6.2.1;rw [C?];omega
   iterate 2 omega
   refine⟨(x5+nat_lit 1),?_⟩;try dsimp only
   with_reducible and_intros
   omega;iterate 5 rfl
   exact S.Yg h7
   . unfold S.gX;omega
   exact h6.2.1;omega;simp only [S.ag,S.len];omega
 refine⟨?_,?_⟩
 . intro h9;refine⟨?_,?_⟩
   . grind
   grind
 grind[S.abX]
def aWi(root b:B8):aPZ 200 (e6 root) (Eh 20000 b)=S.O7 root b:=by
 refine aE ?_;rfl
def aWj:0<length ([104,97,121]:B8)/\aL5 (0<length ([119,97,105,110,32,104,97,121]:B8)) (ec (aQH (0<length ([104,97,121]:B8)) ([104,97,121]=S.zA/\S.fV S.fy/\(aTy (z7 97 32)/\S.fV S.fy)/\q14 (ake (e6 (z7 97 32))) (false=true) (na aR1/\(0<=aR1/\e6 (z7 97 32)-1<e6 (z7 97 32))/\apn/\(0<=aR1/\e6 (z7 97 32)-1<e6 (z7 97 32))/\apn/\(∀(x1:B8),x1=List.set (z7 97 32) (toNat aR1) (HN (aJm (z7 97 32) aR1+1))->(aTy x1/\S.fV S.fy)/\ec (ir (S.sH azV.1 [0,1]) (azH azV.2 0 (ahP (S.kA (S.mG (Cf 97 32).1 (Cf 97 32).2).1 S.fy x1).2))=true)))))):=by
 refine aE ?_;with_reducible and_intros
 decide;trivial;decide;iterate 3 trivial
 decide;rfl;exact S.al5;grind[S.UZ,S.L3];exact S.al5;grind[S.UZ,S.L3];intro h2;try simp only [df] at h2
 with_reducible and_intros
 omega;grind[S.UZ,S.L3];iterate 6 omega
 intro x3 h4;with_reducible and_intros
 grind[S.UZ,S.ayT];exact S.al5;trivial;exact S.arK (S.ayT h4).2
def aWk(root:B8)(l:M (Int×B8))(b:B8):aL5 (aMc (S.O7 root b)) (qJ (cE (S.O7 root b) (S.ajc l)) True (true=true) (aLm sy (length b)) (aTy ([]++b)/\S.fV l) (S.aAt l/\(length b<1099511627776/\S.fV l)/\aL5 (q14 (S.sH (S.kA root l ([]++b)).1 (S.kA root l b).1) (aMc (decide ((S.kA root l ([]++b)).2=(S.kA root l b).2))) True) (ir (S.sH (S.kA root l ([]++b)).1 (S.kA root l b).1) (cE (decide ((S.kA root l ([]++b)).2=(S.kA root l b).2)) false)=true))):=by
 refine aE ?_;with_reducible and_intros
 trivial;iterate 3 grind
 intro h4;with_reducible and_intros
 iterate 2 (grind[S.aHs])
 grind[S.aFY];exact S.aU0 (S.aFY x!).1;grind[S.aHs];grind[S.aFY];trivial;iterate 2 grind
 simp only [k?,S.sH];simp
end Go
