import Derived.Test.YtimebdkngdbpkaaGreatDoorPartD
set_option linter.unusedVariables false
set_option linter.unusedSimpArgs false
set_option linter.unusedSectionVars false
set_option linter.defProp false
set_option linter.unusedVariables false
namespace Go
open List (length getD take drop replicate)
open Int (toNat)
variable {p:Prop}{α:Type}{b:Bool}
theorem df[Decidable p]:decide p=false↔¬p:=q?
theorem dt[Decidable p]:(decide p=true)=p:=H!
theorem lc{a:α}{l:List α}:(a::l).length=l.length+1:=O?
theorem ln:([]:List α).length=0:=List.length_nil
theorem tn(n:Nat):(n:Int).toNat=n:=X! n
theorem nf:((!b)=false)=(b=true):=Bool.not_eq_false' b
theorem nt:((!b)=true)=(b=false):=M? b
def aIp: [1116352408,1899447441,3049323471,3921009573,961987163,1508970993,2453635748,2870763221,3624381080,310598401,607225278,1426881987,1925078388,2162078206,2614888103,3248222580,3835390401,4022224774,264347078,604807628,770255983,1249150122,1555081692,1996064986,2554220882,2821834349,2952996808,3210313671,3336571891,3584528711,113926993,338241895,666307205,773529912,1294757372,1396182291,1695183700,1986661051,2177026350,2456956037,2730485921,2820302411,3259730800,3345764771,3516065817,3600352804,4094571909,275423344,430227734,506948616,659060556,883997877,958139571,1322822218,1537002063,1747873779,1955562222,2024104815,2227730452,2361852424,2428436474,2756734187,3204031479,3329325298]=S.xU:=by
 rfl
def aIq(x n:Int)(hp:S.eJ n)(hf:Vg.gq J.q1p (x,n)):gR n 32 (Fj (32-n) 32 (iy (x/gE 2 n+iy (x*gE 2 (32-n)))=S.right x n)):=by
 refine aE ?_;have SS:Vg.hint n:=hf.2.1;with_reducible and_intros
 iterate 2 (grind[S.eJ])
 omega;iterate 3 (grind[S.eJ])
 rfl
def aIr(b:B8)(hp:b.length=64)(hf:Vg.gq J.jd b):(∃(x1:Nat),((0:Int)=((4*x1:Nat):Int)/\[]=S.sched b x1)/\S.cc x1 16)/\(∀(x2:Nat),S.cc x2 16->dH (decide (((4*x2:Nat):Int)<64)) (cK 0 ((4*x2:Nat):Int) (cE b)) (qJ (((4*x2:Nat):Int)+1) 0 (cE b) (qJ (((4*x2:Nat):Int)+2) 0 (cE b) (qJ (((4*x2:Nat):Int)+3) 0 (cE b) (length (S.sched b x2)+length (ę b x2)<=35184372088832/\b6 (((4*x2:Nat):Int)+4)/\(∃(x3:Nat),(((4*x2:Nat):Int)+4=((4*x3:Nat):Int)/\S.sched b x2++ę b x2=S.sched b x3)/\Cf x3 16 x2))))) (∃(x4:Nat),((16:Int)=x4/\S.sched b x2=S.sched b x4)/\16<=x4/\x4<=64) (∀(x5:Nat),16<=x5/\x5<=64->fX (decide ((x5:Int)<64)) (b6 (x5-15)) (cK 0 (x5-15) (mK b x5)/\Fy x5<mK b x5/\S.eJ 7/\qJ (x5-15) 0 (mK b x5) (Fy x5<mK b x5/\S.eJ 18/\qJ (x5-15) 0 (mK b x5) (Fy x5<mK b x5/\gR 3 32 (qJ (x5-2) 0 (mK b x5) (Fz x5<mK b x5/\S.eJ 17/\qJ (x5-2) 0 (mK b x5) (Fz x5<mK b x5/\S.eJ 19/\qJ (x5-2) 0 (mK b x5) (Fz x5<mK b x5/\gR 10 32 (qJ (x5-16) 0 (mK b x5) (toNat (x5-16)<mK b x5/\qJ (x5-7) 0 (mK b x5) (toNat (x5-7)<mK b x5/\mK b x5+length (Ě b x5)<=35184372088832/\eO x5 (∃(x6:Nat),z8 x5 x6 (S.sched b x5++Ě b x5=S.sched b x6) (16<=x6/\x6<=64) 64))))))))))) (S.sched b x5=S.sched b 64))):=by
 refine aE ?_;have pT:Vg.hlen b:=hf.1.1;clear hf;refine⟨?_,?_⟩
 . grind[S.db,S.cc,S.ag,lc,ln]
 intro x1 h2;refine V.dI (λh3=>?_) λh4=>?_
 . with_reducible and_intros
   iterate 14 omega
   . simp only [S.db,S.cc,S.ag,lc,ln] at *;omega
   iterate 2 omega
   refine⟨(x1+1),?_⟩;try dsimp only
   with_reducible and_intros
   omega;exact S.agu b x1 w!
   . simp only [S.db,S.cc,S.ag,lc,ln] at *;omega
   simp only [S.db,S.cc,S.ag,lc,ln] at *;omega
 refine⟨?_,?_⟩
 . refine⟨(nat_lit 16:Nat),?_⟩;try dsimp only
   with_reducible and_intros
   omega
   . rw [show x1=16 by(simp only [S.cc] at *;omega)]
   iterate 2 omega
 intro x5 h6;refine⟨?_,?_⟩
 . intro h7;try simp only [dt] at h7
   with_reducible and_intros
   iterate 3 omega
   iterate 2
    . simp only [S.db,S.cc,S.ag,lc,ln] at *;omega
   . simp only [S.eJ];omega
   iterate 3 omega
   iterate 2
    . simp only [S.db,S.cc,S.ag,lc,ln] at *;omega
   . simp only [S.eJ];omega
   iterate 3 omega
   iterate 2
    . simp only [S.db,S.cc,S.ag,lc,ln] at *;omega
   iterate 5 omega
   iterate 2
    . simp only [S.db,S.cc,S.ag,lc,ln] at *;omega
   . simp only [S.eJ];omega
   iterate 3 omega
   iterate 2
    . simp only [S.db,S.cc,S.ag,lc,ln] at *;omega
   . simp only [S.eJ];omega
   iterate 3 omega
   iterate 2
    . simp only [S.db,S.cc,S.ag,lc,ln] at *;omega
   iterate 5 omega
   iterate 2
    . simp only [S.db,S.cc,S.ag,lc,ln] at *;omega
   iterate 3 omega
   iterate 3
    . simp only [S.db,S.cc,S.ag,lc,ln] at *;omega
   iterate 2 omega
   refine⟨(x5+nat_lit 1),?_⟩;try dsimp only
   with_reducible and_intros
   omega;exact S.agv b x5 w!;iterate 2 omega
   simp only [S.db,S.cc,S.ag,lc,ln] at *;omega
 grind
def aIs(l:List Int)(p:B8)(hp:S.NO l p):length p=64/\mv (rj (dj l)) (PG 1 (dj l) 2 3 4 5 6 (cK 0 7 (dj l)/\(∃(x1:Nat),((0:Int)=x1/\fA l=(S.aL (cD p) (cI l) x1).1/\lH l 1=(S.aL (cD p) (cI l) x1).2.1/\lH l 2=(S.aL (cD p) (cI l) x1).2.2.1/\lH l 3=(S.aL (cD p) (cI l) x1).2.2.2.1/\lH l 4=(S.aL (cD p) (cI l) x1).2.2.2.2.1/\lH l 5=(S.aL (cD p) (cI l) x1).2.2.2.2.2.1/\lH l 6=(S.aL (cD p) (cI l) x1).2.2.2.2.2.2.1/\lH l 7=(S.aL (cD p) (cI l) x1).2.2.2.2.2.2.2)/\S.cc x1 64)/\(∀(x2:Nat),S.cc x2 64->eI (decide ((x2:Int)<64)) (S.eJ 6) (S.eJ 11/\S.eJ 25/\cK 0 x2 (dj S.xU)/\toNat x2<length S.xU/\cK 0 x2 (length (cD p))/\toNat x2<length (cD p)/\S.eJ 2/\S.eJ 13/\S.eJ 22/\eO x2 (∃(x3:Nat),((x2:Int)+1=x3/\iy (Ę l p x2+anm (Cg (S.right (S.aL (cD p) (cI l) x2).1 2) (S.right (S.aL (cD p) (cI l) x2).1 13) (S.right (S.aL (cD p) (cI l) x2).1 22)) (S.aL (cD p) (cI l) x2).1 (S.aL (cD p) (cI l) x2).2.1 (S.aL (cD p) (cI l) x2).2.2.1)=(S.aL (cD p) (cI l) x3).1/\(S.aL (cD p) (cI l) x2).1=(S.aL (cD p) (cI l) x3).2.1/\(S.aL (cD p) (cI l) x2).2.1=(S.aL (cD p) (cI l) x3).2.2.1/\(S.aL (cD p) (cI l) x2).2.2.1=(S.aL (cD p) (cI l) x3).2.2.2.1/\iy ((S.aL (cD p) (cI l) x2).2.2.2.1+Ę l p x2)=(S.aL (cD p) (cI l) x3).2.2.2.2.1/\(S.aL (cD p) (cI l) x2).2.2.2.2.1=(S.aL (cD p) (cI l) x3).2.2.2.2.2.1/\(S.aL (cD p) (cI l) x2).2.2.2.2.2.1=(S.aL (cD p) (cI l) x3).2.2.2.2.2.2.1/\(S.aL (cD p) (cI l) x2).2.2.2.2.2.2.1=(S.aL (cD p) (cI l) x3).2.2.2.2.2.2.2)/\Cf x3 64 x2)) (rj (dj l)) (cK 0 1 (dj l)) (PG 2 (dj l) 3 4 5 6 7 ([iy (fA l+(S.aL (cD p) (cI l) x2).1),iy (lH l 1+(S.aL (cD p) (cI l) x2).2.1),iy (lH l 2+(S.aL (cD p) (cI l) x2).2.2.1),iy (lH l 3+(S.aL (cD p) (cI l) x2).2.2.2.1),iy (lH l 4+(S.aL (cD p) (cI l) x2).2.2.2.2.1),iy (lH l 5+(S.aL (cD p) (cI l) x2).2.2.2.2.2.1),iy (lH l 6+(S.aL (cD p) (cI l) x2).2.2.2.2.2.2.1),iy (lH l 7+(S.aL (cD p) (cI l) x2).2.2.2.2.2.2.2)]=S.eV (S.block (cI l) p)))))):=by
 refine aE ?_;obtain⟨qg,TF,hp3⟩:=hp;have Lh:=S.ap5 qg;with_reducible and_intros
 omega;trivial;iterate 16 omega
 . refine⟨(nat_lit 0:Nat),?_⟩;dsimp only;with_reducible and_intros
   omega;iterate 8 rfl
   grind[S.db,S.cc,S.ag]
 intro x1 h2;refine V.dI (λh3=>?_) λh4=>?_
 . with_reducible and_intros
   iterate 3
    . simp only [S.eJ];omega
   omega
   iterate 2
    . rw [<-S.IH];simp only [S.cc] at *;omega
   omega
   iterate 2
    . simp only [S.db,S.cc,S.ag] at *;omega
   iterate 3
    . simp only [S.eJ];omega
   iterate 2 omega
   refine⟨(x1+nat_lit 1),?_⟩;try dsimp only
   with_reducible and_intros
   omega
   . have hk:=S.Bv (S.sched p 64) (S.Ai l) Lh x1;have hx:=S.xor_not (hk (S.aL (S.sched p 64) (S.Ai l) x1).2.2.2.2.1 (by simp [S.eV]));simp only [S.aL,hx,tn];rfl
   iterate 3 rfl
   . have hk:=S.Bv (S.sched p 64) (S.Ai l) Lh x1;have hx:=S.xor_not (hk (S.aL (S.sched p 64) (S.Ai l) x1).2.2.2.2.1 (by simp [S.eV]));simp only [S.aL,hx,tn];rfl
   iterate 3 rfl
   . simp only [S.db,S.cc,S.ag] at *;omega
   simp only [S.db,S.cc,S.ag] at *;omega
 with_reducible and_intros
 iterate 16 omega
 simp [S.cc] at h2;rw [show x1=64 by omega];simp [S.block,S.abg,S.eV,S.Ai,show toNat 0=0 by rfl,show toNat 1=1 by rfl,show toNat 2=2 by rfl,show toNat 3=3 by rfl,show toNat 4=4 by rfl,show toNat 5=5 by rfl,show toNat 6=6 by rfl,show toNat 7=7 by rfl]
def aIt(b:B8)(hp:S.small b):Eh oH (length b)/\rh ([]++b) [128]/\(∃(x1:Nat),[]++b++[128]=S.gh b x1/\S.cG b x1)/\(∀(x2:Nat),S.cG b x2->(0:Int)<=length (S.gh b x2)/\(0:Int)<64/\dH (mZ (length (S.gh b x2)%64) 56) (SP (length (S.gh b x2)) [0]) (∃(x3:Nat),S.gh b x2++[0]=S.gh b x3/\S.cG b x3/\o8 (S.ib (S.len b)) x3 x2) (∃(x4:Nat),((0:Int)=x4/\Cd (Cd (length b)*8)=S.mV b x4/\[]=S.lA b x4)/\S.cc x4 8) (∀(x5:Nat),S.cc x5 8->gl (decide ((x5:Int)<8)) ((0:Int)<256) (Eh [mw (S.mV b x5%256)] (length (S.lA b x5))) ((0:Int)<256/\eO x5 (∃(x6:Nat),((x5:Int)+1=x6/\S.mV b x5/256=S.mV b x6/\[mw (S.mV b x5%256)]++S.lA b x5=S.lA b x6)/\Cf x6 8 x5)) (Px (length (S.gh b x2)+length (S.lA b x5))) (S.gh b x2++S.lA b x5=S.tail b (S.pO b)))):=by
 refine aE ?_;simp [S.small] at hp;with_reducible and_intros
 iterate 2 grind
 . refine⟨0,?_⟩;refine⟨?_,?_⟩
   . exact S.W7 _
   simp only [S.dc,S.cG,S.ib,S.cc,S.ag,S.len,lc,ln,K!] at *;omega
 intro x1 h2;with_reducible and_intros
 iterate 2 omega
 . intro h3;simp at h3;refine⟨?_,?_⟩
   . simp [S.dc,S.cG,S.ib,S.cc,S.ag,S.len,lc,ln,K!] at *;omega
   refine⟨(x1+1),?_⟩;with_reducible and_intros
   grind[S.Kl];grind[S.NR];simp [S.dc,S.cG,S.ib,S.cc,S.ag,S.len,lc,ln,List.length_append] at *;omega
 intro h4;simp at h4;refine⟨?_,?_⟩
 . refine⟨(nat_lit 0:Nat),?_⟩;dsimp only;with_reducible and_intros
   omega;exact S.agw b hp;rfl;simp only [S.dc,S.cG,S.ib,S.cc,S.ag,S.len,lc,ln,K!] at *;omega
 intro x5 h6;refine V.dI (λh7=>?_) λh8=>?_
 . with_reducible and_intros
   omega
   . have hx:x5<=8:=by(simp only [S.cc] at *;omega)
     simp only [S.GY _ _ hx,S.dc,S.cG,lc,ln] at *;have:=S.NQ b.length;omega
   iterate 3 omega
   refine⟨(x5+nat_lit 1),?_⟩;try dsimp only
   with_reducible and_intros
   omega;exact S.Uf b x5;exact S.QO b x5 w!
   . simp only [S.dc,S.cG,S.ib,S.cc,S.ag,S.len,lc,ln,K!] at *;omega
   simp only [S.dc,S.cG,S.ib,S.cc,S.ag,S.len,lc,ln,K!] at *;omega
 refine⟨?_,?_⟩
 . have hx:x5<=8:=by(simp [S.cc] at *;omega)
   simp [S.GY _ _ hx,S.dc,S.cG,lc,ln] at *;have:=S.NQ b.length;omega
 rw [S.RQ h2 h4,show x5=8 by(simp [S.cc] at *;omega),S.Z2];rfl
def aIu(b:B8)(hp:S.small b):S.small b/\(∃(x1:Nat),((0:Int)=((64*x1:Nat):Int)/\[1779033703,3144134277,1013904242,2773480762,1359893119,2600822924,528734635,1541459225]=S.eV (S.proc S.H0 (nN b) x1))/\x1<=S.blocks (nN b))/\(∀(x2:Nat),x2<=S.blocks (nN b)->gl (decide (((64*x2:Nat):Int)<cE (nN b))) (b6 (((64*x2:Nat):Int)+64)) (Cj ((64*x2:Nat):Int) (((64*x2:Nat):Int)+64) (cE (nN b))) (S.NO (pI b x2) (take (toNat (((64*x2:Nat):Int)+64)-toNat ((64*x2:Nat):Int)) (drop (toNat ((64*x2:Nat):Int)) (nN b)))/\b6 (((64*x2:Nat):Int)+64)/\(∃(x3:Nat),(((64*x2:Nat):Int)+64=((64*x3:Nat):Int)/\S.eV (S.block (S.Ai (pI b x2)) (take (toNat (((64*x2:Nat):Int)+64)-toNat ((64*x2:Nat):Int)) (drop (toNat ((64*x2:Nat):Int)) (nN b))))=S.eV (S.proc S.H0 (nN b) x3))/\x3<=S.blocks (nN b)/\o8 (S.blocks (nN b)) x3 x2)) (∃(x4:Nat),((0:Int)=x4/\[]=S.oU (S.aI S.H0 (nN b)) x4)/\S.cc x4 8) (∀(x5:Nat),S.cc x5 8->oI (decide ((x5:Int)<8)) 0 x5 (length (pI b x2)) (toNat x5<length (pI b x2)/\(0:Int)<16777216/\cK 0 x5 (length (pI b x2))/\toNat x5<length (pI b x2)/\(0:Int)<65536/\(0:Int)<256/\cK 0 x5 (length (pI b x2))/\toNat x5<length (pI b x2)/\(0:Int)<256/\(0:Int)<256/\cK 0 x5 (length (pI b x2))/\toNat x5<length (pI b x2)/\(0:Int)<256/\rh (S.oU (S.aI S.H0 (nN b)) x5) (ė b x2 x5)/\eO x5 (∃(x6:Nat),((x5:Int)+1=x6/\S.oU (S.aI S.H0 (nN b)) x5++ė b x2 x5=S.oU (S.aI S.H0 (nN b)) x6)/\Cf x6 8 x5)) (S.oU (S.aI S.H0 (nN b)) x5=S.sum b))):=by
 refine aE ?_;have hsm:=hp;simp [S.small] at hp;have ht:=S.akl b (S.pO b);have ht2:=S.RR b (S.pO b);have ht3:=S.NQ b.length;with_reducible and_intros
 omega
 . refine⟨0,?_⟩;with_reducible and_intros
   omega;rfl;omega
 intro x1 h2;refine V.dI (λh3=>?_) λh4=>?_
 . with_reducible and_intros
   iterate 5 omega
   . exact⟨S.NP _ _ S.Z0 _,rfl,by rw [S.akm,J?,N?];omega⟩
   iterate 2 omega
   refine⟨(x1+1),?_⟩;try dsimp only
   with_reducible and_intros
   omega
   . rw [S.akm];rfl
   omega;simp only [S.cc,S.ag] at *;omega
 refine⟨?_,?_⟩
 . refine⟨(nat_lit 0:Nat),?_⟩;dsimp only;with_reducible and_intros
   omega;rfl;simp only [S.cc,S.ag] at *;omega
 intro x5 h6;refine V.dI (λh7=>?_) λh8=>?_
 . with_reducible and_intros
   omega
   iterate 2
    . simp only [S.eV,lc,ln];omega
   iterate 2 omega
   iterate 2
    . simp only [S.eV,lc,ln];omega
   iterate 3 omega
   iterate 2
    . simp only [S.eV,lc,ln];omega
   iterate 3 omega
   iterate 2
    . simp only [S.eV,lc,ln];omega
   omega
   . rw [S.IJ _ _ (by simp only [S.cc] at *;omega)];simp;omega
   iterate 2 omega
   refine⟨(x5+nat_lit 1),?_⟩;try dsimp only
   with_reducible and_intros
   omega
   . rw [show x1=S.blocks (S.tail b (S.pO b)) by omega];exact S.ap6 _ x5 w!
   . simp only [S.cc,S.ag] at *;omega
   simp only [S.cc,S.ag] at *;omega
 rw [show x5=8 by(simp [S.cc] at *;omega)];rfl
def aIv(x k:Int)(hp:S.tu x k):gR (PK k) 32 (gR (Cd (32-PK k)) 32 (Vg.cy (iy (x*gE 2 (PK k))) (x/gE 2 (Cd (32-PK k)))=S.rotl x k)):=by
 refine aE ?_;grind[S.ap2,S.tu,S.ap1]
def aIw:SO 1779033703 3144134277 (SO 1013904242 2773480762 (SO 1359893119 2600822924 (SO 528734635 1541459225 yv))):=by
 refine aE ?_;omega
def aIx(s1 s2 s3 s4 s5 s6 s7 s8:Int)(s9:B8)(dm:Int):ta (sO dm) (fX (decide (dm<=1099511627776)) (0<=dm) ((0:Int)<64) True)/\wK (sO dm) (decide (dm<=1099511627776)) (decide (cE s9=dm%64))=S.qo s9 dm:=by
 refine aE ?_;grind[S.qo]
def aIy(u1 u2 u3 u4 u5 u6 u7 u8:Int)(p:B8)(hp:S.Ue (u1,u2,u3,u4,u5,u6,u7,u8) p)(hf:Vg.gq J.q5p (u1,u2,u3,u4,u5,u6,u7,u8,p)):(∃(x1:Nat),((0:Int)=x1/\zF 0 (zF 0 (zF 0 (zF 0 (zF 0 (zF 0 (zF 0 (zF 0 (zF 0 (zF 0 (zF 0 (zF 0 (zF 0 (zF 0 (zF 0 (zF 0 [])))))))))))))))=S.aK p x1)/\S.cc x1 16)/\(∀(x2:Nat),S.cc x2 16->dH (decide ((x2:Int)<16)) (b6 (4*x2)) (cK 0 (4*x2) (cE p)/\gR 24 32 (b6 (4*x2)/\qJ (4*x2+1) 0 (cE p) (gR 16 32 (b6 (4*x2)/\qJ (4*x2+2) 0 (cE p) (gR 8 32 (b6 (4*x2)/\qJ (4*x2+3) 0 (cE p) (cK 0 x2 KW/\0+toNat x2*1<length (S.aK p x2)/\eO x2 (∃(x3:Nat),((x2:Int)+1=x3/\List.set (S.aK p x2) (0+toNat x2*1) (Vg.cy (Vg.cy (Vg.cy (iy (fF p (4*x2)*gE 2 24)) (iy (fF p (4*x2+1)*gE 2 16))) (iy (fF p (4*x2+2)*gE 2 8))) (fF p (4*x2+3)))=S.aK p x3)/\Cf x3 16 x2)))))))) (∃(x4:Nat),((16:Int)=x4/\S.aK p x2=S.aK p x4)/\16<=x4/\x4<=64) (∀(x5:Nat),16<=x5/\x5<=64->eI (decide ((x5:Int)<64)) (b6 (x5-15)) (cK 0 (x5-15) KW/\FD x5<length (S.aK p x5)/\qJ (x5-2) 0 KW (FC x5<length (S.aK p x5)/\Ch (cZ (S.aK p x5) (FD x5)) 7/\Ch (cZ (S.aK p x5) (FD x5)) 18/\gR 3 32 (Ch (cZ (S.aK p x5) (FC x5)) 17/\Ch (cZ (S.aK p x5) (FC x5)) 19/\gR 10 32 (qJ (x5-16) 0 KW (0+toNat (x5-16)*1<length (S.aK p x5)/\qJ (x5-7) 0 KW (0+toNat (x5-7)*1<length (S.aK p x5)/\cK 0 x5 KW/\0+toNat x5*1<length (S.aK p x5)/\eO x5 (∃(x6:Nat),z8 x5 x6 (List.set (S.aK p x5) (0+toNat x5*1) (iy (iy (iy (getD (S.aK p x5) (0+toNat (x5-16)*1) 0+Cg (wJ (cZ (S.aK p x5) (FD x5)) 7) (wJ (cZ (S.aK p x5) (FD x5)) 18) (cZ (S.aK p x5) (FD x5)/gE 2 3))+getD (S.aK p x5) (0+toNat (x5-7)*1) 0)+Cg (wJ (cZ (S.aK p x5) (FC x5)) 17) (wJ (cZ (S.aK p x5) (FC x5)) 19) (cZ (S.aK p x5) (FC x5)/gE 2 10)))=S.aK p x6) (16<=x6/\x6<=64) 64))))))) (rj Ck) (cK 0 1 Ck) (PG 2 Ck 3 4 5 6 7 ((∃(x7:Nat),((0:Int)=x7/\u1=(S.aL (bL p) (u1,u2,u3,u4,u5,u6,u7,u8) x7).1/\u2=(S.aL (bL p) (u1,u2,u3,u4,u5,u6,u7,u8) x7).2.1/\u3=(S.aL (bL p) (u1,u2,u3,u4,u5,u6,u7,u8) x7).2.2.1/\u4=(S.aL (bL p) (u1,u2,u3,u4,u5,u6,u7,u8) x7).2.2.2.1/\u5=(S.aL (bL p) (u1,u2,u3,u4,u5,u6,u7,u8) x7).2.2.2.2.1/\u6=(S.aL (bL p) (u1,u2,u3,u4,u5,u6,u7,u8) x7).2.2.2.2.2.1/\u7=(S.aL (bL p) (u1,u2,u3,u4,u5,u6,u7,u8) x7).2.2.2.2.2.2.1/\u8=(S.aL (bL p) (u1,u2,u3,u4,u5,u6,u7,u8) x7).2.2.2.2.2.2.2)/\S.cc x7 64)/\(∀(x8:Nat),S.cc x8 64->eI (decide ((x8:Int)<64)) (Ch (S.aL (bL p) (u1,u2,u3,u4,u5,u6,u7,u8) x8).2.2.2.2.1 6) (Ch (S.aL (bL p) (u1,u2,u3,u4,u5,u6,u7,u8) x8).2.2.2.2.1 11/\Ch (S.aL (bL p) (u1,u2,u3,u4,u5,u6,u7,u8) x8).2.2.2.2.1 25/\64=length S.xU/\cK 0 x8 (dj S.xU)/\cK 0 x8 KW/\0+toNat x8*1<length (S.aK p x5)/\Ch (S.aL (bL p) (u1,u2,u3,u4,u5,u6,u7,u8) x8).1 2/\Ch (S.aL (bL p) (u1,u2,u3,u4,u5,u6,u7,u8) x8).1 13/\Ch (S.aL (bL p) (u1,u2,u3,u4,u5,u6,u7,u8) x8).1 22/\eO x8 (∃(x9:Nat),((x8:Int)+1=x9/\iy (iy (iy (iy (iy ((S.aL (bL p) (u1,u2,u3,u4,u5,u6,u7,u8) x8).2.2.2.2.2.2.2+Cg (wJ (S.aL (bL p) (u1,u2,u3,u4,u5,u6,u7,u8) x8).2.2.2.2.1 6) (wJ (S.aL (bL p) (u1,u2,u3,u4,u5,u6,u7,u8) x8).2.2.2.2.1 11) (wJ (S.aL (bL p) (u1,u2,u3,u4,u5,u6,u7,u8) x8).2.2.2.2.1 25))+Vg.eP (Vg.aM (S.aL (bL p) (u1,u2,u3,u4,u5,u6,u7,u8) x8).2.2.2.2.1 (S.aL (bL p) (u1,u2,u3,u4,u5,u6,u7,u8) x8).2.2.2.2.2.1) (Vg.aM (4294967296-1-(S.aL (bL p) (u1,u2,u3,u4,u5,u6,u7,u8) x8).2.2.2.2.1) (S.aL (bL p) (u1,u2,u3,u4,u5,u6,u7,u8) x8).2.2.2.2.2.2.1))+getD S.xU (toNat x8) 0)+getD (S.aK p x5) (0+toNat x8*1) 0)+anm (Cg (wJ (S.aL (bL p) (u1,u2,u3,u4,u5,u6,u7,u8) x8).1 2) (wJ (S.aL (bL p) (u1,u2,u3,u4,u5,u6,u7,u8) x8).1 13) (wJ (S.aL (bL p) (u1,u2,u3,u4,u5,u6,u7,u8) x8).1 22)) (S.aL (bL p) (u1,u2,u3,u4,u5,u6,u7,u8) x8).1 (S.aL (bL p) (u1,u2,u3,u4,u5,u6,u7,u8) x8).2.1 (S.aL (bL p) (u1,u2,u3,u4,u5,u6,u7,u8) x8).2.2.1)=(S.aL (bL p) (u1,u2,u3,u4,u5,u6,u7,u8) x9).1/\(S.aL (bL p) (u1,u2,u3,u4,u5,u6,u7,u8) x8).1=(S.aL (bL p) (u1,u2,u3,u4,u5,u6,u7,u8) x9).2.1/\(S.aL (bL p) (u1,u2,u3,u4,u5,u6,u7,u8) x8).2.1=(S.aL (bL p) (u1,u2,u3,u4,u5,u6,u7,u8) x9).2.2.1/\(S.aL (bL p) (u1,u2,u3,u4,u5,u6,u7,u8) x8).2.2.1=(S.aL (bL p) (u1,u2,u3,u4,u5,u6,u7,u8) x9).2.2.2.1/\iy ((S.aL (bL p) (u1,u2,u3,u4,u5,u6,u7,u8) x8).2.2.2.1+iy (iy (iy (iy ((S.aL (bL p) (u1,u2,u3,u4,u5,u6,u7,u8) x8).2.2.2.2.2.2.2+Cg (wJ (S.aL (bL p) (u1,u2,u3,u4,u5,u6,u7,u8) x8).2.2.2.2.1 6) (wJ (S.aL (bL p) (u1,u2,u3,u4,u5,u6,u7,u8) x8).2.2.2.2.1 11) (wJ (S.aL (bL p) (u1,u2,u3,u4,u5,u6,u7,u8) x8).2.2.2.2.1 25))+Vg.eP (Vg.aM (S.aL (bL p) (u1,u2,u3,u4,u5,u6,u7,u8) x8).2.2.2.2.1 (S.aL (bL p) (u1,u2,u3,u4,u5,u6,u7,u8) x8).2.2.2.2.2.1) (Vg.aM (4294967296-1-(S.aL (bL p) (u1,u2,u3,u4,u5,u6,u7,u8) x8).2.2.2.2.1) (S.aL (bL p) (u1,u2,u3,u4,u5,u6,u7,u8) x8).2.2.2.2.2.2.1))+getD S.xU (toNat x8) 0)+getD (S.aK p x5) (0+toNat x8*1) 0))=(S.aL (bL p) (u1,u2,u3,u4,u5,u6,u7,u8) x9).2.2.2.2.1/\(S.aL (bL p) (u1,u2,u3,u4,u5,u6,u7,u8) x8).2.2.2.2.1=(S.aL (bL p) (u1,u2,u3,u4,u5,u6,u7,u8) x9).2.2.2.2.2.1/\(S.aL (bL p) (u1,u2,u3,u4,u5,u6,u7,u8) x8).2.2.2.2.2.1=(S.aL (bL p) (u1,u2,u3,u4,u5,u6,u7,u8) x9).2.2.2.2.2.2.1/\(S.aL (bL p) (u1,u2,u3,u4,u5,u6,u7,u8) x8).2.2.2.2.2.2.1=(S.aL (bL p) (u1,u2,u3,u4,u5,u6,u7,u8) x9).2.2.2.2.2.2.2)/\Cf x9 64 x8)) (rj Ck) (cK 0 1 Ck) (PG 2 Ck 3 4 5 6 7 (iy (u1+(S.aL (bL p) (u1,u2,u3,u4,u5,u6,u7,u8) x8).1)=(S.block (u1,u2,u3,u4,u5,u6,u7,u8) p).1/\iy (u2+(S.aL (bL p) (u1,u2,u3,u4,u5,u6,u7,u8) x8).2.1)=(S.block (u1,u2,u3,u4,u5,u6,u7,u8) p).2.1/\iy (u3+(S.aL (bL p) (u1,u2,u3,u4,u5,u6,u7,u8) x8).2.2.1)=(S.block (u1,u2,u3,u4,u5,u6,u7,u8) p).2.2.1/\iy (u4+(S.aL (bL p) (u1,u2,u3,u4,u5,u6,u7,u8) x8).2.2.2.1)=(S.block (u1,u2,u3,u4,u5,u6,u7,u8) p).2.2.2.1/\iy (u5+(S.aL (bL p) (u1,u2,u3,u4,u5,u6,u7,u8) x8).2.2.2.2.1)=(S.block (u1,u2,u3,u4,u5,u6,u7,u8) p).2.2.2.2.1/\iy (u6+(S.aL (bL p) (u1,u2,u3,u4,u5,u6,u7,u8) x8).2.2.2.2.2.1)=(S.block (u1,u2,u3,u4,u5,u6,u7,u8) p).2.2.2.2.2.1/\iy (u7+(S.aL (bL p) (u1,u2,u3,u4,u5,u6,u7,u8) x8).2.2.2.2.2.2.1)=(S.block (u1,u2,u3,u4,u5,u6,u7,u8) p).2.2.2.2.2.2.1/\iy (u8+(S.aL (bL p) (u1,u2,u3,u4,u5,u6,u7,u8) x8).2.2.2.2.2.2.2)=(S.block (u1,u2,u3,u4,u5,u6,u7,u8) p).2.2.2.2.2.2.2))))))):=by
 refine aE ?_;have aKI:0<=u1/\u1<=4294967295:=hf.1;have aKJ:0<=u2/\u2<=4294967295:=hf.2.1;have aKK:0<=u3/\u3<=4294967295:=hf.2.2.1;have aKL:0<=u4/\u4<=4294967295:=hf.2.2.2.1;have aKM:0<=u5/\u5<=4294967295:=hf.2.2.2.2.1;have aKN:0<=u6/\u6<=4294967295:=hf.2.2.2.2.2.1;have aKO:0<=u7/\u7<=4294967295:=hf.2.2.2.2.2.2.1;have aKP:0<=u8/\u8<=4294967295:=hf.2.2.2.2.2.2.2.1;clear hf;obtain⟨qg,TF⟩:=hp;refine⟨?_,?_⟩
 . refine⟨(nat_lit 0:Nat),?_⟩;try dsimp only
   with_reducible and_intros
   omega;rfl;grind[S.cc,S.ag]
 intro x1 h2;refine V.dI (λh3=>?_) λh4=>?_
 . with_reducible and_intros
   iterate 30 omega
   . rw [S.uy _ _ w!];omega
   iterate 2 omega
   refine⟨(x1+nat_lit 1),?_⟩;try dsimp only
   with_reducible and_intros
   omega;exact S.apY _ _ w!
   . simp only [S.cc,S.ag] at *;omega
   simp only [S.cc,S.ag] at *;omega
 refine⟨?_,?_⟩
 . refine⟨(nat_lit 16:Nat),?_⟩;try dsimp only
   with_reducible and_intros
   omega
   . simp only [S.cc] at h2;rw [show x1=16 by omega]
   iterate 2 omega
 intro x5 h6;refine V.dI (λh7=>?_) λh8=>?_
 . with_reducible and_intros
   iterate 4 omega
   . rw [S.uy _ _ w!];omega
   iterate 4 omega
   . rw [S.uy _ _ w!];omega
   iterate 2 (with_reducible exact S.W5 _ _ _ _ w!)
   iterate 2 omega
   iterate 2 (with_reducible exact S.W5 _ _ _ _ w!)
   iterate 6 omega
   . rw [S.uy _ _ w!];omega
   iterate 4 omega
   . rw [S.uy _ _ w!];omega
   iterate 2 omega
   . rw [S.uy _ _ w!];omega
   iterate 2 omega
   refine⟨(x5+nat_lit 1),?_⟩;try dsimp only
   with_reducible and_intros
   omega;exact S.apZ _ _ w! w!;iterate 2 omega
   simp only [S.cc,S.ag] at *;omega
 with_reducible and_intros
 iterate 16 omega
 . refine⟨(nat_lit 0:Nat),?_⟩;try dsimp only
   with_reducible and_intros
   omega;iterate 8 rfl
   simp only [S.cc,S.ag] at *;omega
 intro x9 de;refine⟨?_,?_⟩
 . intro fC;try simp only [dt] at fC
   with_reducible and_intros
   iterate 3 (with_reducible exact S.aAB (S.Bv _ _ qg _) _ w!)
   with_reducible exact S.IH
   omega
   . rw [<-S.IH];simp only [S.cc] at *;omega
   iterate 2 omega
   . rw [S.uy _ _ w!];omega
   iterate 3 (with_reducible exact S.aAA (S.Bv _ _ qg _) _ w!)
   iterate 2 omega
   refine⟨(x9+nat_lit 1),?_⟩;try dsimp only
   with_reducible and_intros
   omega
   . rw [show x5=64 by omega,S.abh];simp only [S.aL,tn,r?,Nat.mul_one];rfl
   iterate 3 rfl
   . rw [show x5=64 by omega,S.abh];simp only [S.aL,tn,r?,Nat.mul_one];rfl
   iterate 3 rfl
   . simp only [S.cc,S.ag] at *;omega
   simp only [S.cc,S.ag] at *;omega
 grind[df,S.cc,S.block,S.abg]
def aCs(u1 u2 u3 u4 u5 u6 u7 u8:Int)(b:B8)(hp:S.xa (u1,u2,u3,u4,u5,u6,u7,u8)):(∃(x1:Nat),(b=S.fx b x1/\u1=(S.proc (u1,u2,u3,u4,u5,u6,u7,u8) b x1).1/\u2=(S.proc (u1,u2,u3,u4,u5,u6,u7,u8) b x1).2.1/\u3=(S.proc (u1,u2,u3,u4,u5,u6,u7,u8) b x1).2.2.1/\u4=(S.proc (u1,u2,u3,u4,u5,u6,u7,u8) b x1).2.2.2.1/\u5=(S.proc (u1,u2,u3,u4,u5,u6,u7,u8) b x1).2.2.2.2.1/\u6=(S.proc (u1,u2,u3,u4,u5,u6,u7,u8) b x1).2.2.2.2.2.1/\u7=(S.proc (u1,u2,u3,u4,u5,u6,u7,u8) b x1).2.2.2.2.2.2.1/\u8=(S.proc (u1,u2,u3,u4,u5,u6,u7,u8) b x1).2.2.2.2.2.2.2)/\64*x1<=length b)/\(∀(x2:Nat),64*x2<=length b->gl (decide (64<=cE (S.fx b x2))) (qM 64 (cE (S.fx b x2))) (S.Ue ((S.proc (u1,u2,u3,u4,u5,u6,u7,u8) b x2).1,(S.proc (u1,u2,u3,u4,u5,u6,u7,u8) b x2).2.1,(S.proc (u1,u2,u3,u4,u5,u6,u7,u8) b x2).2.2.1,(S.proc (u1,u2,u3,u4,u5,u6,u7,u8) b x2).2.2.2.1,(S.proc (u1,u2,u3,u4,u5,u6,u7,u8) b x2).2.2.2.2.1,(S.proc (u1,u2,u3,u4,u5,u6,u7,u8) b x2).2.2.2.2.2.1,(S.proc (u1,u2,u3,u4,u5,u6,u7,u8) b x2).2.2.2.2.2.2.1,(S.proc (u1,u2,u3,u4,u5,u6,u7,u8) b x2).2.2.2.2.2.2.2) (wI 64 (S.fx b x2))) (gR 64 (cE (S.fx b x2)) (∃(x3:Nat),(mY 64 (S.fx b x2)=S.fx b x3/\(S.block ((S.proc (u1,u2,u3,u4,u5,u6,u7,u8) b x2).1,(S.proc (u1,u2,u3,u4,u5,u6,u7,u8) b x2).2.1,(S.proc (u1,u2,u3,u4,u5,u6,u7,u8) b x2).2.2.1,(S.proc (u1,u2,u3,u4,u5,u6,u7,u8) b x2).2.2.2.1,(S.proc (u1,u2,u3,u4,u5,u6,u7,u8) b x2).2.2.2.2.1,(S.proc (u1,u2,u3,u4,u5,u6,u7,u8) b x2).2.2.2.2.2.1,(S.proc (u1,u2,u3,u4,u5,u6,u7,u8) b x2).2.2.2.2.2.2.1,(S.proc (u1,u2,u3,u4,u5,u6,u7,u8) b x2).2.2.2.2.2.2.2) (wI 64 (S.fx b x2))).1=(S.proc (u1,u2,u3,u4,u5,u6,u7,u8) b x3).1/\(S.block ((S.proc (u1,u2,u3,u4,u5,u6,u7,u8) b x2).1,(S.proc (u1,u2,u3,u4,u5,u6,u7,u8) b x2).2.1,(S.proc (u1,u2,u3,u4,u5,u6,u7,u8) b x2).2.2.1,(S.proc (u1,u2,u3,u4,u5,u6,u7,u8) b x2).2.2.2.1,(S.proc (u1,u2,u3,u4,u5,u6,u7,u8) b x2).2.2.2.2.1,(S.proc (u1,u2,u3,u4,u5,u6,u7,u8) b x2).2.2.2.2.2.1,(S.proc (u1,u2,u3,u4,u5,u6,u7,u8) b x2).2.2.2.2.2.2.1,(S.proc (u1,u2,u3,u4,u5,u6,u7,u8) b x2).2.2.2.2.2.2.2) (wI 64 (S.fx b x2))).2.1=(S.proc (u1,u2,u3,u4,u5,u6,u7,u8) b x3).2.1/\(S.block ((S.proc (u1,u2,u3,u4,u5,u6,u7,u8) b x2).1,(S.proc (u1,u2,u3,u4,u5,u6,u7,u8) b x2).2.1,(S.proc (u1,u2,u3,u4,u5,u6,u7,u8) b x2).2.2.1,(S.proc (u1,u2,u3,u4,u5,u6,u7,u8) b x2).2.2.2.1,(S.proc (u1,u2,u3,u4,u5,u6,u7,u8) b x2).2.2.2.2.1,(S.proc (u1,u2,u3,u4,u5,u6,u7,u8) b x2).2.2.2.2.2.1,(S.proc (u1,u2,u3,u4,u5,u6,u7,u8) b x2).2.2.2.2.2.2.1,(S.proc (u1,u2,u3,u4,u5,u6,u7,u8) b x2).2.2.2.2.2.2.2) (wI 64 (S.fx b x2))).2.2.1=(S.proc (u1,u2,u3,u4,u5,u6,u7,u8) b x3).2.2.1/\(S.block ((S.proc (u1,u2,u3,u4,u5,u6,u7,u8) b x2).1,(S.proc (u1,u2,u3,u4,u5,u6,u7,u8) b x2).2.1,(S.proc (u1,u2,u3,u4,u5,u6,u7,u8) b x2).2.2.1,(S.proc (u1,u2,u3,u4,u5,u6,u7,u8) b x2).2.2.2.1,(S.proc (u1,u2,u3,u4,u5,u6,u7,u8) b x2).2.2.2.2.1,(S.proc (u1,u2,u3,u4,u5,u6,u7,u8) b x2).2.2.2.2.2.1,(S.proc (u1,u2,u3,u4,u5,u6,u7,u8) b x2).2.2.2.2.2.2.1,(S.proc (u1,u2,u3,u4,u5,u6,u7,u8) b x2).2.2.2.2.2.2.2) (wI 64 (S.fx b x2))).2.2.2.1=(S.proc (u1,u2,u3,u4,u5,u6,u7,u8) b x3).2.2.2.1/\(S.block ((S.proc (u1,u2,u3,u4,u5,u6,u7,u8) b x2).1,(S.proc (u1,u2,u3,u4,u5,u6,u7,u8) b x2).2.1,(S.proc (u1,u2,u3,u4,u5,u6,u7,u8) b x2).2.2.1,(S.proc (u1,u2,u3,u4,u5,u6,u7,u8) b x2).2.2.2.1,(S.proc (u1,u2,u3,u4,u5,u6,u7,u8) b x2).2.2.2.2.1,(S.proc (u1,u2,u3,u4,u5,u6,u7,u8) b x2).2.2.2.2.2.1,(S.proc (u1,u2,u3,u4,u5,u6,u7,u8) b x2).2.2.2.2.2.2.1,(S.proc (u1,u2,u3,u4,u5,u6,u7,u8) b x2).2.2.2.2.2.2.2) (wI 64 (S.fx b x2))).2.2.2.2.1=(S.proc (u1,u2,u3,u4,u5,u6,u7,u8) b x3).2.2.2.2.1/\(S.block ((S.proc (u1,u2,u3,u4,u5,u6,u7,u8) b x2).1,(S.proc (u1,u2,u3,u4,u5,u6,u7,u8) b x2).2.1,(S.proc (u1,u2,u3,u4,u5,u6,u7,u8) b x2).2.2.1,(S.proc (u1,u2,u3,u4,u5,u6,u7,u8) b x2).2.2.2.1,(S.proc (u1,u2,u3,u4,u5,u6,u7,u8) b x2).2.2.2.2.1,(S.proc (u1,u2,u3,u4,u5,u6,u7,u8) b x2).2.2.2.2.2.1,(S.proc (u1,u2,u3,u4,u5,u6,u7,u8) b x2).2.2.2.2.2.2.1,(S.proc (u1,u2,u3,u4,u5,u6,u7,u8) b x2).2.2.2.2.2.2.2) (wI 64 (S.fx b x2))).2.2.2.2.2.1=(S.proc (u1,u2,u3,u4,u5,u6,u7,u8) b x3).2.2.2.2.2.1/\(S.block ((S.proc (u1,u2,u3,u4,u5,u6,u7,u8) b x2).1,(S.proc (u1,u2,u3,u4,u5,u6,u7,u8) b x2).2.1,(S.proc (u1,u2,u3,u4,u5,u6,u7,u8) b x2).2.2.1,(S.proc (u1,u2,u3,u4,u5,u6,u7,u8) b x2).2.2.2.1,(S.proc (u1,u2,u3,u4,u5,u6,u7,u8) b x2).2.2.2.2.1,(S.proc (u1,u2,u3,u4,u5,u6,u7,u8) b x2).2.2.2.2.2.1,(S.proc (u1,u2,u3,u4,u5,u6,u7,u8) b x2).2.2.2.2.2.2.1,(S.proc (u1,u2,u3,u4,u5,u6,u7,u8) b x2).2.2.2.2.2.2.2) (wI 64 (S.fx b x2))).2.2.2.2.2.2.1=(S.proc (u1,u2,u3,u4,u5,u6,u7,u8) b x3).2.2.2.2.2.2.1/\(S.block ((S.proc (u1,u2,u3,u4,u5,u6,u7,u8) b x2).1,(S.proc (u1,u2,u3,u4,u5,u6,u7,u8) b x2).2.1,(S.proc (u1,u2,u3,u4,u5,u6,u7,u8) b x2).2.2.1,(S.proc (u1,u2,u3,u4,u5,u6,u7,u8) b x2).2.2.2.1,(S.proc (u1,u2,u3,u4,u5,u6,u7,u8) b x2).2.2.2.2.1,(S.proc (u1,u2,u3,u4,u5,u6,u7,u8) b x2).2.2.2.2.2.1,(S.proc (u1,u2,u3,u4,u5,u6,u7,u8) b x2).2.2.2.2.2.2.1,(S.proc (u1,u2,u3,u4,u5,u6,u7,u8) b x2).2.2.2.2.2.2.2) (wI 64 (S.fx b x2))).2.2.2.2.2.2.2=(S.proc (u1,u2,u3,u4,u5,u6,u7,u8) b x3).2.2.2.2.2.2.2)/\64*x3<=length b/\o8 (S.blocks b) x3 x2)) ((S.proc (u1,u2,u3,u4,u5,u6,u7,u8) b x2).1=(S.aI (u1,u2,u3,u4,u5,u6,u7,u8) b).1) ((S.proc (u1,u2,u3,u4,u5,u6,u7,u8) b x2).2.1=(S.aI (u1,u2,u3,u4,u5,u6,u7,u8) b).2.1/\(S.proc (u1,u2,u3,u4,u5,u6,u7,u8) b x2).2.2.1=(S.aI (u1,u2,u3,u4,u5,u6,u7,u8) b).2.2.1/\(S.proc (u1,u2,u3,u4,u5,u6,u7,u8) b x2).2.2.2.1=(S.aI (u1,u2,u3,u4,u5,u6,u7,u8) b).2.2.2.1/\(S.proc (u1,u2,u3,u4,u5,u6,u7,u8) b x2).2.2.2.2.1=(S.aI (u1,u2,u3,u4,u5,u6,u7,u8) b).2.2.2.2.1/\(S.proc (u1,u2,u3,u4,u5,u6,u7,u8) b x2).2.2.2.2.2.1=(S.aI (u1,u2,u3,u4,u5,u6,u7,u8) b).2.2.2.2.2.1/\(S.proc (u1,u2,u3,u4,u5,u6,u7,u8) b x2).2.2.2.2.2.2.1=(S.aI (u1,u2,u3,u4,u5,u6,u7,u8) b).2.2.2.2.2.2.1/\(S.proc (u1,u2,u3,u4,u5,u6,u7,u8) b x2).2.2.2.2.2.2.2=(S.aI (u1,u2,u3,u4,u5,u6,u7,u8) b).2.2.2.2.2.2.2/\S.fx b x2=S.kn b)):=by
 refine aE ?_;refine⟨?_,?_⟩
 . refine⟨0,?_⟩;try dsimp only
   with_reducible and_intros
   iterate 9 rfl
   omega
 intro x1 h2;refine V.dI (λh3=>?_) λh4=>?_
 . with_reducible and_intros
   iterate 2 omega
   exact⟨S.NP _ _ hp _,x!⟩;iterate 2 omega
   refine⟨(x1+1),?_⟩;grind[S.fx,List.drop_drop,S.ap4,List.length_drop,S.ag,S.blocks]
 with_reducible and_intros
 iterate 8
  . rw [show x1=S.blocks b by grind[S.fx,List.length_drop,S.blocks]];rfl
 rw [show x1=S.blocks b by grind[S.fx,List.length_drop,S.blocks]];rfl
def aCt(s1 s2 s3 s4 s5 s6 s7 s8:Int)(s9:B8)(dm:Int)(b:B8)(hp:S.Ud (s1,s2,s3,s4,s5,s6,s7,s8) s9 dm b):mv (sy (Bool.not (S.qo s9 dm)) (b6 (1099511627776-dm))) (oz (qS b dm s9)/\b6 (length (pJ b dm s9)+length b)/\((0:Int)<=0/\qM (length (pJ b dm s9)+length b) (PB Jr))/\Eh (wM 0 0) (length (pJ b dm s9))/\Eh (wM 0 0++pJ b dm s9) (length b)/\S.xa (qN (qS b dm s9) s1 s2 s3 s4 s5 s6 s7 s8)/\ir (S.kn (wM 0 0++pJ b dm s9++b))/\b6 ((bif qS b dm s9 then 0 else dm)+length b)/\(S.aI (qN (qS b dm s9) s1 s2 s3 s4 s5 s6 s7 s8) (wM 0 0++pJ b dm s9++b)).1=(S.aI (s1,s2,s3,s4,s5,s6,s7,s8) b).1/\(S.aI (qN (qS b dm s9) s1 s2 s3 s4 s5 s6 s7 s8) (wM 0 0++pJ b dm s9++b)).2.1=(S.aI (s1,s2,s3,s4,s5,s6,s7,s8) b).2.1/\(S.aI (qN (qS b dm s9) s1 s2 s3 s4 s5 s6 s7 s8) (wM 0 0++pJ b dm s9++b)).2.2.1=(S.aI (s1,s2,s3,s4,s5,s6,s7,s8) b).2.2.1/\(S.aI (qN (qS b dm s9) s1 s2 s3 s4 s5 s6 s7 s8) (wM 0 0++pJ b dm s9++b)).2.2.2.1=(S.aI (s1,s2,s3,s4,s5,s6,s7,s8) b).2.2.2.1/\(S.aI (qN (qS b dm s9) s1 s2 s3 s4 s5 s6 s7 s8) (wM 0 0++pJ b dm s9++b)).2.2.2.2.1=(S.aI (s1,s2,s3,s4,s5,s6,s7,s8) b).2.2.2.2.1/\(S.aI (qN (qS b dm s9) s1 s2 s3 s4 s5 s6 s7 s8) (wM 0 0++pJ b dm s9++b)).2.2.2.2.2.1=(S.aI (s1,s2,s3,s4,s5,s6,s7,s8) b).2.2.2.2.2.1/\(S.aI (qN (qS b dm s9) s1 s2 s3 s4 s5 s6 s7 s8) (wM 0 0++pJ b dm s9++b)).2.2.2.2.2.2.1=(S.aI (s1,s2,s3,s4,s5,s6,s7,s8) b).2.2.2.2.2.2.1/\(S.aI (qN (qS b dm s9) s1 s2 s3 s4 s5 s6 s7 s8) (wM 0 0++pJ b dm s9++b)).2.2.2.2.2.2.2=(S.aI (s1,s2,s3,s4,s5,s6,s7,s8) b).2.2.2.2.2.2.2/\S.kn (wM 0 0++pJ b dm s9++b)=S.kn b/\(bif qS b dm s9 then(0:Int) else dm)+length b=S.pO b):=by
 refine aE ?_;obtain⟨Lh,rfl,rfl,hs⟩:=hp;simp [S.small] at hs;have hv:S.qo [] 0=true:=by decide
 have hd:decide ((1099511627776:Int)-0<(b.length:Int))=false:=by grind
 simp only [hv,hd,Bool.not_true,O!,L!,ln,Int.toNat_zero];with_reducible and_intros
 trivial;grind;omega;iterate 2 grind
 iterate 5 omega
 iterate 2 grind
 omega
 . simp [List.replicate_zero,k?,H?,S.vY,S.pO,ln,K!] at *;omega
 iterate 2 omega
 iterate 9 rfl
 simp only [List.replicate_zero,k?,H?,S.vY,S.pO,ln,K!] at *;omega
def aCu(s1 s2 s3 s4 s5 s6 s7 s8:Int)(s9:B8)(dm:Int)(hp:S.LJ (s1,s2,s3,s4,s5,s6,s7,s8) s9 dm):mv (oz (oJ dm s9)) (Px (length (bif oJ dm s9 then [] else s9))/\SP (length (bif oJ dm s9 then [] else s9)) [128]/\(∃(x1:Nat),(bif oJ dm s9 then([]:B8) else s9)++[128]=S.gh s9 x1/\S.cG s9 x1)/\(∀(x2:Nat),S.cG s9 x2->(0:Int)<=length (S.gh s9 x2)/\(0:Int)<64/\dH (mZ (length (S.gh s9 x2)%64) 56) (SP (length (S.gh s9 x2)) [0]) (∃(x3:Nat),S.gh s9 x2++[0]=S.gh s9 x3/\S.cG s9 x3/\o8 (S.ib (S.len s9)) x3 x2) (∃(x4:Nat),((0:Int)=x4/\S.gh s9 x2=S.jX s9 dm x4)/\S.cc x4 8) (∀(x5:Nat),S.cc x5 8->eI (decide ((x5:Int)<8)) (b6 (8*x5)) (Fj (56-8*x5) 64 (rh (S.jX s9 dm x5) [mw (Cd (Cd (bif oJ dm s9 then 0 else dm)*8)/gE 2 (56-8*x5))]/\eO x5 (∃(x6:Nat),((x5:Int)+1=x6/\S.jX s9 dm x5++[mw (Cd (Cd (bif oJ dm s9 then 0 else dm)*8)/gE 2 (56-8*x5))]=S.jX s9 dm x6)/\Cf x6 8 x5))) (S.xa (qN (oJ dm s9) s1 s2 s3 s4 s5 s6 s7 s8)) ((0:Int)<=0/\qM 32 (PB Jr)) ((∃(x7:Nat),((0:Int)=x7/\wM 0 0=S.oU (S.aI (s1,s2,s3,s4,s5,s6,s7,s8) (S.tail s9 dm)) x7)/\S.cc x7 8)/\(∀(x8:Nat),S.cc x8 8->oI (decide ((x8:Int)<8)) 0 x8 Ck (gR 24 32 (gR 16 32 (gR 8 32 (rh (S.oU (S.aI (s1,s2,s3,s4,s5,s6,s7,s8) (S.tail s9 dm)) x8) [mw (zN dm s1 s2 s3 s4 s5 s6 s7 s8 s9 x5 x8/gE 2 24),mw (zN dm s1 s2 s3 s4 s5 s6 s7 s8 s9 x5 x8/gE 2 16),mw (zN dm s1 s2 s3 s4 s5 s6 s7 s8 s9 x5 x8/gE 2 8),mw (zN dm s1 s2 s3 s4 s5 s6 s7 s8 s9 x5 x8)]/\eO x8 (∃(x9:Nat),((x8:Int)+1=x9/\S.oU (S.aI (s1,s2,s3,s4,s5,s6,s7,s8) (S.tail s9 dm)) x8++[mw (zN dm s1 s2 s3 s4 s5 s6 s7 s8 s9 x5 x8/gE 2 24),mw (zN dm s1 s2 s3 s4 s5 s6 s7 s8 s9 x5 x8/gE 2 16),mw (zN dm s1 s2 s3 s4 s5 s6 s7 s8 s9 x5 x8/gE 2 8),mw (zN dm s1 s2 s3 s4 s5 s6 s7 s8 s9 x5 x8)]=S.oU (S.aI (s1,s2,s3,s4,s5,s6,s7,s8) (S.tail s9 dm)) x9)/\Cf x9 8 x8))))) (S.oU (S.aI (s1,s2,s3,s4,s5,s6,s7,s8) (S.tail s9 dm)) x8=S.dig (S.aI (s1,s2,s3,s4,s5,s6,s7,s8) (S.tail s9 dm)))))))):=by
 refine aE ?_;have hv:=S.ags hp;obtain⟨Lh,h01,h02,h03⟩:=hp;simp only [hv,Bool.not_true,O!];with_reducible and_intros
 trivial;iterate 2 grind
 omega;grind
 . refine⟨0,?_⟩;refine⟨?_,?_⟩
   . exact S.W7 _
   simp only [S.dc,S.jD,S.cG,S.ib,S.cc,S.ag,S.len,lc,ln] at *;omega
 intro x3 h4;with_reducible and_intros
 iterate 2 omega
 . intro h5;try simp at h5
   refine⟨?_,?_⟩
   . simp [S.dc,S.jD,S.cG,S.ib,S.cc,S.ag,S.len,lc,ln] at *;omega
   refine⟨(x3+1),?_⟩;with_reducible and_intros
   grind[S.Kl];grind[S.NR];simp only [S.dc,S.jD,S.cG,S.ib,S.cc,S.ag,S.len,lc,ln] at *;omega
 intro h6;refine⟨?_,?_⟩
 . refine⟨(nat_lit 0:Nat),?_⟩;try dsimp only
   with_reducible and_intros
   omega;grind[S.akj,S.RQ];simp only [S.dc,S.jD,S.cG,S.ib,S.cc,S.ag,S.len,lc,ln] at *;omega
 intro x7 h8;refine V.dI (λh9=>?_) λde=>?_
 . with_reducible and_intros
   iterate 6 omega
   . simp only [S.dc,S.jD,S.cG,S.ib,S.cc,S.ag,S.len,lc,ln] at *;omega
   iterate 2 omega
   refine⟨(x7+nat_lit 1),?_⟩;try dsimp only
   with_reducible and_intros
   omega;exact S.W8 s9 dm x7 h01 h02 w!
   . simp only [S.dc,S.jD,S.cG,S.ib,S.cc,S.ag,S.len,lc,ln] at *;omega
   simp only [S.dc,S.jD,S.cG,S.ib,S.cc,S.ag,S.len,lc,ln] at *;omega
 with_reducible and_intros
 iterate 4 omega
 . refine⟨(nat_lit 0:Nat),?_⟩;try dsimp only
   with_reducible and_intros
   omega;rfl;simp only [S.dc,S.jD,S.cG,S.ib,S.cc,S.ag,S.len,lc,ln] at *;omega
 intro x11 gY;refine V.dI (λjM=>?_) λjZ=>?_
 . with_reducible and_intros
   iterate 8 omega
   . rw [S.IJ _ _ (by simp only [S.cc] at *;omega)];simp;omega
   iterate 2 omega
   refine⟨(x11+nat_lit 1),?_⟩;try dsimp only
   with_reducible and_intros
   omega
   . rw [show x7=8 by(simp only [S.cc] at *;omega)];exact S.ap3 _ x11 w!
   . simp only [S.dc,S.jD,S.cG,S.ib,S.cc,S.ag,S.len,lc,ln] at *;omega
   simp only [S.dc,S.jD,S.cG,S.ib,S.cc,S.ag,S.len,lc,ln] at *;omega
 rw [show x11=8 by(simp only [S.cc] at *;omega)];rfl
def aCv(b:B8)(hp:S.small b):mv (S.Ud xt oH 0 b) (S.LJ (ě b) (S.kn b) (S.pO b)/\S.dig (S.aI (ě b) (S.tail (S.kn b) (S.pO b)))=S.sum b):=by
 refine aE ?_;with_reducible and_intros
 trivial;exact⟨S.Z0,rfl,rfl,hp⟩
 . simp [S.small] at hp;exact⟨S.NP _ _ S.Z0 _,by grind[S.pO],by grind[S.pO],by grind[S.vY,S.pO]⟩
 exact congrArg S.dig (S.Z1 b _)
def aCw(m:Nat)(v:Int)(hm:v.toNat<m+1)(hp:0<=v)(hf:Vg.gq J.Pj v):kB (decide (v<128)) ([mw v]=S.num v) (0<=v/\(0:Int)<128/\b6 (v%128+128)/\0<=v/\(0:Int)<128/\(Ds (v/128) m/\0<=v/128)/\rh [mw (v%128+128)] (S.num (v/128))/\[mw (v%128+128)]++S.num (v/128)=S.num v):=by
 refine aE ?_;have aIz:Vg.hint v:=hf.1;refine⟨?_,?_⟩
 . grind[S.G1]
 grind[df,S.cX,S.abi,List.singleton_append]
def aCx(b:B8)(hf:Vg.gq J.jd b):(∃(x1:Nat),(0:Int)=x1/\S.lZ b x1)/\(∀(x2:Nat),S.lZ b x2->ta (decide (x2<cE b)) (fX (decide ((x2:Int)<9)) ((0:Int)<=x2) (x2<cE b) True)/\fX (wK (decide (x2<cE b)) (decide ((x2:Int)<9)) (decide (128<=fF b x2))) (qK x2) (∃(x3:Nat),ri x2 x3 (S.lZ b x3) 9) (fX (decide ((x2:Int)=9)) (0=(S.first b).1) (0=(S.first b).2.1/\2=(S.first b).2.2) (dH (decide (x2=cE b)) (0=(S.first b).1) (0=(S.first b).2.1/\4=(S.first b).2.2) (∃(x4:Int),(x2=x4/\0=S.dL b (S.lead b) x4)/\S.xW b (S.lead b) x4) (∀(x5:Int),S.xW b (S.lead b) x5->dH (sO x5) (b6 (S.dL b (S.lead b) x5*128)) (cK 0 x5 (cE b)/\0<=fF b x5/\(0:Int)<128/\b6 (S.dL b (S.lead b) x5*128+fF b x5%128)/\b6 (x5-1)/\(∃(x6:Int),(x5-1=x6/\S.dL b (S.lead b) x5*128+fF b x5%128=S.dL b (S.lead b) x6)/\S.xW b (S.lead b) x6/\KT (x6+1) (x5+1))) (sy (decide (4611686018427387904<S.dL b (S.lead b) x5)) (0<=S.dL b (S.lead b) x5/\eO x2 (qM (x2+1) (cE b)))) (dH (wH (decide (4611686018427387904<S.dL b (S.lead b) x5)) (decide (S.num (S.dL b (S.lead b) x5)=wI (x2+1) b))) (0=(S.first b).1) (0=(S.first b).2.1/\2=(S.first b).2.2) (qK x2) (S.dL b (S.lead b) x5=(S.first b).1/\x2+1=(S.first b).2.1/\0=(S.first b).2.2)))))):=by
 refine aE ?_;clear hf;refine⟨?_,?_⟩
 . refine⟨(nat_lit 0:Nat),?_⟩;try dsimp only
   refine⟨?_,?_⟩
   . omega
   grind [S.NW,S.pP,S.iD,S.Bw,S.su,S.gm,S.nA,S.ja,S.kK,S.ic,S.DY,S.jE,S.ag]
 intro x1 h2;with_reducible and_intros
 iterate 2 grind
 . intro h7;try simp at h7
   with_reducible and_intros
   iterate 2 omega
   refine⟨(x1+nat_lit 1),?_⟩;try dsimp only
   with_reducible and_intros
   omega;iterate 2 (grind [S.NW,S.pP,S.iD,S.Bw,S.su,S.gm,S.nA,S.ja,S.kK,S.ic,S.DY,S.jE,S.ag])
 intro h8;try simp only [V.ze,df,tn] at h8
 refine V.dI (λh9=>?_) λde=>?_
 . with_reducible and_intros
   iterate 3 (grind [S.NW,S.pP,S.iD,S.Bw,S.su,S.gm,S.nA,S.ja,S.kK,S.ic,S.DY,S.jE,S.ag])
 refine V.dI (λfC=>?_) λgY=>?_
 . with_reducible and_intros
   iterate 3 (grind [S.NW,S.pP,S.iD,S.Bw,S.su,S.gm,S.nA,S.ja,S.kK,S.ic,S.DY,S.jE,S.ag])
 refine⟨?_,?_⟩
 . refine⟨((↑x1:Int)),?_⟩;try dsimp only
   with_reducible and_intros
   with_reducible rfl
   . have:=S.iD h2;obtain rfl:=S.gm h2 w! w!;grind [S.ja,S.DY,S.ag]
   have:=S.iD h2;obtain rfl:=S.gm h2 w! w!;grind [S.ja,S.DY,S.ag]
 intro JB jZ;refine V.dI (λCq=>?_) λzP=>?_
 . with_reducible and_intros
   iterate 2
    . have:=S.iD h2;obtain rfl:=S.gm h2 w! w!;have:=S.jE jZ;have:=S.ic b (S.lead b) JB w! w! w!;omega
   omega;grind [S.NW,S.pP,S.iD,S.Bw,S.su,S.gm,S.nA,S.ja,S.kK,S.ic,S.DY,S.jE,S.ag];iterate 2 omega
   iterate 2
    . have:=S.iD h2;obtain rfl:=S.gm h2 w! w!;have:=S.jE jZ;have:=S.ic b (S.lead b) JB w! w! w!;omega
   omega;grind [S.NW,S.pP,S.iD,S.Bw,S.su,S.gm,S.nA,S.ja,S.kK,S.ic,S.DY,S.jE,S.ag];refine⟨(JB-(1:Int)),?_⟩;try dsimp only
   with_reducible and_intros
   with_reducible rfl
   grind [S.NW,S.pP,S.iD,S.Bw,S.su,S.gm,S.nA,S.ja,S.kK,S.ic,S.DY,S.jE,S.ag]
   . have:=S.iD h2;obtain rfl:=S.gm h2 w! w!;have:=S.jE jZ;have:=S.ic b (S.lead b) JB w! w! w!;exact S.DY h2 w! w! w! w!
   omega
 with_reducible and_intros
 . intro HV;trivial
 . intro QW;with_reducible and_intros
   . have:=S.iD h2;have:=S.jE jZ;have:=S.ic b (S.lead b) JB w! w! w!;omega
   omega
   . have:=S.iD h2;omega
   omega;have:=S.iD h2;omega
 . intro h19;with_reducible and_intros
   iterate 2
    . have:=S.iD h2;obtain rfl:=S.gm h2 w! w!;have:=S.jE jZ;obtain rfl :JB= -1:=by omega
      have hf:=S.nA (b:=b) w! w!;rw [hf];rw [if_pos x!]
   have:=S.iD h2;obtain rfl:=S.gm h2 w! w!;have:=S.jE jZ;obtain rfl :JB= -1:=by omega
   have hf:=S.nA (b:=b) w! w!;rw [hf];rw [if_pos x!]
 intro h20;with_reducible and_intros
 omega
 . have:=S.iD h2;omega
 iterate 2
  . have:=S.iD h2;obtain rfl:=S.gm h2 w! w!;have:=S.jE jZ;obtain rfl :JB= -1:=by omega
    have hf:=S.nA (b:=b) w! w!;rw [hf];rw [if_neg x!]
 have:=S.iD h2;obtain rfl:=S.gm h2 w! w!;have:=S.jE jZ;grind[S.nA]
def aCz(b:B8)(cd:Int)(hf:Vg.gq J.ć (b,cd)):gk (fX (cx (S.first b).2.2) ([]=(S.aq b cd).1) (0=(S.aq b cd).2.1/\(S.first b).2.2=(S.aq b cd).2.2) (Fi (decide (cd<(S.first b).1)) ([]=(S.aq b cd).1) (0=(S.aq b cd).2.1/\2=(S.aq b cd).2.2) (b6 (cE b-(S.first b).2.1)) (decide (cE b-(S.first b).2.1<(S.first b).1)) (0=(S.aq b cd).2.1/\4=(S.aq b cd).2.2) (b6 ((S.first b).2.1+(S.first b).1)) (Cj (S.first b).2.1 ((S.first b).2.1+(S.first b).1) (cE b)) (b6 ((S.first b).2.1+(S.first b).1)/\nM (S.first b).2.1 ((S.first b).2.1+(S.first b).1) b=(S.aq b cd).1/\(S.first b).2.1+(S.first b).1=(S.aq b cd).2.1/\0=(S.aq b cd).2.2))):=by
 refine aE ?_;have pT:Vg.hlen b:=hf.1.1;have hb:=S.j5 b;with_reducible and_intros
 trivial;grind[nt,df,S.aq,List.drop_take];intro h2;refine⟨?_,?_⟩
 . simp_all[dt,S.aq,List.drop_take]
 intro h4;with_reducible and_intros
 iterate 2 omega
 grind[S.aq,List.drop_take];grind[df,S.aq,List.drop_take]
def aCA(b:B8)(hp:b.length<=140737488355328):ir b/\b=b:=by
 refine aE ?_;grind
def aCB(v:Int)(l:B8)(hp:S.GZ l v)(hf:Vg.akd J.q9p v):(∃(x1:B8×Int),(v=x1.2/\l=x1.1)/\S.tv l v x1.1 x1.2)/\(∀(x2:B8×Int),S.tv l v x2.1 x2.2->dH (decide (127<x2.2)) (0<=x2.2) ((0:Int)<=127/\SP (length x2.1) [HH (Vg.cy (Vg.aM x2.2 127%256) 128)]/\gR 7 64 (∃(x3:B8×Int),(x2.2/gE 2 7=x3.2/\x2.1++[HH (Vg.cy (Vg.aM x2.2 127%256) 128)]=x3.1)/\S.tv l v x3.1 x3.2/\KT x3.2 x2.2)) (SP (length x2.1) [mw x2.2]) (x2.1++[mw x2.2]=l++S.num v)):=by
 refine aE ?_;have aIz:Vg.hint v:=hf.1;obtain⟨qg,TF⟩:=hp;refine⟨?_,?_⟩
 . refine⟨((l),(v)),?_⟩;with_reducible and_intros
   omega;rfl;exact⟨qg,Int.le_refl _,rfl⟩
 intro x1 h2;refine V.dI (λh3=>?_) λh4=>?_
 . with_reducible and_intros
   iterate 2 omega
   . (have hl:=S.G2 h2;grind)
   iterate 2 omega
   refine⟨((Prod.fst x1++[UInt8.ofNat (toNat (Vg.cy (Vg.aM (Prod.snd x1) (127:Int)%(256:Int)) (128:Int)))]),(Prod.snd x1/(2:Int)^toNat (7:Int))),?_⟩;grind[S.G2,S.abl,S.agy]
 refine⟨?_,?_⟩
 . (have hl:=S.G2 h2;grind)
 grind[S.G2,S.abl,S.aks]
def aCC(s l:B8)(hp:S.oV l s):S.GZ l (length s)/\Eh (l++S.num (length s)) (length s)/\l++S.num (length s)++s=l++S.text s:=by
 refine aE ?_;obtain⟨qg,TF⟩:=hp;grind[S.cX,S.GZ,List.length_append,S.text]
def aCD(b:B8)(v:Int)(hp:b.length<=35184372088832):eI (YG v 0 4611686018427387904) (1=S.xV v) ([]=S.mn b v) (ir b) (S.GZ b v) (0=S.xV v/\b++S.num v=S.mn b v):=by
 refine aE ?_;refine⟨?_,?_⟩
 . simp_all[V.IG,dt,S.mn,S.xV,S.fT]
 intro h2;simp at h2;with_reducible and_intros
 omega;exact⟨w!,w!⟩;iterate 2 (grind[S.mn,S.xV,S.fT])
def aCE(b s:B8)(hp:S.oV b s):ir b/\S.oV b s/\b++S.text s=b++S.text s:=by
 refine aE ?_;grind[S.oV]
def aCF(r1:B8)(r2 r3:Int):YF 0 r2 (cE r1)=S.inside r1 r2:=by
 refine aE ?_;grind[S.inside,decide]
def aCG(r1:B8)(r2 r3:Int)(hp:r1.length<=140737488355328):ir r1/\oz (bR r3)/\r1=r1/\(bif oG (bR r3) (Bool.not (S.inside r1 r2)) then r2 else r2)=r2/\(bif oG (bR r3) (Bool.not (S.inside r1 r2)) then(1:Int) else r3)=S.bX r1 r2 r3:=by
 refine aE ?_;grind[S.bX,S.inside]
def aCH(b:B8)(p:Int)(hp:S.dF b p)(hf:Vg.gq J.ć (b,p)):(∃(x1:Nat),(0=S.gu b p x1/\(0:Int)=x1)/\S.ko b p x1)/\(∀(x2:Nat),S.ko b p x2->Fi (decide ((x2:Int)=9)) (0=(S.aO b p).1) (0=(S.aO b p).2.1/\2=(S.aO b p).2.2) (b6 (cE b-p)) (decide (x2=cE b-p)) (0=(S.aO b p).2.1/\4=(S.aO b p).2.2) (b6 (p+x2)) (cK 0 (p+x2) (cE b)) (Fj (7*x2) 64 (b6 (Fl b p x2)/\0<=S.gu b p x2/\0<=Fl b p x2/\eO x2 (fX (decide (fF b (p+x2)<128)) (fX (decide ((1:Int)<x2+1)) (b6 (p+(x2+1))) (b6 (p+(x2+1)-1)/\cK 0 (p+(x2+1)-1) (cE b)) True) (dH (bif decide ((1:Int)<x2+1) then na (bR (fF b (p+(x2+1)-1))) (decide (4611686018427387904<Vg.cy (S.gu b p x2) (Fl b p x2))) else decide (4611686018427387904<Vg.cy (S.gu b p x2) (Fl b p x2))) (0=(S.aO b p).1) (0=(S.aO b p).2.1/\2=(S.aO b p).2.2) (b6 (p+(x2+1))) (Vg.cy (S.gu b p x2) (Fl b p x2)=(S.aO b p).1/\p+(x2+1)=(S.aO b p).2.1/\0=(S.aO b p).2.2)) (∃(x3:Nat),(Vg.cy (S.gu b p x2) (Fl b p x2)=S.gu b p x3/\(x2:Int)+1=x3)/\S.ko b p x3/\o8 9 x3 x2))))):=by
 refine aE ?_;have pT:Vg.hlen b:=hf.1.1;clear hf;have Bn:=hp;simp only [S.dF] at Bn;refine⟨?_,?_⟩
 . refine⟨(nat_lit 0:Nat),?_⟩;try dsimp only
   with_reducible and_intros
   exact(S.aGI b p).symm;omega;exact S.aGH hp
 intro x1 h2;refine V.dI (λh3=>?_) λh4=>?_
 . with_reducible and_intros
   iterate 3 (grind [S.akp,S.W9])
 with_reducible and_intros
 iterate 2 omega
 . intro h5;with_reducible and_intros
   iterate 3 (grind [S.akp,S.W9])
 intro h6;try simp at h6
 with_reducible and_intros
 omega
 . (have hg:=S.gV h2;omega)
 omega
 . (have hg:=S.gV h2;omega)
 omega
 . (have hg:=S.gV h2;omega)
 omega
 . (have hg:=S.gV h2;omega)
 iterate 2
  . have hg:=S.gV h2;have hn:=S.nz ((b.getD (p+(x1:Int)).toNat 0).toNat:Int) w!;have hs:=S.abk (Vg.aM ((b.getD (p+(x1:Int)).toNat 0).toNat:Int) 127) x1 w! w! w!;try clear h8
    try clear h9
    clear hn;omega
 . (have hg:=S.gV h2;have hv:=S.ap7 (b:=b) (p:=p) hg.1;exact hv.1)
 . (have hg:=S.gV h2;have hn:=S.nz ((b.getD (p+(x1:Int)).toNat 0).toNat:Int) w!;have hs:=S.abk (Vg.aM ((b.getD (p+(x1:Int)).toNat 0).toNat:Int) 127) x1 w! w! w!;exact hs.1)
 omega
 . (have hg:=S.gV h2;omega)
 . intro h7;try simp only [dt] at h7
   with_reducible and_intros
   . intro h8;with_reducible and_intros
     omega
     . have hg:=S.gV h2;have hn:=S.nz ((b.getD (p+(x1:Int)).toNat 0).toNat:Int) w!;try clear h8
       try clear h9
       clear hn;omega
     omega
     . have hg:=S.gV h2;have hn:=S.nz ((b.getD (p+(x1:Int)).toNat 0).toNat:Int) w!;try clear h8
       try clear h9
       clear hn;omega
     omega;have hg:=S.gV h2;have hn:=S.nz ((b.getD (p+(x1:Int)).toNat 0).toNat:Int) w!;try clear h8
     try clear h9
     clear hn;omega
   . intro h9;trivial
   . intro de;with_reducible and_intros
     . exact(S.IM hp h2 (by have hg:=S.gV h2;omega) w! w! de).1
     . exact(S.IM hp h2 (by have hg:=S.gV h2;omega) w! w! de).2.1
     . exact(S.IM hp h2 (by have hg:=S.gV h2;omega) w! w! de).2.2
   intro fC;with_reducible and_intros
   omega
   . clear fC;have hg:=S.gV h2;omega
   . exact(S.IN hp h2 (by have hg:=S.gV h2;omega) w! w! fC).1
   . exact(S.IN hp h2 (by have hg:=S.gV h2;omega) w! w! fC).2.1
   . exact(S.IN hp h2 (by have hg:=S.gV h2;omega) w! w! fC).2.2
 intro gY;try simp only [df] at gY
 refine⟨(x1+nat_lit 1),?_⟩;try dsimp only
 with_reducible and_intros
 . (have hg:=S.gV h2;exact S.abj hp h2 w!)
 omega
 . (have hg:=S.gV h2;exact S.agx hp h2 w! w! w!)
 . (have hg:=S.gV h2;simp only [S.ag];omega)
def aCI(b:B8)(p cd:Int)(hp:S.dF b p)(hf:Vg.gq J.ay2 (b,p,cd)):S.dF b p/\fX (cx (S.aO b p).2.2) ([]=(S.di b p cd).1) (0=(S.di b p cd).2.1/\(S.aO b p).2.2=(S.di b p cd).2.2) (Fi (decide (cd<(S.aO b p).1)) ([]=(S.di b p cd).1) (0=(S.di b p cd).2.1/\2=(S.di b p cd).2.2) (b6 (cE b-(S.aO b p).2.1)) (decide (cE b-(S.aO b p).2.1<(S.aO b p).1)) (0=(S.di b p cd).2.1/\4=(S.di b p cd).2.2) (b6 ((S.aO b p).2.1+(S.aO b p).1)) (Cj (S.aO b p).2.1 ((S.aO b p).2.1+(S.aO b p).1) (cE b)) (b6 ((S.aO b p).2.1+(S.aO b p).1)/\nM (S.aO b p).2.1 ((S.aO b p).2.1+(S.aO b p).1) b=(S.di b p cd).1/\(S.aO b p).2.1+(S.aO b p).1=(S.di b p cd).2.1/\0=(S.di b p cd).2.2)):=by
 refine aE ?_;have pT:Vg.hlen b:=hf.1.1;have hb:=S.NY hp;with_reducible and_intros
 omega;grind[nt,df,S.di];intro h2;refine⟨?_,?_⟩
 . simp_all[dt,S.di]
 intro h4;with_reducible and_intros
 iterate 2 omega
 grind[S.di];grind[df,S.di]
def aCJ(r1:B8)(r2 r3 cd:Int)(hp:r1.length<=140737488355328):ir r1/\dH (cx (S.bX r1 r2 r3)) (r1=(S.an r1 r2 r3 cd).1.1) (r2=(S.an r1 r2 r3 cd).1.2.1/\S.bX r1 r2 r3=(S.an r1 r2 r3 cd).1.2.2/\[]=(S.an r1 r2 r3 cd).2) (S.dF r1 r2) (fX (cx (S.di r1 r2 cd).2.2) (r1=(S.an r1 r2 r3 cd).1.1) (r2=(S.an r1 r2 r3 cd).1.2.1/\(S.di r1 r2 cd).2.2=(S.an r1 r2 r3 cd).1.2.2/\[]=(S.an r1 r2 r3 cd).2) (r1=(S.an r1 r2 r3 cd).1.1/\(S.di r1 r2 cd).2.1=(S.an r1 r2 r3 cd).1.2.1/\S.bX r1 r2 r3=(S.an r1 r2 r3 cd).1.2.2/\(S.di r1 r2 cd).1=(S.an r1 r2 r3 cd).2)):=by
 refine aE ?_;with_reducible and_intros
 omega;grind[nt,df,S.an,S.dF,S.bX,S.inside];intro h2;with_reducible and_intros
 grind[S.an,S.dF,S.bX,S.inside];grind[nt,df,S.an,S.dF,S.bX,S.inside];simp_all[nf,dt,S.an,S.dF,S.bX,S.inside]
def aCK(r1:B8)(r2 r3:Int)(hp:r1.length<=140737488355328):ir r1/\dH (cx (S.bX r1 r2 r3)) (r1=(S.af r1 r2 r3).1.1) (r2=(S.af r1 r2 r3).1.2.1/\S.bX r1 r2 r3=(S.af r1 r2 r3).1.2.2/\0=(S.af r1 r2 r3).2) (S.dF r1 r2) (fX (cx (S.aO r1 r2).2.2) (r1=(S.af r1 r2 r3).1.1) (r2=(S.af r1 r2 r3).1.2.1/\(S.aO r1 r2).2.2=(S.af r1 r2 r3).1.2.2/\0=(S.af r1 r2 r3).2) (r1=(S.af r1 r2 r3).1.1/\(S.aO r1 r2).2.1=(S.af r1 r2 r3).1.2.1/\S.bX r1 r2 r3=(S.af r1 r2 r3).1.2.2/\(S.aO r1 r2).1=(S.af r1 r2 r3).2)):=by
 refine aE ?_;with_reducible and_intros
 omega;grind[nt,df,S.af,S.dF,S.bX,S.inside];intro h2;with_reducible and_intros
 grind[S.af,S.dF,S.bX,S.inside];grind[nt,df,S.af,S.dF,S.bX,S.inside];simp_all[nf,dt,S.af,S.dF,S.bX,S.inside]
def aCL(r1:B8)(r2 r3:Int)(hp:r1.length<=140737488355328)(hf:Vg.gq J.SJ (r1,r2,r3)):Px (length r1)/\Fi (cx (S.bX r1 r2 r3)) (r1=(S.ar r1 r2 r3).1.1) (r2=(S.ar r1 r2 r3).1.2.1/\S.bX r1 r2 r3=(S.ar r1 r2 r3).1.2.2/\[]=(S.ar r1 r2 r3).2) (b6 (length r1-r2)) (decide (length r1-r2<32)) (r2=(S.ar r1 r2 r3).1.2.1/\4=(S.ar r1 r2 r3).1.2.2/\[]=(S.ar r1 r2 r3).2) (b6 (r2+32)) (Cj r2 (r2+32) (length r1)) (b6 (r2+32)/\r1=(S.ar r1 r2 r3).1.1/\r2+32=(S.ar r1 r2 r3).1.2.1/\S.bX r1 r2 r3=(S.ar r1 r2 r3).1.2.2/\nM r2 (r2+32) r1=(S.ar r1 r2 r3).2):=by
 refine aE ?_;have aKS:Vg.hint r2:=hf.2.1;with_reducible and_intros
 omega;grind[nt,df,S.ar,S.dF,S.bX,S.inside];intro h2;with_reducible and_intros
 omega;grind[S.ar,S.dF,S.bX,S.inside];simp_all[dt,S.ar,S.dF,S.bX,S.inside]
 grind[df,S.ar,S.dF,S.bX,S.inside,S.agz,List.drop_take]
def aCM(r1:B8)(r2 r3:Int):kB (cx r3) (r3=S.done r1 r2 r3) (gk (kB (Bool.not (S.inside r1 r2)) (1=S.done r1 r2 r3) (kB (Ei r2 r1) (2=S.done r1 r2 r3) (0=S.done r1 r2 r3)))):=by
 refine aE ?_;simp_all[nt,df,S.done,nf,dt]
def aCN(kind:Int)(b:B8)(hp:S.aC b)(hf:Vg.gq J.amG (kind,b)):(∃(x1:Nat),((0:Int)=x1/\[mw kind]=S.k7 kind (take x1 b))/\S.ny b x1)/\(∀(x2:Nat),S.ny b x2->oI (decide (x2<cE b)) 0 x2 (cE b) (rh (S.k7 kind (take x2 b)) [HH (fF b x2)]/\eO x2 (∃(x3:Nat),z8 x2 x3 (S.k7 kind (take x2 b)++[HH (fF b x2)]=S.k7 kind (take x3 b)) (S.ny b x3) (S.len b))) (S.k7 kind (take x2 b)=S.k7 kind b)):=by
 refine aE ?_;have aIA:Vg.hint kind:=hf.1;have pT:Vg.hlen b:=hf.2.1.1;clear hf;refine⟨?_,?_⟩
 . refine⟨(nat_lit 0:Nat),?_⟩;try dsimp only
   with_reducible and_intros
   omega;rfl;simp only [S.ny,S.ag,S.len,S.aC,S.k7,lc,J?,ln] at *;omega
 intro x1 h2;refine⟨?_,?_⟩
 . intro h3;try simp only [dt] at h3
   with_reducible and_intros
   iterate 2 omega
   . simp only [S.ny,S.ag,S.len,S.aC,S.k7,lc,J?,ln] at *;omega
   iterate 2 omega
   refine⟨(x1+nat_lit 1),?_⟩;try dsimp only
   with_reducible and_intros
   omega;simp only [S.k7,e?,S.akf b x1 w!]
   . simp only [S.ny,S.ag,S.len,S.aC,S.k7,lc,J?,ln] at *;omega
   simp only [S.ny,S.ag,S.len,S.aC,S.k7,lc,J?,ln] at *;omega
 grind[df,S.k7,S.ny,List.take_add_one]
def aCO(kind:Int)(b:B8)(hp:S.aC b):YI b (S.k7 kind b) (S.eW kind b):=by
 refine aE ?_;with_reducible and_intros
 omega;exact hp;rfl
def aCP(b:B8)(hp:S.aC b):S.aC b/\S.eW 0 b=S.eW 0 b:=by
 grind
def aCQ(l r:B8)(hp:S.aC (l++r)):q2 ((length l+length r:Nat):Int)/\S.aC (l++r)/\S.eW 1 (l++r)=S.eW 1 (l++r):=by
 refine aE ?_;grind[S.aC,List.length_append]
def aCR(kind:UInt8)(parts:List B8)(hp:S.oW parts)(hf:Vg.gq J.ay3 (kind,parts)):(∃(x1:Nat),((0:Int)=x1/\[HH (Py kind)]=S.og kind parts x1)/\S.ny parts x1)/\(∀(x2:Nat),S.ny parts x2->oI (decide (x2<bu parts)) 0 x2 (bu parts) (rh (S.og kind parts x2) (nb parts x2)/\eO x2 (∃(x3:Nat),z8 x2 x3 (S.og kind parts x2++nb parts x2=S.og kind parts x3) (S.ny parts x3) (S.len parts))) (S.og kind parts x2=S.gM kind parts)):=by
 refine aE ?_;have aFz:Vg.hlen parts:=hf.2.1.1;clear hf;refine⟨?_,?_⟩
 . grind[S.agB,S.ny,S.ag,S.len]
 intro x1 h2;refine⟨?_,?_⟩
 . intro h3;try simp only [dt] at h3
   with_reducible and_intros
   iterate 2 omega
   exact S.Z6 kind hp w!;iterate 2 omega
   refine⟨(x1+nat_lit 1),?_⟩;try dsimp only
   with_reducible and_intros
   omega;exact S.Ug _ _ _ w!
   . simp only [S.ny,S.ag,S.len] at *;omega
   simp only [S.ny,S.ag,S.len] at *;omega
 grind[df,S.Xb]
def aCS(b:B8)(hp:S.aC b):YJ [b] 0 0 b:=by
 refine aE ?_;grind[S.oW,S.aC,S.gM,S.oE]
def aCT(l r:B8)(hp:S.aC (l++r)):YJ [l,r] 1 1 (l++r):=by
 refine aE ?_;grind[S.oW,S.aC,List.length_append,S.gM,S.oE]
def aCU(b:B8)(hp:S.aC b):YJ [b] 2 2 b:=by
 refine aE ?_;grind[S.oW,S.aC,S.gM,S.oE]
def aCV(b:B8)(hp:S.aC b):YJ [b] 3 3 b:=by
 refine aE ?_;grind[S.oW,S.aC,S.gM,S.oE]
def aCW(b:B8)(hp:S.aC b):YI b (S.oE 0 b) (S.leaf b):=by
 refine aE ?_;with_reducible and_intros
 omega;exact hp;rfl
def aCX(l r:B8):eI (na (sC l) (sC r)) ([]=S.aT l r) (1=S.uz l r) (S.aC (l++r)) (S.small (S.oE 1 (l++r))) (S.sum (S.oE 1 (l++r))=S.aT l r/\0=S.uz l r):=by
 refine aE ?_;refine⟨?_,?_⟩
 . grind[S.aT,S.uz,S.NZ,S.Z5,S.mF]
 intro h2;with_reducible and_intros
 iterate 2 (grind[S.small,S.oE,S.aC,lc,List.length_append])
 iterate 2 (grind[S.aT,S.uz,S.NZ,S.Z5,S.mF])
def aCY(b:B8)(hp:S.aC b):YI b (S.oE 2 b) (S.mF 2 b):=by
 refine aE ?_;with_reducible and_intros
 omega;exact hp;rfl
def aCZ(b:B8)(hp:S.aC b):YI b (S.oE 3 b) (S.mF 3 b):=by
 refine aE ?_;with_reducible and_intros
 omega;exact hp;rfl
def aC0(c:Int):HK 0 c (HK c 1114111 (YG c 55296 57343))=S.cA c:=by
 refine aE ?_;grind[S.cA]
def aC1(c:Int):kB (decide (c<128)) (1=S.eX c) (kB (decide (c<2048)) (2=S.eX c) (kB (decide (c<65536)) (3=S.eX c) (4=S.eX c))):=by
 refine aE ?_;refine⟨?_,?_⟩
 . simp_all[dt,S.eX]
 intro h2;refine⟨?_,?_⟩
 . simp_all[dt,S.eX]
 intro h4;refine⟨?_,?_⟩
 . grind [S.eX]
 grind[df,S.eX]
def aC2(c:Int)(hp:0<=c):0<=c/\(0:Int)<=63/\Vg.cy 128 (Vg.aM c 63%256)=Py (S.more c):=by
 refine aE ?_;have e:Vg.aM c 63%256=c%64:=by grind[S.NM]
 grind[S.Bu,S.ap9]
def aC3(c:Int):gk (dH (KV c) (1=S.zY c) ([]=S.iU c) True (fX (decide (S.eX c=1)) (0=S.zY c) ([mw c]=S.iU c) (fX (decide (S.eX c=2)) (vj 6) (0<=c/\0=S.zY c/\HH (Vg.cy 192 (c/gE 2 6%256))::Vj c=S.iU c) (gl (decide (S.eX c=3)) (vj 12) (vj 6) (0<=c/gE 2 6/\0<=c/\0=S.zY c/\HH (Vg.cy 224 (c/gE 2 12%256))::HH (Py (S.more (c/gE 2 6)))::Vj c=S.iU c) (vj 18) (gR 12 64 (0<=c/gE 2 12/\gR 6 64 (0<=c/gE 2 6/\0<=c/\0=S.zY c/\HH (Vg.cy 240 (c/gE 2 18%256))::HH (Py (S.more (c/gE 2 12)))::HH (Py (S.more (c/gE 2 6)))::Vj c=S.iU c))))))):=by
 refine aE ?_;with_reducible and_intros
 trivial;grind[nt,S.zY,S.iU];intro h2;simp at h2;with_reducible and_intros
 trivial
 . intro h3;refine⟨?_,?_⟩
   . grind[S.fl,S.zY]
   (have hc:=S.fl h2;(simp [S.iU,h2,if_true];grind[S.aqa,S.eX]))
 intro h4;refine V.dI (λh5=>?_) λh6=>?_
 . with_reducible and_intros
   iterate 2 omega
   simp_all[S.fl]
   grind[S.fl,S.zY]
   . (have hc:=S.fl h2;(simp only [S.iU,h2,if_true];grind[S.aqe,S.eX]))
 refine V.dI (λh7=>?_) λh8=>?_
 . with_reducible and_intros
   iterate 4 omega
   . (have hc:=S.fl h2;grind)
   simp_all[S.fl]
   grind[S.fl,S.zY]
   . (have hc:=S.fl h2;(simp only [S.iU,h2,if_true];grind[S.aqf,S.eX]))
 with_reducible and_intros
 iterate 4 omega
 . (have hc:=S.fl h2;grind)
 iterate 2 omega
 . (have hc:=S.fl h2;grind)
 simp_all[S.fl]
 grind[S.fl,S.zY]
 . (have hc:=S.fl h2;(simp only [S.iU,h2,if_true];grind[S.aqg,S.eX]))
def aC4(b:B8)(hp:0<b.length)(hf:Vg.gq J.jd b):rj (cE b)/\dH (decide (fF b 0<128)) (fF b 0=(S.aR b).1) (1=(S.aR b).2) (vj 5) (dH (decide (fF b 0/gE 2 5=6)) (0<=fF b 0) ((0:Int)<=31/\eI (decide (cE b<2)) (65533=(S.aR b).1) (1=(S.aR b).2) ((0:Int)<=1/\(1:Int)<=2/\2<=cE b) (∃(x1:Nat),((0:Int)=x1/\Vg.aM (fF b 0) 31=S.bV b x1)/\S.rb b x1) (∀(x2:Nat),S.rb b x2->eI (decide (x2<cE (nM 1 2 b))) (cK 0 x2 (cE (nM 1 2 b))) (gR 6 8 (dH (mZ (fF (nM 1 2 b) x2/gE 2 6) 2) (65533=(S.aR b).1) (1=(S.aR b).2) (vj 6) (b6 (S.bV b x2*gE 2 6)/\0<=S.bV b x2*gE 2 6/\0<=Vg.aM (fF (nM 1 2 b) x2) 63/\eO x2 (∃(x3:Nat),Vi x2 x3 (S.bV b x2*gE 2 6) (Vg.aM (fF (nM 1 2 b) x2) 63) b 4)))) True (oz (KV (S.bV b x2))) (dH (na (KV (S.bV b x2)) (mZ (S.eX (S.bV b x2)) 2)) (65533=(S.aR b).1) (1=(S.aR b).2) (S.bV b x2=(S.aR b).1) (2=(S.aR b).2)))) (vj 4) (dH (decide (fF b 0/gE 2 4=14)) (0<=fF b 0) ((0:Int)<=15/\eI (decide (cE b<3)) (65533=(S.aR b).1) (1=(S.aR b).2) ((0:Int)<=1/\(1:Int)<=3/\3<=cE b) (∃(x4:Nat),((0:Int)=x4/\Vg.aM (fF b 0) 15=S.bV b x4)/\S.rb b x4) (∀(x5:Nat),S.rb b x5->eI (decide (x5<cE (nM 1 3 b))) (cK 0 x5 (cE (nM 1 3 b))) (gR 6 8 (dH (mZ (fF (nM 1 3 b) x5/gE 2 6) 2) (65533=(S.aR b).1) (1=(S.aR b).2) (vj 6) (b6 (S.bV b x5*gE 2 6)/\0<=S.bV b x5*gE 2 6/\0<=Vg.aM (fF (nM 1 3 b) x5) 63/\eO x5 (∃(x6:Nat),Vi x5 x6 (S.bV b x5*gE 2 6) (Vg.aM (fF (nM 1 3 b) x5) 63) b 4)))) True (oz (KV (S.bV b x5))) (dH (na (KV (S.bV b x5)) (mZ (S.eX (S.bV b x5)) 3)) (65533=(S.aR b).1) (1=(S.aR b).2) (S.bV b x5=(S.aR b).1) (3=(S.aR b).2)))) (vj 3) (dH (decide (fF b 0/gE 2 3=30)) (0<=fF b 0) ((0:Int)<=7/\eI (decide (cE b<4)) (65533=(S.aR b).1) (1=(S.aR b).2) ((0:Int)<=1/\(1:Int)<=4/\4<=cE b) (∃(x7:Nat),((0:Int)=x7/\Vg.aM (fF b 0) 7=S.bV b x7)/\S.rb b x7) (∀(x8:Nat),S.rb b x8->eI (decide (x8<cE (nM 1 4 b))) (cK 0 x8 (cE (nM 1 4 b))) (gR 6 8 (dH (mZ (fF (nM 1 4 b) x8/gE 2 6) 2) (65533=(S.aR b).1) (1=(S.aR b).2) (vj 6) (b6 (S.bV b x8*gE 2 6)/\0<=S.bV b x8*gE 2 6/\0<=Vg.aM (fF (nM 1 4 b) x8) 63/\eO x8 (∃(x9:Nat),Vi x8 x9 (S.bV b x8*gE 2 6) (Vg.aM (fF (nM 1 4 b) x8) 63) b 4)))) True (oz (KV (S.bV b x8))) (dH (na (KV (S.bV b x8)) (mZ (S.eX (S.bV b x8)) 4)) (65533=(S.aR b).1) (1=(S.aR b).2) (S.bV b x8=(S.aR b).1) (4=(S.aR b).2)))) (65533=(S.aR b).1) (1=(S.aR b).2)))):=by
 refine aE ?_;have pT:Vg.hlen b:=hf.1.1;clear hf;have Bn:(0:Int)<b.length:=by omega
 with_reducible and_intros
 iterate 2 omega
 simp_all[dt,S.uf1]
 intro h2;try simp only [df] at h2
 with_reducible and_intros
 iterate 2 omega
 . intro h3;try simp only [dt] at h3
   with_reducible and_intros
   iterate 2 omega
   . intro h4;try simp only [dt] at h4
     refine⟨?_,?_⟩
     . (have hn:=S.uA (b:=b) w! w!;simp_all[S.tN])
     (have hn:=S.uA (b:=b) w! w!;simp_all[S.tN])
   intro h5;try simp only [df] at h5
   with_reducible and_intros
   iterate 3 omega
   . refine⟨(nat_lit 0:Nat),?_⟩;try dsimp only
     with_reducible and_intros
     omega;grind[S.uA,S.aGJ]
     . (have hn:=S.uA (b:=b) w! w!;simp_all[S.Z7])
   intro x6 h7;refine V.dI (λh8=>?_) λfC=>?_
   . with_reducible and_intros
     iterate 4 omega
     . intro h9;try simp only [nt,df,tn] at h9
       refine⟨?_,?_⟩
       . have hn:=S.uA (b:=b) v! v!;have hb:=S.bP h7;have hx:(x6:Int)+1<2:=by(have hc:=S.cv b 2 w! w!;simp only [hc,show toNat 2=2 by rfl] at *;omega)
         simp only [S.lB b 2 x6 hx,S.oq b 2 x6 hx] at *;rw [S.xX hn h7 w! v!]
       have hn:=S.uA (b:=b) v! v!;have hb:=S.bP h7;have hx:(x6:Int)+1<2:=by(have hc:=S.cv b 2 w! w!;simp only [hc,show toNat 2=2 by rfl] at *;omega)
       simp only [S.lB b 2 x6 hx,S.oq b 2 x6 hx] at *;rw [S.xX hn h7 w! v!]
     intro de;try simp only [nf,dt,tn] at de
     with_reducible and_intros
     iterate 2 omega
     iterate 3
      . (have hn:=S.uA (b:=b) v! v!;(have hb:=S.bP h7;(try simp only [S.cv b 2 w! w!,show toNat 2=2 by rfl] at *);simp only [show toNat 6=6 by rfl,S.ag] at *;omega))
     exact Int.natCast_nonneg _;omega
     . (have hn:=S.uA (b:=b) v! v!;(have hb:=S.bP h7;(try simp only [S.cv b 2 w! w!,show toNat 2=2 by rfl] at *);omega))
     refine⟨(x6+nat_lit 1),?_⟩;try dsimp only
     with_reducible and_intros
     omega
     . have hn:=S.uA (b:=b) v! v!;have hb:=S.bP h7;have hx:(x6:Int)+1<2:=by(have hc:=S.cv b 2 w! w!;simp only [hc,show toNat 2=2 by rfl] at *;omega)
       rw [S.lB b 2 x6 hx];exact S.Z9 h7 w!
     . have hn:=S.uA (b:=b) v! v!;have hb:=S.bP h7;have hx:(x6:Int)+1<2:=by(have hc:=S.cv b 2 w! w!;simp only [hc,show toNat 2=2 by rfl] at *;omega)
       simp only [S.lB b 2 x6 hx,S.oq b 2 x6 hx] at *;exact S.Ui h7 v! w!
     . (have hn:=S.uA (b:=b) v! v!;(have hb:=S.bP h7;(try simp only [S.cv b 2 w! w!,show toNat 2=2 by rfl] at *);simp only [show toNat 6=6 by rfl,S.ag] at *;omega))
   with_reducible and_intros
   trivial
   . intro gY;try simp only [nt] at gY
     trivial
   . intro jM;try simp only [nf] at jM
     trivial
   . intro jZ;try simp only [V.IG,nt,df] at jZ
     refine⟨?_,?_⟩
     . have hn:=S.uA (b:=b) v! v!;have hb:=S.bP h7;have hc:=S.cv b 2 w! w!;rw [hc] at fC;have hx:x6+1=2:=by omega
       rw [S.xY hn h7 hx jZ rfl]
     have hn:=S.uA (b:=b) v! v!;have hb:=S.bP h7;have hc:=S.cv b 2 w! w!;rw [hc] at fC;have hx:x6+1=2:=by omega
     rw [S.xY hn h7 hx jZ rfl]
   intro Cq;try simp only [V.ajY,nf,dt] at Cq
   refine⟨?_,?_⟩
   . have hn:=S.uA (b:=b) v! v!;have hb:=S.bP h7;have hc:=S.cv b 2 w! w!;rw [hc] at fC;have hx:x6+1=2:=by omega
     rw [S.xZ hn h7 hx Cq rfl]
   have hn:=S.uA (b:=b) v! v!;have hb:=S.bP h7;have hc:=S.cv b 2 w! w!;rw [hc] at fC;have hx:x6+1=2:=by omega
   rw [S.xZ hn h7 hx Cq rfl]
 intro zP;try simp only [df] at zP
 with_reducible and_intros
 iterate 2 omega
 . intro HV;try simp only [dt] at HV
   with_reducible and_intros
   iterate 2 omega
   . intro QW;try simp only [dt] at QW
     refine⟨?_,?_⟩
     . (have hn:=S.v7 (b:=b) v! v! v!;rw [S.tN hn w! w!])
     (have hn:=S.v7 (b:=b) v! v! v!;rw [S.tN hn w! w!])
   intro h19;try simp only [df] at h19
   with_reducible and_intros
   iterate 3 omega
   . refine⟨(nat_lit 0:Nat),?_⟩;try dsimp only
     with_reducible and_intros
     omega
     (exact S.aGK v! v!)
     . (have hn:=S.v7 (b:=b) v! v! v!;exact S.Z7 hn w! w!)
   intro Dt xA;refine V.dI (λh22=>?_) λh25=>?_
   . with_reducible and_intros
     iterate 4 omega
     . intro h23;try simp only [nt,df,tn] at h23
       refine⟨?_,?_⟩
       . have hn:=S.v7 (b:=b) v! v! v!;have hb:=S.bP xA;have hx:(Dt:Int)+1<3:=by(have hc:=S.cv b 3 w! w!;simp only [hc,show toNat 3=3 by rfl] at *;omega)
         simp only [S.lB b 3 Dt hx,S.oq b 3 Dt hx] at *;rw [S.xX hn xA w! v!]
       have hn:=S.v7 (b:=b) v! v! v!;have hb:=S.bP xA;have hx:(Dt:Int)+1<3:=by(have hc:=S.cv b 3 w! w!;simp only [hc,show toNat 3=3 by rfl] at *;omega)
       simp only [S.lB b 3 Dt hx,S.oq b 3 Dt hx] at *;rw [S.xX hn xA w! v!]
     intro h24;try simp only [nf,dt,tn] at h24
     with_reducible and_intros
     iterate 2 omega
     iterate 3
      . (have hn:=S.v7 (b:=b) v! v! v!;(have hb:=S.bP xA;(try simp only [S.cv b 3 w! w!,show toNat 3=3 by rfl] at *);simp only [show toNat 6=6 by rfl,S.ag] at *;omega))
     exact Int.natCast_nonneg _;omega
     . (have hn:=S.v7 (b:=b) v! v! v!;(have hb:=S.bP xA;(try simp only [S.cv b 3 w! w!,show toNat 3=3 by rfl] at *);omega))
     refine⟨(Dt+nat_lit 1),?_⟩;try dsimp only
     with_reducible and_intros
     omega
     . have hn:=S.v7 (b:=b) v! v! v!;have hb:=S.bP xA;have hx:(Dt:Int)+1<3:=by(have hc:=S.cv b 3 w! w!;simp only [hc,show toNat 3=3 by rfl] at *;omega)
       rw [S.lB b 3 Dt hx];exact S.Z9 xA w!
     . have hn:=S.v7 (b:=b) v! v! v!;have hb:=S.bP xA;have hx:(Dt:Int)+1<3:=by(have hc:=S.cv b 3 w! w!;simp only [hc,show toNat 3=3 by rfl] at *;omega)
       simp only [S.lB b 3 Dt hx,S.oq b 3 Dt hx] at *;exact S.Ui xA v! w!
     . (have hn:=S.v7 (b:=b) v! v! v!;(have hb:=S.bP xA;(try simp only [S.cv b 3 w! w!,show toNat 3=3 by rfl] at *);simp only [show toNat 6=6 by rfl,S.ag] at *;omega))
   with_reducible and_intros
   trivial
   . intro h26;try simp only [nt] at h26
     trivial
   . intro h27;try simp only [nf] at h27
     trivial
   . intro h28;try simp only [V.IG,nt,df] at h28
     refine⟨?_,?_⟩
     . have hn:=S.v7 (b:=b) v! v! v!;have hb:=S.bP xA;have hc:=S.cv b 3 w! w!;rw [hc] at h25;have hx:Dt+1=3:=by omega
       rw [S.xY hn xA hx h28 rfl]
     have hn:=S.v7 (b:=b) v! v! v!;have hb:=S.bP xA;have hc:=S.cv b 3 w! w!;rw [hc] at h25;have hx:Dt+1=3:=by omega
     rw [S.xY hn xA hx h28 rfl]
   intro h29;try simp only [V.ajY,nf,dt] at h29
   refine⟨?_,?_⟩
   . have hn:=S.v7 (b:=b) v! v! v!;have hb:=S.bP xA;have hc:=S.cv b 3 w! w!;rw [hc] at h25;have hx:Dt+1=3:=by omega
     rw [S.xZ hn xA hx h29 rfl]
   have hn:=S.v7 (b:=b) v! v! v!;have hb:=S.bP xA;have hc:=S.cv b 3 w! w!;rw [hc] at h25;have hx:Dt+1=3:=by omega
   rw [S.xZ hn xA hx h29 rfl]
 intro h30;try simp only [df] at h30
 with_reducible and_intros
 iterate 2 omega
 . intro h31;try simp only [dt] at h31
   with_reducible and_intros
   iterate 2 omega
   . intro h32;try simp only [dt] at h32
     refine⟨?_,?_⟩
     . (have hn:=S.v8 (b:=b) v! v! v! v!;rw [S.tN hn w! w!])
     (have hn:=S.v8 (b:=b) v! v! v! v!;rw [S.tN hn w! w!])
   intro h33;try simp only [df] at h33
   with_reducible and_intros
   iterate 3 omega
   . refine⟨(nat_lit 0:Nat),?_⟩;try dsimp only
     with_reducible and_intros
     omega
     (exact S.aGL v! v!)
     . (have hn:=S.v8 (b:=b) v! v! v! v!;exact S.Z7 hn w! w!)
   intro Du zQ;refine V.dI (λh36=>?_) λh39=>?_
   . with_reducible and_intros
     iterate 4 omega
     . intro h37;try simp only [nt,df,tn] at h37
       refine⟨?_,?_⟩
       . have hn:=S.v8 (b:=b) v! v! v! v!;have hb:=S.bP zQ;have hx:(Du:Int)+1<4:=by(have hc:=S.cv b 4 w! w!;simp only [hc,show toNat 4=4 by rfl] at *;omega)
         simp only [S.lB b 4 Du hx,S.oq b 4 Du hx] at *;rw [S.xX hn zQ w! v!]
       have hn:=S.v8 (b:=b) v! v! v! v!;have hb:=S.bP zQ;have hx:(Du:Int)+1<4:=by(have hc:=S.cv b 4 w! w!;simp only [hc,show toNat 4=4 by rfl] at *;omega)
       simp only [S.lB b 4 Du hx,S.oq b 4 Du hx] at *;rw [S.xX hn zQ w! v!]
     intro h38;try simp only [nf,dt,tn] at h38
     with_reducible and_intros
     iterate 2 omega
     iterate 3
      . (have hn:=S.v8 (b:=b) v! v! v! v!;(have hb:=S.bP zQ;(try simp only [S.cv b 4 w! w!,show toNat 4=4 by rfl] at *);simp only [show toNat 6=6 by rfl,S.ag] at *;omega))
     exact Int.natCast_nonneg _;omega
     . (have hn:=S.v8 (b:=b) v! v! v! v!;(have hb:=S.bP zQ;(try simp only [S.cv b 4 w! w!,show toNat 4=4 by rfl] at *);omega))
     refine⟨(Du+nat_lit 1),?_⟩;try dsimp only
     with_reducible and_intros
     omega
     . have hn:=S.v8 (b:=b) v! v! v! v!;have hb:=S.bP zQ;have hx:(Du:Int)+1<4:=by(have hc:=S.cv b 4 w! w!;simp only [hc,show toNat 4=4 by rfl] at *;omega)
       rw [S.lB b 4 Du hx];exact S.Z9 zQ w!
     . have hn:=S.v8 (b:=b) v! v! v! v!;have hb:=S.bP zQ;have hx:(Du:Int)+1<4:=by(have hc:=S.cv b 4 w! w!;simp only [hc,show toNat 4=4 by rfl] at *;omega)
       simp only [S.lB b 4 Du hx,S.oq b 4 Du hx] at *;exact S.Ui zQ v! w!
     . (have hn:=S.v8 (b:=b) v! v! v! v!;(have hb:=S.bP zQ;(try simp only [S.cv b 4 w! w!,show toNat 4=4 by rfl] at *);simp only [show toNat 6=6 by rfl,S.ag] at *;omega))
   with_reducible and_intros
   trivial
   . intro h40;try simp only [nt] at h40
     trivial
   . intro h41;try simp only [nf] at h41
     trivial
   . intro h42;try simp only [V.IG,nt,df] at h42
     refine⟨?_,?_⟩
     . have hn:=S.v8 (b:=b) v! v! v! v!;have hb:=S.bP zQ;have hc:=S.cv b 4 w! w!;rw [hc] at h39;have hx:Du+1=4:=by omega
       rw [S.xY hn zQ hx h42 rfl]
     have hn:=S.v8 (b:=b) v! v! v! v!;have hb:=S.bP zQ;have hc:=S.cv b 4 w! w!;rw [hc] at h39;have hx:Du+1=4:=by omega
     rw [S.xY hn zQ hx h42 rfl]
   intro h43;try simp only [V.ajY,nf,dt] at h43
   refine⟨?_,?_⟩
   . have hn:=S.v8 (b:=b) v! v! v! v!;have hb:=S.bP zQ;have hc:=S.cv b 4 w! w!;rw [hc] at h39;have hx:Du+1=4:=by omega
     rw [S.xZ hn zQ hx h43 rfl]
   have hn:=S.v8 (b:=b) v! v! v! v!;have hb:=S.bP zQ;have hc:=S.cv b 4 w! w!;rw [hc] at h39;have hx:Du+1=4:=by omega
   rw [S.xZ hn zQ hx h43 rfl]
 grind[df,S.uf0]
def aDa(b:B8)(hp:S.small b):(∃(x1:B8×List Int),(b=x1.1/\[]=x1.2)/\S.tw b x1.1 x1.2)/\(∀(x2:B8×List Int),S.tw b x2.1 x2.2->fX (gF (length x2.1)) (0<length x2.1) (HS x2.2 [(S.aR x2.1).1]/\gR (S.aR x2.1).2 (length x2.1) (∃(x3:B8×List Int),(mY (S.aR x2.1).2 x2.1=x3.1/\x2.2++[(S.aR x2.1).1]=x3.2)/\S.tw b x3.1 x3.2/\S.len x3.1<S.len x2.1)) (x2.2=S.decode b)):=by
 refine aE ?_;simp [S.small] at hp;refine⟨?_,?_⟩
 . refine⟨((b),([])),?_⟩;grind[S.aAC]
 intro x1 h2;refine⟨?_,?_⟩
 . intro h3;simp at h3;with_reducible and_intros
   omega
   . (have hd:=S.Uj h2 w!;grind)
   iterate 2
    . (have hd:=S.Uj h2 w!;omega)
   refine⟨((drop (toNat (Prod.snd (S.aR (Prod.fst x1)))) (Prod.fst x1)),(Prod.snd x1++[Prod.fst (S.aR (Prod.fst x1))])),?_⟩;dsimp only;with_reducible and_intros
   iterate 2 rfl
   grind[S.agC]
   . (have hd:=S.Uj h2 w!;grind[S.len,List.length_drop,lc,ln])
 grind[df,S.akt]
def aDb(c:Int):(∃(x1:Nat),(0:Int)=x1/\S.pQ c x1)/\(∀(x2:Nat),S.pQ c x2->oI (decide ((x2:Int)<9)) 0 x2 ((9:Nat):Int) (kB (YF (getD [65,97,192,216,248,913,931,945,1024] (toNat x2) 0) c (getD [90,122,214,246,255,929,937,969,1119] (toNat x2) 0)) (true=S.letter c) (eO x2 (∃(x3:Nat),ri x2 x3 (S.pQ c x3) 9))) (false=S.letter c)):=by
 refine aE ?_;refine⟨?_,?_⟩
 . refine⟨(nat_lit 0:Nat),?_⟩;grind[S.pQ]
 intro x1 h2;refine⟨?_,?_⟩
 . intro h3;simp at h3;with_reducible and_intros
   iterate 2 omega
   . intro h4;simp at h4;exact S.Á (x:=x1) w! (S.Ä h4)
   intro h5;simp only [V.ze,df,tn] at h5;with_reducible and_intros
   iterate 2 omega
   refine⟨(x1+nat_lit 1),?_⟩;dsimp only;with_reducible and_intros
   omega;exact S.Â (x:=x1) h2 w! (S.aku h5);simp [S.ag];omega
 grind[df,S.Ã]
def aDc(c:Int):YF 48 c 57=S.digit c:=by
 refine aE ?_;grind[S.digit]
def aDd(c:Int):(∃(x1:Nat),(0:Int)=x1/\S.qs c x1)/\(∀(x2:Nat),S.qs c x2->oI (decide ((x2:Int)<7)) 0 x2 ((7:Nat):Int) (dH (YF (getD [65,192,216,913,931,1024,1040] (toNat x2) 0) c (getD [90,214,222,929,937,1039,1071] (toNat x2) 0)) (b6 (c+cZ (zF 32 [32,80,32]) (toNat x2))) (c+cZ (zF 32 [32,80,32]) (toNat x2)=S.bT c) (qK x2) (∃(x3:Nat),ri x2 x3 (S.qs c x3) 7)) (c=S.bT c)):=by
 refine aE ?_;refine⟨?_,?_⟩
 . refine⟨(nat_lit 0:Nat),?_⟩;grind[S.qs]
 intro x1 h2;refine⟨?_,?_⟩
 . intro h3;simp at h3;with_reducible and_intros
   iterate 2 omega
   . intro h4;simp at h4;with_reducible and_intros
     iterate 2
      . have hs:=(S.RX (c:=c) (x:=x1) h2 h3 (S.Ä h4)).2;omega
     exact(S.RX (x:=x1) h2 w! (S.Ä h4)).1
   intro h5;simp only [V.ze,df,tn] at h5;with_reducible and_intros
   iterate 2 omega
   refine⟨(x1+nat_lit 1),?_⟩;dsimp only;with_reducible and_intros
   omega;exact S.agE (x:=x1) h2 w! (S.aku h5);simp [S.ag];omega
 grind[df,S.agF]
def aDe(u:List Int)(hp:S.okC u):(∃(x1:Nat×B8),((0:Int)=x1.1/\[]=x1.2)/\S.qt u x1.1 x1.2)/\(∀(x2:Nat×B8),S.qt u x2.1 x2.2->oI (decide (x2.1<dj u)) 0 x2.1 (dj u) (sA (b6 (length x2.2+length (PM u x2))/\kB (PF (length x2.2+length (PM u x2))) (x2.2=S.jN u) (Px (length x2.2+length (PM u x2))/\b6 (x2.1+1)/\(∃(x3:Nat×B8),((x2.1:Int)+1=x3.1/\x2.2++PM u x2=x3.2)/\S.qt u x3.1 x3.2/\o8 (S.len u) x3.1 x2.1)))) (x2.2=S.jN u)):=by
 refine aE ?_;have hq:=hp.1;refine⟨?_,?_⟩
 . refine⟨((nat_lit 0:Nat),([])),?_⟩;grind[S.aqi]
 intro x1 h2;refine⟨?_,?_⟩
 . intro h3;simp at h3;with_reducible and_intros
   iterate 2 omega
   iterate 2 trivial
   omega
   . have:=h2.2.2;grind[S.agK]
   grind[S.É];intro h5;with_reducible and_intros
   grind;iterate 2 omega
   refine⟨((Prod.fst x1+nat_lit 1),(Prod.snd x1++S.iU (S.bT (getD u (toNat (↑(Prod.fst x1):Int)) (0:Int))))),?_⟩;grind[S.È,S.ag,S.len]
 grind[df,S.agJ]
def aDf(b:B8)(hp:S.small b):S.small b/\(∃(x1:Nat×List B8×List Int),((0:Int)=x1.1/\[]=x1.2.1/\[]=x1.2.2)/\S.k8 (S.decode b) x1.1 x1.2.1 x1.2.2)/\(∀(x2:Nat×List B8×List Int),S.k8 (S.decode b) x2.1 x2.2.1 x2.2.2->oI (decide ((x2.1:Int)<length (S.decode b))) 0 x2.1 (length (S.decode b)) (toNat x2.1<length (S.decode b)/\mv (oz (S.letter (cZ (S.decode b) (toNat x2.1)))) (fX (na (S.letter (cZ (S.decode b) (toNat x2.1))) (S.digit (cZ (S.decode b) (toNat x2.1)))) (q92 (length x2.2.2+length [cZ (S.decode b) (toNat x2.1)])) (b6 (x2.1+1)/\(∃(x3:Nat×List B8×List Int),((x2.1:Int)+1=x3.1/\x2.2.1=x3.2.1/\x2.2.2++[cZ (S.decode b) (toNat x2.1)]=x3.2.2)/\S.k8 (S.decode b) x3.1 x3.2.1 x3.2.2/\vA (S.len (S.decode b)) x3.1 (S.ag (S.len (S.decode b)) x2.1))) (gl (gF (length x2.2.2)) (S.okC x2.2.2) (KU x2.2.1 [S.jN x2.2.2]) (b6 (x2.1+1)/\(∃(x4:Nat×List B8×List Int),((x2.1:Int)+1=x4.1/\x2.2.1++[S.jN x2.2.2]=x4.2.1/\[]=x4.2.2)/\S.k8 (S.decode b) x4.1 x4.2.1 x4.2.2/\vA (S.len (S.decode b)) x4.1 (S.ag (S.len (S.decode b)) x2.1))) (b6 (x2.1+1)) (∃(x5:Nat×List B8×List Int),((x2.1:Int)+1=x5.1/\x2.2.1=x5.2.1/\x2.2.2=x5.2.2)/\S.k8 (S.decode b) x5.1 x5.2.1 x5.2.2/\vA (S.len (S.decode b)) x5.1 (S.ag (S.len (S.decode b)) x2.1))))) (fX (gF (length x2.2.2)) (S.okC x2.2.2) (KU x2.2.1 [S.jN x2.2.2]/\x2.2.1++[S.jN x2.2.2]=S.bM b) (x2.2.1=S.bM b))):=by
 refine aE ?_;have lI:b.length<=1099511627776:=hp;with_reducible and_intros
 omega
 . refine⟨((nat_lit 0:Nat),(([]),([]))),?_⟩;grind[S.aAK]
 intro x1 h2;refine V.dI (λh3=>?_) λde=>?_
 . with_reducible and_intros
   iterate 3 omega
   trivial;iterate 2 grind
   . intro h6;try simp only [V.IG] at h6
     with_reducible and_intros
     . (have hq:=S.r6 h2 lI;grind)
     omega
     . (have hq:=S.r6 h2 lI;omega)
     refine⟨((Prod.fst x1+nat_lit 1),((Prod.fst (Prod.snd x1)),(Prod.snd (Prod.snd x1)++[getD (S.decode b) (toNat (↑(Prod.fst x1):Int)) (0:Int)]))),?_⟩;grind[S.agL,S.akD,S.r6,S.ag,S.len]
   intro h7;try simp only [V.ajY] at h7
   refine V.dI (λh8=>?_) λh9=>?_
   . with_reducible and_intros
     iterate 2
      . (have hq:=S.r6 h2 lI;grind)
     omega
     . (have hq:=S.r6 h2 lI;omega)
     refine⟨((Prod.fst x1+nat_lit 1),((Prod.fst (Prod.snd x1)++[S.jN (Prod.snd (Prod.snd x1))]),([]))),?_⟩;grind[S.akC,S.Xi,S.r6,S.ag,S.len]
   with_reducible and_intros
   omega
   . (have hq:=S.r6 h2 lI;omega)
   refine⟨((Prod.fst x1+nat_lit 1),((Prod.fst (Prod.snd x1)),(Prod.snd (Prod.snd x1)))),?_⟩;grind[S.agM,S.Xi,S.r6,S.ag,S.len]
 refine⟨?_,?_⟩
 . intro fC;with_reducible and_intros
   . (have hq:=S.r6 h2 lI;grind)
   . (have hq:=S.r6 h2 lI;simp;omega)
   grind[S.agN]
 grind[df,S.agO]
def aDg(s:B8)(hp:S.small s):S.small s/\fX (decide ((length (S.bM s):Int)=1)) ((0:Int)<=0/\(0:Int)<length (S.bM s)) (Ds 0 (length (S.bM s))) True/\Ce (decide ((length (S.bM s):Int)=1)) (nb (S.bM s) 0) s=S.isTerm s:=by
 refine aE ?_;grind[S.agP]
def aDh(s:B8):Bool.not (decide (s=s))=false:=by
 grind
def aDi(a b:B8):sA (kB false (kB false (0=S.lL a b) (-1=S.lL a b)) (kB false (1=S.lL a b) (kB (Op.bytesLess a b) (-1=S.lL a b) (kB (Bool.not (Op.bytesLess a b||decide (a=b))) (1=S.lL a b) (0=S.lL a b))))):=by
 refine aE ?_;grind[S.lL,S.eS,S.pd,S.CV,nt,nf]
def aDj(a b:B8):gk (bR (S.lL a b)=decide (a=b)):=by
 refine aE ?_;grind[S.aqk]
def aDk(l:List B8)(hp:S.small l):kB (decide ((sT l:Int)<2)) (l=S.bW l) ((∃(x1:Nat),(1:Int)=x1/\S.ot l x1)/\(∀(x2:Nat),S.ot l x2->oI (decide ((x2:Int)<sT l)) 0 x2 (sT l) (nP x2<sT l/\qJ (x2-1) 0 (sT l) (toNat (x2-1)<sT l/\gk (gl (decide (lG l (nP x2)=lG l (toNat (x2-1)))) (qM x2 (sT l)) (∃(x3:Nat×Nat×List B8×Nat),((x2:Int)=x3.1/\(1:Int)=x3.2.1/\l=x3.2.2.1)/\S.jF l x3.2.2.2 x3.1 x3.2.1 x3.2.2.1/\(x2:Int)=x3.2.2.2) (∀(x4:Nat×Nat×List B8×Nat),S.jF l x4.2.2.2 x4.1 x4.2.1 x4.2.2.1/\(x2:Int)=x4.2.2.2->eI (decide ((x4.2.1:Int)<((sT l-nP x2:Nat):Int))) (cK 0 x4.2.1 ((sT l-nP x2:Nat):Int)) (nP x2+toNat x4.2.1<vk x4/\qJ (x4.2.1-1) 0 ((sT l-nP x2:Nat):Int) (nP x2+toNat (x4.2.1-1)<vk x4/\mv (oI (z7 (lG x4.2.2.1 (nP x2+toNat x4.2.1)) (lG x4.2.2.1 (nP x2+toNat (x4.2.1-1)))) 0 x4.2.1 ((sT l-nP x2:Nat):Int) (nP x2+toNat x4.2.1<vk x4/\cK 0 x4.1 (vk x4)/\xy x4<vk x4/\b6 (x4.1+1)) True) (b6 (x4.2.1+1)/\(∃(x5:Nat×Nat×List B8×Nat),((bif z7 (lG x4.2.2.1 (nP x2+toNat x4.2.1)) (lG x4.2.2.1 (nP x2+toNat (x4.2.1-1))) then(x4.1:Int)+1 else(x4.1:Int))=x5.1/\(x4.2.1:Int)+1=x5.2.1/\(bif z7 (lG x4.2.2.1 (nP x2+toNat x4.2.1)) (lG x4.2.2.1 (nP x2+toNat (x4.2.1-1))) then List.set x4.2.2.1 (xy x4) (lG x4.2.2.1 (nP x2+toNat x4.2.1)) else x4.2.2.1)=x5.2.2.1)/\(S.jF l x5.2.2.2 x5.1 x5.2.1 x5.2.2.1/\(x2:Int)=x5.2.2.2)/\o8 (S.len l) x5.2.1 x4.2.1)))) (qM x4.1 (vk x4)) (xy x4+(vk x4-xy x4)<=vk x4) (gR x4.1 (bu (Ĝ x4)) (take (xy x4) (Ĝ x4)=S.bW l))) (qK x2) (∃(x6:Nat),ri x2 x6 (S.ot l x6) (S.len l))))) (l=S.bW l))):=by
 refine aE ?_;have lI:l.length<=1099511627776:=hp;refine V.dI (λh1=>?_) λh2=>?_
 . exact S.N7 h1
 refine⟨?_,?_⟩
 . grind[S.akF]
 intro x3 h4;refine⟨?_,?_⟩
 . intro h5;try simp only [dt] at h5
   with_reducible and_intros
   iterate 5 omega
   . have:=h4.1;omega
   iterate 2 omega
   trivial
   . intro h6;try simp only [dt,tn] at h6
     with_reducible and_intros
     iterate 2 omega
     . refine⟨((x3),((nat_lit 1:Nat),((l),(x3)))),?_⟩;grind[S.abn]
     intro x7 h8;refine⟨?_,?_⟩
     . intro h9;try simp at h9
       with_reducible and_intros
       iterate 2 omega
       . have q1:=h8.1.1;have q2:=h8.1.2.1;have q3:=h8.1.2.2.2.1;have q4:=h8.1.2.2.2.2.1;have q5:=h8.2;omega
       iterate 2 omega
       . have q1:=h8.1.1;have q2:=h8.1.2.1;have q3:=h8.1.2.2.2.1;have q4:=h8.1.2.2.2.2.1;have q5:=h8.2;omega
       omega
       . have q1:=h8.1.1;have q2:=h8.1.2.1;have q3:=h8.1.2.2.2.1;have q4:=h8.1.2.2.2.2.1;have q5:=h8.2;omega
       trivial
       . intro de;with_reducible and_intros
         iterate 2 omega
         . have q1:=h8.1.1;have q2:=h8.1.2.1;have q3:=h8.1.2.2.2.1;have q4:=h8.1.2.2.2.2.1;have q5:=h8.2;omega
         omega
         iterate 2
          . have q1:=h8.1.1;have q2:=h8.1.2.1;have q3:=h8.1.2.2.2.1;have q4:=h8.1.2.2.2.2.1;have q5:=h8.2;omega
         omega;have q1:=h8.1.1;have q2:=h8.1.2.1;have q3:=h8.1.2.2.2.1;have q4:=h8.1.2.2.2.2.1;have q5:=h8.2;omega
       . intro fC;trivial
       iterate 2 omega
       refine⟨((toNat (bif !Decidable.decide (getD (Prod.fst (Prod.snd (Prod.snd x7))) (toNat (↑x3:Int)+toNat (↑(Prod.fst (Prod.snd x7)):Int)) []=getD (Prod.fst (Prod.snd (Prod.snd x7))) (toNat (↑x3:Int)+toNat ((↑(Prod.fst (Prod.snd x7)):Int)-(1:Int))) []) then(↑(Prod.fst x7):Int)+(1:Int) else(↑(Prod.fst x7):Int))),((Prod.fst (Prod.snd x7)+nat_lit 1),((bif !Decidable.decide (getD (Prod.fst (Prod.snd (Prod.snd x7))) (toNat (↑x3:Int)+toNat (↑(Prod.fst (Prod.snd x7)):Int)) []=getD (Prod.fst (Prod.snd (Prod.snd x7))) (toNat (↑x3:Int)+toNat ((↑(Prod.fst (Prod.snd x7)):Int)-(1:Int))) []) then List.set (Prod.fst (Prod.snd (Prod.snd x7))) (toNat (↑(Prod.fst x7):Int)) (getD (Prod.fst (Prod.snd (Prod.snd x7))) (toNat (↑x3:Int)+toNat (↑(Prod.fst (Prod.snd x7)):Int)) []) else Prod.fst (Prod.snd (Prod.snd x7))),(x3)))),?_⟩;try dsimp only
       with_reducible and_intros
       . generalize (!decide (getD x7.2.2.1 (toNat (x3:Int)+toNat (x7.2.1:Int)) []=getD x7.2.2.1 (toNat (x3:Int)+toNat ((x7.2.1:Int)-1)) []))=c;cases c<;>simp only [L!,O!]<;>omega
       omega;trivial
       . have q1:=h8.1.1;have e3:x7.2.2.2=x3:=by have:=h8.2;omega
         have hi:=h8.1;rw [e3] at hi;have e1:toNat (x3:Int)+toNat (x7.2.1:Int)=x3+x7.2.1:=by omega
         have e2:toNat (x3:Int)+toNat ((x7.2.1:Int)-1)=x3+x7.2.1-1:=by omega
         rw [e1,e2];by_cases hd:getD x7.2.2.1 (x3+x7.2.1) []=getD x7.2.2.1 (x3+x7.2.1-1) []
         . rw [K? hd];exact S.N8 hi w! hd
         rw [Y? hd];exact S.R3 hi w! hd
       omega;simp only [S.ag,S.len];omega
     intro gY;with_reducible and_intros
     omega
     iterate 2
      . have q1:=h8.1.2.1;have q2:=h8.1.2.2.2.1;have q3:=h8.1.2.2.2.2.1;omega
     omega
     . have q1:=h8.1.2.1;have q2:=h8.1.2.2.2.1;have q3:=h8.1.2.2.2.2.1;simp;omega
     have q1:=h8.1.2.1;have q2:=h8.1.2.2.2.1;have q3:=h8.1.2.2.2.2.1;grind[toNat,S.KA,S.R4]
   intro jM;try simp only [df,tn] at jM
   with_reducible and_intros
   iterate 2 omega
   refine⟨(x3+nat_lit 1),?_⟩;grind[S.R1,S.ag,S.len]
 grind[df,S.Xl]
def aDl(l:List B8)(hp:S.small l):S.small l/\S.small l/\S.small (S.fm l)/\S.bW (S.fm l)=S.bW (S.fm l):=by
 grind[S.Us]
def aDm(b:B8)(hp:S.small b):S.small b/\S.small (S.bM b)/\S.bW (S.fm (S.bM b))=S.sorted (S.bM b):=by
 grind[S.Ur,S.N9]
def aDn(l:List B8)(hf:Vg.gq J.Po l):(∃(x1:Nat),(0:Int)=x1/\S.fg l x1)/\(∀(x2:Nat),S.fg l x2->oI (decide (x2<bu l)) 0 x2 (bu l) (wL (sC (nb l x2)) (S.bQ l) x2 1 (∃(x3:Nat),ri x2 x3 (S.fg l x3) (S.len l))) (true=S.bQ l)):=by
 refine aE ?_;have PN:Vg.hlen l:=hf.1.1;refine⟨?_,?_⟩
 . grind[S.abo]
 intro x1 h2;refine⟨?_,?_⟩
 . intro h3;simp only [dt] at h3;with_reducible and_intros
   iterate 2 omega
   . intro h4;simp at h4;exact S.agU h3 h4
   intro h5;simp at h5;with_reducible and_intros
   iterate 2 omega
   refine⟨(x1+nat_lit 1),?_⟩;dsimp only;with_reducible and_intros
   omega;exact S.Ð h2 h3 h5;simp [S.ag,S.len];omega
 grind[df,S.agV]
def aDo(a b:B8):gk (S.aT a b=S.aT a b):=by
 refine aE ?_;grind
def aDp(s:List B8)(hp:S.yb s):qJ (mL s-2) 0 (mL s) (toNat (mL s-2)<mL s/\qJ (mL s-2+1) 0 (mL s) (toNat (mL s-2+1)<mL s/\gk (cK 0 (mL s-2) (mL s)/\toNat (mL s-2)<mL s/\Fj (mL s-2+1) (bu (Ğ s)) (take (toNat (mL s-2+1)) (Ğ s)=S.comb s)))):=by
 refine aE ?_;have h1:=hp.1;have h2:=hp.2;with_reducible and_intros
 iterate 10 omega
 trivial;iterate 6 omega
 grind;exact S.aqn hp
def aDq(l:List B8)(hp:S.l8 l)(hf:Vg.gq J.ay5 l):(∃(x1:Nat),((0:Int)=x1/\[]=S.jr l x1)/\S.ny l x1)/\(∀(x2:Nat),S.ny l x2->oI (decide (x2<bu l)) 0 x2 (bu l) (S.aC (nb l x2)/\KU (S.jr l x2) [S.leaf (nb l x2)]/\eO x2 (∃(x3:Nat),z8 x2 x3 (S.jr l x2++[S.leaf (nb l x2)]=S.jr l x3) (S.ny l x3) (S.len l))) (S.jr l x2=S.leaves l)):=by
 refine aE ?_;have PN:Vg.hlen l:=hf.1.1;clear hf;have h1:=hp.1;refine⟨?_,?_⟩
 . refine⟨(nat_lit 0:Nat),?_⟩;try dsimp only
   with_reducible and_intros
   omega;rfl;grind[S.ny,S.ag,S.len]
 intro x1 h2;refine⟨?_,?_⟩
 . intro h3;try simp only [dt] at h3
   with_reducible and_intros
   iterate 2 omega
   exact S.Xo hp v!
   . have:=S.QQ l x1;simp only [lc,ln];omega
   iterate 2 omega
   refine⟨(x1+nat_lit 1),?_⟩;try dsimp only
   with_reducible and_intros
   omega;exact S.Un v!
   . simp only [S.ny,S.ag,S.len] at *;omega
   simp only [S.ny,S.ag,S.len] at *;omega
 grind[df,S.Xn]
def aDr(l:List B8)(hp:S.nC l):dH (bR (bu l)) (S.small oH) (S.sum oH=S.root l) (∃(x1:Nat×List B8),((0:Int)=x1.1/\[]=x1.2)/\S.qu l x1.1 x1.2) (∀(x2:Nat×List B8),S.qu l x2.1 x2.2->gl (decide (x2.1<bu l)) (cK 0 x2.1 (bu l)) (KU x2.2 [nb l x2.1]) ((∃(x3:Nat×Nat×List B8×Nat),((x2.1:Int)=x3.2.1/\x2.2++[nb l x2.1]=x3.2.2.1)/\S.pe l x3.2.2.2 x3.1 x3.2.1 x3.2.2.1/\(x2.1:Int)=x3.2.2.2)/\(∀(x4:Nat×Nat×List B8×Nat),S.pe l x4.2.2.2 x4.1 x4.2.1 x4.2.2.1/\(x2.1:Int)=x4.2.2.2->(0:Int)<=x4.2.1/\(0:Int)<=1/\gl (decide (Vg.aM x4.2.1 1=1)) (S.yb x4.2.2.1) (vj 1) (∃(x5:Nat×Nat×List B8×Nat),(x4.2.1/gE 2 1=x5.2.1/\S.comb x4.2.2.1=x5.2.2.1)/\(S.pe l x5.2.2.2 x5.1 x5.2.1 x5.2.2.1/\(x2.1:Int)=x5.2.2.2)/\x5.2.1<x4.2.1) (b6 (x2.1+1)) (∃(x6:Nat×List B8),((x2.1:Int)+1=x6.1/\x4.2.2.1=x6.2)/\S.qu l x6.1 x6.2/\o8 (S.len l) x6.1 x2.1))) (∃(x7:List B8),x2.2=x7/\S.qv l x7) (∀(x8:List B8),S.qv l x8->eI (decide ((1:Int)<length x8)) (S.yb x8) (∃(x9:List B8),S.comb x8=x9/\S.qv l x9/\S.len x9<S.len x8) (rj (length x8)) (Ds 0 (length x8)) (nb x8 0=S.root l))):=by
 refine aE ?_;have lI:=hp.2;refine V.dI (λh1=>?_) λh2=>?_
 . refine⟨?_,?_⟩
   . exact U! _
   exact S.agW h1
 refine⟨?_,?_⟩
 . refine⟨((nat_lit 0:Nat),([])),?_⟩;grind[S.aql]
 intro x3 h4;refine V.dI (λh5=>?_) λde=>?_
 . with_reducible and_intros
   iterate 2 omega
   . have:=S.Xp h4;simp;omega
   . refine⟨(0,x3.1,x3.2++[getD l (toNat (x3.1:Int)) []],x3.1),?_⟩;try dsimp only
     with_reducible and_intros
     omega;with_reducible rfl
     exact S.aAM h4 h5;omega
   intro x6 h7;with_reducible and_intros
   iterate 2 omega
   . intro h8;try simp at h8
     with_reducible and_intros
     exact S.akM (S.LM h7) h8 hp;iterate 2 omega
     refine⟨(x6.1+1,x6.2.1/2,S.comb x6.2.2.1,x3.1),?_⟩;try dsimp only
     with_reducible and_intros
     . simp only [show toNat 1=1 by rfl];omega
     with_reducible rfl
     exact(S.IX (S.LM h7) h8).1;omega;exact(S.IX (S.LM h7) h8).2.1
   intro h9;try simp at h9
   with_reducible and_intros
   iterate 2 omega
   refine⟨((Prod.fst x3+nat_lit 1),(Prod.fst (Prod.snd (Prod.snd x6)))),?_⟩;try dsimp only
   with_reducible and_intros
   omega;with_reducible rfl
   exact S.akH (S.LM h7) h9;simp only [S.ag,S.len];omega
 refine⟨?_,?_⟩
 . refine⟨(Prod.snd x3),?_⟩;refine⟨?_,?_⟩
   . rfl
   exact S.aAN h4 de h2
 intro x11 gY;refine⟨?_,?_⟩
 . intro jM;simp at jM;refine⟨?_,?_⟩
   . have:=S.akL gY;exact⟨w!,w!⟩
   refine⟨(S.comb x11),?_⟩;with_reducible and_intros
   rfl;exact(S.R8 gY jM).1;exact(S.R8 gY jM).2
 grind[df,S.akK]
def aDs(l:List B8)(hp:S.small l):gk (eI (Bool.not (S.bQ l)) ([]=S.zp l) (1=S.xe l) (S.nC l) (S.root l=S.zp l) (0=S.xe l)):=by
 refine aE ?_;have lI:l.length<=1099511627776:=hp;grind[nt,S.zp,S.xe,S.nC,nf]
def aDt(n:Int):kB (YG n 2 1099511627776) (0=S.split n) ((∃(x1:Nat×Int),1=x1.2/\S.jq n x1.2 x1.1)/\(∀(x2:Nat×Int),S.jq n x2.2 x2.1->b6 (2*x2.2)/\fX (decide (2*x2.2<n)) (b6 (2*x2.2)) (∃(x3:Nat×Int),2*x2.2=x3.2/\S.jq n x3.2 x3.1/\KT (n-x3.2) (n-x2.2)) (x2.2=S.split n))):=by
 refine aE ?_;refine⟨?_,?_⟩
 . grind[S.Xm]
 intro h2;simp at h2;refine⟨?_,?_⟩
 . refine⟨(0,1),?_⟩;grind[S.Kt]
 intro x3 h4;with_reducible and_intros
 iterate 2
  . (have:=S.kp h4;omega)
 . intro h5;simp at h5;with_reducible and_intros
   . (have:=S.kp h4;omega)
   omega;refine⟨(x3.1+1,2*x3.2),?_⟩;grind[S.kp,S.BE]
 grind[df,S.kp,S.D4]
def aDu(n:Int):kB (YG n 2 1099511627776) (0=S.split n) ((∃(x1:Nat×Int),1=x1.2/\S.jq n x1.2 x1.1)/\(∀(x2:Nat×Int),S.jq n x2.2 x2.1->b6 (2*x2.2)/\fX (decide (2*x2.2<n)) (b6 (x2.2*2)) (∃(x3:Nat×Int),x2.2*2=x3.2/\S.jq n x3.2 x3.1/\KT (n-x3.2) (n-x2.2)) (x2.2=S.split n))):=by
 refine aE ?_;refine⟨?_,?_⟩
 . grind[S.Xm]
 intro h2;simp at h2;refine⟨?_,?_⟩
 . refine⟨(0,1),?_⟩;grind[S.Kt]
 intro x3 h4;with_reducible and_intros
 iterate 2
  . (have:=S.kp h4;omega)
 . intro h5;simp at h5;with_reducible and_intros
   . (have:=S.kp h4;omega)
   omega;refine⟨(x3.1+1,2*x3.2),?_⟩;grind[S.kp,S.BE]
 grind[df,S.kp,S.D4]
def aDv(l:List B8)(i:Int)(hp:S.dM l):gk (dH (na (Bool.not (S.bQ l)) (HJ i 0 (decide (bu l<=i)))) ([]=S.rK l i) (1=S.BW l i) (∃(x1:List B8×Int×List B8),(l=x1.1/\i=x1.2.1/\[]=x1.2.2)/\S.gj l i x1) (∀(x2:List B8×Int×List B8),S.gj l i x2->eI (decide (1<bu x2.1)) True (fX (decide (x2.2.1<S.split (bu x2.1))) (qM (S.split (bu x2.1)) (bu x2.1)) (S.nC (drop (toNat (S.split (bu x2.1))) x2.1)/\đ (length x2.2.2+length [S.root (drop (toNat (S.split (bu x2.1))) x2.1)])/\gR (S.split (bu x2.1)) (bu x2.1) (∃(x3:List B8×Int×List B8),(take (toNat (S.split (bu x2.1))) x2.1=x3.1/\x2.2.1=x3.2.1/\x2.2.2++[S.root (drop (toNat (S.split (bu x2.1))) x2.1)]=x3.2.2)/\S.gj l i x3/\S.len x3.1<S.len x2.1)) (gR (S.split (bu x2.1)) (bu x2.1) (S.nC (take (toNat (S.split (bu x2.1))) x2.1)/\đ (length x2.2.2+length [S.root (take (toNat (S.split (bu x2.1))) x2.1)])/\gR (S.split (bu x2.1)) (bu x2.1) (b6 (x2.2.1-S.split (bu x2.1))/\(∃(x4:List B8×Int×List B8),(drop (toNat (S.split (bu x2.1))) x2.1=x4.1/\x2.2.1-S.split (bu x2.1)=x4.2.1/\x2.2.2++[S.root (take (toNat (S.split (bu x2.1))) x2.1)]=x4.2.2)/\S.gj l i x4/\S.len x4.1<S.len x2.1))))) (S.small x2.2.2) (S.OH x2.2.2=S.rK l i) (0=S.BW l i))):=by
 refine aE ?_;have lI:l.length<=1099511627776:=hp;with_reducible and_intros
 trivial
 . intro h1;grind[S.aA0]
 intro h2;refine⟨?_,?_⟩
 . refine⟨((l),((i),([]))),?_⟩;grind[S.ahx]
 intro x3 h4;refine⟨?_,?_⟩
 . intro h5;try simp only [dt] at h5
   with_reducible and_intros
   trivial
   . intro h6;with_reducible and_intros
     iterate 2
      . (have q:=S.Hp lI h4 h5;omega)
     iterate 2
      . (have q:=S.Hp lI h4 h5;grind)
     iterate 2
      . (have q:=S.Hp lI h4 h5;omega)
     refine⟨((take (toNat (S.split (↑(length (Prod.fst x3)):Int))) (Prod.fst x3)),((Prod.fst (Prod.snd x3)),(Prod.snd (Prod.snd x3)++[S.root (drop (toNat (S.split (↑(length (Prod.fst x3)):Int))) (Prod.fst x3))]))),?_⟩;try dsimp only
     with_reducible and_intros
     iterate 3 rfl
     grind[S.aA1]
     . (have q:=S.Hp lI h4 h5;omega)
   intro h7;try simp only [df] at h7
   with_reducible and_intros
   iterate 2
    . (have q:=S.Hp lI h4 h5;omega)
   . (have q:=S.Hp lI h4 h5;grind)
   . (have q:=S.Hp lI h4 h5;exact q.2.2.2.1 _)
   iterate 4
    . (have q:=S.Hp lI h4 h5;omega)
   refine⟨((drop (toNat (S.split (↑(length (Prod.fst x3)):Int))) (Prod.fst x3)),((Prod.fst (Prod.snd x3)-S.split (↑(length (Prod.fst x3)):Int)),(Prod.snd (Prod.snd x3)++[S.root (take (toNat (S.split (↑(length (Prod.fst x3)):Int))) (Prod.fst x3))]))),?_⟩;try dsimp only
   with_reducible and_intros
   iterate 3 with_reducible rfl
   exact S.aA2 lI h4 h5 h7
   . (have q:=S.Hp lI h4 h5;omega)
 grind[df,S.aA3,S.aqT]
def aDw(l:List Int)(hf:Vg.gq J.Pn l):(∃(x1:Nat),((0:Int)=x1/\-1=S.gi l x1)/\S.mo l x1)/\(∀(x2:Nat),S.mo l x2->oI (decide (x2<dj l)) 0 x2 (dj l) (wL (na (decide (lH l x2<=S.gi l x2)) (decide (1000<=lH l x2))) (S.bK l) x2 1 (∃(x3:Nat),((x2:Int)+1=x3/\lH l x2=S.gi l x3)/\S.mo l x3/\o8 (S.len l) x3 x2)) (true=S.bK l)):=by
 refine aE ?_;have PN:Vg.hlen l:=hf.1.1;refine⟨?_,?_⟩
 . grind[S.yd,S.aqo]
 intro x1 h2;refine⟨?_,?_⟩
 . intro h3;simp only [dt] at h3;with_reducible and_intros
   iterate 2 omega
   . intro h4;simp at h4;exact S.agX h3 h4
   intro h5;simp only [V.ajY,df,tn] at h5;with_reducible and_intros
   iterate 2 omega
   refine⟨(x1+nat_lit 1),?_⟩;dsimp only;with_reducible and_intros
   omega;rw [S.lM,tn];exact S.Ñ h2 h3 h5;simp [S.ag,S.len];omega
 grind[df,S.agY]
def aDx(l:List Int)(hf:Vg.gq J.Pn l):gk (eI (Bool.not (S.bK l)) (1=S.qx l) ([]=S.qw l) (vB oH) (∃(x1:Nat),((0:Int)=x1/\-1=S.gi l x1/\S.mn oH (length l)=S.jb l x1)/\x1<=length l) (∀(x2:Nat),x2<=length l->dH (decide ((x2:Int)<length l)) (cK 0 x2 (length l)) (b6 (lH l x2-S.gi l x2)/\b6 (lH l x2-S.gi l x2-1)/\vB oH/\rh (S.jb l x2) (S.mn oH (lH l x2-S.gi l x2-1))/\eO x2 (∃(x3:Nat),((x2:Int)+1=x3/\lH l x2=S.gi l x3/\S.jb l x2++S.mn oH (lH l x2-S.gi l x2-1)=S.jb l x3)/\x3<=length l/\o8 (S.len l) x3 x2)) (0=S.qx l) (S.jb l x2=S.qw l))):=by
 refine aE ?_;have PN:Vg.hlen l:=hf.1.1;clear hf;with_reducible and_intros
 trivial;grind[nt,S.qx,S.qw];intro h2;try simp only [nf] at h2
 with_reducible and_intros
 grind;grind[S.yd,S.ou,S.Sb,S.Sa];intro x3 h4;refine⟨?_,?_⟩
 . intro h5;try simp only [dt] at h5
   with_reducible and_intros
   iterate 2 omega
   iterate 4
    . have:=S.Sc h2 h5;omega
   exact U! _
   . have:=(S.QR h2 h5 (getD l (toNat (x3:Int)) 0-S.gi l x3-1)).1;omega
   iterate 2 omega
   refine⟨(x3+nat_lit 1),?_⟩;try dsimp only
   with_reducible and_intros
   omega;rw [S.lM,tn];exact S.Od h2 h5;omega;simp only [S.ag,S.len];omega
 grind[df,S.qx,S.agZ]
def aDy(l:List Int):gk (eI (cx (S.qx l)) ([]=S.uH l) (S.qx l=S.qx l) (S.aC (S.qw l)) (S.mF 2 (S.qw l)=S.uH l) (0=S.qx l)):=by
 refine aE ?_;with_reducible and_intros
 trivial;grind[nt,df,S.bK,absurd,S.qx,S.uH];intro h2;simp at h2;with_reducible and_intros
 . have hq:S.bK l=true:=by
    grind[S.bK,S.qx,absurd]
   have hl:=S.Oe hq;simp [S.qw,S.uH,hq,Q?,S.aC];omega
 . have hq:S.bK l=true:=by
    grind[S.bK,S.qx,absurd]
   simp_all[S.Oe,S.qw,S.uH,Q?,S.aC]
 omega
def aDz(n:Int)(p q:Bool)(s1 s2:Int):HK s1 n (decide (n<s2))=S.xf n s1 s2/\s1=s1/\s2=s2:=by
 refine aE ?_;grind[S.xf]
def aDA(a b:List Int)(s1 s2:Int)(hp:b.length=0):sA ((∃(x1:List Int×List Int),(HO a x1.1/\HO b S.sa/\[]=x1.2/\s1=s1/\s2=s2)/\S.nE a s1 s2 x1.1 x1.2)/\(∀(x2:List Int×List Int),S.nE a s1 s2 x2.1 x2.2->eI (na (gF (dj x2.1)) (decide (0<HQ))) (HU (gF (dj x2.1)) (bR HQ) (dj x2.1) HQ) (HU (gF HQ) (bR (dj x2.1)) HQ (dj x2.1)/\HR (Fx x2) 0 (dj x2.1) 1/\HR (Fw x2) 0 HQ 1/\gk (fX (S.xf (Eg (Fw x2) (SQ 0) (Fx x2) (fA x2.1) 0) s1 s2) (HS x2.2 [Eg (Fw x2) (SQ 0) (Fx x2) (fA x2.1) 0]) (∃(x3:List Int×List Int),(sB (Fx x2) 1 x2.1=x3.1/\sB (Fw x2) 1 S.sa=S.sa/\x2.2++[Eg (Fw x2) (SQ 0) (Fx x2) (fA x2.1) 0]=x3.2/\s1=s1/\s2=s2)/\S.nE a s1 s2 x3.1 x3.2/\S.len x3.1<S.len x2.1) (∃(x4:List Int×List Int),(sB (Fx x2) 1 x2.1=x4.1/\sB (Fw x2) 1 S.sa=S.sa/\x2.2=x4.2/\s1=s1/\s2=s2)/\S.nE a s1 s2 x4.1 x4.2/\S.len x4.1<S.len x2.1))) (s1=s1) (s2=s2) (x2.2=S.Oc a s1 s2))):=by
 refine aE ?_;have hb:b=[]:=V! hp;subst hb;refine⟨trivial,trivial,?_,?_⟩
 . refine⟨(S.vv a,[]),⟨?_,?_,rfl,rfl,rfl⟩,S.aqp a s1 s2⟩
   . grind[S.vv,S.bK]
   rfl
 rintro⟨r,out⟩ h;have hl:=h.2;cases r with
 |nil=>grind[S.sa,S.ag1]
 |cons n r=>
  simp [S.sa];refine⟨w!,λhn=>⟨?_,?_⟩,λhn=>?_⟩
  . grind
  . exact⟨r,out++[n],⟨rfl,rfl⟩,S.ag0 h hn,by simp [S.len]⟩
  exact⟨r,out,⟨rfl,rfl⟩,S.akO h hn,by simp [S.len]⟩
def aDB(l:List Int)(s1 s2:Int):length (Vg.ur Int)=0/\S.Oc l s1 s2=S.Oc l s1 s2:=by
 grind
def aDC(a b:List Int)(hf:Vg.gq J.Pt (a,b)):wG (mZ (dj a) (dj b)) (S.sH a b) ((∃(x1:Nat),(0:Int)=x1/\S.wb a b x1)/\(∀(x2:Nat),S.wb a b x2->oI (decide (x2<dj a)) 0 x2 (dj a) (cK 0 x2 (dj b)/\wL (mZ (getD a (toNat x2) 0) (getD b (toNat x2) 0)) (S.sH a b) x2 1 (∃(x3:Nat),ri x2 x3 (S.wb a b x3) (S.len a))) (true=S.sH a b))):=by
 refine aE ?_;have azs:Vg.hlen a:=hf.1.1;refine⟨?_,?_⟩
 . grind[nt,df,S.ag3]
 intro h2;simp at h2;refine⟨?_,?_⟩
 . grind[S.aqq]
 intro x3 h4;refine⟨?_,?_⟩
 . intro h5;simp only [dt] at h5;with_reducible and_intros
   iterate 4 omega
   . intro h6;simp at h6;exact S.ag2 h6
   intro h7;simp at h7;with_reducible and_intros
   iterate 2 omega
   refine⟨(x3+nat_lit 1),?_⟩;dsimp only;with_reducible and_intros
   omega;exact S.Ò h4 h5 h7;simp [S.ag,S.len];omega
 grind[df,S.ag4]
def aDD(d:List (B8×List Int))(hp:S.bn d):(∃(x1:Nat),(0:Int)=x1/\S.Ku d x1)/\(∀(x2:Nat),S.Ku d x2->oI (decide ((x2:Int)<length d)) 0 x2 (length d) (fX (gF x2) (b6 (x2-1)) (cK 0 (x2-1) (length d)) True/\wG (oG (gF x2) (acG (qL d x2).1 (qL d (x2-1)).1)) (S.bg d) (sy (bR (dj (qL d x2).2)) (gk (sy (Bool.not (S.bK (qL d x2).2)) (S.small (qL d x2).1)))/\wL (na (bR (dj (qL d x2).2)) (wH (Bool.not (S.bK (qL d x2).2)) (S.isTerm (qL d x2).1))) (S.bg d) x2 1 (∃(x3:Nat),ri x2 x3 (S.Ku d x3) (S.len d)))) (true=S.bg d)):=by
 refine aE ?_;have lI:=hp.1;refine⟨?_,?_⟩
 . grind[S.aGO]
 intro x1 h2;refine⟨?_,?_⟩
 . intro h3;simp only [dt] at h3;with_reducible and_intros
   iterate 2 omega
   iterate 2 grind
   . intro h6;simp only [V.abe,dt] at h6;refine S.abq h3 ((S.Of _ _).2 (.inl ⟨w!,?_⟩));have e:toNat ((x1:Int)-1)=x1-1:=by omega
     have h62:=h6.2;rw [e] at h62;exact h62
   intro h7;simp only [V.ze,df] at h7;with_reducible and_intros
   grind
   . intro h9;with_reducible and_intros
     trivial;grind;intro fC;exact S.ag5 hp
   . intro gY;simp only [V.IG,dt,tn,nt] at gY;exact S.abq h3 ((S.Of _ _).2 (.inr (gY.imp (λq=>by grind[S.jS]) id)))
   intro jM;simp at jM;with_reducible and_intros
   iterate 2 omega
   refine⟨(x1+nat_lit 1),?_⟩;dsimp only;with_reducible and_intros
   omega
   . refine S.akP h2 h3 ((S.uJ _ _).2 ⟨?_,?_,jM.2.1,jM.2.2⟩);rotate_left
     . grind[S.jS]
     rcases h7 with h7|h7
     . omega
     right;have e:toNat ((x1:Int)-1)=x1-1:=by omega
     rw [e] at h7;exact h7
   grind[S.ag,S.len]
 grind[df,S.aqr]
def arS(l1 l2 l3:B8):eI (HJ 64 (cE l1) (HJ 64 (cE l2) (mZ (length l3) 32))) ([]=S.fW l1 l2 l3) (1=S.kM l1 l2 l3) (S.oV oH l1) (S.oV ([]++S.text l1) l2) (Eh ([]++S.text l1++S.text l2) (length l3)/\[]++S.text l1++S.text l2++l3=S.fW l1 l2 l3/\0=S.kM l1 l2 l3):=by
 refine aE ?_;refine⟨?_,?_⟩
 . simp_all[V.IG,dt,nt,df,S.Ø,S.fW,S.kM]
 intro h2;simp only [V.ajY,df,nf,dt] at h2;with_reducible and_intros
 exact S.Kv (U! _) w!
 . have t1:=S.IY (s:=l1);exact S.Kv (by rw [k?];omega) w!
 grind[S.BN,S.wc,S.IY,List.length_append,ln]
 . have hq:=S.BN h2;simp only [S.fW,hq,Q?];rfl
 simp_all[S.BN,S.wc,S.IY,S.kM,Q?]
def arT(b:B8)(hp:b.length<=140737488355328):ir b/\ir (S.an b 0 0 64).1.1/\ir (Jv b).1.1/\gk (eI (cx (S.done (Cm b).1.1 (Cm b).1.2.1 (Cm b).1.2.2)) ([]=(S.bj b).1.1) ([]=(S.bj b).1.2.1/\[]=(S.bj b).1.2.2/\S.done (Cm b).1.1 (Cm b).1.2.1 (Cm b).1.2.2=(S.bj b).2) ((S.an b 0 0 64).2=(S.bj b).1.1) ((Jv b).2=(S.bj b).1.2.1) ((Cm b).2=(S.bj b).1.2.2/\0=(S.bj b).2)):=by
 refine aE ?_;refine⟨hp,?_,?_,trivial,λh=>?_,λh=>?_⟩
 . grind[S.BM]
 . grind[S.BM]
 . have h':(!decide (S.done (S.uI b).1.1 (S.uI b).1.2.1 (S.uI b).1.2.2=0))=true:=h
   have e:S.bj b=(([],[],[]),S.done (S.uI b).1.1 (S.uI b).1.2.1 (S.uI b).1.2.2):=by
    simp_all[S.bj,J!,K?]
   rw [e];exact⟨rfl,rfl,rfl,rfl⟩
 have h':(!decide (S.done (S.uI b).1.1 (S.uI b).1.2.1 (S.uI b).1.2.2=0))=false:=h
 have e:S.bj b=(((S.Ó b).2,(S.Up b).2,(S.uI b).2),0):=by
  grind[S.bj]
 rw [e];exact⟨rfl,rfl,rfl,rfl⟩
def arU(d:List (B8×List Int))(hp:S.bn d):S.bn d/\eI (Bool.not (S.bg d)) (1=S.dE d) ([]=S.bU d) (b6 (sP d+1)) (∃(x1:Nat),((0:Int)=x1/\[]=S.iV d x1)/\x1<=sP d+1) (∀(x2:Nat),x2<=sP d+1->gl (decide ((x2:Int)<sP d+1)) (fX (gF x2) (b6 (x2-1)) (cK 0 (x2-1) (sP d)/\b6 (x2-1)/\cK 0 (x2-1) (sP d)) True) (fX (decide ((x2:Int)<sP d)) ((0:Int)<=x2) ((x2:Int)<sP d) True) (sA (Pz (length (S.iV d x2)+length (Ė d x2))/\eO x2 (∃(x3:Nat),z8 x2 x3 (S.iV d x2++Ė d x2=S.iV d x3) (x3<=sP d+1) (S.len d+1)))) (0=S.dE d) (S.iV d x2=S.bU d)):=by
 refine aE ?_;have lI:=hp.1;with_reducible and_intros
 omega;grind[nt,S.dE,S.bU];intro h2;simp at h2;with_reducible and_intros
 iterate 2 omega
 . refine⟨(nat_lit 0:Nat),?_⟩;dsimp only;with_reducible and_intros
   omega;rfl;omega
 intro x3 h4;refine V.dI (λh5=>?_) λde=>?_
 . with_reducible and_intros
   . intro h6;simp at h6;with_reducible and_intros
     iterate 8 omega
   . intro h7;trivial
   . intro h8;try simp at h8
     refine⟨?_,?_⟩
     . omega
     omega
   . intro h9;trivial
   iterate 2 trivial
   . rw [S.Oh];simp;omega
   iterate 2 omega
   refine⟨(x3+nat_lit 1),?_⟩;try dsimp only
   with_reducible and_intros
   omega;rw [S.aqu h2 w!,S.Xq];omega;simp [S.ag,S.len];omega
 refine⟨?_,?_⟩
 . simp only [S.dE,h2];rfl
 simp [S.bU,h2,Q?];rw [show x3=d.length+1 by omega];rfl
def arV(d:List (B8×List Int))(hp:S.bn d):S.bn d/\eI (cx (S.dE d)) ([]=S.BI d) (S.dE d=S.dE d) (S.l8 (S.bU d)) (S.small (S.leaves (S.bU d))) (S.zp (S.leaves (S.bU d))=S.BI d/\S.xe (S.leaves (S.bU d))=S.dE d):=by
 refine aE ?_;with_reducible and_intros
 omega;grind[nt,df,S.BI,S.aGP];intro h2;simp at h2;with_reducible and_intros
 . have hr:=S.Hf h2;have hq:=S.pz hp hr;simp_all[S.bU,S.ie,Q?]
 . have hr:=S.Hf h2;have hq:=S.pz hp hr;have e:S.bU d=S.ie d:=by simp_all[S.bU,Q?]
   rw [e];exact hq.2.2
 . have hr:=S.Hf h2;have hq:=S.pz hp hr;have e:S.bU d=S.ie d:=by simp_all[S.bU,Q?]
   rw [e];simp [S.BI,S.zp,hr,hq.2.1,Q?];rfl
 have hr:=S.Hf h2;have hq:=S.pz hp hr;have e:S.bU d=S.ie d:=by simp_all[S.bU,Q?]
 rw [e];simp [S.dE,S.xe,hr,hq.2.1,Q?]
def arW(d:List (B8×List Int))(t:B8)(hp:S.bn d):S.bn d/\dH (Bool.not (S.bg d)) (-1=S.bt d t) (false=S.k9 d t) (∃(x1:Nat),((0:Int)=x1/\-1=S.ek d t x1)/\x1<=length d) (∀(x2:Nat),x2<=length d->dH (decide ((x2:Int)<length d)) (cK 0 x2 (length d)) (eO x2 (∃(x3:Nat),((x2:Int)+1=x3/\(bif acG (qL d x2).1 t then(x2:Int) else S.ek d t x2)=S.ek d t x3)/\x3<=length d/\o8 (S.len d) x3 x2)) (fX (sO (S.ek d t x2)) (0<=S.ek d t x2) (S.ek d t x2<length d) True) ((bif sO (S.ek d t x2) then S.ek d t x2 else S.ek d t x2)=S.bt d t/\Ce (sO (S.ek d t x2)) (qL d (S.ek d t x2)).1 t=S.k9 d t)):=by
 refine aE ?_;have lI:=hp.1;with_reducible and_intros
 omega
 . intro h1;simp at h1;refine⟨?_,?_⟩
   . exact(S.Sd h1).1
   exact(S.Sd h1).2
 intro h2;simp at h2;refine⟨?_,?_⟩
 . refine⟨(nat_lit 0:Nat),?_⟩;dsimp only;with_reducible and_intros
   omega;rfl;omega
 intro x3 h4;refine V.dI (λh5=>?_) λh6=>?_
 . with_reducible and_intros
   iterate 4 omega
   refine⟨(x3+nat_lit 1),?_⟩;dsimp only;with_reducible and_intros
   omega;exact S.aqv d t x3;omega;simp [S.ag,S.len];omega
 with_reducible and_intros
 . intro h7;simp at h7;refine⟨?_,?_⟩
   . omega
   have:=(S.He (d:=d) (t:=t) x3).2;omega
 . intro h8;trivial
 . rw [show x3=d.length by omega,S.akQ h2];cases decide (0<=S.bt d t)<;>rfl
 rw [show x3=d.length by omega];exact S.akR h2
def arX(d:List (B8×List Int))(t:B8)(hp:S.bn d):S.bn d/\kB (Bool.not (S.k9 d t)) ([]=S.qz d t) (cK 0 (S.bt d t) (length d)/\S.small (qL d (S.bt d t)).2/\(qL d (S.bt d t)).2=S.qz d t):=by
 refine aE ?_;grind[nt,S.aqz,nf,S.LN,S.aqA]
def arY(s1 s2:Int):Ĕ 0 s1 s2:=by
 refine aE ?_;grind[S.jO,S.uD]
def arZ(s1 s2:Int)(s3:List (B8×List Int))(hp:S.bn s3)(hf:Vg.gq J.amU (s1,s2,s3)):mv (sy (Bool.not (S.jO s1 s2)) (S.bn s3)) (wG (wH (Bool.not (S.jO s1 s2)) (S.bg s3)) (S.e6 s1 s2 s3) ((∃(x1:Nat),(0:Int)=x1/\S.we s1 s2 s3 x1)/\(∀(x2:Nat),S.we s1 s2 s3 x2->oI (decide ((x2:Int)<length s3)) 0 x2 (length s3) (gk (wL (mZ (dj (S.Oc (qL s3 x2).2 s1 s2)) (dj (qL s3 x2).2)) (S.e6 s1 s2 s3) x2 1 (∃(x3:Nat),ri x2 x3 (S.we s1 s2 s3 x3) (S.len s3)))) (true=S.e6 s1 s2 s3)))):=by
 refine aE ?_;have aDE:Vg.hlen s3:=hf.2.2.1.1;with_reducible and_intros
 trivial;iterate 2 grind
 . intro h3;simp at h3;exact S.aqx h3
 intro h4;refine⟨?_,?_⟩
 . grind[S.aAQ]
 intro x5 h6;refine⟨?_,?_⟩
 . intro h7;simp only [dt] at h7;with_reducible and_intros
   iterate 2 omega
   trivial
   . intro h8;simp at h8;exact S.akV h7 (Y? h8)
   intro h9;simp at h9;with_reducible and_intros
   iterate 2 omega
   refine⟨(x5+nat_lit 1),?_⟩;dsimp only;with_reducible and_intros
   omega;exact S.ahc h6 h7 (K? h9);simp [S.ag,S.len];omega
 grind[df,S.akW]
def ar0(s1 s2:Int)(s3:List (B8×List Int))(hp:S.bn s3):S.bn s3/\dH (Bool.not (S.e6 s1 s2 s3)) (0=(S.sJ s1 s2 s3).1.1) (0=(S.sJ s1 s2 s3).1.2.1/\0=(S.sJ s1 s2 s3).1.2.2.1/\[]=(S.sJ s1 s2 s3).1.2.2.2/\1=(S.sJ s1 s2 s3).2) (S.bn s3) (dH (cx (S.dE s3)) (0=(S.sJ s1 s2 s3).1.1) (0=(S.sJ s1 s2 s3).1.2.1/\0=(S.sJ s1 s2 s3).1.2.2.1/\[]=(S.sJ s1 s2 s3).1.2.2.2/\1=(S.sJ s1 s2 s3).2) (b6 (length s3+1)) (s1=(S.sJ s1 s2 s3).1.1/\s2=(S.sJ s1 s2 s3).1.2.1/\length s3+1=(S.sJ s1 s2 s3).1.2.2.1/\S.BI s3=(S.sJ s1 s2 s3).1.2.2.2/\0=(S.sJ s1 s2 s3).2)):=by
 refine aE ?_;have lI:=hp.1;with_reducible and_intros
 omega;grind[nt,S.Ú];intro h2;with_reducible and_intros
 omega;grind[nt,df,S.Kz];grind[S.Kz]
def ar1(s1 s2 s3:Int)(s4:B8):gk (oG (S.jO s1 s2) (HK 1 s3 (HK s3 1099511627776 (decide (cE s4=32))))=S.jH s1 s2 s3 s4):=by
 refine aE ?_;grind[S.jH,S.uD]
def ar2(docs:List B8)(s1 s2:Int):gk (fX (cx (S.lD docs s1 s2).2) (0=(S.cm docs s1 s2).1.1) (0=(S.cm docs s1 s2).1.2.1/\[]=(S.cm docs s1 s2).1.2.2/\(S.lD docs s1 s2).2=(S.cm docs s1 s2).2) (dH (decide (s1=s2)) (0=(S.cm docs s1 s2).1.1) (0=(S.cm docs s1 s2).1.2.1/\[]=(S.cm docs s1 s2).1.2.2/\1=(S.cm docs s1 s2).2) (s1=(S.cm docs s1 s2).1.1) (s2=(S.cm docs s1 s2).1.2.1/\(S.lD docs s1 s2).1=(S.cm docs s1 s2).1.2.2/\0=(S.cm docs s1 s2).2))):=by
 refine aE ?_;simp_all[nt,df,S.ak0,nf,dt,S.ak2,S.ak3]
def ar3(l:List (Int×Int×Int×B8))(n:Int):wG (PF (length l)) (S.kW l n) ((∃(x1:Nat),((0:Int)=x1/\0=S.rowAt l x1)/\S.xT l x1)/\(∀(x2:Nat),S.xT l x2->oI (decide ((x2:Int)<length l)) 0 x2 (length l) (oz (Bool.not (Bool.rec false (Bool.rec false (decide ((eh l x2 0).2.2.2=(eh l x2 0).2.2.2)) (decide ((eh l x2 0).2.2.1=(eh l x2 0).2.2.1))) (Bool.rec false (decide ((eh l x2 0).2.1=(eh l x2 0).2.1)) (decide ((eh l x2 0).1=S.rowAt l x2)))))/\wL (wH (Bool.not (Bool.rec false (Bool.rec false (decide ((eh l x2 0).2.2.2=(eh l x2 0).2.2.2)) (decide ((eh l x2 0).2.2.1=(eh l x2 0).2.2.1))) (Bool.rec false (decide ((eh l x2 0).2.1=(eh l x2 0).2.1)) (decide ((eh l x2 0).1=S.rowAt l x2))))) (S.jH (eh l x2 0).1 (eh l x2 0).2.1 (eh l x2 0).2.2.1 (eh l x2 0).2.2.2)) (S.kW l n) x2 1 (∃(x3:Nat),((x2:Int)+1=x3/\(eh l x2 0).2.1=S.rowAt l x3)/\S.xT l x3/\o8 (S.len l) x3 x2)) (decide (S.rowAt l x2=n)=S.kW l n))):=by
 refine aE ?_;refine V.dI (λh1=>?_) λh2=>?_
 . exact S.ak4 h1
 refine⟨?_,?_⟩
 . grind[S.Om,S.aqy]
 intro x3 h4;refine⟨?_,?_⟩
 . intro h5;simp only [dt] at h5;with_reducible and_intros
   iterate 2 omega
   . intro h6;trivial
   . intro h7;trivial
   . intro h8;refine S.ahh h4 h5 (S.Xz ?_);simpa [S.Xx,S.sg] using h8
   intro h9;with_reducible and_intros
   iterate 2 omega
   refine⟨(x3+nat_lit 1),?_⟩;dsimp only;with_reducible and_intros
   omega;exact(S.Xy l x3).symm
   . refine S.Û h4 h5 (S.Ü ?_);simpa [S.Xx,S.sg] using h9
   simp [S.ag,S.len];omega
 grind[df,S.ahi]
def ar4(s1 s2:Int)(hf:Vg.gq J.amS (s1,s2)):Ĕ 0 s1 s2:=by
 refine aE ?_;have anp:Vg.hint s1:=hf.1;have anq:Vg.hint s2:=hf.2.1;clear hf;simp only [S.jO,S.uD]
def ar5(s1 s2 s3:Int)(s4:B8)(hf:Vg.gq J.amV (s1,s2,s3,s4)):gk (wK (S.jO s1 s2) (gF s3) (HK s3 1099511627776 (decide (cE s4=32)))=S.jH s1 s2 s3 s4):=by
 refine aE ?_;have anp:Vg.hint s1:=hf.1;have anq:Vg.hint s2:=hf.2.1;have aDE:Vg.hint s3:=hf.2.2.1;have aK3:Vg.hlen s4:=hf.2.2.2.1;clear hf;refine⟨?_,?_⟩
 . trivial
 . (simp only [S.jH,S.uD];rfl)
def ar6(l:List (Int×Int×Int×B8))(n:Int)(hf:Vg.gq J.amX (l,n)):kB (bR (rP l)) (bR n=S.kW l n) ((∃(x1:Nat),(0:Int)=x1/\S.wg l x1)/\(∀(x2:Nat),S.wg l x2->dH (decide (x2<rP l)) (cK 0 x2 (rP l)) (mv (sy (Bool.not (S.jH (eh l x2 0).1 (eh l x2 0).2.1 (eh l x2 0).2.2.1 (eh l x2 0).2.2.2)) (oI (gF x2) 0 x2 (rP l) (b6 (x2-1)/\cK 0 (x2-1) (rP l)) True)) (wL (na (Bool.not (S.jH (eh l x2 0).1 (eh l x2 0).2.1 (eh l x2 0).2.2.1 (eh l x2 0).2.2.2)) (oG (gF x2) (mZ (eh l x2 0).1 (eh l (x2-1) 0).2.1))) (S.kW l n) x2 1 (∃(x3:Nat),ri x2 x3 (S.wg l x3) (S.len l)))) (fX (decide (rP l<=64)) ((0:Int)<=0/\0<rP l) (fX (bR (getD l (toNat 0) (0,0,0,[])).1) (b6 (rP l-1)) (cK 0 (rP l-1) (rP l)) True) True) (wK (decide (rP l<=64)) (bR (getD l (toNat 0) (0,0,0,[])).1) (decide ((eh l (rP l-1) 0).2.1=n))=S.kW l n))):=by
 refine aE ?_;have PN:Vg.hlen l:=hf.1.1;have SS:Vg.hint n:=hf.2.1;clear hf;refine⟨?_,?_⟩
 . intro h1;try simp only [dt] at h1
   simp only [S.kW];rw [M! w!]
 . intro h2;try simp only [df] at h2
   refine⟨?_,?_⟩
   . refine⟨(nat_lit 0:Nat),?_⟩;try dsimp only
     refine⟨?_,?_⟩
     . first|omega|rfl|trivial|(simp only [S.ag,S.len];omega)
     . exact S.aAR h2
   . intro x3 h4;refine⟨?_,?_⟩
     . intro h5;try simp only [dt] at h5
       with_reducible and_intros
       . first|omega|rfl|trivial|(simp only [S.ag,S.len];omega)
       . first|omega|rfl|trivial|(simp only [S.ag,S.len];omega)
       trivial
       . intro h6;try simp only [nt] at h6
         trivial
       . intro h7;try simp only [nf] at h7
         refine⟨?_,?_⟩
         . intro h8;try simp only [dt] at h8
           with_reducible and_intros
           . first|omega|rfl|trivial|(simp only [S.ag,S.len];omega)
           . first|omega|rfl|trivial|(simp only [S.ag,S.len];omega)
           . first|omega|rfl|trivial|(simp only [S.ag,S.len];omega)
           . first|omega|rfl|trivial|(simp only [S.ag,S.len];omega)
           . first|omega|rfl|trivial|(simp only [S.ag,S.len];omega)
           . first|omega|rfl|trivial|(simp only [S.ag,S.len];omega)
         . intro h9;try simp only [df] at h9
           trivial
       . intro de;try simp only [V.IG,nt,V.abe,dt,df,tn] at de
         refine S.akX h5 (S.ahg ?_);rcases de with q|⟨q1,q2⟩
         . exact .inl q
         . right;rw [show toNat ((x3:Int)-1)=x3-1 by omega] at q2;exact⟨q1,q2⟩
       . intro fC;try simp only [V.ajY,nf,V.ze,df,dt,tn] at fC
         with_reducible and_intros
         . first|omega|rfl|trivial|(simp only [S.ag,S.len];omega)
         . first|omega|rfl|trivial|(simp only [S.ag,S.len];omega)
         . refine⟨(x3+nat_lit 1),?_⟩;try dsimp only
           with_reducible and_intros
           . first|omega|rfl|trivial|(simp only [S.ag,S.len];omega)
           . refine S.ahf h4 h5 (S.akZ fC.1 ?_);rcases fC.2 with q|q
             . exact .inl q
             . by_cases h0:0<(x3:Int)
               . rw [show toNat ((x3:Int)-1)=x3-1 by omega] at q;exact .inr q
               . exact .inl h0
           . first|omega|rfl|trivial|(simp only [S.ag,S.len];omega)
     . intro gY;try simp only [df] at gY
       with_reducible and_intros
       . intro jM;try simp only [dt] at jM
         with_reducible and_intros
         . first|omega|rfl|trivial|(simp only [S.ag,S.len];omega)
         . first|omega|rfl|trivial|(simp only [S.ag,S.len];omega)
         . intro jZ;try simp only [dt] at jZ
           with_reducible and_intros
           . first|omega|rfl|trivial|(simp only [S.ag,S.len];omega)
           . first|omega|rfl|trivial|(simp only [S.ag,S.len];omega)
           . first|omega|rfl|trivial|(simp only [S.ag,S.len];omega)
           . first|omega|rfl|trivial|(simp only [S.ag,S.len];omega)
         . intro Cq;try simp only [df] at Cq
           trivial
       . intro zP;try simp only [df] at zP
         trivial
       . exact S.akY h4 gY
def ar7(l:B8)(hp:S.small l):(l=[]->[]=l)/\rh oH l/\[]++l=l:=by
 refine aE ?_;with_reducible and_intros
 grind
 . simp [S.small,Vg.ur,ln] at *;omega
 rfl
def ar8(l:List (B8×List Int))(hp:S.small l):(l=[]->[]=l)/\SN (length (Vg.ur q38)+length l)/\[]++l=l:=by
 refine aE ?_;with_reducible and_intros
 grind
 . simp [S.small,Vg.ur,ln] at *;omega
 rfl
def ar9(a b:List Int)(hf:Vg.gq J.Pt (a,b)):wG (mZ (dj a) (dj b)) (S.I4 a b) ((∃(x1:Nat),(0:Int)=x1/\S.Hn a b x1)/\(∀(x2:Nat),S.Hn a b x2->oI (decide (x2<dj a)) 0 x2 (dj a) (cK 0 x2 (dj b)/\wL (mZ (getD a (toNat x2) 0) (getD b (toNat x2) 0)) (S.I4 a b) x2 1 (∃(x3:Nat),ri x2 x3 (S.Hn a b x3) (S.len a))) (true=S.I4 a b))):=by
 refine aE ?_;have azs:Vg.hlen a:=hf.1.1;refine⟨?_,?_⟩
 . intro h1;simp at h1;exact(Y? (S.XK h1)).symm
 intro h2;simp at h2;refine⟨?_,?_⟩
 . refine⟨(nat_lit 0:Nat),?_⟩;dsimp only;refine⟨?_,?_⟩
   . omega
   exact S.alm h2
 intro x3 h4;refine V.dI (λh5=>?_) λh8=>?_
 . with_reducible and_intros
   iterate 4 omega
   . intro h6;simp at h6;exact(Y? (S.XL 0 h6)).symm
   intro h7;simp at h7;with_reducible and_intros
   iterate 2 omega
   refine⟨(x3+nat_lit 1),?_⟩;dsimp only;with_reducible and_intros
   omega;exact S.Sk 0 h4 h5 h7;simp [S.ag,S.len,S.gX,S.sY] at *;omega
 exact(K? (S.XJ h4 h8)).symm
def asa(a1:B8)(a2:List Int)(b1:B8)(b2:List Int):oz (decide (a1=b1))/\oG (decide (a1=b1)) (S.I4 a2 b2)=S.BV a1 a2 b1 b2:=by
 refine aE ?_;simp_all[dt,df,S.BV,S.I4,decide]
def asb(a b:List (B8×List Int))(hf:Vg.Row.ok (Vg.TA.dp [.dR (.slice [.str,.slice [.int .i64]]),.dR (.slice [.str,.slice [.int .i64]]),.fn (.func 214) [] []]) (a,b)):wG (mZ (length a) (length b)) (S.sI a b) ((∃(x1:Nat),(0:Int)=x1/\S.Hb a b x1)/\(∀(x2:Nat),S.Hb a b x2->oI (decide ((x2:Int)<length a)) 0 x2 (length a) (cK 0 x2 (length b)/\gk (wL (Bool.not (S.BV (getD a (toNat x2) ([],[])).1 (getD a (toNat x2) ([],[])).2 (getD b (toNat x2) ([],[])).1 (getD b (toNat x2) ([],[])).2)) (S.sI a b) x2 1 (∃(x3:Nat),ri x2 x3 (S.Hb a b x3) (S.len a)))) (true=S.sI a b))):=by
 refine aE ?_;have azs:Vg.hlen a:=hf.1.1;refine⟨?_,?_⟩
 . intro h1;simp at h1;exact(Y? (S.XK h1)).symm
 intro h2;simp at h2;refine⟨?_,?_⟩
 . refine⟨(nat_lit 0:Nat),?_⟩;dsimp only;refine⟨?_,?_⟩
   . omega
   exact S.alm h2
 intro x3 h4;refine V.dI (λh5=>?_) λh8=>?_
 . with_reducible and_intros
   iterate 4 omega
   trivial
   . intro h6;simp at h6;exact(Y? (S.XL ([],[]) (S.aqF h6))).symm
   intro h7;simp at h7;with_reducible and_intros
   iterate 2 omega
   refine⟨(x3+nat_lit 1),?_⟩;dsimp only;with_reducible and_intros
   omega;exact S.Sk ([],[]) h4 h5 (S.aqE h7);simp [S.ag,S.len,S.gX,S.sY] at *;omega
 exact(K? (S.XJ h4 h8)).symm
def asc(a b:List (B8×List Int)):gk (S.sI a b=S.sI a b):=by
 refine aE ?_;grind
def asd(y1:List B8)(y2:List (Int×Int×List (B8×List Int))):wG (HJ 1000 (bu y1) (PF (length y2))) (S.bG y1 y2) ((∃(x1:Nat),(0:Int)=x1/\S.Ow y1 y2 x1)/\(∀(x2:Nat),S.Ow y1 y2 x2->dH (decide (x2<bu y1)) (cK 0 x2 (bu y1)) (wL (Ei 2000 (nb y1 x2)) (S.bG y1 y2) x2 1 (∃(x3:Nat),ri x2 x3 (S.Ow y1 y2 x3) (S.len y1))) (∃(x4:Nat),((0:Int)=x4/\0=S.ig y2 x4)/\S.BT y1 y2 x4) (∀(x5:Nat),S.BT y1 y2 x5->oI (decide ((x5:Int)<length y2)) 0 x5 (length y2) (wG (na (mZ (sQ y2 x5).1 (S.ig y2 x5)) (na (decide ((sQ y2 x5).2.1<=S.ig y2 x5)) (decide (bu y1<(sQ y2 x5).2.1)))) (S.bG y1 y2) (mv (oz (cx (S.cm y1 (sQ y2 x5).1 (sQ y2 x5).2.1).2)) (wL (wH (cx (S.cm y1 (sQ y2 x5).1 (sQ y2 x5).2.1).2) (S.sI (S.cm y1 (sQ y2 x5).1 (sQ y2 x5).2.1).1.2.2 (sQ y2 x5).2.2)) (S.bG y1 y2) x5 1 (∃(x6:Nat),((x5:Int)+1=x6/\(sQ y2 x5).2.1=S.ig y2 x6)/\S.BT y1 y2 x6/\o8 (S.len y2) x6 x5)))) (true=S.bG y1 y2)))):=by
 refine aE ?_;refine⟨?_,?_⟩
 . intro h1;simp at h1;exact S.aGQ h1
 intro h2;simp at h2;refine⟨?_,?_⟩
 . refine⟨(nat_lit 0:Nat),?_⟩;dsimp only;refine⟨?_,?_⟩
   . omega
   exact⟨w!,w!,S.aqt _⟩
 intro x3 h4;refine V.dI (λh5=>?_) λh8=>?_
 . with_reducible and_intros
   iterate 2 omega
   . intro h6;try simp only [dt,tn] at h6
     exact S.aGR h5 h6
   intro h7;try simp only [df,tn] at h7
   with_reducible and_intros
   iterate 2 omega
   refine⟨(x3+nat_lit 1),?_⟩;try dsimp only
   with_reducible and_intros
   omega;exact⟨h4.1,h4.2.1,S.Ö h4.2.2 h5 w!⟩;simp only [S.ag,S.len,S.gX,S.sY] at *;omega
 refine⟨?_,?_⟩
 . refine⟨(nat_lit 0:Nat),?_⟩;dsimp only;with_reducible and_intros
   omega;rfl;exact S.aln h4 h8
 intro x9 de;refine⟨?_,?_⟩
 . intro fC;simp only [dt] at fC;with_reducible and_intros
   iterate 2 omega
   . intro gY;simp at gY;exact S.abv fC (S.aGS gY)
   intro jM;simp only [V.ajY,nf,dt,tn,df] at jM;with_reducible and_intros
   trivial
   . intro jZ;trivial
   . intro Cq;trivial
   . intro zP;simp at zP;exact S.abv fC (S.aGT de jM zP)
   intro HV;simp at HV;with_reducible and_intros
   iterate 2 omega
   refine⟨(x9+nat_lit 1),?_⟩;try dsimp only
   with_reducible and_intros
   omega;exact S.ahn _ _;exact S.alo de fC (S.aGU de jM HV);simp [S.ag,S.len,S.gX,S.sY] at *;omega
 grind[df,S.aqD]
def ase(y1:List B8)(y2:List (Int×Int×List (B8×List Int))):gk (dH (Bool.not (S.bG y1 y2)) ([]=(S.ao y1 y2).1) ([]=(S.ao y1 y2).2) (y1=(S.ao y1 y2).1) (y2=(S.ao y1 y2).2)):=by
 refine aE ?_;grind[nt,S.alp,nf,S.me]
def asf(y1:List B8)(y2:List (Int×Int×List (B8×List Int)))(hf:Vg.gq J.z6 (y1,y2)):kB (bR (length y2)) (0=S.cO y2) (qJ (length y2-1) 0 (length y2) ((getD y2 (toNat (length y2-1)) (0,0,[])).2.1=S.cO y2)):=by
 refine aE ?_;have JC:Vg.hlen y2:=hf.2.1.1;refine V.dI (λh1=>?_) λh2=>?_
 . exact S.aAU h1
 with_reducible and_intros
 iterate 4 omega
 exact S.aAV h2
def asg(y1:List B8)(y2:List (Int×Int×List (B8×List Int)))(hp:S.wo y1 y2)(hf:Vg.gq J.z6 (y1,y2)):(0<=bu y1/\bu y1<=bu y1/\bu y1<=PB ((24:Nat):Int))/\((0:Int)<=length y2/\(length y2:Int)<=length y2/\length y2<=PB ((40:Nat):Int))/\(∃(x1:Nat),((0:Int)=x1/\replicate (toNat (bu y1)) oH=S.eo oH y1 x1)/\S.gX y1 x1)/\(∀(x2:Nat),S.gX y1 x2->gl (decide (x2<bu y1)) (cK 0 x2 (bu y1)) (S.small (lG y1 (toNat x2))) (cK 0 x2 (length (S.eo oH y1 x2))/\toNat x2<length (S.eo oH y1 x2)/\eO x2 (∃(x3:Nat),z8 x2 x3 (List.set (S.eo oH y1 x2) (toNat x2) (lG y1 (toNat x2))=S.eo oH y1 x3) (S.gX y1 x3) (S.len y1))) (∃(x4:Nat),((0:Int)=x4/\replicate (toNat (length y2)) (0,0,[])=S.eo (0,0,[]) y2 x4)/\S.gX y2 x4) (∀(x5:Nat),S.gX y2 x5->gl (decide ((x5:Int)<length y2)) (cK 0 x5 (length y2)) (S.small (zL y2 x5).2.2) (cK 0 x5 (length (S.eo (0,0,[]) y2 x5))/\toNat x5<length (S.eo (0,0,[]) y2 x5)/\(∃(x6:Nat×Nat×List S.aY),((0:Int)=x6.1/\List.set (S.eo (0,0,[]) y2 x5) (toNat x5) ((zL y2 x5).1,(zL y2 x5).2.1,[])=x6.2.2/\toNat x5=x6.2.1/\(zL y2 x5).2.2=(S.ba y2 x6.2.1).2.2)/\S.wu y2 x6.2.2 x6.2.1 x6.1/\(x5:Int)=x6.2.1)/\(∀(x7:Nat×Nat×List S.aY),S.wu y2 x7.2.2 x7.2.1 x7.1/\(x5:Int)=x7.2.1->dH (decide ((x7.1:Int)<length (zL y2 x5).2.2)) (cK 0 x7.1 (length (zL y2 x5).2.2)) (cK 0 x5 (length x7.2.2)/\toNat x5<length x7.2.2/\toNat x5=x7.2.1/\S.small (getD (zL y2 x5).2.2 (toNat x7.1) ([],[])).2/\cK 0 x7.1 (length (S.ba y2 x7.2.1).2.2)/\toNat x7.1<length (S.ba y2 x7.2.1).2.2/\b6 (x7.1+1)/\(∃(x8:Nat×Nat×List S.aY),((x7.1:Int)+1=x8.1/\x7.2.2=x8.2.2/\x7.2.1=x8.2.1/\List.set (S.ba y2 x7.2.1).2.2 (toNat x7.1) ((getD (S.ba y2 x7.2.1).2.2 (toNat x7.1) ([],[])).1,(getD (zL y2 x5).2.2 (toNat x7.1) ([],[])).2)=(S.ba y2 x8.2.1).2.2)/\(S.wu y2 x8.2.2 x8.2.1 x8.1/\(x5:Int)=x8.2.1)/\vA (S.sY y2 x8.2.1) x8.1 (S.ag (S.sY y2 x7.2.1) x7.1))) (x7.2.1<length x7.2.2) (eO x5 (∃(x9:Nat),z8 x5 x9 (List.set x7.2.2 x7.2.1 ((getD x7.2.2 x7.2.1 (0,0,[])).1,(getD x7.2.2 x7.2.1 (0,0,[])).2.1,(S.ba y2 x7.2.1).2.2)=S.eo (0,0,[]) y2 x9) (S.gX y2 x9) (S.len y2))))) (S.eo oH y1 x2=y1) (S.eo (0,0,[]) y2 x5=y2))):=by
 refine aE ?_;have ğ:Vg.hlen y1:=hf.1.1;have JC:Vg.hlen y2:=hf.2.1.1;clear hf;with_reducible and_intros
 iterate 2 omega
 . have:=hp.1;omega
 iterate 2 omega
 . have:=hp.2.1;omega
 grind[S.abw,S.ag,S.len,S.gX,S.sY];intro x1 h2;refine V.dI (λh3=>?_) λh4=>?_
 . with_reducible and_intros
   iterate 2 omega
   exact S.XN hp _;omega;exact(S.C2 _ h3).1;exact(S.C2 _ h3).2;iterate 2 omega
   refine⟨(x1+nat_lit 1),?_⟩;try dsimp only
   with_reducible and_intros
   omega;exact S.XM _ h3
   . simp only [S.ag,S.len,S.gX,S.sY] at *;omega
   simp only [S.ag,S.len,S.gX,S.sY] at *;omega
 refine⟨?_,?_⟩
 . refine⟨(nat_lit 0:Nat),?_⟩;try dsimp only
   with_reducible and_intros
   omega;exact S.abw _ _;simp only [S.ag,S.len,S.gX,S.sY] at *;omega
 intro x5 h6;refine⟨?_,?_⟩
 . intro h7;try simp only [dt] at h7
   with_reducible and_intros
   iterate 2 omega
   exact(S.E1 hp _).1;omega;exact(S.C2 _ h7).1;exact(S.C2 _ h7).2
   . refine⟨((nat_lit 0:Nat),((toNat (↑x5:Int)),(List.set (S.eo ((0:Int),(0:Int),[]) y2 x5) (toNat (↑x5:Int)) (Prod.fst (getD y2 (toNat (↑x5:Int)) ((0:Int),(0:Int),[])),Prod.fst (Prod.snd (getD y2 (toNat (↑x5:Int)) ((0:Int),(0:Int),[]))),[])))),?_⟩;try dsimp only
     with_reducible and_intros
     omega;rfl;omega;rfl;exact S.aAW h7;omega
   intro x8 h9;refine⟨?_,?_⟩
   . intro de;try simp only [dt,tn] at de
     with_reducible and_intros
     omega;trivial;omega
     . have q:=h9.1.2.2.1;have q3:=h9.2;omega
     . have q:=h9.1.2.2.1;have q2:=h9.1.1;have q3:=h9.2;omega
     omega;exact(S.E1 hp _).2 _;omega
     iterate 2
      . have e:x5=x8.2.1:=w!;subst e;first|exact de|exact Int.ofNat_lt.1 de
     omega
     . have q:=(S.E1 hp x5).1;exact S.ahp q de
     refine⟨((Prod.fst x8+nat_lit 1),((Prod.fst (Prod.snd x8)),(Prod.snd (Prod.snd x8)))),?_⟩;try dsimp only
     with_reducible and_intros
     omega;rfl;omega
     . have e:x5=x8.2.1:=w!;subst e;exact S.CD _ _ _
     . have e:x5=x8.2.1:=w!;subst e;exact S.ahq h9.1 de
     omega;have e:x5=x8.2.1:=w!;subst e;exact S.ahr de
   intro fC;with_reducible and_intros
   . have q:=h9.1.2.2.1;have q3:=h9.2;omega
   iterate 2 omega
   refine⟨(x5+nat_lit 1),?_⟩;try dsimp only
   with_reducible and_intros
   omega
   . have e:x5=x8.2.1:=w!;subst e;exact S.alq h9.1
   . simp only [S.ag,S.len,S.gX,S.sY] at *;omega
   simp only [S.ag,S.len,S.gX,S.sY] at *;omega
 grind[df,S.aho]
def ash(y1:List B8)(y2:List (Int×Int×List (B8×List Int))):sA (S.cO (S.ao y1 y2).2=S.mc y1 y2):=by
 refine aE ?_;with_reducible and_intros
 iterate 2 trivial
 rfl
def asi(y1:List B8)(y2:List (Int×Int×List (B8×List Int)))(d:B8):gk (fX (Ei 2000 d) ((S.ao y1 y2).1=(S.cP y1 y2 d).1.1) ((S.ao y1 y2).2=(S.cP y1 y2 d).1.2/\1=(S.cP y1 y2 d).2) (eI (decide ((1000:Int)<=length (S.ao y1 y2).1)) ((S.ao y1 y2).1=(S.cP y1 y2 d).1.1) ((S.ao y1 y2).2=(S.cP y1 y2 d).1.2/\3=(S.cP y1 y2 d).2) (S.wo (S.ao y1 y2).1 (S.ao y1 y2).2) (S.small d) (Pz (length (S.ao y1 y2).1+length [d])/\(S.ao y1 y2).1++[d]=(S.cP y1 y2 d).1.1/\(S.ao y1 y2).2=(S.cP y1 y2 d).1.2/\0=(S.cP y1 y2 d).2))):=by
 refine aE ?_;with_reducible and_intros
 trivial;simp_all[dt,S.aGV]
 intro h2;refine⟨?_,?_⟩
 . simp_all[dt,S.aGW]
 grind[df,S.KE,S.small,S.yk,List.length_singleton,S.ayC]
def asj(y1:List B8)(y2:List (Int×Int×List (B8×List Int))):sA (fX (decide (S.cO (S.ao y1 y2).2=bu (S.ao y1 y2).1)) ((S.ao y1 y2).1=(S.bY y1 y2).1.1) ((S.ao y1 y2).2=(S.bY y1 y2).1.2/\5=(S.bY y1 y2).2) (Fi (decide ((64:Int)<=length (S.ao y1 y2).2)) ((S.ao y1 y2).1=(S.bY y1 y2).1.1) ((S.ao y1 y2).2=(S.bY y1 y2).1.2/\3=(S.bY y1 y2).2) True (cx (S.cm (S.ao y1 y2).1 (S.cO (S.ao y1 y2).2) (bu (S.ao y1 y2).1)).2) ((S.ao y1 y2).2=(S.bY y1 y2).1.2/\(S.cm (S.ao y1 y2).1 (S.cO (S.ao y1 y2).2) (bu (S.ao y1 y2).1)).2=(S.bY y1 y2).2) (S.wo (S.ao y1 y2).1 (S.ao y1 y2).2) (SN (length (S.ao y1 y2).2+length [((S.cm (S.ao y1 y2).1 (S.cO (S.ao y1 y2).2) (bu (S.ao y1 y2).1)).1.1,(S.cm (S.ao y1 y2).1 (S.cO (S.ao y1 y2).2) (bu (S.ao y1 y2).1)).1.2.1,(S.cm (S.ao y1 y2).1 (S.cO (S.ao y1 y2).2) (bu (S.ao y1 y2).1)).1.2.2)])) ((S.ao y1 y2).1=(S.bY y1 y2).1.1/\(S.ao y1 y2).2++[((S.cm (S.ao y1 y2).1 (S.cO (S.ao y1 y2).2) (bu (S.ao y1 y2).1)).1.1,(S.cm (S.ao y1 y2).1 (S.cO (S.ao y1 y2).2) (bu (S.ao y1 y2).1)).1.2.1,(S.cm (S.ao y1 y2).1 (S.cO (S.ao y1 y2).2) (bu (S.ao y1 y2).1)).1.2.2)]=(S.bY y1 y2).1.2/\0=(S.bY y1 y2).2))):=by
 refine aE ?_;with_reducible and_intros
 iterate 2 trivial
 simp_all[dt,S.aGX]
 intro h2;refine⟨?_,?_⟩
 . simp_all[dt,S.aGY]
 intro h4;with_reducible and_intros
 trivial;grind[nt,df,S.ayD];grind[S.KE,S.yk,List.length_singleton,S.aGZ]
def asl(y1:List B8)(y2:List (Int×Int×List (B8×List Int)))(hf:Vg.gq J.z6 (y1,y2)):mv ((0:Int)<=0/\qM (length (S.ao y1 y2).2) (PB ((40:Nat):Int))) ((∃(x1:Nat),((0:Int)=x1/\replicate (toNat 0) (0,0,0,[])=S.lE y1 y2 x1)/\x1<=S.gL y1 y2)/\(∀(x2:Nat),x2<=S.gL y1 y2->oI (decide ((x2:Int)<length (S.ao y1 y2).2)) 0 x2 (length (S.ao y1 y2).2) (S.bn (PL y1 y2 x2).2.2/\SN (length (S.lE y1 y2 x2)+length [((zK y1 y2 x2).1,(zK y1 y2 x2).2.1,(zK y1 y2 x2).2.2.1,(zK y1 y2 x2).2.2.2)])/\eO x2 (∃(x3:Nat),z8 x2 x3 (S.lE y1 y2 x2++[((zK y1 y2 x2).1,(zK y1 y2 x2).2.1,(zK y1 y2 x2).2.2.1,(zK y1 y2 x2).2.2.2)]=S.lE y1 y2 x3) (x3<=S.gL y1 y2) (S.gL y1 y2))) (S.lE y1 y2 x2=S.cB y1 y2))):=by
 refine aE ?_;have ğ:Vg.hlen y1:=hf.1.1;have JC:Vg.hlen y2:=hf.2.1.1;clear hf;with_reducible and_intros
 trivial;iterate 2 omega
 grind[S.yk]
 . refine⟨(nat_lit 0:Nat),?_⟩;try dsimp only
   with_reducible and_intros
   omega;rfl;omega
 intro x1 h2;refine⟨?_,?_⟩
 . intro h3;try simp only [dt] at h3
   with_reducible and_intros
   iterate 2 omega
   exact(S.Sl y1 y2 (k:=x1) w!).2
   . have:=S.UC y1 y2 x1;simp only [C?];omega
   omega
   . have:=(S.yk y1 y2).2.1;omega
   refine⟨(x1+nat_lit 1),?_⟩;try dsimp only
   with_reducible and_intros
   omega;exact S.alr h3
   . simp only [S.gL,S.ag] at *;omega
   simp only [S.gL,S.ag] at *;omega
 grind[df,S.aqH]
def asm(y1:Int)(y2:B8)(y3:List (Int×Int×Int×B8)):ta (sO y1) (ta (decide (y1<=1000)) (oz (decide (cE y2=32))))/\wK (sO y1) (decide (y1<=1000)) (oG (decide (cE y2=32)) (S.kW y3 y1))=S.bN y1 y2 y3:=by
 refine aE ?_;grind[S.aqO]
def asn(y1:List B8)(y2:List (Int×Int×List (B8×List Int))):mv (oz (Bool.not (S.bG y1 y2))) (eI (na (Bool.not (S.bG y1 y2)) (mZ (S.mc y1 y2) (bu y1))) (0=(S.iv y1 y2).1.1) ([]=(S.iv y1 y2).1.2.1/\[]=(S.iv y1 y2).1.2.2/\7=(S.iv y1 y2).2) (S.l8 y1) (S.small (S.leaves y1)) (gl (cx (S.xe (S.leaves y1))) (0=(S.iv y1 y2).1.1) ([]=(S.iv y1 y2).1.2.1) ([]=(S.iv y1 y2).1.2.2/\S.xe (S.leaves y1)=(S.iv y1 y2).2) True (bu y1=(S.iv y1 y2).1.1/\S.zp (S.leaves y1)=(S.iv y1 y2).1.2.1/\S.cB y1 y2=(S.iv y1 y2).1.2.2/\0=(S.iv y1 y2).2))):=by
 refine aE ?_;with_reducible and_intros
 trivial;iterate 2 grind
 simp_all[V.IG,nt,df,S.aqP]
 intro h4;simp at h4;with_reducible and_intros
 grind[S.OC];exact(S.OC h4.1).2;grind[nt,df,S.XT];simp_all[nf,dt,S.XS,S.XT]
def aso(v q:Int)(hp:S.fT v=false/\q=0):dH (bR q) (vB oH) (S.xV v=0/\S.mn oH v=S.num v) (q=0) ([]=S.num v):=by
 refine aE ?_;refine⟨?_,?_⟩
 . grind[S.ayE]
 grind
def asp(v q:Int)(l:B8)(hp:S.fT v=false/\q=0/\l.length<=35184372088832):dH (bR q) (vB l) (S.xV v=0/\S.mn l v=l++S.num v) (q=0) (l=l++S.num v):=by
 refine aE ?_;refine⟨?_,?_⟩
 . grind[S.ayE]
 grind
def asq(d l:B8)(hp:l.length<=35184372088832/\d.length<=35184372088832):rh l d/\l++d=l++d:=by
 refine aE ?_;grind
def asr(y1:Int)(y2:B8)(y3:List (Int×Int×Int×B8))(hf:Vg.gq J.HF (y1,y2,y3)):gk (eI (Bool.not (S.bN y1 y2 y3)) (1=(S.hW y1 y2 y3).2) ([]=(S.hW y1 y2 y3).1) (S.fT y1=false/\(0:Int)=0) (vB (S.num y1)/\vB y2) ((S.fT (length y3)=false/\(0:Int)=0/\vB (S.num y1++y2))/\(∃(x1:Nat),((0:Int)=x1/\S.num y1++y2++S.num (length y3)=S.sK y1 y2 y3 x1/\yv)/\S.D7 y1 y2 y3 x1)/\(∀(x2:Nat),S.D7 y1 y2 y3 x2->oI (decide ((x2:Int)<length y3)) 0 x2 (length y3) ((S.fT (eh y3 x2 0).2.1=false/\(0:Int)=0/\vB (S.sK y1 y2 y3 x2))/\(S.fT (eh y3 x2 0).2.2.1=false/\(0:Int)=0/\vB (S.sK y1 y2 y3 x2++S.num (eh y3 x2 0).2.1))/\(vB (S.sK y1 y2 y3 x2++S.num (eh y3 x2 0).2.1++S.num (eh y3 x2 0).2.2.1)/\vB (eh y3 x2 0).2.2.2)/\eO x2 (∃(x3:Nat),((x2:Int)+1=x3/\S.sK y1 y2 y3 x2++S.num (eh y3 x2 0).2.1++S.num (eh y3 x2 0).2.2.1++(eh y3 x2 0).2.2.2=S.sK y1 y2 y3 x3/\yv)/\S.D7 y1 y2 y3 x3/\o8 (S.len y3) x3 x2)) (fX (HL 0) (0=(S.hW y1 y2 y3).2) ([]=(S.hW y1 y2 y3).1) (0=(S.hW y1 y2 y3).2/\S.sK y1 y2 y3 x2=(S.hW y1 y2 y3).1))))):=by
 refine aE ?_;have anr:Vg.hlen y3:=hf.2.2.1.1;clear hf;with_reducible and_intros
 trivial;grind[nt,S.í];intro h2;try simp at h2
 with_reducible and_intros
 grind[S.jm,S.OD];rfl;grind[S.cX];grind[S.jm];grind[S.rJ,S.jm,S.OD];rfl;grind[S.cX,S.jm,List.length_append]
 . refine⟨(nat_lit 0:Nat),?_⟩;try dsimp only
   with_reducible and_intros
   omega;grind[S.ayF];rfl;exact⟨h2,Nat.zero_le _⟩
 intro x3 h4;refine⟨?_,?_⟩
 . intro h5;try simp only [dt] at h5
   with_reducible and_intros
   iterate 2 omega
   exact(S.E5 h4 h5).1;rfl
   . have:=S.C6 h4;omega
   exact(S.E5 h4 h5).2.1;rfl
   . have q:=S.C6 h4;have q2:=S.cX (y3.getD (toNat (x3:Int)) (0,0,0,[])).2.1;simp only [K!];omega
   . have q:=S.C6 h4;have q2:=S.cX (y3.getD (toNat (x3:Int)) (0,0,0,[])).2.1;have q3:=S.cX (y3.getD (toNat (x3:Int)) (0,0,0,[])).2.2.1;simp only [K!];omega
   exact X? (Nat.le_of_eq (S.E5 h4 h5).2.2) (by decide);iterate 2 omega
   refine⟨(x3+nat_lit 1),?_⟩;try dsimp only
   with_reducible and_intros
   omega;exact S.XU h5;rfl;exact⟨h4.1,w!⟩;simp only [S.ag,S.len];omega
 simp_all[df,nt,nf,dt,S.LQ,S.UD]
def ass(r1:B8)(r2 r3:Int)(hp:r1.length<=140737488355328):ir r1/\(S.af r1 r2 r3).2=(S.af r1 r2 r3).2/\(S.af r1 r2 r3).1.1=r1/\(S.af r1 r2 r3).1.2.1=(S.af r1 r2 r3).1.2.1/\(S.af r1 r2 r3).1.2.2=(S.af r1 r2 r3).1.2.2:=by
 refine aE ?_;grind[S.C4]
def ast(r1:B8)(r2 r3:Int)(hp:r1.length<=140737488355328):ir r1/\(S.ar r1 r2 r3).2=(S.ar r1 r2 r3).2/\(S.ar r1 r2 r3).1.1=r1/\(S.ar r1 r2 r3).1.2.1=(S.ar r1 r2 r3).1.2.1/\(S.ar r1 r2 r3).1.2.2=(S.ar r1 r2 r3).1.2.2:=by
 refine aE ?_;simp_all[S.C4]
def asu(a:Int)(r1:B8)(r2 r3:Int)(hp:r1.length<=140737488355328):ir r1/\ir r1/\ir r1/\a=a/\(S.af r1 r2 r3).2=(S.tC r1 r2 r3 a).2.2.1/\(S.af r1 (S.af r1 r2 r3).1.2.1 (S.af r1 r2 r3).1.2.2).2=(S.tC r1 r2 r3 a).2.2.2.1/\(S.ar r1 (S.af r1 (S.af r1 r2 r3).1.2.1 (S.af r1 r2 r3).1.2.2).1.2.1 (S.af r1 (S.af r1 r2 r3).1.2.1 (S.af r1 r2 r3).1.2.2).1.2.2).2=(S.tC r1 r2 r3 a).2.2.2.2/\(S.af r1 r2 r3).2=(S.tC r1 r2 r3 a).2.2.1/\0=0/\0=0/\r1=r1/\(S.ar r1 (S.af r1 (S.af r1 r2 r3).1.2.1 (S.af r1 r2 r3).1.2.2).1.2.1 (S.af r1 (S.af r1 r2 r3).1.2.1 (S.af r1 r2 r3).1.2.2).1.2.2).1.2.1=(S.tC r1 r2 r3 a).1.1/\(S.ar r1 (S.af r1 (S.af r1 r2 r3).1.2.1 (S.af r1 r2 r3).1.2.2).1.2.1 (S.af r1 (S.af r1 r2 r3).1.2.1 (S.af r1 r2 r3).1.2.2).1.2.2).1.2.2=(S.tC r1 r2 r3 a).1.2:=by
 refine aE ?_;with_reducible and_intros
 iterate 3 omega
 iterate 10 rfl
def asv(b:B8)(hp:b.length<=140737488355328):ir b/\ir b/\ir b/\gl (PF (S.af b (xu b).1.2.1 (xu b).1.2.2).2) (0=(S.hR b).1.1) ([]=(S.hR b).1.2.1) ([]=(S.hR b).1.2.2/\2=(S.hR b).2) (∃(x1:Nat),((0:Int)=x1/\b=b/\(S.af b (xu b).1.2.1 (xu b).1.2.2).1.2.1=(S.jJ b x1).1.1/\(S.af b (xu b).1.2.1 (xu b).1.2.2).1.2.2=(S.jJ b x1).1.2/\0=(S.jJ b x1).2.1/\0=0/\0=0/\(S.af b 0 0).2=(qP b).1/\(xu b).2=(qP b).2.1/\[]=(S.jJ b x1).2.2)/\x1<=S.pN b/\(qP b).2.2<=64) (∀(x2:Nat),x2<=S.pN b/\(qP b).2.2<=64->gl (decide (x2<(S.af b (xu b).1.2.1 (xu b).1.2.2).2)) (ir b) (SN (length (S.jJ b x2).2.2+length [((S.jJ b x2).2.1,(xv b x2).2.2.1,(xv b x2).2.2.2.1,(xv b x2).2.2.2.2)])) (eO x2 (∃(x3:Nat),((x2:Int)+1=x3/\b=b/\(xv b x2).1.1=(S.jJ b x3).1.1/\(xv b x2).1.2=(S.jJ b x3).1.2/\(xv b x2).2.2.1=(S.jJ b x3).2.1/\0=0/\0=0/\(qP b).1=(qP b).1/\(qP b).2.1=(qP b).2.1/\(S.jJ b x2).2.2++[((S.jJ b x2).2.1,(xv b x2).2.2.1,(xv b x2).2.2.2.1,(xv b x2).2.2.2.2)]=(S.jJ b x3).2.2)/\(x3<=S.pN b/\(qP b).2.2<=64)/\o8 (S.pN b) x3 x2)) True (Fi (cx (S.done b (S.jJ b x2).1.1 (S.jJ b x2).1.2)) (0=(S.hR b).1.1) ([]=(S.hR b).1.2.1/\[]=(S.hR b).1.2.2/\S.done b (S.jJ b x2).1.1 (S.jJ b x2).1.2=(S.hR b).2) True (Bool.not (S.bN (qP b).1 (qP b).2.1 (S.jJ b x2).2.2)) ([]=(S.hR b).1.2.1/\[]=(S.hR b).1.2.2/\2=(S.hR b).2) ((qP b).1=(S.hR b).1.1) ((qP b).2.1=(S.hR b).1.2.1) ((S.jJ b x2).2.2=(S.hR b).1.2.2/\0=(S.hR b).2))):=by
 refine aE ?_;with_reducible and_intros
 iterate 3 omega
 . intro h1;simp at h1;with_reducible and_intros
   iterate 3 (rw [S.XR h1])
   rw [S.XR h1]
 intro h2;simp only [df] at h2;refine⟨?_,?_⟩
 . refine⟨(nat_lit 0:Nat),?_⟩;dsimp only;with_reducible and_intros
   omega;iterate 9 rfl
   omega;exact Int.not_lt.1 h2
 intro x3 h4;refine V.dI (λh5=>?_) λh6=>?_
 . with_reducible and_intros
   omega
   . have q:=S.aAY b x3;have q2:=h4.2;have q3:(x3:Int)<(S.iw b).1.2.2:=h5;simp only [C?];omega
   omega
   . have q2:=h4.2;have q3:(x3:Int)<(S.iw b).1.2.2:=h5;omega
   refine⟨(x3+nat_lit 1),?_⟩;try dsimp only
   with_reducible and_intros
   omega;iterate 9 rfl
   exact S.alw h5;omega;have q:=S.alw h5;simp only [S.ag];omega
 with_reducible and_intros
 trivial
 . intro h7;simp at h7;with_reducible and_intros
   iterate 3 (rw [S.ayG h2 h4.1 h6 h7])
   rw [S.ayG h2 h4.1 h6 h7]
 intro h8;simp at h8;with_reducible and_intros
 trivial
 . intro h9;simp at h9;with_reducible and_intros
   iterate 3 (rw [S.ayH h2 h4.1 h6 h8 h9])
   rw [S.ayH h2 h4.1 h6 h8 h9]
 intro de;simp at de;with_reducible and_intros
 iterate 3 (rw [S.ayI h2 h4.1 h6 h8 de])
 rw [S.ayI h2 h4.1 h6 h8 de]
def asw(d:List (B8×List Int))(t:B8)(hp:S.bn d/\S.small t):S.bn d/\sy (cx (S.dE d)) (S.small t)/\gl (wH (cx (S.dE d)) (S.isTerm t)) (0=(S.ij d t).1.1) ([]=(S.ij d t).1.2.1) ([]=(S.ij d t).1.2.2.1/\[]=(S.ij d t).1.2.2.2.1/\[]=(S.ij d t).1.2.2.2.2.1/\[]=(S.ij d t).1.2.2.2.2.2/\1=(S.ij d t).2) (S.bn d) (qJ (S.bt d t+1) 0 (length (S.bU d)) (toNat (S.bt d t+1)<length (S.bU d)/\ir (lG (S.bU d) (toNat (S.bt d t+1)))/\S.l8 (S.bU d)/\S.dM (S.leaves (S.bU d))/\eI (S.k9 d t) (S.bn d) (gk (S.bt d t+1=(S.ij d t).1.1/\(S.bj (lG (S.bU d) (toNat (S.bt d t+1)))).1.1=(S.ij d t).1.2.1/\(S.bj (lG (S.bU d) (toNat (S.bt d t+1)))).1.2.1=(S.ij d t).1.2.2.1/\(S.bj (lG (S.bU d) (toNat (S.bt d t+1)))).1.2.2=(S.ij d t).1.2.2.2.1/\S.rK (S.leaves (S.bU d)) (S.bt d t+1)=(S.ij d t).1.2.2.2.2.1/\S.qw (S.qz d t)=(S.ij d t).1.2.2.2.2.2/\0=(S.ij d t).2)) (S.bt d t+1=(S.ij d t).1.1) ((S.bj (lG (S.bU d) (toNat (S.bt d t+1)))).1.1=(S.ij d t).1.2.1) ((S.bj (lG (S.bU d) (toNat (S.bt d t+1)))).1.2.1=(S.ij d t).1.2.2.1/\(S.bj (lG (S.bU d) (toNat (S.bt d t+1)))).1.2.2=(S.ij d t).1.2.2.2.1/\S.rK (S.leaves (S.bU d)) (S.bt d t+1)=(S.ij d t).1.2.2.2.2.1/\[]=(S.ij d t).1.2.2.2.2.2/\0=(S.ij d t).2))):=by
 refine aE ?_;have lI:=hp.1;with_reducible and_intros
 omega;iterate 2 grind
 . intro h3;simp at h3;with_reducible and_intros
   iterate 6
    . rw [S.abD w!];rfl
   grind[S.abD]
 intro h4;simp at h4;with_reducible and_intros
 omega
 iterate 2
  . (have q:=S.X2 lI (S.Hf (And.left (by assumption))) t;omega)
 iterate 3 (simp_all[S.X2,S.Hf,And.left])
 . (have q:=S.X2 lI (S.Hf (And.left (by assumption))) t;omega)
 iterate 2
  . (have q:=S.X2 lI (S.Hf (And.left (by assumption))) t;grind)
 iterate 2 (simp_all[S.dE,S.isTerm,S.OJ,S.Hf,S.aA4,M!,J!])
def asx(l:List B8)(hp:S.small l):kB (decide ((sU l:Int)<2)) (l=S.bW l) ((∃(x1:Nat),(1:Int)=x1/\S.ot l x1)/\(∀(x2:Nat),S.ot l x2->oI (decide ((x2:Int)<sU l)) 0 x2 (sU l) (nQ x2<sU l/\qJ (x2-1) 0 (sU l) (toNat (x2-1)<sU l/\gl (decide (lG l (nQ x2)=lG l (toNat (x2-1)))) (qM x2 (sU l)) (∃(x3:Nat×Nat×List B8×Nat),((x2:Int)=x3.1/\(1:Int)=x3.2.1/\l=x3.2.2.1)/\S.jF l x3.2.2.2 x3.1 x3.2.1 x3.2.2.1/\(x2:Int)=x3.2.2.2) (∀(x4:Nat×Nat×List B8×Nat),S.jF l x4.2.2.2 x4.1 x4.2.1 x4.2.2.1/\(x2:Int)=x4.2.2.2->eI (decide ((x4.2.1:Int)<((sU l-nQ x2:Nat):Int))) (cK 0 x4.2.1 ((sU l-nQ x2:Nat):Int)) (nQ x2+toNat x4.2.1<vn x4/\qJ (x4.2.1-1) 0 ((sU l-nQ x2:Nat):Int) (nQ x2+toNat (x4.2.1-1)<vn x4/\oI (z7 (lG x4.2.2.1 (nQ x2+toNat x4.2.1)) (lG x4.2.2.1 (nQ x2+toNat (x4.2.1-1)))) 0 x4.2.1 ((sU l-nQ x2:Nat):Int) (nQ x2+toNat x4.2.1<vn x4/\cK 0 x4.1 (vn x4)/\xz x4<vn x4/\b6 (x4.1+1)) True/\b6 (x4.2.1+1)/\(∃(x5:Nat×Nat×List B8×Nat),((bif z7 (lG x4.2.2.1 (nQ x2+toNat x4.2.1)) (lG x4.2.2.1 (nQ x2+toNat (x4.2.1-1))) then(x4.1:Int)+1 else(x4.1:Int))=x5.1/\(x4.2.1:Int)+1=x5.2.1/\(bif z7 (lG x4.2.2.1 (nQ x2+toNat x4.2.1)) (lG x4.2.2.1 (nQ x2+toNat (x4.2.1-1))) then List.set x4.2.2.1 (xz x4) (lG x4.2.2.1 (nQ x2+toNat x4.2.1)) else x4.2.2.1)=x5.2.2.1)/\(S.jF l x5.2.2.2 x5.1 x5.2.1 x5.2.2.1/\(x2:Int)=x5.2.2.2)/\o8 (S.len l) x5.2.1 x4.2.1))) (qM x4.1 (vn x4)) (xz x4+(vn x4-xz x4)<=vn x4) (gR x4.1 (bu (ĝ x4)) (take (xz x4) (ĝ x4)=S.bW l))) (qK x2) (∃(x6:Nat),ri x2 x6 (S.ot l x6) (S.len l)))) (l=S.bW l))):=by
 refine aE ?_;have lI:l.length<=1099511627776:=hp;refine V.dI (λh1=>?_) λh2=>?_
 . exact S.N7 h1
 refine⟨?_,?_⟩
 . grind[S.akF]
 intro x3 h4;refine⟨?_,?_⟩
 . intro h5;try simp only [dt] at h5
   with_reducible and_intros
   iterate 5 omega
   . have:=h4.1;omega
   iterate 2 omega
   . intro h6;try simp only [dt,tn] at h6
     with_reducible and_intros
     iterate 2 omega
     . refine⟨((x3),((nat_lit 1:Nat),((l),(x3)))),?_⟩;grind[S.abn]
     intro x7 h8;refine⟨?_,?_⟩
     . intro h9;try simp at h9
       with_reducible and_intros
       iterate 2 omega
       . have q1:=h8.1.1;have q2:=h8.1.2.1;have q3:=h8.1.2.2.2.1;have q4:=h8.1.2.2.2.2.1;omega
       iterate 2 omega
       . have q1:=h8.1.1;omega
       omega
       . have q1:=h8.1.1;have q2:=h8.1.2.1;have q3:=h8.1.2.2.2.1;have q4:=h8.1.2.2.2.2.1;omega
       . intro de;with_reducible and_intros
         iterate 2 omega
         . have q1:=h8.1.1;have q2:=h8.1.2.1;have q3:=h8.1.2.2.2.1;have q4:=h8.1.2.2.2.2.1;have q5:=h8.2;omega
         omega
         iterate 2
          . have q1:=h8.1.1;have q2:=h8.1.2.1;have q3:=h8.1.2.2.2.1;have q4:=h8.1.2.2.2.2.1;have q5:=h8.2;omega
         omega;have q1:=h8.1.1;have q2:=h8.1.2.1;have q3:=h8.1.2.2.2.1;have q4:=h8.1.2.2.2.2.1;have q5:=h8.2;omega
       . intro fC;trivial
       iterate 2 omega
       refine⟨((toNat (bif !Decidable.decide (getD (Prod.fst (Prod.snd (Prod.snd x7))) (toNat (↑x3:Int)+toNat (↑(Prod.fst (Prod.snd x7)):Int)) []=getD (Prod.fst (Prod.snd (Prod.snd x7))) (toNat (↑x3:Int)+toNat ((↑(Prod.fst (Prod.snd x7)):Int)-(1:Int))) []) then(↑(Prod.fst x7):Int)+(1:Int) else(↑(Prod.fst x7):Int))),((Prod.fst (Prod.snd x7)+nat_lit 1),((bif !Decidable.decide (getD (Prod.fst (Prod.snd (Prod.snd x7))) (toNat (↑x3:Int)+toNat (↑(Prod.fst (Prod.snd x7)):Int)) []=getD (Prod.fst (Prod.snd (Prod.snd x7))) (toNat (↑x3:Int)+toNat ((↑(Prod.fst (Prod.snd x7)):Int)-(1:Int))) []) then List.set (Prod.fst (Prod.snd (Prod.snd x7))) (toNat (↑(Prod.fst x7):Int)) (getD (Prod.fst (Prod.snd (Prod.snd x7))) (toNat (↑x3:Int)+toNat (↑(Prod.fst (Prod.snd x7)):Int)) []) else Prod.fst (Prod.snd (Prod.snd x7))),(x3)))),?_⟩;try dsimp only
       with_reducible and_intros
       . generalize (!decide (getD x7.2.2.1 (toNat (x3:Int)+toNat (x7.2.1:Int)) []=getD x7.2.2.1 (toNat (x3:Int)+toNat ((x7.2.1:Int)-1)) []))=c;cases c<;>simp<;>omega
       omega;trivial
       . have q1:=h8.1.1;have e3:x7.2.2.2=x3:=by have:=h8.2;omega
         have hi:=h8.1;rw [e3] at hi;have e1:toNat (x3:Int)+toNat (x7.2.1:Int)=x3+x7.2.1:=by omega
         have e2:toNat (x3:Int)+toNat ((x7.2.1:Int)-1)=x3+x7.2.1-1:=by omega
         rw [e1,e2];by_cases hd:getD x7.2.2.1 (x3+x7.2.1) []=getD x7.2.2.1 (x3+x7.2.1-1) []
         . rw [K? hd];exact S.N8 hi w! hd
         rw [Y? hd];exact S.R3 hi w! hd
       omega;simp only [S.ag,S.len];omega
     intro gY;with_reducible and_intros
     omega
     iterate 2
      . have q1:=h8.1.2.1;have q2:=h8.1.2.2.2.1;have q3:=h8.1.2.2.2.2.1;omega
     omega
     . have q1:=h8.1.2.1;have q2:=h8.1.2.2.2.1;have q3:=h8.1.2.2.2.2.1;simp;omega
     have q1:=h8.1.2.1;have q2:=h8.1.2.2.2.1;have q3:=h8.1.2.2.2.2.1;grind[toNat,S.KA,S.R4]
   intro jM;try simp only [df,tn] at jM
   with_reducible and_intros
   iterate 2 omega
   refine⟨(x3+nat_lit 1),?_⟩;grind[S.R1,S.ag,S.len]
 grind[df,S.Xl]
def asy(l:List (Int×B8))(hp:S.fV l):(∃(x:Nat),((0:Int)=(↑x:Int)/\(0:Int)=S.gw l x/\(0:Int)=S.nW l x)/\S.oF l x)/\∀(x:Nat),S.oF l x->(decide ((↑x:Int)<(↑(length l):Int))=true->((0:Int)<=(↑x:Int)/\(↑x:Int)<(↑(length l):Int))/\(decide ((getD l (toNat (↑x:Int)) ((0:Int),[])).1=(0:Int))=true->S.small ((getD l (toNat (↑x:Int)) ((0:Int),[])).2)/\((!S.isTerm ((getD l (toNat (↑x:Int)) ((0:Int),[])).2))=true->false=S.bw l)/\((!S.isTerm ((getD l (toNat (↑x:Int)) ((0:Int),[])).2))=false->((-9223372036854775808:Int)<=S.gw l x+(1:Int)/\S.gw l x+(1:Int)<=(9223372036854775807:Int))/\((-9223372036854775808:Int)<=S.nW l x+(1:Int)/\S.nW l x+(1:Int)<=(9223372036854775807:Int))/\((-9223372036854775808:Int)<=(↑x:Int)+(1:Int)/\(↑x:Int)+(1:Int)<=(9223372036854775807:Int))/\∃(vo:Nat),((↑x:Int)+(1:Int)=(↑vo:Int)/\S.gw l x+(1:Int)=S.gw l vo/\S.nW l x+(1:Int)=S.nW l vo)/\S.oF l vo/\S.ag (S.len l) vo<S.ag (S.len l) x))/\(decide ((getD l (toNat (↑x:Int)) ((0:Int),[])).1=(0:Int))=false->(decide ((getD l (toNat (↑x:Int)) ((0:Int),[])).1=(1:Int))=true->((bif !decide ((getD l (toNat (↑x:Int)) ((0:Int),[])).2=[]) then true else decide (S.gw l x<(2:Int)))=true->false=S.bw l)/\((bif !decide ((getD l (toNat (↑x:Int)) ((0:Int),[])).2=[]) then true else decide (S.gw l x<(2:Int)))=false->((-9223372036854775808:Int)<=S.gw l x-(1:Int)/\S.gw l x-(1:Int)<=(9223372036854775807:Int))/\((-9223372036854775808:Int)<=(↑x:Int)+(1:Int)/\(↑x:Int)+(1:Int)<=(9223372036854775807:Int))/\∃(vo:Nat),((↑x:Int)+(1:Int)=(↑vo:Int)/\S.gw l x-(1:Int)=S.gw l vo/\S.nW l x=S.nW l vo)/\S.oF l vo/\S.ag (S.len l) vo<S.ag (S.len l) x))/\(decide ((getD l (toNat (↑x:Int)) ((0:Int),[])).1=(1:Int))=false->(decide ((getD l (toNat (↑x:Int)) ((0:Int),[])).1=(2:Int))=true->((bif !decide ((getD l (toNat (↑x:Int)) ((0:Int),[])).2=[]) then true else decide (S.gw l x<(2:Int)))=true->false=S.bw l)/\((bif !decide ((getD l (toNat (↑x:Int)) ((0:Int),[])).2=[]) then true else decide (S.gw l x<(2:Int)))=false->((-9223372036854775808:Int)<=S.gw l x-(1:Int)/\S.gw l x-(1:Int)<=(9223372036854775807:Int))/\((-9223372036854775808:Int)<=(↑x:Int)+(1:Int)/\(↑x:Int)+(1:Int)<=(9223372036854775807:Int))/\∃(vo:Nat),((↑x:Int)+(1:Int)=(↑vo:Int)/\S.gw l x-(1:Int)=S.gw l vo/\S.nW l x=S.nW l vo)/\S.oF l vo/\S.ag (S.len l) vo<S.ag (S.len l) x))/\(decide ((getD l (toNat (↑x:Int)) ((0:Int),[])).1=(2:Int))=false->(decide ((getD l (toNat (↑x:Int)) ((0:Int),[])).1=(3:Int))=true->((bif !decide ((getD l (toNat (↑x:Int)) ((0:Int),[])).2=[]) then true else decide (S.gw l x<(2:Int)))=true->false=S.bw l)/\((bif !decide ((getD l (toNat (↑x:Int)) ((0:Int),[])).2=[]) then true else decide (S.gw l x<(2:Int)))=false->((-9223372036854775808:Int)<=S.gw l x-(1:Int)/\S.gw l x-(1:Int)<=(9223372036854775807:Int))/\((-9223372036854775808:Int)<=(↑x:Int)+(1:Int)/\(↑x:Int)+(1:Int)<=(9223372036854775807:Int))/\∃(vo:Nat),((↑x:Int)+(1:Int)=(↑vo:Int)/\S.gw l x-(1:Int)=S.gw l vo/\S.nW l x=S.nW l vo)/\S.oF l vo/\S.ag (S.len l) vo<S.ag (S.len l) x))/\(decide ((getD l (toNat (↑x:Int)) ((0:Int),[])).1=(3:Int))=false->false=S.bw l)))))/\(decide ((↑x:Int)<(↑(length l):Int))=false->(bif decide (S.gw l x=(1:Int)) then decide (S.nW l x<=(16:Int)) else false)=S.bw l):=by
 have lI:l.length<=1099511627776:=hp.1;have hq:=hp;clear hp;refine⟨?_,?_⟩
 . refine⟨(nat_lit 0:Nat),?_⟩;try dsimp only
   with_reducible and_intros
   iterate 3 rfl
   exact S.aG4 hq.1
 intro x1 h2;refine⟨?_,?_⟩
 . intro h3;try simp only [dt] at h3
   with_reducible and_intros
   iterate 2 omega
   . intro h4;try simp only [dt,tn] at h4
     with_reducible and_intros
     exact S.aA5 hq _
     . intro h5;try simp only [nt] at h5
       exact S.alG h3 h4 h5
     intro h6;try simp only [nf] at h6
     with_reducible and_intros
     iterate 6
      . have q:=S.xk l x1;have q2:S.gw l x1=2*S.nW l x1-x1:=rfl;omega
     refine⟨(x1+nat_lit 1),?_⟩;try dsimp only
     with_reducible and_intros
     . have q:=S.xk l x1;have q2:S.gw l x1=2*S.nW l x1-x1:=rfl;omega
     exact(S.X3 (by assumption)).symm;exact(S.UI (by assumption)).symm;exact S.alF h2 h3 h4 h6;grind [S.ag,S.len]
   intro h7;try simp only [df,tn] at h7
   refine⟨?_,?_⟩
   . intro h8;try simp only [dt,tn] at h8
     refine⟨?_,?_⟩
     . intro h9;try simp at h9
       exact S.Hq h3 h7 (.inr (by assumption))
     intro de;try simp only [V.ajY,nf,dt,tn,df] at de
     with_reducible and_intros
     iterate 4
      . have q:=S.xk l x1;have q2:S.gw l x1=2*S.nW l x1-x1:=rfl;omega
     refine⟨(x1+nat_lit 1),?_⟩;try dsimp only
     with_reducible and_intros
     . have q:=S.xk l x1;have q2:S.gw l x1=2*S.nW l x1-x1:=rfl;omega
     exact(S.LS (by assumption)).symm;exact(S.OK (by assumption)).symm;exact S.OM h2 h3 h7 w! (by assumption);grind [S.ag,S.len]
   intro fC;refine⟨?_,?_⟩
   . intro gY;try simp only [dt,tn] at gY
     refine⟨?_,?_⟩
     . intro jM;try simp at jM
       exact S.Hq h3 h7 (.inr (by assumption))
     intro jZ;try simp only [V.ajY,nf,dt,tn,df] at jZ
     with_reducible and_intros
     iterate 4
      . have q:=S.xk l x1;have q2:S.gw l x1=2*S.nW l x1-x1:=rfl;omega
     refine⟨(x1+nat_lit 1),?_⟩;try dsimp only
     with_reducible and_intros
     . have q:=S.xk l x1;have q2:S.gw l x1=2*S.nW l x1-x1:=rfl;omega
     exact(S.LS (by assumption)).symm;exact(S.OK (by assumption)).symm;exact S.OM h2 h3 h7 w! (by assumption);grind [S.ag,S.len]
   intro Cq;refine⟨?_,?_⟩
   . intro zP;try simp only [dt,tn] at zP
     refine⟨?_,?_⟩
     . intro HV;try simp at HV
       exact S.Hq h3 h7 (.inr (by assumption))
     intro QW;try simp only [V.ajY,nf,dt,tn,df] at QW
     with_reducible and_intros
     iterate 4
      . have q:=S.xk l x1;have q2:S.gw l x1=2*S.nW l x1-x1:=rfl;omega
     refine⟨(x1+nat_lit 1),?_⟩;try dsimp only
     with_reducible and_intros
     . have q:=S.xk l x1;have q2:S.gw l x1=2*S.nW l x1-x1:=rfl;omega
     exact(S.LS (by assumption)).symm;exact(S.OK (by assumption)).symm;exact S.OM h2 h3 h7 w! (by assumption);grind [S.ag,S.len]
   grind[df,tn,S.Hq]
 grind[df,S.aqX]
def asz(l:List (Int×B8))(hp:S.small l):(∃(x1:Nat),((0:Int)=x1/\[]=S.bS l x1)/\S.gX l x1)/\(∀(x2:Nat),S.gX l x2->eI (decide ((x2:Int)<length l)) (cK 0 x2 (length l)) (dH (bR (getD l (toNat x2) (0,[])).1) (KU (S.bS l x2) [(getD l (toNat x2) (0,[])).2]) (eO x2 (∃(x3:Nat),((x2:Int)+1=x3/\S.bS l x2++[(getD l (toNat x2) (0,[])).2]=S.bS l x3)/\S.gX l x3/\vA (S.len l) x3 (S.ag (S.len l) x2))) (qK x2) (∃(x4:Nat),((x2:Int)+1=x4/\S.bS l x2=S.bS l x4)/\S.gX l x4/\vA (S.len l) x4 (S.ag (S.len l) x2))) (S.small (S.bS l x2)) (S.small (S.fm (S.bS l x2))) (S.bW (S.fm (S.bS l x2))=S.ax l)):=by
 refine aE ?_;have lI:l.length<=1099511627776:=hp;refine⟨?_,?_⟩
 . grind[S.ag,S.len,S.gX,S.aG5]
 intro x1 h2;refine V.dI (λh3=>?_) λh6=>?_
 . with_reducible and_intros
   iterate 2 (grind [S.ag,S.len,S.gX])
   . intro h4;try simp only [dt,tn] at h4
     with_reducible and_intros
     . (have q:=S.alI lI h2 [];exact q.1)
     iterate 2 (grind [S.ag,S.len,S.gX])
     refine⟨(x1+nat_lit 1),?_⟩;try dsimp only
     with_reducible and_intros
     grind [S.ag,S.len,S.gX];exact S.alH h3 h4;iterate 2 (grind [S.ag,S.len,S.gX])
   intro h5;try simp only [df,tn] at h5
   with_reducible and_intros
   iterate 2 (grind [S.ag,S.len,S.gX])
   refine⟨(x1+nat_lit 1),?_⟩;try dsimp only
   with_reducible and_intros
   grind [S.ag,S.len,S.gX];exact S.alD h3 h5;iterate 2 (grind [S.ag,S.len,S.gX])
 with_reducible and_intros
 . (have q:=S.alI lI h2 [];exact q.2.1)
 . (have q:=S.alI lI h2 [];exact q.2.2.1)
 grind[S.aqY]
def asA(b:B8)(hp:S.small b):S.small b/\kB (bR (length (S.bM b))) ([]=S.hdT (S.bM b)) (rj (length (S.bM b))/\Ds 0 (length (S.bM b))/\nb (S.bM b) 0=S.hdT (S.bM b)):=by
 refine aE ?_;with_reducible and_intros
 omega
 . intro h1;simp only [dt] at h1;rw [show S.bM b=[] from d?.1 w!];rfl
 intro h2;simp only [df] at h2;with_reducible and_intros
 iterate 3 omega
 rfl
def asB(st:Int)(bb:B8)(at_:Int)(hp:st=0/\bb=S.zA/\at_=3):eI (sO st) (Cj st at_ (cE bb)) (S.small (nM st at_ bb)/\length ([(-1,st,S.hdT (S.bM (nM st at_ bb)))]:List (Int×Int×B8))<=4398046511104/\-(1:Int)=-1/\bb=bb/\at_=at_/\[(-1,st,S.hdT (S.bM (nM st at_ bb)))]=S.kE1) (st=-1) (bb=bb) (at_=at_/\[]=S.kE1):=by
 refine aE ?_;obtain⟨q1,q2,q3⟩:=hp;subst q1;subst q2;subst q3;refine⟨?_,?_⟩
 . intro h1;with_reducible and_intros
   iterate 2 omega
   decide;exact(show(drop 0 (take 3 S.zA)).length<=1099511627776 by decide);decide;iterate 4 rfl
 grind
def asC(b:B8)(hp:b=S.zA):S.small b/\(∃(x1:Nat),((0:Int)=(x1:Int)/\b=b/\(0:Int)=(x1:Int)/\-(1:Int)=S.tD x1)/\S.cc x1 (3:Nat))/\(∀(x2:Nat),S.cc x2 (3:Nat)->eI (decide ((x2:Int)<(length (S.decode b):Int))) (cK (0:Int) (x2:Int) (length (S.decode b):Int)) (mJ x2<length (S.decode b)/\mv (oz (S.letter (cZ (S.decode b) (mJ x2)))) (dH (na (S.letter (cZ (S.decode b) (mJ x2))) (S.digit (cZ (S.decode b) (mJ x2)))) True (b6 ((x2:Int)+cE (S.iU (cZ (S.decode b) (mJ x2))))/\eO (x2:Int) (∃(x3:Nat),((x2:Int)+(1:Int)=(x3:Int)/\b=b/\(x2:Int)+cE (S.iU (cZ (S.decode b) (mJ x2)))=(x3:Int)/\(bif decide (S.tD x2<(0:Int)) then(x2:Int) else S.tD x2)=S.tD x3)/\S.cc x3 (3:Nat)/\vA (3:Nat) x3 (S.ag (3:Nat) x2))) (S.tD x2=(0:Int)/\b=S.zA/\(x2:Int)=(3:Int)) (fX (decide (cZ (S.decode b) (mJ x2)=(32:Int))) (qK (x2:Int)) (eO (x2:Int) (∃(x4:Nat),((x2:Int)+(1:Int)=(x4:Int)/\b=b/\False/\(x2:Int)+(1:Int)=(x4:Int)/\-(1:Int)=S.tD x4)/\S.cc x4 (3:Nat)/\vA (3:Nat) x4 (S.ag (3:Nat) x2))) (dH (bif decide (cZ (S.decode b) (mJ x2)=(40:Int)) then decide (cZ (S.decode b) (mJ x2)=(40:Int)) else bif decide (cZ (S.decode b) (mJ x2)=(41:Int)) then decide (cZ (S.decode b) (mJ x2)=(41:Int)) else bif decide (cZ (S.decode b) (mJ x2)=(124:Int)) then decide (cZ (S.decode b) (mJ x2)=(124:Int)) else bif decide (cZ (S.decode b) (mJ x2)=(38:Int)) then decide (cZ (S.decode b) (mJ x2)=(38:Int)) else decide (cZ (S.decode b) (mJ x2)=(33:Int))) (acJ [(cZ (S.decode b) (mJ x2),(x2:Int),([]:B8))]) (eO (x2:Int) (eO (x2:Int) (∃(x5:Nat),((x2:Int)+(1:Int)=(x5:Int)/\b=b/\False/\(x2:Int)+(1:Int)=(x5:Int)/\-(1:Int)=S.tD x5)/\S.cc x5 (3:Nat)/\vA (3:Nat) x5 (S.ag (3:Nat) x2)))) (acJ [(-(3:Int),(x2:Int),([]:B8))]) (S.kE1++[(-(3:Int),(x2:Int),([]:B8))]=S.kE))))) (S.tD x2=(0:Int)/\b=S.zA/\(x2:Int)=(3:Int)) (acJ [(-(2:Int),cE b,([]:B8))]) (S.kE1++[(-(2:Int),cE b,([]:B8))]=S.kE)):=by
 refine aE ?_;subst hp;with_reducible and_intros
 exact(show S.zA.length<=1099511627776 by decide)
 . refine⟨(nat_lit 0:Nat),?_⟩;with_reducible and_intros
   decide;rfl;iterate 2 decide
   exact U! _
 intro x1 h2;refine V.dI (λh3=>?_) λgY=>?_
 . with_reducible and_intros
   iterate 3 omega
   trivial
   . intro h4;trivial
   . intro h5;trivial
   . intro h6;with_reducible and_intros
     trivial;omega
     . rcases S.ym h3 with rfl|rfl|rfl<;>first|exact absurd h7.1 (by decide)|decide
     omega
     . rcases S.ym h3 with rfl|rfl|rfl<;>first|exact absurd h7.1 (by decide)|decide
     refine⟨(x1+nat_lit 1),?_⟩;try dsimp only
     with_reducible and_intros
     omega;rfl
     iterate 2
      . rcases S.ym h3 with rfl|rfl|rfl<;>first|exact absurd h7.1 (by decide)|decide
     . unfold S.cc;have :x1<3:=by have:=S.ym h3;omega
       omega
     rcases S.ym h3 with rfl|rfl|rfl<;>first|exact absurd h7.1 (by decide)|decide
   intro h7;try simp only [V.ajY] at h7
   with_reducible and_intros
   . rcases S.ym h3 with rfl|rfl|rfl<;>first|exact absurd h7.1 (by decide)|decide
   with_reducible rfl
   . rcases S.ym h3 with rfl|rfl|rfl<;>first|exact absurd h7.1 (by decide)|decide
   . intro h8;with_reducible and_intros
     omega
     . rcases S.ym h3 with rfl|rfl|rfl<;>first|exact absurd h7.1 (by decide)|decide
     omega
     . rcases S.ym h3 with rfl|rfl|rfl<;>first|exact absurd h7.1 (by decide)|decide
     refine⟨(x1+nat_lit 1),?_⟩;try dsimp only
     with_reducible and_intros
     omega;rfl
     . rcases S.ym h3 with rfl|rfl|rfl<;>first|exact absurd h7.1 (by decide)|decide
     omega
     iterate 2
      . rcases S.ym h3 with rfl|rfl|rfl<;>first|exact absurd h7.1 (by decide)|decide
     rcases S.ym h3 with rfl|rfl|rfl<;>first|exact absurd h7.1 (by decide)|decide
   intro h9;refine⟨?_,?_⟩
   . intro de;with_reducible and_intros
     . rcases S.ym h3 with rfl|rfl|rfl<;>first|exact absurd h7.1 (by decide)|decide
     omega
     . rcases S.ym h3 with rfl|rfl|rfl<;>first|exact absurd h7.1 (by decide)|decide
     omega
     . rcases S.ym h3 with rfl|rfl|rfl<;>first|exact absurd h7.1 (by decide)|decide
     refine⟨(x1+nat_lit 1),?_⟩;try dsimp only
     with_reducible and_intros
     omega;rfl
     . rcases S.ym h3 with rfl|rfl|rfl<;>first|exact absurd h7.1 (by decide)|decide
     omega
     iterate 2
      . rcases S.ym h3 with rfl|rfl|rfl<;>first|exact absurd h7.1 (by decide)|decide
     rcases S.ym h3 with rfl|rfl|rfl<;>first|exact absurd h7.1 (by decide)|decide
   intro fC;refine⟨?_,?_⟩
   . rcases S.ym h3 with rfl|rfl|rfl<;>first|exact absurd h7.1 (by decide)|decide
   rcases S.ym h3 with rfl|rfl|rfl<;>first|exact absurd h7.1 (by decide)|decide
 with_reducible and_intros
 . (have hx:=S.ge3 h2 gY;subst hx;decide)
 rfl
 . (have hx:=S.ge3 h2 gY;subst hx;decide)
 iterate 2 decide
def asD(e:List (Int×Int×B8))(n w:Int)(hp:0<=n/\n<e.length):cK 0 n (length e)/\(getD e (toNat n) (0,0,[])).1=(S.vw e n).1/\(getD e (toNat n) (0,0,[])).2.1=(S.vw e n).2.1/\(getD e (toNat n) (0,0,[])).2.2=(S.vw e n).2.2/\e=e/\n=n/\w=w:=by
 refine aE ?_;with_reducible and_intros
 iterate 2 omega
 iterate 6 rfl
def asE(e:List (Int×Int×B8))(n w:Int)(l:List (Int×B8))(hp:0<=n/\n<e.length):cK 0 n (length e)/\(getD e (toNat n) (0,0,[])).1=(S.vw e n).1/\(getD e (toNat n) (0,0,[])).2.1=(S.vw e n).2.1/\(getD e (toNat n) (0,0,[])).2.2=(S.vw e n).2.2/\e=e/\SO n w (l=l):=by
 refine aE ?_;with_reducible and_intros
 iterate 2 omega
 iterate 7 rfl
def asF(d:Int)(e:List (Int×Int×B8))(n w:Int)(hp:e=S.kE/\n=0/\w=0):cK (0:Int) n (length e:Int)/\kB (decide ((S.vw e n).1=-(1:Int))) (gl (decide ((16:Int)<=w)) ((8:Int)=(0:Int)) (e=e) (n=(1:Int)/\w=(1:Int)/\PC) (qK w) (eO n (Pz (length [((0:Int),(S.vw e n).2.2)])/\(0:Int)=(0:Int)/\e=e/\n+(1:Int)=(1:Int)/\w+(1:Int)=(1:Int)/\[((0:Int),(S.vw e n).2.2)]=S.fy))) (kB (decide ((S.vw e n).1=(40:Int))) (gl (decide ((8:Int)<=d)) ((8:Int)=(0:Int)) (e=e) (n=(1:Int)/\w=(1:Int)/\PC) (qK n) False) (fX (decide ((S.vw e n).1=(33:Int))) ((9:Int)=(0:Int)) (e=e/\n=(1:Int)/\w=(1:Int)/\PC) ((2:Int)=(0:Int)/\e=e/\n=(1:Int)/\w=(1:Int)/\PC))):=by
 refine aE ?_;obtain⟨q1,q2,q3⟩:=hp;subst q1;subst q2;refine⟨⟨?_,?_⟩,⟨?_,?_⟩⟩
 . omega
 . decide
 . intro h1;refine⟨?_,?_⟩
   . grind
   intro h3;with_reducible and_intros
   iterate 4 omega
   decide;iterate 2 rfl
   iterate 2 omega
   decide
 intro h4;simp at h4;refine V.dI (λh5=>?_) λh8=>?_
 . refine V.dI (λh6=>?_) λh7=>?_
   . with_reducible and_intros
     exact absurd rfl h4;rfl;iterate 3 exact absurd rfl h4
   with_reducible and_intros
   iterate 2 omega
   exact absurd rfl h4
 refine V.dI (λh9=>?_) λde=>?_
 . with_reducible and_intros
   exact absurd rfl h4;rfl;iterate 3 exact absurd rfl h4
 with_reducible and_intros
 exact absurd rfl h4;rfl;iterate 3 exact absurd rfl h4
def asG(d:Int)(e:List (Int×Int×B8))(n w:Int)(hp:e=S.kE/\n=0/\w=0):(e=S.kE/\n=0/\w=0)/\gl (HL 0) ((0:Int)=0) (e=e) (PD 1) (∃(x1:Nat),(e=e/\PD 1)/\x1=0) (∀(x2:Nat),x2=0->cK 0 1 (length e)/\fX (decide ((S.vw e 1).1=38)) (qK 1) False (eI (decide ((S.vw e 1).1=33)) (qK 1) False yv (e=e) (PD 1))):=by
 refine aE ?_;obtain⟨q1,q2,q3⟩:=hp;subst q1;subst q2;subst q3;with_reducible and_intros
 iterate 3 rfl
 grind;intro h2;refine⟨?_,?_⟩
 . grind
 intro x3 h4;with_reducible and_intros
 omega;decide
 . intro h5;with_reducible and_intros
   iterate 2 omega
   exact absurd h5 (by decide)
 intro h6;refine⟨?_,?_⟩
 . intro h7;with_reducible and_intros
   iterate 2 omega
   exact absurd h7 (by decide)
 grind
def asH(d:Int)(e:List (Int×Int×B8))(n w:Int)(hp:e=S.kE/\n=0/\w=0):(e=S.kE/\n=0/\w=0)/\gl (HL 0) ((0:Int)=0) (e=e) (PD 1) (∃(x1:Nat),(e=e/\PD 1)/\x1=0) (∀(x2:Nat),x2=0->cK 0 1 (length e)/\eI (decide ((S.vw e 1).1=124)) (qK 1) False yv (e=e) (PD 1)):=by
 refine aE ?_;obtain⟨q1,q2,q3⟩:=hp;subst q1;subst q2;subst q3;with_reducible and_intros
 iterate 3 rfl
 grind;intro h2;refine⟨?_,?_⟩
 . grind
 intro x3 h4;with_reducible and_intros
 omega;decide
 . intro h5;with_reducible and_intros
   iterate 2 omega
   exact absurd h5 (by decide)
 grind
def asI(b:B8)(hp:b=S.zA):eI (Ei 2000 b) PC ((0:Int)=0/\(8:Int)=0) (b=S.zA) (S.kE=S.kE/\(0:Int)=0/\yv) (fX (bR 0) ((0:Int)<=1) ((1:Int)<length S.kE) True/\gl (cx (Ē 0 1 2)) (cK 0 (bif bR 0 then 1 else 1) (length (bif bR 0 then S.kE else S.kE))) PC ((S.vw (bif bR 0 then S.kE else S.kE) (bif bR 0 then 1 else 1)).2.1=0/\Ē 0 1 2=0) ((bif bR 0 then S.fy else S.fy)=S.fy) ((0:Int)=0/\yv)):=by
 refine aE ?_;subst hp;refine V.dI (λh1=>?_) λh2=>?_
 . with_reducible and_intros
   exact absurd h1 (by decide);rfl;exact absurd h1 (by decide)
 with_reducible and_intros
 iterate 4 rfl
 . intro h3;refine⟨?_,?_⟩
   . omega
   decide
 grind
 . intro h5;simp at h5;with_reducible and_intros
   iterate 2 decide
   iterate 2 (exact absurd (by decide) h5)
   decide
 grind
def asJ(v:Int)(d:Bool)(l:B8)(hp:l.length<=35184372088832):vB oH/\rh l (S.mn oH v)/\na (cx (S.xV v)) d=S.rM d (S.lO v)/\l++S.mn oH v=mu l (S.lO v):=by
 refine aE ?_;with_reducible and_intros
 grind;grind[S.aq2];grind[S.aG9];rw [S.aG8 v];rfl
def asK(b:B8)(m:Int)(d:Bool)(l:B8)(hp:l.length<=35184372088832/\b.length<=1099511627776):eI (Ei m b) (true=S.rM d (S.ik b m)) (l=mu l (S.ik b m)) (S.oV oH b) (rh l ([]++S.text b)) (d=S.rM d (S.ik b m)/\l++([]++S.text b)=mu l (S.ik b m)):=by
 refine aE ?_;refine V.dI (λh1=>?_) λh2=>?_
 . refine⟨?_,?_⟩
   . rw [S.abL h1];exact(x? d).symm
   rw [S.abL h1];exact(H? l).symm
 with_reducible and_intros
 exact⟨U! _,w!⟩
 . have:=S.alK b;simp;omega
 . rw [S.alO h2];exact(Bool.or_false d).symm
 rw [S.alO h2];rfl
def asL(y1:Int)(y2:B8)(y3:List (Int×Int×Int×B8))(d:Bool)(l:B8)(hp:l.length<=35184372088832):gk (eI (cx (S.hW y1 y2 y3).2) (true=S.rM d (S.ajd y1 y2 y3)) (l=mu l (S.ajd y1 y2 y3)) (vB l/\SM (S.hW y1 y2 y3).1) (S.rM d (S.ik (S.hW y1 y2 y3).1 10000)=S.rM d (S.ajd y1 y2 y3)) (mu l (S.ik (S.hW y1 y2 y3).1 10000)=mu l (S.ajd y1 y2 y3))):=by
 refine aE ?_;with_reducible and_intros
 trivial
 . intro h1;simp at h1;refine⟨?_,?_⟩
   . rw [S.alP h1];exact(x? d).symm
   rw [S.alP h1];exact(H? l).symm
 grind[S.aq3]
def asM(p:List B8)(d:Bool)(l:B8)(hp:l.length<=17592186044416):eI (PF (bu p)) (true=S.rM d (S.kO p)) (l=mu l (S.kO p)) (vB l) (∃(x1:Nat),((0:Int)=x1/\S.rM d (S.lO (bu p))=d/\mu l (S.lO (bu p))=l++S.il p x1)/\S.mA p x1) (∀(x2:Nat),S.mA p x2->dH (decide (x2<bu p)) (cK 0 x2 (bu p)) (dH (mZ (length (nb p x2)) 32) (true=S.rM d (S.kO p)) (l++S.il p x2=mu l (S.kO p)) (Eh (l++S.il p x2) (length (nb p x2))) (eO x2 (∃(x3:Nat),((x2:Int)+1=x3/\d=d/\l++S.il p x2++nb p x2=l++S.il p x3)/\S.mA p x3/\o8 (S.len p) x3 x2))) (d=S.rM d (S.kO p)) (l++S.il p x2=mu l (S.kO p))):=by
 refine aE ?_;refine V.dI (λh1=>?_) λh2=>?_
 . refine⟨?_,?_⟩
   . rw [S.alL h1];exact(x? d).symm
   rw [S.alL h1];exact(H? l).symm
 with_reducible and_intros
 omega
 . refine⟨(nat_lit 0:Nat),?_⟩;dsimp only;with_reducible and_intros
   omega
   . rw [S.LX w!];exact Bool.or_false d
   grind[S.LX,S.il,S.bytesOf];exact S.aG7 h2
 intro x3 h4;refine V.dI (λh5=>?_) λh8=>?_
 . with_reducible and_intros
   iterate 2 omega
   . intro h6;simp at h6;refine⟨?_,?_⟩
     . rw [S.abJ h4 h5 h6];exact(x? d).symm
     rw [S.abJ h4 h5 h6];rfl
   intro h7;simp only [nf,dt,tn] at h7;with_reducible and_intros
   . have q:=S.aq0 h4;rw [K!,tn];omega
   iterate 2 omega
   refine⟨(x3+nat_lit 1),?_⟩;dsimp only;with_reducible and_intros
   omega;rfl;rw [tn,W!,(S.Ya h4 h5 h7).2];exact(S.Ya h4 h5 h7).1;simp [S.ag,S.len];omega
 refine⟨?_,?_⟩
 . rw [S.abK h4 h8];exact(Bool.or_false d).symm
 rw [S.abK h4 h8];rfl
def asN(p1:Int)(p2 p3 p4:B8)(p5:List B8)(p6:B8)(d:Bool)(l:B8)(hp:l.length<=8796093022208/\p6.length<=1099511627776):vB l/\gk (eI (cx (S.kM p2 p3 p4)) (true=S.rM d (S.ku (p1,p2,p3,p4,p5,p6))) (mu l (S.lO p1)=mu l (S.ku (p1,p2,p3,p4,p5,p6))) (vB (mu l (S.lO p1))/\SM (S.fW p2 p3 p4)) (q92 (length (mu (mu l (S.lO p1)) (S.ik (S.fW p2 p3 p4) 200)))) ((vB (mu (mu (mu l (S.lO p1)) (S.ik (S.fW p2 p3 p4) 200)) (S.kO p5))/\SM p6)/\S.rM (S.rM (S.rM (S.rM d (S.lO p1)) (S.ik (S.fW p2 p3 p4) 200)) (S.kO p5)) (S.ik p6 4000)=S.rM d (S.ku (p1,p2,p3,p4,p5,p6))/\mu (mu (mu (mu l (S.lO p1)) (S.ik (S.fW p2 p3 p4) 200)) (S.kO p5)) (S.ik p6 4000)=mu l (S.ku (p1,p2,p3,p4,p5,p6)))):=by
 refine aE ?_;have a1:=S.X8 p1;have a2:=S.C9 (S.fW p2 p3 p4) (m:=200) (by decide);have a3:=S.OO p5;have a4:=S.aq4 p2 p3 p4;with_reducible and_intros
 omega;trivial
 . intro h1;simp at h1;refine⟨?_,?_⟩
   . rw [S.abM h1];exact(x? d).symm
   rw [S.abM h1];rfl
 grind[S.bytesOf,List.length_append,S.alQ,S.rM,S.cat,Bool.or_assoc,List.append_assoc]
def asO(d:Bool)(l:B8):fX d ([]=S.wy (l,d)) (1=S.wz (l,d)) (dH (Ei 1048576 l) ([]=S.wy (l,d)) (3=S.wz (l,d)) (l=S.wy (l,d)) (0=S.wz (l,d))):=by
 refine aE ?_;simp_all[dt,S.wy,J!,M!,S.wz,df]
def asP(a1:Int)(a2:B8)(a3:List (Int×Int×Int×B8))(a4:List (List (Int×B8×B8×B8×List B8×B8)))(hp:S.qD a4)(hf:Vg.gq J.acA (a1,a2,a3,a4)):vB [1]/\dH (mZ (length a4) (length a3)) ([]=(S.kv a1 a2 a3 a4).1) (1=(S.kv a1 a2 a3 a4).2) (∃(x1:Nat),PE 0 x1 false (S.ajd a1 a2 a3) (S.cY a1 a2 a3 a4 x1) [1]/\S.kz a3 a4 x1) (∀(x2:Nat),S.kz a3 a4 x2->eI (decide ((x2:Int)<length a4)) (cK 0 x2 (length a4)) (eI (decide ((16:Int)<length (getD a4 (toNat x2) []))) ([]=(S.kv a1 a2 a3 a4).1) (1=(S.kv a1 a2 a3 a4).2) (vB (S.bytesOf (S.cY a1 a2 a3 a4 x2))) (∃(x3:Nat×Nat),PE 0 x3.1 (S.iG (S.cY a1 a2 a3 a4 x2)) (S.lO (length (getD a4 (toNat x2) []))) (S.dN a1 a2 a3 a4 x3.2 x3.1) (S.bytesOf (S.cY a1 a2 a3 a4 x2))/\S.iH a3 a4 x3.2 x3.1/\(x2:Int)=x3.2) (∀(x4:Nat×Nat),S.iH a3 a4 x4.2 x4.1/\(x2:Int)=x4.2->gl (decide ((x4.1:Int)<length (getD a4 (toNat x2) []))) (cK 0 x4.1 (length (getD a4 (toNat x2) []))) (đ (length (S.bytesOf (S.dN a1 a2 a3 a4 x4.2 x4.1)))/\SM (Co a4 x2 x4).2.2.2.2.2) (b6 (x4.1+1)/\(∃(x5:Nat×Nat),PE (x4.1+1) x5.1 (S.iG (S.dN a1 a2 a3 a4 x4.2 x4.1)) (S.ku ((Co a4 x2 x4).1,(Co a4 x2 x4).2.1,(Co a4 x2 x4).2.2.1,(Co a4 x2 x4).2.2.2.1,(Co a4 x2 x4).2.2.2.2.1,(Co a4 x2 x4).2.2.2.2.2)) (S.dN a1 a2 a3 a4 x5.2 x5.1) (S.bytesOf (S.dN a1 a2 a3 a4 x4.2 x4.1))/\(S.iH a3 a4 x5.2 x5.1/\(x2:Int)=x5.2)/\vA (S.len (S.iE a4 x5.2)) x5.1 (S.ag (S.len (S.iE a4 x4.2)) x4.1))) (qK x2) (∃(x6:Nat),((x2:Int)+1=x6/\S.iG (S.dN a1 a2 a3 a4 x4.2 x4.1)=S.iG (S.cY a1 a2 a3 a4 x6)/\S.bytesOf (S.dN a1 a2 a3 a4 x4.2 x4.1)=S.bytesOf (S.cY a1 a2 a3 a4 x6))/\S.kz a3 a4 x6/\o8 (S.len a4) x6 x2))) True (S.wy (S.bytesOf (S.cY a1 a2 a3 a4 x2),S.iG (S.cY a1 a2 a3 a4 x2))=(S.kv a1 a2 a3 a4).1) (S.wz (S.bytesOf (S.cY a1 a2 a3 a4 x2),S.iG (S.cY a1 a2 a3 a4 x2))=(S.kv a1 a2 a3 a4).2)):=by
 refine aE ?_;have aDF:Vg.hlen a3:=hf.2.2.1.1;with_reducible and_intros
 decide;grind[nt,df,S.alN];intro h2;simp at h2;refine⟨?_,?_⟩
 . refine⟨(nat_lit 0:Nat),?_⟩;dsimp only;with_reducible and_intros
   omega;iterate 2 rfl
   grind[S.ayL]
 intro x3 h4;refine V.dI (λh5=>?_) λgY=>?_
 . with_reducible and_intros
   iterate 2 omega
   . intro h6;try simp at h6
     refine⟨?_,?_⟩
     . rw [S.LV h5 h6]
     rw [S.LV h5 h6]
   intro h7;try simp only [df,tn] at h7
   with_reducible and_intros
   exact X? (S.UK (n:=a1) (g:=a2) h4) (by decide)
   . refine⟨((nat_lit 0:Nat),(x3)),?_⟩;try dsimp only
     with_reducible and_intros
     omega
     iterate 2
      . rw [tn,S.LX w!];rfl
     exact S.alM h4 h5 h7;with_reducible rfl
   intro x8 h9;refine⟨?_,?_⟩
   . intro de;try simp only [dt,tn] at de
     with_reducible and_intros
     omega;assumption;exact X? (S.Yd (n:=a1) (g:=a2) h9.1) (by decide)
     . obtain⟨q,e⟩:=h9;have e':x8.2=x3:=by omega
       rw [e'] at q;exact S.Yc q de
     iterate 2 omega
     refine⟨((Prod.fst x8+nat_lit 1),(x3)),?_⟩;try dsimp only
     with_reducible and_intros
     omega
     . obtain⟨q,e⟩:=h9;have e':x8.2=x3:=by omega
       rw [e',tn,tn];exact(S.abN _ rfl _ _ rfl rfl).1
     . obtain⟨q,e⟩:=h9;have e':x8.2=x3:=by omega
       rw [e',tn,tn];exact(S.abN _ rfl _ _ rfl rfl).2
     . obtain⟨q,e⟩:=h9;have e':x8.2=x3:=by omega
       rw [e'] at q;exact S.Yb q de
     with_reducible rfl
     obtain⟨q,e⟩:=h9;have e':x8.2=x3:=by omega
     rw [e'];have hh:(x8.1:Int)<((S.iE a4 x3).length:Int):=de;simp only [S.ag,S.len];omega
   intro fC;try simp only [df,tn] at fC
   with_reducible and_intros
   iterate 2 omega
   refine⟨(x3+nat_lit 1),?_⟩;try dsimp only
   with_reducible and_intros
   omega
   iterate 2
    . obtain⟨q,e⟩:=h9;have e':x8.2=x3:=by omega
      rw [e'] at q |-;rw [(S.LU (n:=a1) (g:=a2) q fC).2]
   . obtain⟨q,e⟩:=h9;have e':x8.2=x3:=by omega
     rw [e'] at q;exact(S.LU (n:=a1) (g:=a2) q fC).1
   simp only [S.ag,S.len];omega
 with_reducible and_intros
 trivial
 . rw [S.LW h4 gY];rfl
 rw [S.LW h4 gY];rfl
def asQ(b:B8)(c:UInt8)(hp:S.dY b c=0):fX (decide (1048576<cE b)) False ((3:Int)=0/\False) (Fi (bR (cE b)) False ((4:Int)=0/\False) (rj (cE b)) (mZ (fF b 0) (Py c)) ((2:Int)=0/\False) (0=0) yv (b=b/\(1:Int)=1/\yv)):=by
 refine aE ?_;refine⟨?_,?_⟩
 . intro h1;simp_all[dt,S.abO]
 intro h2;refine⟨?_,?_⟩
 . intro h3;simp_all[dt,S.abP]
 grind[df,nt,S.alR]
def asR(b:B8)(c:UInt8)(hp:¬S.dY b c=0):kB (decide (1048576<cE b)) (3=S.dY b c) (kB (bR (cE b)) (4=S.dY b c) (rj (cE b)/\kB (mZ (fF b 0) (Py c)) (2=S.dY b c) (False/\0=S.dY b c))):=by
 refine aE ?_;refine⟨?_,?_⟩
 . simp_all[dt,S.abO]
 intro h2;refine⟨?_,?_⟩
 . simp_all[dt,S.abP]
 intro h4;simp only [df] at h4;with_reducible and_intros
 iterate 2 omega
 grind[nt,df,S.alR];intro h6;simp_all[nf,dt,S.aA7]
def asS(r1:B8)(r2 r3:Int)(hp:r1.length<=140737488355328):ir r1/\(S.af r1 r2 r3).2=(S.af r1 r2 r3).2/\(S.af r1 r2 r3).1.1=r1/\(S.af r1 r2 r3).1.2.1=(S.af r1 r2 r3).1.2.1/\(S.af r1 r2 r3).1.2.2=(S.af r1 r2 r3).1.2.2:=by
 refine aE ?_;grind[S.C4]
def asT(m:Int)(r1:B8)(r2 r3:Int)(hp:r1.length<=140737488355328):ir r1/\(S.an r1 r2 r3 m).2=(S.an r1 r2 r3 m).2/\(S.an r1 r2 r3 m).1.1=r1/\(S.an r1 r2 r3 m).1.2.1=(S.an r1 r2 r3 m).1.2.1/\(S.an r1 r2 r3 m).1.2.2=(S.an r1 r2 r3 m).1.2.2:=by
 refine aE ?_;grind[S.BM]
def asU(m:Int)(r1:B8)(r2 r3:Int)(hp:r1.length<=140737488355328):ir r1/\eI (decide (m<(S.af r1 r2 r3).2)) (0=(S.dh r1 r2 r3 m).2) (r1=r1/\(S.af r1 r2 r3).1.2.1=(S.dh r1 r2 r3 m).1.1/\2=(S.dh r1 r2 r3 m).1.2) ((S.af r1 r2 r3).2=(S.dh r1 r2 r3 m).2) (r1=r1) ((S.af r1 r2 r3).1.2.1=(S.dh r1 r2 r3 m).1.1/\(S.af r1 r2 r3).1.2.2=(S.dh r1 r2 r3 m).1.2):=by
 refine aE ?_;simp_all[dt,S.aq6,df,S.aA8]
def asV(r1:B8)(r2 r3:Int)(hp:r1.length<=140737488355328):ir r1/\gl (cx (S.an r1 r2 r3 10000).1.2.2) (0=(S.cC r1 r2 r3).2.1) ([]=(S.cC r1 r2 r3).2.2.1) ([]=(S.cC r1 r2 r3).2.2.2/\r1=r1/\(S.an r1 r2 r3 10000).1.2.1=(S.cC r1 r2 r3).1.1/\(S.an r1 r2 r3 10000).1.2.2=(S.cC r1 r2 r3).1.2) (ir (S.an r1 r2 r3 10000).2) ((S.hR (S.an r1 r2 r3 10000).2).1.1=(S.cC r1 r2 r3).2.1/\(S.hR (S.an r1 r2 r3 10000).2).1.2.1=(S.cC r1 r2 r3).2.2.1/\(S.hR (S.an r1 r2 r3 10000).2).1.2.2=(S.cC r1 r2 r3).2.2.2/\r1=r1/\(S.an r1 r2 r3 10000).1.2.1=(S.cC r1 r2 r3).1.1/\(S.hR (S.an r1 r2 r3 10000).2).2=(S.cC r1 r2 r3).1.2):=by
 refine aE ?_;with_reducible and_intros
 omega;grind[nt,df,S.aA9];grind[S.LY,S.aq7]
def asW(r1:B8)(r2 r3:Int)(hp:r1.length<=140737488355328):ir r1/\eI (cx (S.an r1 r2 r3 200).1.2.2) ([]=(S.kQ r1 r2 r3).2.1) ([]=(S.kQ r1 r2 r3).2.2.1/\[]=(S.kQ r1 r2 r3).2.2.2/\r1=r1/\(S.an r1 r2 r3 200).1.2.1=(S.kQ r1 r2 r3).1.1/\(S.an r1 r2 r3 200).1.2.2=(S.kQ r1 r2 r3).1.2) (ir (S.an r1 r2 r3 200).2) ((S.bj (S.an r1 r2 r3 200).2).1.1=(S.kQ r1 r2 r3).2.1) ((S.bj (S.an r1 r2 r3 200).2).1.2.1=(S.kQ r1 r2 r3).2.2.1/\(S.bj (S.an r1 r2 r3 200).2).1.2.2=(S.kQ r1 r2 r3).2.2.2/\r1=r1/\(S.an r1 r2 r3 200).1.2.1=(S.kQ r1 r2 r3).1.1/\(S.bj (S.an r1 r2 r3 200).2).2=(S.kQ r1 r2 r3).1.2):=by
 refine aE ?_;with_reducible and_intros
 omega;grind[nt,df,S.aBa];grind[S.LY,S.aq8]
def asX(r1:B8)(r2 r3:Int)(hp:r1.length<=140737488355328):ir r1/\(∃(x1:Nat),((0:Int)=x1/\[]=(S.dB r1 r2 r3 x1).2/\r1=r1/\(S.dh r1 r2 r3 64).1.1=(S.dB r1 r2 r3 x1).1.1/\(S.dh r1 r2 r3 64).1.2=(S.dB r1 r2 r3 x1).1.2)/\S.cc x1 (S.pg r1 r2 r3))/\(∀(x2:Nat),S.cc x2 (S.pg r1 r2 r3)->eI (decide (x2<(S.dh r1 r2 r3 64).2)) (ir r1) (KU (S.dB r1 r2 r3 x2).2 [(S.ar r1 (S.dB r1 r2 r3 x2).1.1 (S.dB r1 r2 r3 x2).1.2).2]/\eO x2 (∃(x3:Nat),((x2:Int)+1=x3/\(S.dB r1 r2 r3 x2).2++[(S.ar r1 (S.dB r1 r2 r3 x2).1.1 (S.dB r1 r2 r3 x2).1.2).2]=(S.dB r1 r2 r3 x3).2/\(S.ar r1 (S.dB r1 r2 r3 x2).1.1 (S.dB r1 r2 r3 x2).1.2).1.1=r1/\(S.ar r1 (S.dB r1 r2 r3 x2).1.1 (S.dB r1 r2 r3 x2).1.2).1.2.1=(S.dB r1 r2 r3 x3).1.1/\(S.ar r1 (S.dB r1 r2 r3 x2).1.1 (S.dB r1 r2 r3 x2).1.2).1.2.2=(S.dB r1 r2 r3 x3).1.2)/\Cf x3 (S.pg r1 r2 r3) x2)) ((S.dB r1 r2 r3 x2).2=(S.iK r1 r2 r3).2) (r1=r1) ((S.dB r1 r2 r3 x2).1.1=(S.iK r1 r2 r3).1.1/\(S.dB r1 r2 r3 x2).1.2=(S.iK r1 r2 r3).1.2)):=by
 refine aE ?_;with_reducible and_intros
 omega
 . refine⟨(nat_lit 0:Nat),?_⟩;dsimp only;with_reducible and_intros
   omega;iterate 4 rfl
   exact U! _
 intro x1 h2;refine V.dI (λh3=>?_) λh4=>?_
 . with_reducible and_intros
   omega
   . have:=S.LZ r1 r2 r3 x1;have:=S.OP r1 r2 r3;have q:x1<=S.pg r1 r2 r3:=h2
     rw [C?];omega
   omega
   . have:=S.OP r1 r2 r3;have q:x1<=S.pg r1 r2 r3:=h2
     omega
   refine⟨(x1+nat_lit 1),?_⟩;dsimp only;with_reducible and_intros
   omega;exact rfl;exact(S.C4 _ _ _).2;iterate 2 exact rfl
   exact S.ó h3;have e:S.pg r1 r2 r3=(S.dh r1 r2 r3 64).2.toNat:=rfl;simp [S.ag];omega
 with_reducible and_intros
 . have e:=S.OQ h2 h4;rw [e];rfl
 rfl
 . have e:=S.OQ h2 h4;rw [e];rfl
 have e:=S.OQ h2 h4;rw [e];rfl
def asY(r1:B8)(r2 r3:Int)(hp:r1.length<=140737488355328):ir r1/\ir r1/\ir r1/\ir r1/\(S.af r1 r2 r3).2=(S.iF r1 r2 r3).2.1/\(mI r1 r2 r3).2.1=(S.iF r1 r2 r3).2.2.1/\(mI r1 r2 r3).2.2.1=(S.iF r1 r2 r3).2.2.2.1/\(mI r1 r2 r3).2.2.2=(S.iF r1 r2 r3).2.2.2.2.1/\(S.iK r1 (mI r1 r2 r3).1.1 (mI r1 r2 r3).1.2).2=(S.iF r1 r2 r3).2.2.2.2.2.1/\(S.an r1 (S.iK r1 (mI r1 r2 r3).1.1 (mI r1 r2 r3).1.2).1.1 (S.iK r1 (mI r1 r2 r3).1.1 (mI r1 r2 r3).1.2).1.2 4000).2=(S.iF r1 r2 r3).2.2.2.2.2.2/\r1=r1/\(S.an r1 (S.iK r1 (mI r1 r2 r3).1.1 (mI r1 r2 r3).1.2).1.1 (S.iK r1 (mI r1 r2 r3).1.1 (mI r1 r2 r3).1.2).1.2 4000).1.2.1=(S.iF r1 r2 r3).1.1/\(S.an r1 (S.iK r1 (mI r1 r2 r3).1.1 (mI r1 r2 r3).1.2).1.1 (S.iK r1 (mI r1 r2 r3).1.1 (mI r1 r2 r3).1.2).1.2 4000).1.2.2=(S.iF r1 r2 r3).1.2:=by
 refine aE ?_;with_reducible and_intros
 iterate 4 omega
 iterate 9 rfl
def asZ(b:B8)(hp:b.length<=140737488355328/\S.dY b 1=0):S.dY b 1=0/\eI (HL 0) (0=(S.bp b).1.1) ([]=(S.bp b).1.2.1/\[]=(S.bp b).1.2.2.1/\[]=(S.bp b).1.2.2.2/\0=(S.bp b).2) (ir b) (∃(x1:Nat),((0:Int)=x1/\b=b/\(S.cC b 1 0).1.1=(S.js b x1).1.1/\(S.cC b 1 0).1.2=(S.js b x1).1.2/\(S.cC b 1 0).2.1=(iO b).1/\(S.cC b 1 0).2.2.1=(iO b).2.1/\(S.cC b 1 0).2.2.2=(iO b).2.2/\[]=(S.js b x1).2)/\S.cc x1 (S.aN b)) (∀(x2:Nat),S.cc x2 (S.aN b)->gl (decide ((x2:Int)<length (S.cC b 1 0).2.2.2)) (ir b) (∃(x3:Nat×Nat),((0:Int)=x3.1/\[]=(S.BX b x3.2 x3.1).2/\b=b/\(S.dh b (S.js b x2).1.1 (S.js b x2).1.2 16).1.1=(S.BX b x3.2 x3.1).1.1/\(S.dh b (S.js b x2).1.1 (S.js b x2).1.2 16).1.2=(S.BX b x3.2 x3.1).1.2/\(iO b).1=(iO b).1/\(iO b).2.1=(iO b).2.1/\(iO b).2.2=(iO b).2.2/\(S.js b x2).2=(S.js b x3.2).2)/\(S.cc x3.1 (S.qE b x3.2)/\x3.2+1<=S.aN b)/\(x2:Int)=x3.2) (∀(x4:Nat×Nat),(S.cc x4.1 (S.qE b x4.2)/\x4.2+1<=S.aN b)/\(x2:Int)=x4.2->gl (decide (x4.1<(S.dh b (S.js b x2).1.1 (S.js b x2).1.2 16).2)) (ir b) (length (zM b x4).2+length [((pH b x4).2.1,(pH b x4).2.2.1,(pH b x4).2.2.2.1,(pH b x4).2.2.2.2.1,(pH b x4).2.2.2.2.2.1,(pH b x4).2.2.2.2.2.2)]<=1353245080339) (b6 (x4.1+1)/\(∃(x5:Nat×Nat),((x4.1:Int)+1=x5.1/\(zM b x4).2++[((pH b x4).2.1,(pH b x4).2.2.1,(pH b x4).2.2.2.1,(pH b x4).2.2.2.2.1,(pH b x4).2.2.2.2.2.1,(pH b x4).2.2.2.2.2.2)]=(S.BX b x5.2 x5.1).2/\b=b/\(pH b x4).1.1=(S.BX b x5.2 x5.1).1.1/\(pH b x4).1.2=(S.BX b x5.2 x5.1).1.2/\(iO b).1=(iO b).1/\(iO b).2.1=(iO b).2.1/\(iO b).2.2=(iO b).2.2/\(S.js b x4.2).2=(S.js b x5.2).2)/\((S.cc x5.1 (S.qE b x5.2)/\x5.2+1<=S.aN b)/\(x2:Int)=x5.2)/\vA (S.qE b x5.2) x5.1 (S.ag (S.qE b x4.2) x4.1))) (acI (S.js b x4.2).2 [(zM b x4).2]) (eO x2 (∃(x6:Nat),((x2:Int)+1=x6/\b=b/\(zM b x4).1.1=(S.js b x6).1.1/\(zM b x4).1.2=(S.js b x6).1.2/\(iO b).1=(iO b).1/\(iO b).2.1=(iO b).2.1/\(iO b).2.2=(iO b).2.2/\(S.js b x4.2).2++[(zM b x4).2]=(S.js b x6).2)/\Cf x6 (S.aN b) x2))) True (eI (cx (S.done b (S.js b x2).1.1 (S.js b x2).1.2)) (0=(S.bp b).1.1) ([]=(S.bp b).1.2.1/\[]=(S.bp b).1.2.2.1/\[]=(S.bp b).1.2.2.2/\S.done b (S.js b x2).1.1 (S.js b x2).1.2=(S.bp b).2) ((iO b).1=(S.bp b).1.1) ((iO b).2.1=(S.bp b).1.2.1) ((iO b).2.2=(S.bp b).1.2.2.1/\(S.js b x2).2=(S.bp b).1.2.2.2/\0=(S.bp b).2))):=by
 refine aE ?_;have qg:=hp.2;with_reducible and_intros
 omega;grind;intro h2;with_reducible and_intros
 omega
 . refine⟨(nat_lit 0:Nat),?_⟩;dsimp only;with_reducible and_intros
   omega;iterate 7 rfl
   exact U! _
 intro x3 h4;refine V.dI (λh5=>?_) λde=>?_
 . with_reducible and_intros
   omega
   . refine⟨((nat_lit 0:Nat),(x3)),?_⟩;try dsimp only
     with_reducible and_intros
     omega;exact rfl;rfl;iterate 2 exact rfl
     iterate 3 rfl
     with_reducible rfl
     exact U! _;exact S.UL h5;with_reducible rfl
   intro x6 h7;refine V.dI (λh8=>?_) λh9=>?_
   . with_reducible and_intros
     omega
     . rw [S.aq9,C?];have:=S.alT b x6.2;have :x6.1<=S.qE b x6.2:=h7.1.1
       omega
     omega
     . have:=S.alT b x6.2;have :x6.1<=S.qE b x6.2:=h7.1.1
       omega
     refine⟨((Prod.fst x6+nat_lit 1),(x3)),?_⟩;try dsimp only
     with_reducible and_intros
     omega
     . have e':x6.2=x3:=by have:=h7.2;omega
       rw [e'];exact rfl
     rfl
     iterate 2
      . have e':x6.2=x3:=by have:=h7.2;omega
        rw [e'];exact rfl
     iterate 3 rfl
     . have e':x6.2=x3:=by have:=h7.2;omega
       rw [e']
     exact S.ó (by assumption);omega;with_reducible rfl
     have e':x6.2=x3:=by have:=h7.2;omega
     rw [e'];have q:=S.ó (by assumption);have w:S.qE b x3=(S.dh b (S.js b x3).1.1 (S.js b x3).1.2 16).2.toNat:=rfl
     simp only [S.ag];omega
   with_reducible and_intros
   . rw [S.ara,C?];have:=S.ô b;have:=h7.1.2;omega
   omega
   . have:=S.ô b;have:=S.UL h5;omega
   refine⟨(x3+nat_lit 1),?_⟩;try dsimp only
   with_reducible and_intros
   omega;rfl
   iterate 2
    . have e':x6.2=x3:=by have:=h7.2;omega
      rw [e'];have q:x6.1=S.qE b x3:=S.OQ (e'▸h7.1.1) (by assumption)
      rw [q];exact rfl
   iterate 3 rfl
   . have e':x6.2=x3:=by have:=h7.2;omega
     rw [e'];have q:x6.1=S.qE b x3:=S.OQ (e'▸h7.1.1) (by assumption)
     rw [q];exact rfl
   exact S.UL h5;have:=S.UL h5;simp only [S.ag];omega
 with_reducible and_intros
 trivial
 . intro fC;simp at fC;with_reducible and_intros
   iterate 4 (rw [S.alU qg (S.õ h4 (by assumption)) (by assumption)])
   rw [S.alU qg (S.õ h4 (by assumption)) (by assumption)]
 grind[S.ayN,S.õ]
def as1(b:B8)(hp:¬S.dY b 1=0):(S.dY b 1=0->False)/\fX (cx (S.dY b 1)) (0=(S.bp b).1.1) ([]=(S.bp b).1.2.1/\[]=(S.bp b).1.2.2.1/\[]=(S.bp b).1.2.2.2/\S.dY b 1=(S.bp b).2) False:=by
 refine aE ?_;simp_all[nt,df,S.ayM,nf,dt]
def as2(b:B8)(hp:b.length<=140737488355328/\S.dY b 2=0):S.dY b 2=0/\gl (HL 0) (0=(S.ak b).1.1) ([]=(S.ak b).1.2.1) ([]=(S.ak b).1.2.2.1/\0=(S.ak b).1.2.2.2.1/\[]=(S.ak b).1.2.2.2.2.1/\[]=(S.ak b).1.2.2.2.2.2/\0=(S.ak b).2) (ir b) (ir b/\ir b/\ir b/\gk (eI (cx (S.done b (Jy b).1.1 (Jy b).1.2)) (0=(S.ak b).1.1) ([]=(S.ak b).1.2.1/\[]=(S.ak b).1.2.2.1/\0=(S.ak b).1.2.2.2.1/\[]=(S.ak b).1.2.2.2.2.1/\[]=(S.ak b).1.2.2.2.2.2/\S.done b (Jy b).1.1 (Jy b).1.2=(S.ak b).2) ((S.cC b 1 0).2.1=(S.ak b).1.1) ((S.cC b 1 0).2.2.1=(S.ak b).1.2.1) ((S.cC b 1 0).2.2.2=(S.ak b).1.2.2.1/\(Cn b).2=(S.ak b).1.2.2.2.1/\(S.an b (Cn b).1.2.1 (Cn b).1.2.2 2000).2=(S.ak b).1.2.2.2.2.1/\(Jy b).2=(S.ak b).1.2.2.2.2.2/\0=(S.ak b).2))):=by
 refine aE ?_;have qg:=hp.2;with_reducible and_intros
 omega;grind;intro h2;with_reducible and_intros
 iterate 4 omega
 trivial
 . intro h3;simp at h3;with_reducible and_intros
   iterate 6 (rw [S.alV qg h3])
   rw [S.alV qg h3];rfl
 intro h4;simp at h4;with_reducible and_intros
 iterate 6
  . rw [S.alW qg h4];rfl
 rw [S.alW qg h4]
def as3(b:B8)(hp:¬S.dY b 2=0):(S.dY b 2=0->False)/\fX (cx (S.dY b 2)) (0=(S.ak b).1.1) ([]=(S.ak b).1.2.1/\[]=(S.ak b).1.2.2.1/\0=(S.ak b).1.2.2.2.1/\[]=(S.ak b).1.2.2.2.2.1/\[]=(S.ak b).1.2.2.2.2.2/\S.dY b 2=(S.ak b).2) False:=by
 refine aE ?_;simp_all[nt,df,S.aBb,nf,dt]
def as4(b:B8)(hp:b.length<=140737488355328/\S.dY b 3=0):S.dY b 3=0/\gl (HL 0) (0=(S.ah b).1.1) ([]=(S.ah b).1.2.1) ([]=(S.ah b).1.2.2.1/\0=(S.ah b).1.2.2.2.1/\[]=(S.ah b).1.2.2.2.2.1/\[]=(S.ah b).1.2.2.2.2.2.1/\[]=(S.ah b).1.2.2.2.2.2.2/\0=(S.ah b).2) (ir b) (ir b/\ir b/\gk (eI (cx (S.done b (JA b).1.1 (JA b).1.2)) (0=(S.ah b).1.1) ([]=(S.ah b).1.2.1/\[]=(S.ah b).1.2.2.1/\0=(S.ah b).1.2.2.2.1/\[]=(S.ah b).1.2.2.2.2.1/\[]=(S.ah b).1.2.2.2.2.2.1/\[]=(S.ah b).1.2.2.2.2.2.2/\S.done b (JA b).1.1 (JA b).1.2=(S.ah b).2) ((S.cC b 1 0).2.1=(S.ah b).1.1) ((S.cC b 1 0).2.2.1=(S.ah b).1.2.1) ((S.cC b 1 0).2.2.2=(S.ah b).1.2.2.1/\(Jz b).2.1=(S.ah b).1.2.2.2.1/\(Jz b).2.2.1=(S.ah b).1.2.2.2.2.1/\(Jz b).2.2.2=(S.ah b).1.2.2.2.2.2.1/\(JA b).2=(S.ah b).1.2.2.2.2.2.2/\0=(S.ah b).2))):=by
 refine aE ?_;have qg:=hp.2;with_reducible and_intros
 omega;grind;intro h2;with_reducible and_intros
 iterate 3 omega
 trivial
 . intro h3;simp at h3;with_reducible and_intros
   iterate 7 (rw [S.str_1 qg h3])
   rw [S.str_1 qg h3];rfl
 intro h4;simp at h4;with_reducible and_intros
 iterate 7
  . rw [S.alX qg h4];rfl
 rw [S.alX qg h4]
def as5(b:B8)(hp:¬S.dY b 3=0):(S.dY b 3=0->False)/\fX (cx (S.dY b 3)) (0=(S.ah b).1.1) ([]=(S.ah b).1.2.1/\[]=(S.ah b).1.2.2.1/\0=(S.ah b).1.2.2.2.1/\[]=(S.ah b).1.2.2.2.2.1/\[]=(S.ah b).1.2.2.2.2.2.1/\[]=(S.ah b).1.2.2.2.2.2.2/\S.dY b 3=(S.ah b).2) False:=by
 refine aE ?_;simp_all[nt,df,S.aBc,nf,dt]
def as6(y1:Int)(y2:B8)(y3:List (Int×Int×Int×B8))(hp:S.bN y1 y2 y3=true)(hf:Vg.gq J.HF (y1,y2,y3)):0<=y1/\rh (S.num y1) y2/\(0:Int)<=length y3/\rh (S.num y1++y2) (S.num (length y3))/\(∃(x1:Nat),((0:Int)=x1/\S.num y1++y2++S.num (length y3)=S.sK y1 y2 y3 x1)/\S.D7 y1 y2 y3 x1)/\(∀(x2:Nat),S.D7 y1 y2 y3 x2->oI (decide ((x2:Int)<length y3)) 0 x2 (length y3) (0<=(eh y3 x2 0).2.1/\rh (S.sK y1 y2 y3 x2) (S.num (eh y3 x2 0).2.1)/\0<=(eh y3 x2 0).2.2.1/\rh (S.sK y1 y2 y3 x2++S.num (eh y3 x2 0).2.1) (S.num (eh y3 x2 0).2.2.1)/\rh (S.sK y1 y2 y3 x2++S.num (eh y3 x2 0).2.1++S.num (eh y3 x2 0).2.2.1) (eh y3 x2 0).2.2.2/\eO x2 (∃(x3:Nat),z8 x2 x3 (S.sK y1 y2 y3 x2++S.num (eh y3 x2 0).2.1++S.num (eh y3 x2 0).2.2.1++(eh y3 x2 0).2.2.2=S.sK y1 y2 y3 x3) (S.D7 y1 y2 y3 x3) (S.len y3))) (S.sK y1 y2 y3 x2=S.hB y1 y2 y3)):=by
 refine aE ?_;have ğ:Vg.hint y1:=hf.1;have JC:Vg.hlen y2:=hf.2.1;have anr:Vg.hlen y3:=hf.2.2.1.1;clear hf;have hb:=S.pT hp;have n1:=S.cX y1;have n2:=S.cX (y3.length:Int);with_reducible and_intros
 iterate 3 omega
 grind
 . refine⟨(nat_lit 0:Nat),?_⟩;try dsimp only
   with_reducible and_intros
   omega;grind[S.ayF];exact⟨hp,Nat.zero_le _⟩
 intro x1 h2;refine⟨?_,?_⟩
 . intro h3;try simp only [dt] at h3
   with_reducible and_intros
   iterate 2 omega
   . have q:=S.E5 h2 h3;rw [tn];have:=S.L0 q.1;have:=S.L0 q.2.1;unfold S.sg at *;omega
   . have q:=S.C6 h2;have w:=S.E5 h2 h3;have a1:=S.cX (y3.getD (toNat (x1:Int)) (0,0,0,[])).2.1;have a2:=S.cX (y3.getD (toNat (x1:Int)) (0,0,0,[])).2.2.1;have a3:(y3.getD (toNat (x1:Int)) (0,0,0,[])).2.2.2.length=32:=w.2.2
     omega
   . have q:=S.E5 h2 h3;rw [tn];have:=S.L0 q.1;have:=S.L0 q.2.1;unfold S.sg at *;omega
   iterate 2
    . have q:=S.C6 h2;have w:=S.E5 h2 h3;have a1:=S.cX (y3.getD (toNat (x1:Int)) (0,0,0,[])).2.1;have a2:=S.cX (y3.getD (toNat (x1:Int)) (0,0,0,[])).2.2.1;have a3:(y3.getD (toNat (x1:Int)) (0,0,0,[])).2.2.2.length=32:=w.2.2
      simp only [K!];omega
   iterate 2 omega
   refine⟨(x1+nat_lit 1),?_⟩;try dsimp only
   with_reducible and_intros
   omega
   . rw [tn];exact S.XU h3
   exact⟨hp,w!⟩;simp only [S.ag,S.len];omega
 grind[df,S.UD]
def as7(y1:Int)(y2:B8)(y3:List (Int×Int×Int×B8))(hp:S.bN y1 y2 y3=true):S.bN y1 y2 y3/\S.aC (S.hB y1 y2 y3)/\S.eW 3 (S.hB y1 y2 y3)=S.uW y1 y2 y3:=by
 with_reducible and_intros
 omega;grind[S.abT];rfl
def as8(y1:Int)(y2:B8)(y3:List (Int×Int×Int×B8)):gk (eI (cx (S.hW y1 y2 y3).2) ([]=(S.im y1 y2 y3).1) ((S.hW y1 y2 y3).2=(S.im y1 y2 y3).2) (S.aC (S.hW y1 y2 y3).1) (S.mF 3 (S.hW y1 y2 y3).1=(S.im y1 y2 y3).1) (0=(S.im y1 y2 y3).2)):=by
 refine aE ?_;simp_all[nt,df,S.aBe,nf,dt,S.arc]
def as9(y1:List B8)(y2:List (Int×Int×List (B8×List Int))):gk (eI (cx (S.iv y1 y2).2) ([]=(S.mG y1 y2).1) (7=(S.mG y1 y2).2) True ((S.im (S.iv y1 y2).1.1 (S.iv y1 y2).1.2.1 (S.iv y1 y2).1.2.2).1=(S.mG y1 y2).1) ((S.im (S.iv y1 y2).1.1 (S.iv y1 y2).1.2.1 (S.iv y1 y2).1.2.2).2=(S.mG y1 y2).2)):=by
 refine aE ?_;simp_all[nt,df,S.aBf,nf,dt,S.ard]
def ata(t:B8)(dd:List (B8×List Int))(er:Int)(hp:S.bn dd/\S.bg dd=true/\S.isTerm t=true/\er=0):(S.bn dd/\S.small t)/\length [((S.ij dd t).1.1,(S.ij dd t).1.2.1,(S.ij dd t).1.2.2.1,(S.ij dd t).1.2.2.2.1,(S.ij dd t).1.2.2.2.2.1,(S.ij dd t).1.2.2.2.2.2)]<=1353245080339/\dd=dd/\(bif bR er then(S.ij dd t).2 else er)=0/\[((S.ij dd t).1.1,(S.ij dd t).1.2.1,(S.ij dd t).1.2.2.1,(S.ij dd t).1.2.2.2.1,(S.ij dd t).1.2.2.2.2.1,(S.ij dd t).1.2.2.2.2.2)]=[S.la dd t]:=by
 refine aE ?_;grind[S.KK,List.length_singleton,S.OJ]
def atb(t:B8)(dd:List (B8×List Int))(er:Int)(l:List (Int×B8×B8×B8×List B8×B8))(hp:S.bn dd/\S.bg dd=true/\S.isTerm t=true/\er=0/\l.length<=100000):(S.bn dd/\S.small t)/\length l+length [((S.ij dd t).1.1,(S.ij dd t).1.2.1,(S.ij dd t).1.2.2.1,(S.ij dd t).1.2.2.2.1,(S.ij dd t).1.2.2.2.2.1,(S.ij dd t).1.2.2.2.2.2)]<=1353245080339/\dd=dd/\(bif bR er then(S.ij dd t).2 else er)=0/\l++[((S.ij dd t).1.1,(S.ij dd t).1.2.1,(S.ij dd t).1.2.2.1,(S.ij dd t).1.2.2.2.1,(S.ij dd t).1.2.2.2.2.1,(S.ij dd t).1.2.2.2.2.2)]=l++[S.la dd t]:=by
 refine aE ?_;grind[S.KK,List.length_singleton,S.OJ]
def atc(d:List (B8×List Int))(er:Int)(ts:List B8)(hp:S.Jc d ts/\er=0)(hf:Vg.akd J.azc d)(hg:Vg.fB.ok J.azd (er,(ts,()))):(∃(x1:Nat),((0:Int)=x1/\d=d/\[]=S.rN d ts x1/\er=0/\ts=ts)/\S.gX ts x1)/\(∀(x2:Nat),S.gX ts x2->eI (decide (x2<bu ts)) (cK 0 x2 (bu ts)) ((S.bn d/\S.bg d/\S.isTerm (nb ts x2)/\(0:Int)=0/\length (S.rN d ts x2)<=100000)/\eO x2 (∃(x3:Nat),((x2:Int)+1=x3/\d=d/\S.rN d ts x2++[S.la d (nb ts x2)]=S.rN d ts x3/\(0:Int)=0/\ts=ts)/\S.gX ts x3/\o8 (S.len ts) x3 x2)) (S.rN d ts x2=S.Lm d ts) yv (ts=ts)):=by
 refine aE ?_;have aLE:Vg.hlen d:=hf.1.1;have aK4:Vg.hint er:=hg.1.1;have aK5:Vg.hlen ts:=hg.2.1.1.1;clear hf hg;obtain⟨qg,q4⟩:=hp;subst q4;refine⟨?_,?_⟩
 . refine⟨(nat_lit 0:Nat),?_⟩;try dsimp only
   with_reducible and_intros
   omega;iterate 4 rfl
   exact U! _
 intro x1 h2;refine⟨?_,?_⟩
 . intro h3;try simp only [dt] at h3
   with_reducible and_intros
   iterate 2 omega
   exact qg.1;exact qg.2.1;exact S.aBg qg h3;rfl
   . have:=S.are d ts x1;have:=qg.2.2.1;omega
   iterate 2 omega
   refine⟨(x1+nat_lit 1),?_⟩;try dsimp only
   with_reducible and_intros
   omega;rfl;exact S.al3 h3;iterate 2 rfl
   . unfold S.gX;omega
   simp only [S.ag,S.len];omega
 grind[df,S.arf]
def atd(y1:List B8)(y2:List (Int×Int×List (B8×List Int)))(l:List (Int×B8))(hp:S.fV l)(hf:Vg.gq J.acC (y1,y2,l)):gk (Fi (cx (S.iv y1 y2).2) ([]=(S.fE y1 y2 l).1) (7=(S.fE y1 y2 l).2) (S.fV l) (Bool.not (S.bw l)) (1=(S.fE y1 y2 l).2) (S.small l) (∃(x1:Nat),((0:Int)=x1/\(S.iv y1 y2).2=0/\S.ax l=S.ax l/\(S.iv y1 y2).1.1=S.len y1/\(S.iv y1 y2).1.2.1=Jw y1/\(S.iv y1 y2).1.2.2=S.cB y1 y2/\[]=S.iL y2 (S.ax l) x1)/\S.gX y2 x1/\S.gv y1 y2/\S.bw l) (∀(x2:Nat),S.gX y2 x2/\S.gv y1 y2/\S.bw l->oI (decide ((x2:Int)<length y2)) 0 x2 (length y2) ((S.Jc (getD y2 (toNat x2) (0,0,[])).2.2 (S.ax l)/\(0:Int)=0)/\acI (S.iL y2 (S.ax l) x2) [S.Lm (getD y2 (toNat x2) (0,0,[])).2.2 (S.ax l)]/\eO x2 (∃(x3:Nat),((x2:Int)+1=x3/\yv/\S.ax l=S.ax l/\(S.len y1:Int)=S.len y1/\Jw y1=Jw y1/\S.cB y1 y2=S.cB y1 y2/\S.iL y2 (S.ax l) x2++[S.Lm (getD y2 (toNat x2) (0,0,[])).2.2 (S.ax l)]=S.iL y2 (S.ax l) x3)/\(S.gX y2 x3/\S.gv y1 y2/\S.bw l)/\o8 (S.len y2) x3 x2)) (eI (HL 0) ([]=(S.fE y1 y2 l).1) (0=(S.fE y1 y2 l).2) (S.qD (S.iL y2 (S.ax l) x2)) ((S.kv (S.len y1) (Jw y1) (S.cB y1 y2) (S.iL y2 (S.ax l) x2)).1=(S.fE y1 y2 l).1) ((S.kv (S.len y1) (Jw y1) (S.cB y1 y2) (S.iL y2 (S.ax l) x2)).2=(S.fE y1 y2 l).2)))):=by
 refine aE ?_;have JC:Vg.hlen y2:=hf.2.1.1;with_reducible and_intros
 trivial;grind[nt,df,S.al4];intro h2;simp at h2;with_reducible and_intros
 omega;grind[nt,S.abW];intro h4;simp at h4;with_reducible and_intros
 exact hp.1
 . refine⟨(nat_lit 0:Nat),?_⟩;dsimp only;with_reducible and_intros
   iterate 2 omega
   rfl;exact(S.wA h2).2.1;iterate 2 (simp_all[S.wA])
   rfl;exact Nat.zero_le _;grind[S.wA];omega
 intro x5 h6;refine V.dI (λh7=>?_) λh8=>?_
 . with_reducible and_intros
   iterate 2 omega
   exact S.abV h6.2.1 h6.2.2 h7;rfl
   . have:=S.abU y2 (S.ax l) x5;have:=S.Jd h6.2.1;rw [C?];omega
   iterate 2 omega
   refine⟨(x5+nat_lit 1),?_⟩;try dsimp only
   with_reducible and_intros
   omega;iterate 5 rfl
   exact S.Yg h7
   . unfold S.gX;omega
   exact h6.2.1;omega;simp only [S.ag,S.len];omega
 refine⟨?_,?_⟩
 . intro h9;refine⟨?_,?_⟩
   . grind
   grind
 grind[S.abX]
def ate(i n:Int)(hp:S.eM i n):(∃(x1:Int×Int×List Bool),(i=x1.1/\n=x1.2.1/\[]=x1.2.2)/\S.j6 i n x1)/\(∀(x2:Int×Int×List Bool),S.j6 i n x2->fX (decide (1<x2.2.1)) True (dH (decide (x2.1<S.split x2.2.1)) (Px (length x2.2.2+length [false])) (∃(x3:Int×Int×List Bool),(x2.1=x3.1/\S.split x2.2.1=x3.2.1/\x2.2.2++[false]=x3.2.2)/\S.j6 i n x3/\Ds x3.2.1 (toNat x2.2.1)) (Px (length x2.2.2+length [true])) (b6 (x2.1-S.split x2.2.1)/\b6 (x2.2.1-S.split x2.2.1)/\(∃(x4:Int×Int×List Bool),(x2.1-S.split x2.2.1=x4.1/\x2.2.1-S.split x2.2.1=x4.2.1/\x2.2.2++[true]=x4.2.2)/\S.j6 i n x4/\Ds x4.2.1 (toNat x2.2.1)))) (x2.2.2=S.aZ i n)):=by
 refine aE ?_;refine⟨?_,?_⟩
 . refine⟨((i),((n),([]))),?_⟩;grind[S.aHa]
 intro x1 h2;refine⟨?_,?_⟩
 . intro h3;with_reducible and_intros
   trivial
   . intro h4;refine⟨?_,?_⟩
     . grind[S.OR,lc,ln]
     refine⟨((Prod.fst x1),((S.split (Prod.fst (Prod.snd x1))),(Prod.snd (Prod.snd x1)++[Bool.false]))),?_⟩;grind[S.aHb,S.OR]
   intro h5;simp at h5;with_reducible and_intros
   grind[S.OR,lc,ln];omega;iterate 3 (grind[S.OR])
   refine⟨((Prod.fst x1-S.split (Prod.fst (Prod.snd x1))),((Prod.fst (Prod.snd x1)-S.split (Prod.fst (Prod.snd x1))),(Prod.snd (Prod.snd x1)++[Bool.true]))),?_⟩;grind[S.aHc,S.OR]
 grind[df,S.sd_end]
def atf(d:B8)(i n:Int)(p:List B8)(hp:S.dM p)(hf:Vg.gq J.acD (d,i,n,p)):eI (na (sC d) (HJ n (1:Int) (HJ (1099511627776:Int) n (HJ i (0:Int) (decide (n<=i)))))) (([]:B8)=S.kq d i n p) ((1:Int)=S.eQ d i n p) (S.eM i n) (oz (mZ (bu p) (length (S.aZ i n):Int))) (dH (wH (mZ (bu p) (length (S.aZ i n):Int)) (S.bQ p)) (([]:B8)=S.kq d i n p) ((6:Int)=S.eQ d i n p) (∃(x1:Nat),((0:Int)=(x1:Int)/\d=S.jL d i n p x1)/\S.eQ d i n p=(0:Int)/\x1<=S.len p) (∀(x2:Nat),S.eQ d i n p=(0:Int)/\x2<=S.len p->dH (decide ((x2:Int)<bu p)) (b6 ((length (S.aZ i n):Int)-(1:Int))) (qJ ((length (S.aZ i n):Int)-(1:Int)-(x2:Int)) (0:Int) (length (S.aZ i n):Int) (toNat ((length (S.aZ i n):Int)-(1:Int)-(x2:Int))<length (S.aZ i n)/\((getD (S.aZ i n) (toNat ((length (S.aZ i n):Int)-(1:Int)-(x2:Int))) false=true->cK (0:Int) (x2:Int) (bu p)/\True)/\(getD (S.aZ i n) (toNat ((length (S.aZ i n):Int)-(1:Int)-(x2:Int))) false=false->cK (0:Int) (x2:Int) (bu p)/\True))/\eO (x2:Int) (∃(x3:Nat),((x2:Int)+(1:Int)=(x3:Int)/\(bif getD (S.aZ i n) (toNat ((length (S.aZ i n):Int)-(1:Int)-(x2:Int))) false then S.aT (nb p (x2:Int)) (S.jL d i n p x2) else S.aT (S.jL d i n p x2) (nb p (x2:Int)))=S.jL d i n p x3)/\(S.eQ d i n p=(0:Int)/\x3<=S.len p)/\o8 (S.len p) x3 x2))) (S.jL d i n p x2=S.kq d i n p) ((0:Int)=S.eQ d i n p))):=by
 refine aE ?_;have YK:Vg.hlen p:=hf.2.2.2.1.1;refine⟨?_,?_⟩
 . grind[S.aBh]
 intro h2;simp at h2;with_reducible and_intros
 grind[S.abY];iterate 2 grind
 grind[S.arj];intro h6;simp at h6;refine⟨?_,?_⟩
 . grind[S.aHd,S.aBi]
 intro x7 h8;refine⟨?_,?_⟩
 . intro h9;simp at h9;with_reducible and_intros
   iterate 7 omega
   iterate 2 grind
   iterate 2 omega
   refine⟨(x7+nat_lit 1),?_⟩;dsimp only;with_reducible and_intros
   omega
   ((exact S.al6 x! w!))
   omega;iterate 2 (grind [S.ag,S.len])
 grind[df,S.mg,S.abY,S.Je,S.ark]
def atg(m:Nat)(i n:Int)(hm:n.toNat<m+1)(hp:S.eM i n)(hf:Vg.gq J.am5 (i,n)):kB (decide (n<2)) (0=S.e8 i n) (gk (dH (decide (i<S.split n)) (Ds (S.split n) m/\S.eM i (S.split n)) (b6 (1+S.e8 i (S.split n))/\1+S.e8 i (S.split n)=S.e8 i n) (b6 (i-S.split n)) (b6 (n-S.split n)/\(Ds (n-S.split n) m/\S.eM (i-S.split n) (n-S.split n))/\b6 (1+S.e8 (i-S.split n) (n-S.split n))/\1+S.e8 (i-S.split n) (n-S.split n)=S.e8 i n))):=by
 refine aE ?_;have acK:Vg.hint i:=hf.1;have SS:Vg.hint n:=hf.2.1;refine⟨?_,?_⟩
 . simp_all[dt,S.e8,S.jK]
 intro h2;simp at h2;with_reducible and_intros
 trivial
 . intro h3;simp at h3;with_reducible and_intros
   . (have q:=S.Jf hp w! w!;omega)
   simp_all[S.Jf]
   . (have q:=S.Jf hp w! w!;have e:S.e8 i (S.split n)=(S.aZ i (S.split n)).length:=rfl;omega)
   . (have q:=S.Jf hp w! w!;have l:=S.mg q.2.1;have e:S.e8 i (S.split n)=(S.aZ i (S.split n)).length:=rfl;omega)
   grind[S.Jf,S.mg]
 intro h4;simp at h4;with_reducible and_intros
 omega
 . (have q:=S.E7 hp w! w!;omega)
 omega
 iterate 2
  . (have q:=S.E7 hp w! w!;omega)
 simp_all[S.E7]
 . (have q:=S.E7 hp w! w!;have e:S.e8 (i-S.split n) (n-S.split n)=(S.aZ (i-S.split n) (n-S.split n)).length:=rfl;omega)
 . (have q:=S.E7 hp w! w!;have l:=S.mg q.2.1;have e:S.e8 (i-S.split n) (n-S.split n)=(S.aZ (i-S.split n) (n-S.split n)).length:=rfl;omega)
 grind[S.E7,S.mg]
def ath(m:Nat)(d:B8)(i n:Int)(p:List B8)(hm:n.toNat<m+1)(hp:S.mB d i n p)(hf:Vg.gq J.acD (d,i,n,p)):kB (decide (n<2)) (d=S.kN d i n p) (gk (b6 (bu p-1)/\gl (decide (i<S.split n)) (qM (bu p-1) (bu p)) (Ds (S.split n) m/\S.mB d i (S.split n) (FA p)) (cK 0 (bu p-1) (bu p)/\S.aC (S.kN d i (S.split n) (FA p)++lG p (toNat (bu p-1)))/\S.eW 1 (S.kN d i (S.split n) (FA p)++lG p (toNat (bu p-1)))=S.kN d i n p) (cK 0 (bu p-1) (bu p)) (b6 (i-S.split n)/\b6 (n-S.split n)/\gR (bu p-1) (bu p) ((Ds (n-S.split n) m/\S.mB d (i-S.split n) (n-S.split n) (FA p))/\S.aC (lG p (toNat (bu p-1))++S.kN d (i-S.split n) (n-S.split n) (FA p))/\S.eW 1 (lG p (toNat (bu p-1))++S.kN d (i-S.split n) (n-S.split n) (FA p))=S.kN d i n p)))):=by
 refine aE ?_;have acK:Vg.hint i:=hf.2.1;have SS:Vg.hint n:=hf.2.2.1;have YK:Vg.hlen p:=hf.2.2.2.1.1;refine V.dI (λh1=>?_) λh2=>?_
 . grind[S.aHe]
 with_reducible and_intros
 trivial;iterate 2 omega
 grind[S.aHf,S.mg];grind[df,S.aHg,S.mg]
def ati(b:B8)(hp:b.length<=140737488355328):ir b/\fX (cx (S.af b 0 0).1.2.2) ([]=(S.b8 b).1) ((S.af b 0 0).1.2.2=(S.b8 b).2) (dH (decide (1000<(S.af b 0 0).2)) ([]=(S.b8 b).1) (2=(S.b8 b).2) (∃(x1:Nat×Int×Int×Int×List Int),((0:Int)=x1.1/\-1=x1.2.2.2.1/\[]=x1.2.2.2.2/\(S.af b 0 0).1.1=b/\(S.af b 0 0).1.2.1=x1.2.1/\(S.af b 0 0).1.2.2=x1.2.2.1)/\S.uY b x1.1 x1.2) (∀(x2:Nat×Int×Int×Int×List Int),S.uY b x2.1 x2.2->dH (decide (x2.1<(S.af b 0 0).2)) (ir b) (dH (cx (S.af b x2.2.1 x2.2.2.1).1.2.2) ([]=(S.b8 b).1) ((S.af b x2.2.1 x2.2.2.1).1.2.2=(S.b8 b).2) (b6 (999-x2.2.2.2.1)) (b6 (999-x2.2.2.2.1-1)/\dH (decide (999-x2.2.2.2.1-1<(S.af b x2.2.1 x2.2.2.1).2)) ([]=(S.b8 b).1) (2=(S.b8 b).2) (b6 ((S.af b x2.2.1 x2.2.2.1).2+1)) (b6 (x2.2.2.2.1+((S.af b x2.2.1 x2.2.2.1).2+1))/\HS x2.2.2.2.2 [x2.2.2.2.1+((S.af b x2.2.1 x2.2.2.1).2+1)]/\b6 (x2.1+1)/\(∃(x3:Nat×Int×Int×Int×List Int),((x2.1:Int)+1=x3.1/\x2.2.2.2.1+((S.af b x2.2.1 x2.2.2.1).2+1)=x3.2.2.2.1/\x2.2.2.2.2++[x2.2.2.2.1+((S.af b x2.2.1 x2.2.2.1).2+1)]=x3.2.2.2.2/\(S.af b x2.2.1 x2.2.2.1).1.1=b/\(S.af b x2.2.1 x2.2.2.1).1.2.1=x3.2.1/\(S.af b x2.2.1 x2.2.2.1).1.2.2=x3.2.2.1)/\S.uY b x3.1 x3.2/\o8 1000 x3.1 x2.1)))) True (dH (cx (S.done b x2.2.1 x2.2.2.1)) ([]=(S.b8 b).1) (S.done b x2.2.1 x2.2.2.1=(S.b8 b).2) (x2.2.2.2.2=(S.b8 b).1) (0=(S.b8 b).2)))):=by
 refine aE ?_;with_reducible and_intros
 grind
 . intro h1;simp at h1;refine⟨?_,?_⟩
   . exact(S.ab4 h1).1
   exact(S.ab4 h1).2
 intro h2;simp at h2;refine V.dI (λh3=>?_) λh4=>?_
 . refine⟨?_,?_⟩
   . exact(S.Ym h2 h3).1
   exact(S.Ym h2 h3).2
 refine⟨?_,?_⟩
 . refine⟨((nat_lit 0:Nat),((Prod.fst (Prod.snd (Prod.fst (S.af b (0:Int) (0:Int))))),((Prod.snd (Prod.snd (Prod.fst (S.af b (0:Int) (0:Int))))),(((-1:Int)),([]))))),?_⟩;with_reducible and_intros
   grind;iterate 2 rfl
   grind[S.C4];iterate 2 rfl
   exact S.aHl h2 h4
 intro x5 h6;refine V.dI (λh7=>?_) λgY=>?_
 . with_reducible and_intros
   omega
   . intro h8;try simp only [nt,df] at h8
     refine⟨?_,?_⟩
     . exact(S.ab5 h6 h7 h8).1
     exact(S.ab5 h6 h7 h8).2
   intro h9;try simp only [nf,dt] at h9
   with_reducible and_intros
   iterate 4
    . (have q1:=h6.2.2.2.2.1;have q2:=h6.2.2.2.2.2.1;have q3:=h6.2.2.2.2.2.2;have q4:=h6.2.2.1;have q5:=S.qG b x5.2.1 x5.2.2.1;have q6:=h6.1;omega)
   . intro de;try simp only [dt] at de
     refine⟨?_,?_⟩
     . exact(S.ab6 h6 h7 h9 w!).1
     exact(S.ab6 h6 h7 h9 w!).2
   intro fC;try simp only [df] at fC
   with_reducible and_intros
   iterate 4
    . (have q1:=h6.2.2.2.2.1;have q2:=h6.2.2.2.2.2.1;have q3:=h6.2.2.2.2.2.2;have q4:=h6.2.2.1;have q5:=S.qG b x5.2.1 x5.2.2.1;have q6:=h6.1;omega)
   . (have q1:=h6.2.2.2.2.1;have q2:=h6.2.2.2.2.2.1;have q3:=h6.2.2.2.2.2.2;have q4:=h6.2.2.1;have q5:=S.qG b x5.2.1 x5.2.2.1;have q6:=h6.1;have q7:(S.o0 b).2=(S.af b 0 0).2:=rfl;rw [C?];omega)
   . (have q1:=h6.2.2.2.2.1;have q2:=h6.2.2.2.2.2.1;have q3:=h6.2.2.2.2.2.2;have q4:=h6.2.2.1;have q5:=S.qG b x5.2.1 x5.2.2.1;have q6:=h6.1;omega)
   . (have q1:=h6.2.2.2.2.1;have q2:=h6.2.2.2.2.2.1;have q3:=h6.2.2.2.2.2.2;have q4:=h6.2.2.1;have q5:=S.qG b x5.2.1 x5.2.2.1;have q6:=h6.1;have q7:(S.o0 b).2=(S.af b 0 0).2:=rfl;omega)
   refine⟨((Prod.fst x5+nat_lit 1),((Prod.fst (Prod.snd (Prod.fst (S.af b (Prod.fst (Prod.snd x5)) (Prod.fst (Prod.snd (Prod.snd x5))))))),((Prod.snd (Prod.snd (Prod.fst (S.af b (Prod.fst (Prod.snd x5)) (Prod.fst (Prod.snd (Prod.snd x5))))))),((Prod.fst (Prod.snd (Prod.snd (Prod.snd x5)))+(Prod.snd (S.af b (Prod.fst (Prod.snd x5)) (Prod.fst (Prod.snd (Prod.snd x5))))+(1:Int))),(Prod.snd (Prod.snd (Prod.snd (Prod.snd x5)))++[Prod.fst (Prod.snd (Prod.snd (Prod.snd x5)))+(Prod.snd (S.af b (Prod.fst (Prod.snd x5)) (Prod.fst (Prod.snd (Prod.snd x5))))+(1:Int))]))))),?_⟩;try dsimp only
   with_reducible and_intros
   . (have q1:=h6.2.2.2.2.1;have q2:=h6.2.2.2.2.2.1;have q3:=h6.2.2.2.2.2.2;have q4:=h6.2.2.1;have q5:=S.qG b x5.2.1 x5.2.2.1;have q6:=h6.1;have q7:(S.o0 b).2=(S.af b 0 0).2:=rfl;omega)
   iterate 2 with_reducible rfl
   exact(S.C4 b _ _).1;iterate 2 with_reducible rfl
   exact S.ame h6 h7 h9 w!
   . (have q1:=h6.2.2.2.2.1;have q2:=h6.2.2.2.2.2.1;have q3:=h6.2.2.2.2.2.2;have q4:=h6.2.2.1;have q5:=S.qG b x5.2.1 x5.2.2.1;have q6:=h6.1;have q7:(S.o0 b).2=(S.af b 0 0).2:=rfl;simp only [S.ag];omega)
 with_reducible and_intros
 trivial
 . intro jM;simp at jM;refine⟨?_,?_⟩
   . rw [S.Hx h6 gY,J! jM]
   rw [S.Hx h6 gY,J! jM]
 intro jZ;simp at jZ;refine⟨?_,?_⟩
 . rw [S.Hx h6 gY,M! jZ]
 rw [S.Hx h6 gY,M! jZ]
def atj(n:Int)(p q:Bool):oG p q=S.Ea p q:=by
 refine aE ?_;grind[S.Ea]
def atk(n:Int)(p q:Bool):na p q=S.UM p q:=by
 refine aE ?_;rfl
def atl(n:Int)(p q:Bool):oG p (Bool.not q)=S.Eb p q:=by
 refine aE ?_;grind[S.Eb]
def atm(a b:List Int):sA ((∃(x1:List Int×List Int×List Int),(HO a x1.1/\HO b x1.2.1/\[]=x1.2.2)/\S.lF S.Ea a b x1)/\(∀(x2:List Int×List Int×List Int),S.lF S.Ea a b x2->fX (na (gF (dj x2.1)) (gF (dj x2.2.1))) (HU (gF (dj x2.1)) (bR (dj x2.2.1)) (dj x2.1) (dj x2.2.1)) (HU (gF (dj x2.2.1)) (bR (dj x2.1)) (dj x2.2.1) (dj x2.1)/\HR (Fm x2) 0 (dj x2.1) 1/\HR (Fo x2) 0 (dj x2.2.1) 1/\gk (fX (S.Ea (Fm x2) (Fo x2)) (HS x2.2.2 [Eg (Fo x2) (fA x2.2.1) (Fm x2) (fA x2.1) 0]) (∃(x3:List Int×List Int×List Int),(sB (Fm x2) 1 x2.1=x3.1/\sB (Fo x2) 1 x2.2.1=x3.2.1/\x2.2.2++[Eg (Fo x2) (fA x2.2.1) (Fm x2) (fA x2.1) 0]=x3.2.2)/\S.lF S.Ea a b x3/\S.jc x3<S.jc x2) (∃(x4:List Int×List Int×List Int),(sB (Fm x2) 1 x2.1=x4.1/\sB (Fo x2) 1 x2.2.1=x4.2.1/\x2.2.2=x4.2.2)/\S.lF S.Ea a b x4/\S.jc x4<S.jc x2))) (x2.2.2=S.E8 a b))):=by
 refine aE ?_;refine⟨trivial,trivial,⟨(S.vv a,S.vv b,[]),⟨S.Dc a,S.Dc b,rfl⟩,S.ama ..⟩,λx h=>⟨λhc=>?_,λhc=>S.UO rfl h hc⟩⟩;have q:=S.û rfl h hc;refine⟨⟨λh1=>⟨λ_=>trivial,λh2=>⟨⟨Int.le_refl _,of_decide_eq_true h1⟩,Int.le_refl _,x!⟩⟩,λ_=>trivial⟩,⟨λh1=>⟨λ_=>trivial,λh2=>⟨⟨Int.le_refl _,of_decide_eq_true h1⟩,Int.le_refl _,x!⟩⟩,λ_=>trivial⟩,⟨λhA=>⟨⟨Int.le_refl _,(S.mr hA).1⟩,by decide,(S.mr hA).2⟩,λ_=>trivial⟩,⟨λhA=>⟨⟨Int.le_refl _,(S.mr hA).1⟩,by decide,(S.mr hA).2⟩,λ_=>trivial⟩,trivial,λhk=>⟨x!,(S.pG (S.jt x.1 x.2.1) x.1,S.pG (S.jt x.2.1 x.1) x.2.1,x.2.2++[S.Hv x.1 x.2.1]),⟨rfl,rfl,rfl⟩,q.2.1 hk,q.2.2.2.1⟩,λhk=>⟨(S.pG (S.jt x.1 x.2.1) x.1,S.pG (S.jt x.2.1 x.1) x.2.1,x.2.2),⟨rfl,rfl,rfl⟩,q.2.2.1 hk,q.2.2.2.2⟩⟩
def atn(a b:List Int):sA ((∃(x1:List Int×List Int×List Int),(HO a x1.1/\HO b x1.2.1/\[]=x1.2.2)/\S.lF S.UM a b x1)/\(∀(x2:List Int×List Int×List Int),S.lF S.UM a b x2->fX (na (gF (dj x2.1)) (gF (dj x2.2.1))) (HU (gF (dj x2.1)) (bR (dj x2.2.1)) (dj x2.1) (dj x2.2.1)) (HU (gF (dj x2.2.1)) (bR (dj x2.1)) (dj x2.2.1) (dj x2.1)/\HR (Fv x2) 0 (dj x2.1) 1/\HR (Fu x2) 0 (dj x2.2.1) 1/\gk (fX (S.UM (Fv x2) (Fu x2)) (HS x2.2.2 [Eg (Fu x2) (fA x2.2.1) (Fv x2) (fA x2.1) 0]) (∃(x3:List Int×List Int×List Int),(sB (Fv x2) 1 x2.1=x3.1/\sB (Fu x2) 1 x2.2.1=x3.2.1/\x2.2.2++[Eg (Fu x2) (fA x2.2.1) (Fv x2) (fA x2.1) 0]=x3.2.2)/\S.lF S.UM a b x3/\S.jc x3<S.jc x2) (∃(x4:List Int×List Int×List Int),(sB (Fv x2) 1 x2.1=x4.1/\sB (Fu x2) 1 x2.2.1=x4.2.1/\x2.2.2=x4.2.2)/\S.lF S.UM a b x4/\S.jc x4<S.jc x2))) (x2.2.2=S.uX a b))):=by
 refine aE ?_;refine⟨trivial,trivial,⟨(S.vv a,S.vv b,[]),⟨S.Dc a,S.Dc b,rfl⟩,S.ama ..⟩,λx h=>⟨λhc=>?_,λhc=>S.UO rfl h hc⟩⟩;have q:=S.û rfl h hc;refine⟨⟨λh1=>⟨λ_=>trivial,λh2=>⟨⟨Int.le_refl _,of_decide_eq_true h1⟩,Int.le_refl _,x!⟩⟩,λ_=>trivial⟩,⟨λh1=>⟨λ_=>trivial,λh2=>⟨⟨Int.le_refl _,of_decide_eq_true h1⟩,Int.le_refl _,x!⟩⟩,λ_=>trivial⟩,⟨λhA=>⟨⟨Int.le_refl _,(S.mr hA).1⟩,by decide,(S.mr hA).2⟩,λ_=>trivial⟩,⟨λhA=>⟨⟨Int.le_refl _,(S.mr hA).1⟩,by decide,(S.mr hA).2⟩,λ_=>trivial⟩,trivial,λhk=>⟨x!,(S.pG (S.jt x.1 x.2.1) x.1,S.pG (S.jt x.2.1 x.1) x.2.1,x.2.2++[S.Hv x.1 x.2.1]),⟨rfl,rfl,rfl⟩,q.2.1 hk,q.2.2.2.1⟩,λhk=>⟨(S.pG (S.jt x.1 x.2.1) x.1,S.pG (S.jt x.2.1 x.1) x.2.1,x.2.2),⟨rfl,rfl,rfl⟩,q.2.2.1 hk,q.2.2.2.2⟩⟩
def ato(a b:List Int):sA ((∃(x1:List Int×List Int×List Int),(HO a x1.1/\HO b x1.2.1/\[]=x1.2.2)/\S.lF S.Eb a b x1)/\(∀(x2:List Int×List Int×List Int),S.lF S.Eb a b x2->fX (na (gF (dj x2.1)) (gF (dj x2.2.1))) (HU (gF (dj x2.1)) (bR (dj x2.2.1)) (dj x2.1) (dj x2.2.1)) (HU (gF (dj x2.2.1)) (bR (dj x2.1)) (dj x2.2.1) (dj x2.1)/\HR (Fq x2) 0 (dj x2.1) 1/\HR (Fp x2) 0 (dj x2.2.1) 1/\gk (fX (S.Eb (Fq x2) (Fp x2)) (HS x2.2.2 [Eg (Fp x2) (fA x2.2.1) (Fq x2) (fA x2.1) 0]) (∃(x3:List Int×List Int×List Int),(sB (Fq x2) 1 x2.1=x3.1/\sB (Fp x2) 1 x2.2.1=x3.2.1/\x2.2.2++[Eg (Fp x2) (fA x2.2.1) (Fq x2) (fA x2.1) 0]=x3.2.2)/\S.lF S.Eb a b x3/\S.jc x3<S.jc x2) (∃(x4:List Int×List Int×List Int),(sB (Fq x2) 1 x2.1=x4.1/\sB (Fp x2) 1 x2.2.1=x4.2.1/\x2.2.2=x4.2.2)/\S.lF S.Eb a b x4/\S.jc x4<S.jc x2))) (x2.2.2=S.OS a b))):=by
 refine aE ?_;refine⟨trivial,trivial,⟨(S.vv a,S.vv b,[]),⟨S.Dc a,S.Dc b,rfl⟩,S.ama ..⟩,λx h=>⟨λhc=>?_,λhc=>S.UO rfl h hc⟩⟩;have q:=S.û rfl h hc;refine⟨⟨λh1=>⟨λ_=>trivial,λh2=>⟨⟨Int.le_refl _,of_decide_eq_true h1⟩,Int.le_refl _,x!⟩⟩,λ_=>trivial⟩,⟨λh1=>⟨λ_=>trivial,λh2=>⟨⟨Int.le_refl _,of_decide_eq_true h1⟩,Int.le_refl _,x!⟩⟩,λ_=>trivial⟩,⟨λhA=>⟨⟨Int.le_refl _,(S.mr hA).1⟩,by decide,(S.mr hA).2⟩,λ_=>trivial⟩,⟨λhA=>⟨⟨Int.le_refl _,(S.mr hA).1⟩,by decide,(S.mr hA).2⟩,λ_=>trivial⟩,trivial,λhk=>⟨x!,(S.pG (S.jt x.1 x.2.1) x.1,S.pG (S.jt x.2.1 x.1) x.2.1,x.2.2++[S.Hv x.1 x.2.1]),⟨rfl,rfl,rfl⟩,q.2.1 hk,q.2.2.2.1⟩,λhk=>⟨(S.pG (S.jt x.1 x.2.1) x.1,S.pG (S.jt x.2.1 x.1) x.2.1,x.2.2),⟨rfl,rfl,rfl⟩,q.2.2.1 hk,q.2.2.2.2⟩⟩
def atp(a b:List Int):gk (S.E8 a b=S.E8 a b):=by
 refine aE ?_;grind
def atq(a b:List Int):gk (S.uX a b=S.uX a b):=by
 refine aE ?_;grind
def atr(a b:List Int):gk (S.OS a b=S.OS a b):=by
 refine aE ?_;grind
def ats(s:B8):Bool.not (decide (s=s))=false:=by
 grind
def att(a b:B8):mv (oz false) ((bif false then na (Bool.not false) (Op.bytesLess a b) else Op.bytesLess a b)=Op.bytesLess a b):=by
 refine aE ?_;grind
def atu(x:List B8)(t:B8)(hp:S.xn x):(∃(x1:Int×Int),(0=x1.1/\bu x=x1.2)/\S.rO x t x1.1 x1.2)/\(∀(x2:Int×Int),S.rO x t x2.1 x2.2->gl (decide (x2.1<x2.2)) (b6 (x2.1+x2.2)) (vj 1) (qJ (zO x2) 0 (bu x) (mv (fX (Op.bytesLess (nb x (zO x2)) t) (-9223372036854775808<=zO x2+1) (q2 (zO x2+1)) True) (∃(x3:Int×Int),((bif Op.bytesLess (nb x (zO x2)) t then zO x2+1 else x2.1)=x3.1/\(bif Op.bytesLess (nb x (zO x2)) t then x2.2 else zO x2)=x3.2)/\S.rO x t x3.1 x3.2/\KT (x3.2-x3.1) (x2.2-x2.1)))) (oI (decide (x2.1<bu x)) 0 x2.1 (bu x) (sy (decide (nb x x2.1=t)) (cK 0 x2.1 (bu x)/\gk (oz false))) True) ((bif decide (x2.1<bu x) then bif decide (nb x x2.1=t) then x2.1 else bif false then x2.1 else x2.1 else x2.1)=S.pE x t/\oG (decide (x2.1<bu x)) (na (decide (nb x x2.1=t)) (bif false then false else false))=S.BY x t)):=by
 refine aE ?_;refine⟨?_,?_⟩
 . refine⟨(((0:Int)),((↑(length x):Int))),?_⟩;with_reducible and_intros
   iterate 2 rfl
   exact⟨Int.le_refl _,w!,Int.le_refl _,λk hk=>by omega,λk hk hk2=>by omega⟩
 intro x1 h2;refine V.dI (λh3=>?_) λh6=>?_
 . with_reducible and_intros
   iterate 2
    . obtain⟨e,q1,q2,q3,q4,q5⟩:=S.Hw hp h2 h3;omega
   iterate 2 omega
   iterate 3 grind
   . obtain⟨e,q1,q2,q3,q4,q5⟩:=S.Hw hp h2 h3;omega
   trivial
   . intro h4;refine⟨?_,?_⟩
     . grind
     obtain⟨e,q1,q2,q3,q4,q5⟩:=S.Hw hp h2 h3;omega
   grind;refine⟨((bif Op.bytesLess (getD x (toNat ((Prod.fst x1+Prod.snd x1)%(18446744073709551616:Int)/(2:Int)^toNat (1:Int))) []) t then(Prod.fst x1+Prod.snd x1)%(18446744073709551616:Int)/(2:Int)^toNat (1:Int)+(1:Int) else Prod.fst x1),(bif Op.bytesLess (getD x (toNat ((Prod.fst x1+Prod.snd x1)%(18446744073709551616:Int)/(2:Int)^toNat (1:Int))) []) t then Prod.snd x1 else(Prod.fst x1+Prod.snd x1)%(18446744073709551616:Int)/(2:Int)^toNat (1:Int))),?_⟩;with_reducible and_intros
   iterate 2 rfl
   . obtain⟨e,q1,q2,q3,q4,q5⟩:=S.Hw hp h2 h3;rw [e];exact(S.aBn hp h2 q2 q3).1
   obtain⟨e,q1,q2,q3,q4,q5⟩:=S.Hw hp h2 h3;grind
 with_reducible and_intros
 . intro h7;simp at h7;with_reducible and_intros
   . have q:=h2.1;omega
   omega;grind;intro h9;with_reducible and_intros
   . have q:=h2.1;omega
   omega;trivial;iterate 2 grind
 grind;grind[S.aro];exact S.arp hp h2 h6
def atv(s:B8)(t:List B8)(f:List (List Int))(hp:S.BZ t f):S.xn t/\kB (Bool.not (S.BY t s)) ([]=S.mH t f s) (cK 0 (S.pE t s) (length f)/\S.small (Ci f (toNat (S.pE t s)))/\Ci f (toNat (S.pE t s))=S.mH t f s):=by
 refine aE ?_;with_reducible and_intros
 exact hp.1;grind[nt,S.ars];intro h2;with_reducible and_intros
 omega
 . have q:=(S.ý hp (s:=s) x!).1;omega
 exact(S.ý hp x!).2.1;exact(S.ý hp x!).2.2
def atw(s:B8)(l:List (List Int))(hp:S.sb l):acH (zH l-1) (zH l-1-1) 0 (zH l) (toNat (zH l-1-1)) (zH l) (toNat (zH l-1)) [S.E8 (Ci l (toNat (zH l-1-1))) (Ci l (toNat (zH l-1)))] l 1:=by
 refine aE ?_;obtain⟨p1,p2⟩:=hp;have p3:l.length<=1099511627776:=p2;have e1:toNat ((l.length:Int)-1-1)=l.length-2:=by omega
 have e2:toNat ((l.length:Int)-1)=l.length-1:=by omega
 with_reducible and_intros
 iterate 14 omega
 trivial;grind[List.length_singleton];rw [e1,e2];rfl
def atx(s:B8)(l:List (List Int))(hp:S.sb l):acH (zJ l-1) (zJ l-1-1) 0 (zJ l) (toNat (zJ l-1-1)) (zJ l) (toNat (zJ l-1)) [S.uX (Ci l (toNat (zJ l-1-1))) (Ci l (toNat (zJ l-1)))] l 2:=by
 refine aE ?_;obtain⟨p1,p2⟩:=hp;have p3:l.length<=1099511627776:=p2;have e1:toNat ((l.length:Int)-1-1)=l.length-2:=by omega
 have e2:toNat ((l.length:Int)-1)=l.length-1:=by omega
 with_reducible and_intros
 iterate 14 omega
 trivial;grind[List.length_singleton];rw [e1,e2];rfl
def aty(s:B8)(l:List (List Int))(hp:S.sb l):acH (zI l-1) (zI l-1-1) 0 (zI l) (toNat (zI l-1-1)) (zI l) (toNat (zI l-1)) [S.OS (Ci l (toNat (zI l-1-1))) (Ci l (toNat (zI l-1)))] l 3:=by
 refine aE ?_;obtain⟨p1,p2⟩:=hp;have p3:l.length<=1099511627776:=p2;have e1:toNat ((l.length:Int)-1-1)=l.length-2:=by omega
 have e2:toNat ((l.length:Int)-1)=l.length-1:=by omega
 with_reducible and_intros
 iterate 14 omega
 trivial;grind[List.length_singleton];rw [e1,e2];rfl
def atz(s:B8)(t:List B8)(f l:List (List Int))(hp:S.BZ t f/\S.small l):S.BZ t f/\Pz (length l+length [S.mH t f s])/\[t]=[t]/\0=0/\[f]=[f]/\0=0/\l++[S.mH t f s]=S.Hu l (S.mH t f s):=by
 refine aE ?_;with_reducible and_intros
 grind;grind[S.small,List.length_singleton];iterate 5 rfl
def atA(l:List (Int×B8))(t:List B8)(f:List (List Int))(hp:S.E9 l t f)(hf:Vg.akd J.azk (l,t,f)):(∃(x1:Nat),((0:Int)=x1/\[]=S.gC (S.mH t f) l x1/\[t]=[t]/\0=0/\[f]=[f]/\0=0)/\S.pF l (S.gC (S.mH t f) l x1) x1)/\(∀(x2:Nat),S.pF l (S.gC (S.mH t f) l x2) x2->eI (decide ((x2:Int)<length l)) (cK 0 x2 (length l)) (((qO l x2).1=0->(qO l x2).1=0/\(S.BZ t f/\S.small (S.gC (S.mH t f) l x2))/\eO x2 (∃(x3:Nat),((x2:Int)+1=x3/\S.Hu (S.gC (S.mH t f) l x2) (S.mH t f (qO l x2).2)=S.gC (S.mH t f) l x3/\[t]=[t]/\0=0/\[f]=[f]/\0=0)/\S.pF l (S.gC (S.mH t f) l x3) x3/\vA (S.len l) x3 (S.ag (S.len l) x2)))/\((qO l x2).1=1->(qO l x2).1=1/\S.sb (S.gC (S.mH t f) l x2)/\eO x2 (∃(x4:Nat),((x2:Int)+1=x4/\S.xo 1 (S.gC (S.mH t f) l x2)=S.gC (S.mH t f) l x4/\[t]=[t]/\0=0/\[f]=[f]/\0=0)/\S.pF l (S.gC (S.mH t f) l x4) x4/\vA (S.len l) x4 (S.ag (S.len l) x2)))/\((qO l x2).1=2->(qO l x2).1=2/\S.sb (S.gC (S.mH t f) l x2)/\eO x2 (∃(x5:Nat),((x2:Int)+1=x5/\S.xo 2 (S.gC (S.mH t f) l x2)=S.gC (S.mH t f) l x5/\[t]=[t]/\0=0/\[f]=[f]/\0=0)/\S.pF l (S.gC (S.mH t f) l x5) x5/\vA (S.len l) x5 (S.ag (S.len l) x2)))/\((qO l x2).1=3->(qO l x2).1=3/\S.sb (S.gC (S.mH t f) l x2)/\eO x2 (∃(x6:Nat),((x2:Int)+1=x6/\S.xo 3 (S.gC (S.mH t f) l x2)=S.gC (S.mH t f) l x6/\[t]=[t]/\0=0/\[f]=[f]/\0=0)/\S.pF l (S.gC (S.mH t f) l x6) x6/\vA (S.len l) x6 (S.ag (S.len l) x2)))/\(((qO l x2).1=0->False)/\((qO l x2).1=1->False)/\((qO l x2).1=2->False)/\((qO l x2).1=3->False)/\True->False)) (rj (length (S.gC (S.mH t f) l x2))) (Ds 0 (length (S.gC (S.mH t f) l x2))) (Ci (S.gC (S.mH t f) l x2) (toNat 0)=S.OT l t f)):=by
 refine aE ?_;have PN:Vg.hlen l:=hf.1.1;refine⟨?_,?_⟩
 . grind[S.art,S.aHk]
 intro x1 h2;refine V.dI (λh3=>?_) λh9=>?_
 . with_reducible and_intros
   iterate 2 omega
   . intro h4;with_reducible and_intros
     omega;exact hp.2.2;exact S.ahE hp h2;iterate 2 omega
     refine⟨(x1+nat_lit 1),?_⟩;try dsimp only
     with_reducible and_intros
     omega;exact S.Yl h3 h4;iterate 4 rfl
     exact S.amc h2 h3 h4;simp only [S.ag,S.len];omega
   . intro h5;with_reducible and_intros
     omega
     . exact S.L2 hp h2 h3 (by rw [show(S.jY l x1).1=1 from h5];decide)
     iterate 2 omega
     refine⟨(x1+nat_lit 1),?_⟩;try dsimp only
     with_reducible and_intros
     omega;exact S.L1 h3 h5 (by decide);iterate 4 rfl
     exact S.OX hp h2 h3 h5 (by decide);simp only [S.ag,S.len];omega
   . intro h6;with_reducible and_intros
     omega
     . exact S.L2 hp h2 h3 (by rw [show(S.jY l x1).1=2 from h6];decide)
     iterate 2 omega
     refine⟨(x1+nat_lit 1),?_⟩;try dsimp only
     with_reducible and_intros
     omega;exact S.L1 h3 h6 (by decide);iterate 4 rfl
     exact S.OX hp h2 h3 h6 (by decide);simp only [S.ag,S.len];omega
   . intro h7;with_reducible and_intros
     omega
     . exact S.L2 hp h2 h3 (by rw [show(S.jY l x1).1=3 from h7];decide)
     iterate 2 omega
     refine⟨(x1+nat_lit 1),?_⟩;try dsimp only
     with_reducible and_intros
     omega;exact S.L1 h3 h7 (by decide);iterate 4 rfl
     exact S.OX hp h2 h3 h7 (by decide);simp only [S.ag,S.len];omega
   intro h8;have q:0<=(getD l (toNat (x1:Int)) (0,[])).1/\(getD l (toNat (x1:Int)) (0,[])).1<=3:=⟨(S.UP hp.1 h3).1,(S.UP hp.1 h3).2.1⟩;grind
 with_reducible and_intros
 omega
 iterate 2
  . have:=S.ab1 hp h2 h9;omega
 rw [(S.ab1 hp h2 h9).2];rfl
def atB(l:List (Int×B8))(f:List (List Int))(hp:S.fV l)(hf:Vg.gq J.azl (l,f)):S.fV l/\dH (Bool.not (S.bw l)) ([]=(S.mh l f).1) (1=(S.mh l f).2) (S.small l) (dH (mZ (length f) (bu (S.ax l))) ([]=(S.mh l f).1) (1=(S.mh l f).2) (∃(x1:Nat),(0:Int)=x1/\S.Fa f x1) (∀(x2:Nat),S.Fa f x2->eI (decide ((x2:Int)<length f)) (cK 0 x2 (length f)) (gk (dH (Bool.not (S.bK (Ci f (toNat x2)))) ([]=(S.mh l f).1) (1=(S.mh l f).2) (qK x2) (∃(x3:Nat),ri x2 x3 (S.Fa f x3) (S.len f)))) (S.E9 l (S.ax l) f) (S.OT l (S.ax l) f=(S.mh l f).1) (0=(S.mh l f).2))):=by
 refine aE ?_;have aIC:Vg.hlen f:=hf.2.1.1;with_reducible and_intros
 omega
 . intro h1;refine⟨?_,?_⟩
   . exact(S.Ji (by simp_all[S.mT,Bool.false_and])).1
   exact(S.Ji (by simp_all[S.mT,Bool.false_and])).2
 intro h2;simp at h2;with_reducible and_intros
 exact hp.1
 . intro h3;refine⟨?_,?_⟩
   . exact(S.Ji (by simp [S.mT,h2,Bool.true_and];grind)).1
   exact(S.Ji (by simp [S.mT,h2,Bool.true_and];grind)).2
 intro h4;simp at h4;refine⟨?_,?_⟩
 . refine⟨(nat_lit 0:Nat),?_⟩;dsimp only;refine⟨?_,?_⟩
   . omega
   exact⟨Nat.zero_le _,λx hx=>by grind⟩
 intro x5 h6;refine V.dI (λh7=>?_) λde=>?_
 . with_reducible and_intros
   iterate 2 omega
   trivial
   . intro h8;try simp only [nt] at h8
     refine⟨?_,?_⟩
     . exact(S.Ji (by simp only [S.mT,S.ab3 h7 h8,Bool.and_false])).1
     exact(S.Ji (by simp only [S.mT,S.ab3 h7 h8,Bool.and_false])).2
   intro h9;try simp only [nf] at h9
   with_reducible and_intros
   iterate 2 omega
   refine⟨(x5+nat_lit 1),?_⟩;try dsimp only
   with_reducible and_intros
   omega;exact S.amd h6 h7 h9;simp only [S.ag,S.len];omega
 with_reducible and_intros
 exact⟨h2,hp.1,S.Sx hp.1,w!,Z!.1 (S.UQ h6 (by assumption))⟩
 . exact(S.ab2 (by simp only [S.mT,h2,S.UQ h6 (by assumption),Bool.true_and,Bool.and_true];exact K? w!)).1
 . exact(S.ab2 (by simp only [S.mT,h2,S.UQ h6 (by assumption),Bool.true_and,Bool.and_true];exact K? w!)).2
def atC(p1:Int)(p2 p3 p4:B8)(p5:List B8)(p6 t:B8)(e:Int)(hp:S.aC p6):ta (decide (p2=t)) (ta (bR e) (S.aC p6))/\oG (decide (p2=t)) (Ce (bR e) (S.mF 2 p6) p4)=S.KL t e p2 p4 p6:=by
 refine aE ?_;simp_all[dt,df,S.KL]
def atD(p1:Int)(p2 p3 p4:B8)(p5:List B8)(p6 t:B8):oG (Op.bytesLess p2 t) (bif Bool.not (acG p3 t) then bR (cE p6) else oG (decide (p3=[])) (bR (cE p6)))=S.KM t p2 p3 p6:=by
 refine aE ?_;grind[S.aBp,S.KM,Op.bytesLess,decide]
def atE(t:B8)(p1:Int)(p2 p3 p4:B8)(p5:List B8)(p6:B8)(hp:p6.length<=140737488355328):ir p6/\[t]=[t]/\0=0/\[(S.b8 p6).2]=[(S.b8 p6).2]/\0=0/\(S.b8 p6).1=(S.b8 p6).1/\[t]=[t]/\0=0:=by
 refine aE ?_;grind
def atF(root:B8)(n:Int)(t:B8)(p1:Int)(p2 p3 p4:B8)(p5:List B8)(p6:B8)(hp:S.B0 t p5 p6):sy (sC root) (sy (decide (n<1)) (sy (decide (1099511627776<n)) (S.small t)))/\Fi (na (sC root) (na (decide (n<1)) (wH (decide (1099511627776<n)) (S.isTerm t)))) ([]=(S.iI root n t (p1,p2,p3,p4,p5,p6)).1) (1=(S.iI root n t (p1,p2,p3,p4,p5,p6)).2) True (cx (S.kM p2 p3 p4)) (6=(S.iI root n t (p1,p2,p3,p4,p5,p6)).2) (S.aC (S.fW p2 p3 p4)) (S.dM p5) (eI (wH (cx (S.eQ (S.leaf (S.fW p2 p3 p4)) p1 n p5)) (decide (S.kq (S.leaf (S.fW p2 p3 p4)) p1 n p5=root))) ([]=(S.iI root n t (p1,p2,p3,p4,p5,p6)).1) (6=(S.iI root n t (p1,p2,p3,p4,p5,p6)).2) (ir p6) (∃(x1:Nat),(0:Int)=x1/\S.ov root n t (p1,p2,p3,p4,p5,p6) x1) (∀(x2:Nat),S.ov root n t (p1,p2,p3,p4,p5,p6) x2->kB (decide ((x2:Int)<((2:Nat):Int))) (((x2:Int)=((0:Nat):Int)->(x2:Int)=((0:Nat):Int)/\S.aC p6/\dH (S.KL t (S.b8 p6).2 p2 p4 p6) ((S.b8 p6).1=(S.iI root n t (p1,p2,p3,p4,p5,p6)).1) (0=(S.iI root n t (p1,p2,p3,p4,p5,p6)).2) (qK x2) (∃(x3:Nat),(x2:Int)+1=x3/\S.ov root n t (p1,p2,p3,p4,p5,p6) x3/\vA 2 x3 (S.ag 2 x2)))/\(x2=Jr->x2=Jr/\gk (dH (S.KM t p2 p3 p6) ([]=(S.iI root n t (p1,p2,p3,p4,p5,p6)).1) (0=(S.iI root n t (p1,p2,p3,p4,p5,p6)).2) (qK x2) (∃(x4:Nat),(x2:Int)+1=x4/\S.ov root n t (p1,p2,p3,p4,p5,p6) x4/\vA 2 x4 (S.ag 2 x2))))/\(((x2:Int)=((0:Nat):Int)->False)/\(x2=Jr->False)/\True->False)) ([]=(S.iI root n t (p1,p2,p3,p4,p5,p6)).1/\6=(S.iI root n t (p1,p2,p3,p4,p5,p6)).2))):=by
 refine aE ?_;with_reducible and_intros
 grind
 . intro h2;refine⟨?_,?_⟩
   . grind
   intro h4;refine⟨?_,?_⟩
   . grind
   intro h6;exact hp.1
 . intro h7;grind[S.aru,S.arv]
 intro h8;with_reducible and_intros
 trivial;grind[nt,df,S.amf,S.UT,S.arw];intro de;with_reducible and_intros
 grind[S.þ];exact hp.2.1
 . intro fC;grind[S.amf,S.UT,S.arx]
 intro gY;with_reducible and_intros
 . have:=hp.2.2.2;grind[S.small]
 grind[S.aBr,S.UT,S.aBq];intro JB jZ;refine⟨?_,?_⟩
 . intro Cq;try simp only [dt] at Cq
   with_reducible and_intros
   . intro zP;with_reducible and_intros
     exact(by assumption);exact hp.2.2.1
     . intro HV;refine⟨?_,?_⟩
       . exact(S.ab7 jZ HV).1
       exact(S.ab7 jZ HV).2
     intro QW;with_reducible and_intros
     iterate 2 omega
     refine⟨(JB+nat_lit 1),?_⟩;try dsimp only
     with_reducible and_intros
     omega;exact S.aBs jZ zP QW;simp only [S.ag];omega
   . intro h19;with_reducible and_intros
     exact(by assumption);trivial
     . intro h20;refine⟨?_,?_⟩
       . exact(S.ab8 jZ h19 h20).1
       exact(S.ab8 jZ h19 h20).2
     intro xA;with_reducible and_intros
     iterate 2 omega
     refine⟨(JB+nat_lit 1),?_⟩;try dsimp only
     with_reducible and_intros
     omega;exact S.aBt jZ h19 xA;simp only [S.ag];omega
   intro h22;have q:(JB:Int)=((0:Nat):Int)\/(JB:Int)=((1:Nat):Int):=by omega
   exact q.elim h22.1 h22.2.1
 grind[df,S.ary]
def atG(u v:B8):gk (S.aT u v=S.aT u v):=by
 refine aE ?_;grind
def atH(i j:Int)(u v:B8)(p:List B8)(hp:S.nI i j p)(hf:Vg.gq J.KQ (i,j,u,v,p)):(∃(x1:Int×Int),(i=x1.1/\j=x1.2)/\S.wC i j x1)/\(∀(x2:Int×Int),S.wC i j x2->0<=x2.1/\(0:Int)<=1/\dH (decide (Vg.aM x2.1 1=1)) (vj 1) (gR 1 64 (∃(x3:Int×Int),(x2.1/gE 2 1=x3.1/\x2.2/gE 2 1=x3.2)/\S.wC i j x3/\KT x3.1 x2.1)) (rj (bu p)) (rj (bu p)/\gR 1 (bu p) ((∃(x4:Nat×Int×Int×B8×B8),((0:Int)=x4.1/\x2.1=x4.2.1/\x2.2=x4.2.2.1/\nb p 0=x4.2.2.2.1/\nb p 0=x4.2.2.2.2)/\S.ow i j p x4)/\(∀(x5:Nat×Int×Int×B8×B8),S.ow i j p x5->oI (decide (x5.1<bu (Ju p))) 0 x5.1 (bu (Ju p)) (wG (bR x5.2.2.1) (S.mX i j u v p) (0<=x5.2.1/\(0:Int)<=1/\fX (oG (decide (Vg.aM x5.2.1 1=0)) (mZ x5.2.1 x5.2.2.1)) True (gR 1 64 (gR 1 64 (b6 (x5.1+1)/\(∃(x6:Nat×Int×Int×B8×B8),((x5.1:Int)+1=x6.1/\x5.2.1/gE 2 1=x6.2.1/\x5.2.2.1/gE 2 1=x6.2.2.1/\x5.2.2.2.1=x6.2.2.2.1/\S.aT x5.2.2.2.2 (nb (Ju p) x5.1)=x6.2.2.2.2)/\S.ow i j p x6/\vA (S.len p) x6.1 (S.ag (S.len p) x5.1))))) (sA ((∃(x7:Int×Int×Nat),(x5.2.1=x7.1/\x5.2.2.1=x7.2.1)/\S.wD i j x7/\(x5.1:Int)=x7.2.2)/\(∀(x8:Int×Int×Nat),S.wD i j x8/\(x5.1:Int)=x8.2.2->0<=x8.1/\(0:Int)<=1/\fX (oG (decide (Vg.aM x8.1 1=0)) (cx x8.1)) (vj 1) (gR 1 64 (∃(x9:Int×Int×Nat),(x8.1/gE 2 1=x9.1/\x8.2.1/gE 2 1=x9.2.1)/\(S.wD i j x9/\(x5.1:Int)=x9.2.2)/\KT x9.1 x8.1)) (gR 1 64 (gR 1 64 (b6 (x5.1+1)/\(∃(FE:Nat×Int×Int×B8×B8),((x5.1:Int)+1=FE.1/\x8.1/gE 2 1=FE.2.1/\x8.2.1/gE 2 1=FE.2.2.1/\S.aT (nb (Ju p) x5.1) x5.2.2.2.1=FE.2.2.2.1/\S.aT (nb (Ju p) x5.1) x5.2.2.2.2=FE.2.2.2.2)/\S.ow i j p FE/\vA (S.len p) FE.1 (S.ag (S.len p) x5.1)))))))))) (oG (bR x5.2.2.1) (Ce (decide (x5.2.2.2.1=u)) x5.2.2.2.2 v)=S.mX i j u v p))))):=by
 refine aE ?_;have YK:Vg.hlen p:=hf.2.2.2.2.1.1;refine⟨?_,?_⟩
 . refine⟨((i),(j)),?_⟩;with_reducible and_intros
   iterate 2 omega
   exact S.aBx hp
 intro x1 h2;with_reducible and_intros
 exact h2.1;omega
 . intro h3;simp at h3;with_reducible and_intros
   iterate 4 omega
   refine⟨((Prod.fst x1/(2:Int)^toNat (1:Int)),(Prod.snd x1/(2:Int)^toNat (1:Int))),?_⟩;with_reducible and_intros
   iterate 2 omega
   . exact S.ahJ h2 (by rw [<-S.Ff h2.1];exact h3)
   have q:=S.Ff h2.1;rw [S.wE];have:=h2.1;omega
 intro h4;simp at h4;with_reducible and_intros
 omega
 . have:=hp.2.2.1;omega
 omega
 . have:=hp.2.2.1;omega
 omega
 . have:=hp.2.2.1;omega
 . refine⟨((nat_lit 0:Nat),((Prod.fst x1),((Prod.snd x1),((getD p (toNat (0:Int)) []),(getD p (toNat (0:Int)) []))))),?_⟩;dsimp only;with_reducible and_intros
   iterate 3 omega
   iterate 2 rfl
   . exact S.amm hp h2 (by rw [<-S.Ff h2.1];exact h4)
 intro x5 h6;refine V.dI (λh7=>?_) λzP=>?_
 . with_reducible and_intros
   iterate 2 omega
   . intro h8;try simp only [dt] at h8
     exact S.ahK h6 (S.dl h7) h8
   intro h9;try simp only [df] at h9
   with_reducible and_intros
   exact h6.1.1;omega
   . intro de;try simp at de
     with_reducible and_intros
     trivial;iterate 5 omega
     . have:=S.dl h7;omega
     refine⟨((Prod.fst x5+nat_lit 1),((Prod.fst (Prod.snd x5)/(2:Int)^toNat (1:Int)),((Prod.fst (Prod.snd (Prod.snd x5))/(2:Int)^toNat (1:Int)),((Prod.fst (Prod.snd (Prod.snd (Prod.snd x5)))),(S.aT (Prod.snd (Prod.snd (Prod.snd (Prod.snd x5)))) (getD (drop (toNat (1:Int)) p) (toNat (↑(Prod.fst x5):Int)) [])))))),?_⟩;try dsimp only
     with_reducible and_intros
     iterate 3 omega
     iterate 2 with_reducible rfl
     . rw [S.wE,S.wE,S.dgD];exact S.ahL h6 (S.dl h7) (by have:=de.1;rw [S.Ff h6.1.1] at this;omega) de.2
     simp only [S.ag,S.len];have:=S.dl h7;omega
   intro fC;with_reducible and_intros
   iterate 2 trivial
   . refine⟨((Prod.fst (Prod.snd x5)),((Prod.fst (Prod.snd (Prod.snd x5))),(Prod.fst x5))),?_⟩;try dsimp only
     with_reducible and_intros
     iterate 2 omega
     . have q:=S.Ff h6.1.1;exact S.aBy h6 h9 x!
     omega
   intro x12 jM;with_reducible and_intros
   exact jM.1.1.1;omega
   . intro jZ;try simp at jZ
     with_reducible and_intros
     iterate 4 omega
     refine⟨((Prod.fst x12/(2:Int)^toNat (1:Int)),((Prod.fst (Prod.snd x12)/(2:Int)^toNat (1:Int)),(Prod.fst x5))),?_⟩;try dsimp only
     with_reducible and_intros
     iterate 2 omega
     . have e:x12.2.2=x5.1:=by have:=jM.2;omega
       rw [S.wE,S.wE,<-e];exact S.ahM jM.1 (by rw [<-S.Ff jM.1.1.1];exact jZ.1) jZ.2
     omega;rw [S.wE];have q:=jM.1.1.1;have:=jZ.2;omega
   intro Cq;with_reducible and_intros
   iterate 5 omega
   . have:=S.dl h7;omega
   refine⟨((Prod.fst x5+nat_lit 1),((Prod.fst x12/(2:Int)^toNat (1:Int)),((Prod.fst (Prod.snd x12)/(2:Int)^toNat (1:Int)),((S.aT (getD (drop (toNat (1:Int)) p) (toNat (↑(Prod.fst x5):Int)) []) (Prod.fst (Prod.snd (Prod.snd (Prod.snd x5))))),(S.aT (getD (drop (toNat (1:Int)) p) (toNat (↑(Prod.fst x5):Int)) []) (Prod.snd (Prod.snd (Prod.snd (Prod.snd x5))))))))),?_⟩;try dsimp only
   with_reducible and_intros
   iterate 3 omega
   iterate 2 with_reducible rfl
   . have q:=S.Ff jM.1.1.1;have q2:=Int.emod_two_eq x12.1;rw [S.wE,S.wE,S.dgD];exact S.amn h6 (S.dl h7) jM.1 (by have:=jM.2;omega) x!
   simp only [S.ag,S.len];have:=S.dl h7;omega
 rw [<-S.arD hp h6 (S.dl' zP)];cases decide (x5.2.2.1=0)<;>cases decide (x5.2.2.2.1=u)<;>rfl
def atI(m n:Int)(u v:B8)(p:List B8)(hp:S.B3 m n p)(hf:Vg.gq J.KQ (m,n,u,v,p)):fX (bR m) (ta (bR (length p)) (S.small oH)) (Ce (bR (length p)) u (S.sum oH)=S.accepted m n u v p) (kB (decide (m=n)) (Ce (bR (length p)) u v=S.accepted m n u v p) (b6 (m-1)/\0<=m/\0<=m-1/\fX (bR (Vg.aM m (m-1))) (đ (length [u]+length p)) (wG (bR (bu ([u]++p))) (S.accepted m n u v p) (b6 (m-1)/\b6 (n-1)/\S.nI (m-1) (n-1) ([u]++p)/\S.mX (m-1) (n-1) u v ([u]++p)=S.accepted m n u v p)) (wG (bR (length p)) (S.accepted m n u v p) (b6 (m-1)/\b6 (n-1)/\S.nI (m-1) (n-1) p/\S.mX (m-1) (n-1) u v p=S.accepted m n u v p)))):=by
 refine aE ?_;have ans:Vg.hint m:=hf.1;have SS:Vg.hint n:=hf.2.1;clear hf;refine V.dI (λh1=>?_) λh4=>?_
 . with_reducible and_intros
   . intro h2;try simp only [dt] at h2
     exact U! _
   grind;exact S.aHm h1
 refine V.dI (λh5=>?_) λh6=>?_
 . grind[S.aBz]
 with_reducible and_intros
 . have q1:=hp.1;omega
 omega
 iterate 2
  . have q1:=hp.1;omega
 . intro h7;with_reducible and_intros
   . have:=hp.2.2.2;grind[S.dM,List.length_singleton]
   grind;intro h9;with_reducible and_intros
   . have q1:=hp.1;omega
   omega
   . have q2:=hp.2.1;omega
   omega;grind[S.acg];grind[S.aHn]
 intro de;refine V.dI (λfC=>?_) λgY=>?_
 . grind[S.arE]
 with_reducible and_intros
 . have q1:=hp.1;omega
 omega
 . have q2:=hp.2.1;omega
 omega;grind[S.acg];grind[S.ayS]
def atJ(m n:Int)(u v:B8)(p:List B8)(hp:S.dM p)(hf:Vg.gq J.KQ (m,n,u,v,p)):kB (HJ m 0 (HJ n m (HJ 1099511627776 n (na (sC u) (sC v))))) (1=S.ia m n u v p) ((∃(x1:Nat),(0:Int)=x1/\S.fg p x1)/\(∀(x2:Nat),S.fg p x2->dH (decide (x2<bu p)) (cK 0 x2 (bu p)) (kB (sC (nb p x2)) (6=S.ia m n u v p) (eO x2 (∃(x3:Nat),ri x2 x3 (S.fg p x3) (S.len p)))) (S.B3 m n p) (kB (Bool.not (S.accepted m n u v p)) (6=S.ia m n u v p) (0=S.ia m n u v p)))):=by
 refine aE ?_;have YK:Vg.hlen p:=hf.2.2.2.2.1.1;refine⟨?_,?_⟩
 . intro h1;simp at h1;exact S.arF h1
 intro h2;simp only [V.ajY,df,nf,dt] at h2;refine⟨?_,?_⟩
 . grind[S.abo]
 intro x3 h4;refine V.dI (λh5=>?_) λh8=>?_
 . with_reducible and_intros
   iterate 2 omega
   . intro h6;simp at h6;rw [S.Ā h2,J!];rw [S.arG h5 h6];simp
   intro h7;simp at h7;with_reducible and_intros
   iterate 2 omega
   refine⟨(x3+nat_lit 1),?_⟩;dsimp only;with_reducible and_intros
   omega;exact S.Yr h4 h5 h7;simp [S.ag,S.len];omega
 with_reducible and_intros
 exact⟨w!,w!,w!,hp⟩
 . intro h9;simp at h9;rw [S.Ā h2,J!];rw [h9];simp
 intro de;simp at de;rw [S.Ā h2,M! ⟨S.arH h4 h8,de⟩]
def atK(h1:Int)(h2:B8)(h3:List (Int×Int×Int×B8))(root:B8):gk (Ce (bR (S.im h1 h2 h3).2) (S.im h1 h2 h3).1 root=S.vz h1 h2 h3 root):=by
 refine aE ?_;grind[S.ari]
def atL(h1:Int)(h2:B8)(h3:List (Int×Int×Int×B8))(root:B8): [(h1,h2,h3)]=[(h1,h2,h3)]/\0=0/\[root]=[root]/\0=0:=by
 grind
def atM(a1:Int)(a2:B8)(a3:List (Int×Int×Int×B8))(a4:List (List (Int×B8×B8×B8×List B8×B8)))(i:Int)(t:List B8)(hp:0<=i/\i<(S.len a4:Nat)):cK 0 i (length a4)/\decide (length (getD a4 (toNat i) [])=bu t)=S.qF a4 i t:=by
 refine aE ?_;grind[S.qF,S.len]
def atN(p1:Int)(p2:B8)(p3:List (Int×Int×Int×B8))(p4:Int)(p5:B8)(p6:List B8)(i:Int):decide (p4=i)=decide (p4=i):=by
 rfl
def atO(l:List Int)(s1 s2:Int)(hf:Vg.gq J.amP (l,s1,s2)):(∃(x1:Nat),(0:Int)=x1/\S.xl l s1 s2 x1/\x1<=S.len l)/\(∀(x2:Nat),S.xl l s1 s2 x2/\x2<=S.len l->oI (decide (x2<dj l)) 0 x2 (dj l) (wL (HJ (lH l x2) s1 (decide (s2<=lH l x2))) (S.wB l s1 s2) x2 1 (∃(x3:Nat),ri x2 x3 (S.xl l s1 s2 x3/\x3<=S.len l) (S.len l))) (true=S.wB l s1 s2)):=by
 refine aE ?_;have PN:Vg.hlen l:=hf.1.1;have anp:Vg.hint s1:=hf.2.1;have anq:Vg.hint s2:=hf.2.2.1;clear hf;refine⟨?_,?_⟩
 . grind[S.xl,S.zB,S.Da,S.Hr,S.ag,S.len]
 intro x1 h2;refine⟨?_,?_⟩
 . intro h3;try simp only [dt] at h3
   with_reducible and_intros
   iterate 2 omega
   . intro h4;try simp only [V.IG,dt,tn] at h4
     grind [S.xl,S.zB,S.Da,S.Hr,S.ag,S.len]
   intro h5;try simp only [V.ajY,df,tn] at h5
   with_reducible and_intros
   iterate 2 omega
   refine⟨(x1+nat_lit 1),?_⟩;try dsimp only
   with_reducible and_intros
   omega;iterate 3 (grind [S.xl,S.zB,S.Da,S.Hr,S.ag,S.len])
 grind[df,S.zB,S.Da,S.Hr]
def atP(p1:Int)(p2:B8)(p3:List (Int×Int×Int×B8))(p4:Int)(p5:B8)(p6:List B8)(i:Int)(hp:S.dM p6/\S.aC p5):S.aC p5/\S.dM p6/\Ce (bR (S.eQ (S.leaf p5) i p1 p6)) (S.kq (S.leaf p5) i p1 p6) p2=S.xm p1 p2 p5 p6 i:=by
 refine aE ?_;grind[S.xm]
def atQ(root:B8)(i:Int)(b:B8)(hp:b.length<1099511627776):Fi (sC root) ([]=(S.fS root i b).1) (1=(S.fS root i b).2) (ir b) (cx (S.ak b).2) ((S.ak b).2=(S.fS root i b).2) True (mv HN (S.vz (S.ak b).1.1 (S.ak b).1.2.1 (S.ak b).1.2.2.1 root->mv HN (decide ((S.ak b).1.2.2.2.1=i)->(S.dM (S.ak b).1.2.2.2.2.2/\S.aC (S.ak b).1.2.2.2.2.1)/\HN/\(S.xm (S.ak b).1.1 (S.ak b).1.2.1 (S.ak b).1.2.2.2.2.1 (S.ak b).1.2.2.2.2.2 i->True)))) (dH (cx (bif wK (S.vz (S.ak b).1.1 (S.ak b).1.2.1 (S.ak b).1.2.2.1 root) (decide ((S.ak b).1.2.2.2.1=i)) (oG (S.xm (S.ak b).1.1 (S.ak b).1.2.1 (S.ak b).1.2.2.2.2.1 (S.ak b).1.2.2.2.2.2 i) true) then 0 else 6)) ([]=(S.fS root i b).1) ((bif wK (S.vz (S.ak b).1.1 (S.ak b).1.2.1 (S.ak b).1.2.2.1 root) (decide ((S.ak b).1.2.2.2.1=i)) (oG (S.xm (S.ak b).1.1 (S.ak b).1.2.1 (S.ak b).1.2.2.2.2.1 (S.ak b).1.2.2.2.2.2 i) true) then 0 else 6)=(S.fS root i b).2) ((S.ak b).1.2.2.2.2.1=(S.fS root i b).1) (0=(S.fS root i b).2)):=by
 refine aE ?_;refine⟨?_,?_⟩
 . grind[nt,df,S.aBj]
 intro h2;with_reducible and_intros
 omega;grind[nt,df,S.aBk];intro h4;with_reducible and_intros
 iterate 2 trivial
 rfl;simp_all[dt,S.Yj]
 grind[nt,df,S.al9,S.Yi];grind[S.al9,S.Yi]
def atS(g1 g2 g3:Int)(g4 w:B8)(a1:Int)(a2:B8)(a3:List (Int×Int×Int×B8))(a4:List (List (Int×B8×B8×B8×List B8×B8)))(i j:Int)(xs:List Value)(q:Nat)(l:List Int)(hp:S.OZ w a4 i j/\S.Sz j q xs.length l/\S.sZ (g1,g2,g3,g4) w a4 i j=true):cK 0 i (length a4)/\cK 0 j (length (getD a4 (toNat i) []))/\S.B0 w (zG a4 i j).2.2.2.2.1 (zG a4 i j).2.2.2.2.2/\oz (cx (Jt a4 g3 g4 i j w).2)/\eI (wH (cx (Jt a4 g3 g4 i j w).2) (S.wB (Jt a4 g3 g4 i j w).1 g1 g2)) (false=true) (xs=xs/\q=q/\l=S.SA l (S.Ak (g1,g2,g3,g4) w a4 i j).1) (cK 0 j (Vg.bk.A4 xs)) (toNat j<Vg.bk.A4 xs) (toNat j=q/\HS l (Jt a4 g3 g4 i j w).1/\cK 0 j (Vg.bk.A4 xs)/\toNat j<Vg.bk.A4 xs/\toNat j=q/\HN/\xs=xs/\q=q/\l++(Jt a4 g3 g4 i j w).1=S.SA l (S.Ak (g1,g2,g3,g4) w a4 i j).1):=by
 refine aE ?_;obtain⟨⟨p1,p2,p3⟩,⟨p4,p5,p6⟩,p7⟩:=hp;have p8:(S.Ak (g1,g2,g3,g4) w a4 i j).2=0/\S.wB (S.Ak (g1,g2,g3,g4) w a4 i j).1 g1 g2=true:=by grind[S.sZ]
 have g1':0<=j/\j<(xs.length:Int):=⟨p2.1,w!⟩;have Zv:toNat j<xs.length:=by omega
 have g3':(S.Ak (g1,g2,g3,g4) w a4 i j).1.length<=1000:=S.SC _ _ _ _;have g4':l.length<=1099511627776:=p6;have g5':l.length+(S.Ak (g1,g2,g3,g4) w a4 i j).1.length<=17592186044416:=by omega
 refine⟨p1,p2,p3,⟨λ_=>trivial,λ_=>trivial⟩,λh3=>?_,λh4=>⟨g1',Zv,p4.symm,g5',g1',Zv,p4.symm,rfl,rfl,rfl,rfl⟩⟩;change (bif !decide ((S.Ak (g1,g2,g3,g4) w a4 i j).2=0) then true else !S.wB (S.Ak (g1,g2,g3,g4) w a4 i j).1 g1 g2)=true at h3;grind
def atU(g1 g2 g3:Int)(g4 w:B8)(a1:Int)(a2:B8)(a3:List (Int×Int×Int×B8))(a4:List (List (Int×B8×B8×B8×List B8×B8)))(i j:Int)(xs:List Value)(q:Nat)(l:List Int)(hp:S.OZ w a4 i j/\S.Sz j q xs.length l/\S.sZ (g1,g2,g3,g4) w a4 i j=false):cK 0 i (length a4)/\cK 0 j (length (getD a4 (toNat i) []))/\S.B0 w (gO a4 i j).2.2.2.2.1 (gO a4 i j).2.2.2.2.2/\oz (cx (S.iI g4 g3 w ((gO a4 i j).1,(gO a4 i j).2.1,(gO a4 i j).2.2.1,(gO a4 i j).2.2.2.1,(gO a4 i j).2.2.2.2.1,(gO a4 i j).2.2.2.2.2)).2)/\eI (wH (cx (S.iI g4 g3 w ((gO a4 i j).1,(gO a4 i j).2.1,(gO a4 i j).2.2.1,(gO a4 i j).2.2.2.1,(gO a4 i j).2.2.2.2.1,(gO a4 i j).2.2.2.2.2)).2) (S.wB (S.iI g4 g3 w ((gO a4 i j).1,(gO a4 i j).2.1,(gO a4 i j).2.2.1,(gO a4 i j).2.2.2.1,(gO a4 i j).2.2.2.2.1,(gO a4 i j).2.2.2.2.2)).1 g1 g2)) (false=false) (xs=xs/\q=q/\l=l) (cK 0 j (Vg.bk.A4 xs)) (toNat j<Vg.bk.A4 xs) (toNat j=q/\HS l (S.iI g4 g3 w ((gO a4 i j).1,(gO a4 i j).2.1,(gO a4 i j).2.2.1,(gO a4 i j).2.2.2.1,(gO a4 i j).2.2.2.2.1,(gO a4 i j).2.2.2.2.2)).1/\cK 0 j (Vg.bk.A4 xs)/\toNat j<Vg.bk.A4 xs/\toNat j=q/\true=false/\False/\False):=by
 refine aE ?_;obtain⟨⟨p1,p2,p3⟩,⟨p4,p5,p6⟩,p7⟩:=hp;refine⟨p1,p2,p3,⟨λ_=>trivial,λ_=>trivial⟩,λh3=>⟨rfl,rfl,rfl,rfl⟩,λh4=>?_⟩;change (bif !decide ((S.Ak (g1,g2,g3,g4) w a4 i j).2=0) then true else !S.wB (S.Ak (g1,g2,g3,g4) w a4 i j).1 g1 g2)=false at h4;change (decide ((S.Ak (g1,g2,g3,g4) w a4 i j).2=0)&&S.wB (S.Ak (g1,g2,g3,g4) w a4 i j).1 g1 g2)=false at p7;grind
def atV(root:B8)(l:List (Int×B8))(b:B8)(hp:b.length<1099511627776/\S.fV l):sy (sC root) (S.fV l)/\Fi (wH (sC root) (S.bw l)) ([]=(S.kA root l b).1) (1=(S.kA root l b).2) (ir b) (cx (cb b).2) ((cb b).2=(S.kA root l b).2) (S.small l) (0<=bu (S.ax l)/\bu (S.ax l)<=bu (S.ax l)/\bu (S.ax l)<=PB ((24:Nat):Int)) (mv (∃(x1:Nat),((0:Int)=x1/\[λ(x2:Vg.Z)=>(True,Vg.AV.bool (S.vz (cb b).1.1 (cb b).1.2.1 (cb b).1.2.2.1 root),x2)]=S.conds 27 3 root (cb b).1.1 (cb b).1.2.1 (cb b).1.2.2.1 (cb b).1.2.2.2 (S.ax l) x1)/\S.aca b x1) (∀(x3:Nat),S.aca b x3->gl (decide ((x3:Int)<length (cb b).1.2.2.1)) (cK 0 x3 (length (cb b).1.2.2.1)) (q92 (Nat.succ (Vg.bk.len (S.conds 27 3 root (cb b).1.1 (cb b).1.2.1 (cb b).1.2.2.1 (cb b).1.2.2.2 (S.ax l) x3)))) ((∃(x4:Nat×Nat),((0:Int)=x4.2/\Vg.bk.cat (S.conds 27 3 root (cb b).1.1 (cb b).1.2.1 (cb b).1.2.2.1 (cb b).1.2.2.2 (S.ax l) x3) [λ(x5:Vg.Z)=>(cK 0 x3 (S.len (cb b).1.2.2.2),Vg.AV.bool (S.qF (cb b).1.2.2.2 x3 (S.ax l)),x5)]=S.nJ 27 3 root (cb b).1.1 (cb b).1.2.1 (cb b).1.2.2.1 (cb b).1.2.2.2 (S.ax l) x4.1 x4.2)/\S.UU b (S.ax l) x4.1 x4.2/\(x3:Int)=x4.1)/\(∀(x6:Nat×Nat),S.UU b (S.ax l) x6.1 x6.2/\(x3:Int)=x6.1->gl (decide (x6.2<bu (S.ax l))) (cK 0 x6.2 (bu (S.ax l))) (q92 (Nat.succ (Vg.bk.len (S.nJ 27 3 root (cb b).1.1 (cb b).1.2.1 (cb b).1.2.2.1 (cb b).1.2.2.2 (S.ax l) x6.1 x6.2)))) (b6 (x6.2+1)/\(∃(x7:Nat×Nat),((x6.2:Int)+1=x7.2/\Vg.bk.cat (S.nJ 27 3 root (cb b).1.1 (cb b).1.2.1 (cb b).1.2.2.1 (cb b).1.2.2.2 (S.ax l) x6.1 x6.2) [S.B2 27 3 ((PJ b x3).1,(PJ b x3).2.1,(PJ b x3).2.2.1,(PJ b x3).2.2.2) (nb (S.ax l) x6.2) (cb b).1.2.2.2 x3 x6.2]=S.nJ 27 3 root (cb b).1.1 (cb b).1.2.1 (cb b).1.2.2.1 (cb b).1.2.2.2 (S.ax l) x7.1 x7.2)/\(S.UU b (S.ax l) x7.1 x7.2/\(x3:Int)=x7.1)/\o8 (S.len (S.ax l)) x7.2 x6.2)) (qK x3) (∃(x8:Nat),z8 x3 x8 (S.nJ 27 3 root (cb b).1.1 (cb b).1.2.1 (cb b).1.2.2.1 (cb b).1.2.2.2 (S.ax l) x6.1 x6.2=S.conds 27 3 root (cb b).1.1 (cb b).1.2.1 (cb b).1.2.2.1 (cb b).1.2.2.2 (S.ax l) x8) (S.aca b x8) (S.len (cb b).1.2.2.1)))) (Vg.bk.MP (toNat (bu (S.ax l)))=Vg.bk.MP (toNat (bu (S.ax l)))/\(Js b l root x3).1) (eI (cx (bif (Js b l root x3).2.1 then 0 else 6)) ([]=(S.kA root l b).1) ((bif (Js b l root x3).2.1 then 0 else 6)=(S.kA root l b).2) (S.fV l) ((S.mh l (Vg.bk.rows (Js b l root x3).2.2)).1=(S.kA root l b).1) ((S.mh l (Vg.bk.rows (Js b l root x3).2.2)).2=(S.kA root l b).2)))):=by
 refine aE ?_;with_reducible and_intros
 iterate 2 grind
 grind[S.arB,S.aBu];intro h4;try simp at h4
 with_reducible and_intros
 omega;grind[nt,df,S.arC,S.O4];intro h6;simp at h6;with_reducible and_intros
 exact hp.2.1;iterate 2 omega
 grind[S.pS];trivial
 . refine⟨(nat_lit 0:Nat),?_⟩;try dsimp only
   with_reducible and_intros
   omega;rfl;exact⟨U! _,h6⟩
 intro x7 h8;refine V.dI (λh9=>?_) λjZ=>?_
 . with_reducible and_intros
   iterate 2 omega
   . have e:=S.Fe (e0:=27) (ei0:=3) (root:=root) (n:=(S.bp b).1.1) (g:=(S.bp b).1.2.1) (s:=(S.bp b).1.2.2.1) (a:=(S.bp b).1.2.2.2) (t:=S.ax l) x7;have q:=S.ace hp.1 hp.2 h6 h4.2 h8.1;show length _+1<=_;omega
   . refine⟨((x7),(nat_lit 0:Nat)),?_⟩;try dsimp only
     with_reducible and_intros
     omega;rfl;exact⟨w!,U! _,h6⟩;omega
   intro FE fC;refine⟨?_,?_⟩
   . intro gY;try simp only [dt] at gY
     with_reducible and_intros
     iterate 2 omega
     . have e:=S.UX (e0:=27) (ei0:=3) (root:=root) (n:=(S.bp b).1.1) (g:=(S.bp b).1.2.1) (s:=(S.bp b).1.2.2.1) (a:=(S.bp b).1.2.2.2) (t:=S.ax l) FE.1 FE.2;have q:=S.ace hp.1 hp.2 h6 h4.2 (Nat.le_of_lt fC.1.1);have q2:=fC.1.2.1;have q3:=S.pS h4.2;show length _+1<=_;omega
     omega
     . have q:=S.pS h4.2;omega
     refine⟨((x7),(Prod.snd FE+nat_lit 1)),?_⟩;try dsimp only
     with_reducible and_intros
     omega
     . have e:x7=FE.1:=by have:=fC.2;omega
       rw [<-e];exact S.QV x7 FE.2
     . have:=fC.1.1;exact⟨w!,w!,h6⟩
     omega;simp only [S.ag,S.len];omega
   intro jM;try simp only [df] at jM
   with_reducible and_intros
   omega
   . have q:=S.acd hp.1 hp.2 h6;omega
   refine⟨(x7+nat_lit 1),?_⟩;try dsimp only
   with_reducible and_intros
   omega
   . have e:x7=FE.1:=by have:=fC.2;omega
     have e2:FE.2=(S.ax l).length:=by have:=fC.1.2.1;omega
     rw [<-e,e2];rfl
   exact⟨w!,h6⟩;simp only [S.ag,S.len];omega
 with_reducible and_intros
 rfl
 . exact(S.Hy hp.1 hp.2 h6 (by have:=h8.1;omega)).pre
 . intro Cq;try simp at Cq
   refine⟨?_,?_⟩
   . exact(S.amj (S.O4 h4) h6 (S.Hy hp.1 hp.2 h6 (by have:=h8.1;omega)) Cq).1
   exact(S.amj (S.O4 h4) h6 (S.Hy hp.1 hp.2 h6 (by have:=h8.1;omega)) Cq).2
 intro zP;try simp at zP
 with_reducible and_intros
 exact hp.2
 . rw [S.acf (S.O4 h4) h6 (S.Hy hp.1 hp.2 h6 (by have:=h8.1;omega)) zP]
 rw [S.acf (S.O4 h4) h6 (S.Hy hp.1 hp.2 h6 (by have:=h8.1;omega)) zP]
def atW(s1:Int)(s2:B8)(s3:List (Int×Int×Int×B8))(s4:Int)(s5:B8)(s6:List (Int×Int×Int×B8))(s7:List B8)(t:B8):mv (bR (S.im s4 s5 s6).2=bR (S.im s4 s5 s6).2) ((S.im s4 s5 s6).1=(S.im s4 s5 s6).1):=by
 refine aE ?_;grind
def atX(s1:Int)(s2:B8)(s3:List (Int×Int×Int×B8))(s4:Int)(s5:B8)(s6:List (Int×Int×Int×B8))(s7:List B8)(hp:S.dM s7):S.dM s7/\bR (S.ia s1 s4 s2 s5 s7)=bR (S.ia s1 s4 s2 s5 s7):=by
 refine aE ?_;grind
def atY(root b:B8)(hp:b.length<1099511627776):Fi (sC root) ([]=(S.dW root b).1) (0=(S.dW root b).2.1/\1=(S.dW root b).2.2) (ir b) (cx (S.ah b).2) (0=(S.dW root b).2.1/\(S.ah b).2=(S.dW root b).2.2) True (mv HN (S.vz (S.ah b).1.1 (S.ah b).1.2.1 (S.ah b).1.2.2.1 root->S.dM (S.ah b).1.2.2.2.2.2.2/\HN/\(PH b->mv HN (bR (Fk b).2->True)))) (dH (cx (bif wK (S.vz (S.ah b).1.1 (S.ah b).1.2.1 (S.ah b).1.2.2.1 root) (PH b) (oG (bR (Fk b).2) true) then 0 else 6)) ([]=(S.dW root b).1) (0=(S.dW root b).2.1/\(bif wK (S.vz (S.ah b).1.1 (S.ah b).1.2.1 (S.ah b).1.2.2.1 root) (PH b) (oG (bR (Fk b).2) true) then 0 else 6)=(S.dW root b).2.2) ((bif S.vz (S.ah b).1.1 (S.ah b).1.2.1 (S.ah b).1.2.2.1 root then bif PH b then bif bR (Fk b).2 then(Fk b).1 else(Fk b).1 else([]:B8) else([]:B8))=(S.dW root b).1) ((S.ah b).1.2.2.2.1=(S.dW root b).2.1/\0=(S.dW root b).2.2)):=by
 refine aE ?_;refine⟨?_,?_⟩
 . grind[nt,df,S.aBA]
 intro h2;try simp at h2
 with_reducible and_intros
 omega;grind[nt,df,S.aBB];intro h4;try simp at h4
 with_reducible and_intros
 iterate 2 trivial
 rfl;simp_all[S.amp,dt]
 . intro h8;try simp only [nt,df] at h8
   with_reducible and_intros
   iterate 2
    . have e:S.Hz root (S.ah b).1=false:=by
       cases q:S.Hz root (S.ah b).1 with
       |false=>rfl
       |true=>exact absurd ((S.amq _ _ _).trans (M! q)) h8
      grind[S.UY]
   have e:S.Hz root (S.ah b).1=false:=by
    cases q:S.Hz root (S.ah b).1 with
    |false=>rfl
    |true=>exact absurd ((S.amq _ _ _).trans (M! q)) h8
   rw [S.UY h2 h4,e,S.amq];grind
 intro h9;try simp only [nf,dt] at h9
 with_reducible and_intros
 . have e:S.Hz root (S.ah b).1=true:=S.ā h9;have e2:=S.ā h9;simp_all[B!,S.UY,M!]
 iterate 2 (simp_all[S.Hz,S.ah,S.ā,S.UY,M!])
def atZ(l:List B8)(hf:Vg.gq J.Po l):(∃(x1:Nat),(0:Int)=x1/\S.fg l x1)/\(∀(x2:Nat),S.fg l x2->oI (decide (x2<bu l)) 0 x2 (bu l) (wL (sC (nb l x2)) (S.bQ l) x2 1 (∃(x3:Nat),ri x2 x3 (S.fg l x3) (S.len l))) (true=S.bQ l)):=by
 refine aE ?_;have PN:Vg.hlen l:=hf.1.1;clear hf;refine⟨?_,?_⟩
 . grind[S.fg,S.bQ]
 intro x1 h2;refine⟨?_,?_⟩
 . intro h3;try simp only [dt] at h3
   with_reducible and_intros
   iterate 2 omega
   . intro h4;try simp only [nt,df,tn] at h4
     grind [S.fg,S.bQ]
   intro h5;try simp only [nf,dt,tn] at h5
   with_reducible and_intros
   iterate 2 omega
   refine⟨(x1+nat_lit 1),?_⟩;try dsimp only
   with_reducible and_intros
   omega;exact S.Yr h2 h3 h5;simp only [S.ag,S.len];omega
 grind[df,S.fg,S.bQ]
def at0(y1:Int)(y2:B8)(y3:List (Int×Int×Int×B8)):ta (sO y1) (ta (decide (y1<=1000)) (oz (decide (cE y2=32))))/\wK (sO y1) (decide (y1<=1000)) (oG (decide (cE y2=32)) (S.kW y3 y1))=S.bN y1 y2 y3:=by
 refine aE ?_;simp_all[dt,df,S.bN]
def at1(b:B8)(f:Int)(hp:b.length<=140737488355328):gk (dH (cx (S.first b).2.2) (0=(S.dw b f).1.1) (0=(S.dw b f).1.2.1/\0=(S.dw b f).1.2.2.1/\[]=(S.dw b f).1.2.2.2/\0=(S.dw b f).2.1/\(S.first b).2.2=(S.dw b f).2.2) (qM (S.first b).2.1 (cE b)) (gk (dH (cx (nO b).2.2) (0=(S.dw b f).1.1) (0=(S.dw b f).1.2.1/\0=(S.dw b f).1.2.2.1/\[]=(S.dw b f).1.2.2.2/\0=(S.dw b f).2.1/\(nO b).2.2=(S.dw b f).2.2) (b6 ((S.first b).2.1+(nO b).2.1)) (b6 ((S.first b).2.1+(nO b).2.1+32)/\dH (decide (cE b<(S.first b).2.1+(nO b).2.1+32)) (0=(S.dw b f).1.1) (0=(S.dw b f).1.2.1/\0=(S.dw b f).1.2.2.1/\[]=(S.dw b f).1.2.2.2/\0=(S.dw b f).2.1/\4=(S.dw b f).2.2) (b6 ((S.first b).2.1+(nO b).2.1)) (b6 ((S.first b).2.1+(nO b).2.1)/\b6 ((S.first b).2.1+(nO b).2.1+32)/\Cj ((S.first b).2.1+(nO b).2.1) ((S.first b).2.1+(nO b).2.1+32) (cE b)/\b6 ((S.first b).2.1+(nO b).2.1)/\b6 ((S.first b).2.1+(nO b).2.1+32)/\f=(S.dw b f).1.1/\(S.first b).1=(S.dw b f).1.2.1/\(nO b).1=(S.dw b f).1.2.2.1/\nM ((S.first b).2.1+(nO b).2.1) ((S.first b).2.1+(nO b).2.1+32) b=(S.dw b f).1.2.2.2/\(S.first b).2.1+(nO b).2.1+32=(S.dw b f).2.1/\0=(S.dw b f).2.2))))):=by
 refine aE ?_;have q1:=S.yp b;have q2:=S.yp (drop (toNat (Prod.fst (Prod.snd (S.first b)))) b);rw [N?] at q2;with_reducible and_intros
 trivial;grind[nt,df,S.dw];intro h2;with_reducible and_intros
 iterate 2 omega
 trivial;grind[nt,df,S.dw];intro h4;with_reducible and_intros
 iterate 4 omega
 simp_all[dt,S.dw]
 grind[df,S.dw,S.amt]
def at2(b:B8)(hp:b.length<=140737488355328):gk (gl (cx (S.first b).2.2) (0=(S.hR b).1.1) ([]=(S.hR b).1.2.1) ([]=(S.hR b).1.2.2/\(S.first b).2.2=(S.hR b).2) (b6 ((S.first b).2.1+32)) (eI (decide (cE b<(S.first b).2.1+32)) (0=(S.hR b).1.1) ([]=(S.hR b).1.2.1/\[]=(S.hR b).1.2.2/\4=(S.hR b).2) (b6 ((S.first b).2.1+32)) (Cj (S.first b).2.1 ((S.first b).2.1+32) (cE b)) (Fj ((S.first b).2.1+32) (cE b) (gk (fX (cx (FB b).2.2) (0=(S.hR b).1.1) ([]=(S.hR b).1.2.1/\[]=(S.hR b).1.2.2/\(FB b).2.2=(S.hR b).2) (eI (PF (FB b).1) (0=(S.hR b).1.1) ([]=(S.hR b).1.2.1/\[]=(S.hR b).1.2.2/\2=(S.hR b).2) (b6 ((S.first b).2.1+32+(FB b).2.1)) (∃(x1:Nat),((S.first b).2.1+32+(FB b).2.1=(S.cw b (S.ix b) x1).2.2.1/\0=(S.cw b (S.ix b) x1).2.1/\(0:Int)=x1/\(S.first b).1=S.U1 b/\mY (S.first b).2.1 (take (toNat ((S.first b).2.1+32)) b)=S.U2 b/\[]=(S.cw b (S.ix b) x1).1)/\S.ve b x1) (∀(x2:Nat),S.ve b x2->gl (decide (x2<(FB b).1)) (qM (eE b x2).2.2.1 (cE b)) (ir (mY (eE b x2).2.2.1 b)) (gl (cx (S.dw (mY (eE b x2).2.2.1 b) (eE b x2).2.1).2.2) (0=(S.hR b).1.1) ([]=(S.hR b).1.2.1) ([]=(S.hR b).1.2.2/\(S.dw (mY (eE b x2).2.2.1 b) (eE b x2).2.1).2.2=(S.hR b).2) (SN (length (eE b x2).1+length [((S.dw (mY (eE b x2).2.2.1 b) (eE b x2).2.1).1.1,(S.dw (mY (eE b x2).2.2.1 b) (eE b x2).2.1).1.2.1,(S.dw (mY (eE b x2).2.2.1 b) (eE b x2).2.1).1.2.2.1,(S.dw (mY (eE b x2).2.2.1 b) (eE b x2).2.1).1.2.2.2)])) (b6 ((eE b x2).2.2.1+(S.dw (mY (eE b x2).2.2.1 b) (eE b x2).2.1).2.1)/\eO x2 (∃(x3:Nat),((eE b x2).2.2.1+(S.dw (mY (eE b x2).2.2.1 b) (eE b x2).2.1).2.1=(S.cw b (S.ix b) x3).2.2.1/\(S.dw (mY (eE b x2).2.2.1 b) (eE b x2).2.1).1.2.1=(S.cw b (S.ix b) x3).2.1/\(x2:Int)+1=x3/\S.U1 b=S.U1 b/\S.U2 b=S.U2 b/\(eE b x2).1++[((S.dw (mY (eE b x2).2.2.1 b) (eE b x2).2.1).1.1,(S.dw (mY (eE b x2).2.2.1 b) (eE b x2).2.1).1.2.1,(S.dw (mY (eE b x2).2.2.1 b) (eE b x2).2.1).1.2.2.1,(S.dw (mY (eE b x2).2.2.1 b) (eE b x2).2.1).1.2.2.2)]=(S.cw b (S.ix b) x3).1)/\S.ve b x3/\o8 (S.Lq b) x3 x2))) (oz (decide ((eE b x2).2.2.1<cE b))) (eI (wH (decide ((eE b x2).2.2.1<cE b)) (S.bN (S.U1 b) (S.U2 b) (eE b x2).1)) (0=(S.hR b).1.1) ([]=(S.hR b).1.2.1/\[]=(S.hR b).1.2.2/\2=(S.hR b).2) (S.U1 b=(S.hR b).1.1) (S.U2 b=(S.hR b).1.2.1) ((eE b x2).1=(S.hR b).1.2.2/\0=(S.hR b).2))))))))):=by
 refine aE ?_;have q1:=S.yp b;have q2:=S.yp (drop (toNat (Prod.fst (Prod.snd (S.first b))+32)) b);rw [N?] at q2;with_reducible and_intros
 trivial;grind[nt,df,S.hR];intro h2;with_reducible and_intros
 iterate 2 omega
 simp_all[dt,S.hR]
 intro h4;simp at h4;with_reducible and_intros
 iterate 9 omega
 trivial;grind[nt,df,S.hR];intro h6;refine V.dI (λh7=>?_) λh8=>?_
 . grind[S.hR]
 with_reducible and_intros
 iterate 2 omega
 . refine⟨(nat_lit 0:Nat),?_⟩;dsimp only;with_reducible and_intros
   iterate 2 rfl
   omega;rfl
   . rw [S.amt w! w!];rfl
   rfl;grind[S.aHv]
 intro x9 de;refine V.dI (λfC=>?_) λjZ=>?_
 . with_reducible and_intros
   iterate 2
    . have:=S.U3 de;omega
   . have:=S.U3 de;rw [N?];omega
   . intro gY;try simp at gY
     with_reducible and_intros
     iterate 3 (rw [S.amv de fC gY])
     rw [S.amv de fC gY]
   intro jM;try simp at jM
   with_reducible and_intros
   . have:=S.U3 de;rw [C?];omega
   iterate 2
    . have q:=S.U3 de;have q3:=S.aBE (drop (toNat (Prod.fst (Prod.snd (Prod.snd (S.cw b (S.ix b) x9))))) b) (Prod.fst (Prod.snd (S.cw b (S.ix b) x9)));rw [N?] at q3;omega
   iterate 2 omega
   refine⟨(x9+nat_lit 1),?_⟩;try dsimp only
   with_reducible and_intros
   iterate 2 (rw [(S.U4 de fC jM).1])
   omega;iterate 2 rfl
   rw [(S.U4 de fC jM).1];exact(S.U4 de fC jM).2;simp only [S.ag];have:=(S.U4 de fC jM).2.2.1;omega
 with_reducible and_intros
 . intro Cq;trivial
 . intro zP;trivial
 . intro HV;simp at HV;with_reducible and_intros
   iterate 3 (rw [S.L4 de jZ,M! HV])
   rw [S.L4 de jZ,M! HV]
 intro QW;simp only [V.ajY,df,nf] at QW;with_reducible and_intros
 iterate 3
  . rw [S.L4 de jZ,J! (by rcases QW with⟨g1,g2⟩;rintro(g|g);exact g1 g;rw [g2] at g;cases g)]
 rw [S.L4 de jZ,J! (by rcases QW with⟨g1,g2⟩;rintro(g|g);exact g1 g;rw [g2] at g;cases g)]
def at3(a1:B8)(a2:Int):eI (cx a2) (a1=(S.gD a1 a2).1.1) (a2=(S.gD a1 a2).1.2/\0=(S.gD a1 a2).2) True (qM (S.first a1).2.1 (cE a1)) (mY (S.first a1).2.1 a1=(S.gD a1 a2).1.1/\(S.first a1).2.2=(S.gD a1 a2).1.2/\(S.first a1).1=(S.gD a1 a2).2):=by
 refine aE ?_;simp_all[S.yp,nt,df,S.gD,nf,dt]
def at4(a1:B8)(a2 m:Int):eI (cx a2) (a1=(S.iq a1 a2 m).1.1) (a2=(S.iq a1 a2 m).1.2/\[]=(S.iq a1 a2 m).2) True (qM (S.aq a1 m).2.1 (cE a1)) (mY (S.aq a1 m).2.1 a1=(S.iq a1 a2 m).1.1/\(S.aq a1 m).2.2=(S.iq a1 a2 m).1.2/\(S.aq a1 m).1=(S.iq a1 a2 m).2):=by
 refine aE ?_;refine⟨?_,?_⟩
 . grind[nt,df,S.iq]
 intro h2;with_reducible and_intros
 trivial
 . have q1:=S.yp a1;grind [S.aq]
 grind[S.yp,S.aq];iterate 3 (grind [S.iq])
def at5(a1:B8)(a2 m:Int):gk (dH (oG (decide ((S.gD a1 a2).1.2=0)) (decide (m<(S.gD a1 a2).2))) ([]=(S.bO a1 a2 m).1.1) (2=(S.bO a1 a2 m).1.2/\0=(S.bO a1 a2 m).2) ((S.gD a1 a2).1.1=(S.bO a1 a2 m).1.1) ((S.gD a1 a2).1.2=(S.bO a1 a2 m).1.2/\(S.gD a1 a2).2=(S.bO a1 a2 m).2)):=by
 refine aE ?_;with_reducible and_intros
 trivial;simp_all[V.abe,dt,S.bO]
 grind[S.bO]
def at6(a1:B8)(a2:Int):mv (∃(x1:Nat),((0:Int)=x1/\(S.bO a1 a2 64).1.1=S.qI a1 a2 x1/\(S.bO a1 a2 64).1.2=(S.bO a1 a2 64).1.2/\[]=S.nK (S.bO a1 a2 64).1.1 x1)/\S.xq a1 a2 x1) (∀(x2:Nat),S.xq a1 a2 x2->kB (decide (x2<(S.bO a1 a2 64).2)) (eI (decide (cE (S.qI a1 a2 x2)<32)) ([]=(S.fM a1 a2).1.1) (4=(S.fM a1 a2).1.2/\[]=(S.fM a1 a2).2) (qM 32 (cE (S.qI a1 a2 x2))) (KU (S.nK (S.bO a1 a2 64).1.1 x2) [wI 32 (S.qI a1 a2 x2)]) (gR 32 (cE (S.qI a1 a2 x2)) (eO x2 (∃(x3:Nat),((x2:Int)+1=x3/\mY 32 (S.qI a1 a2 x2)=S.qI a1 a2 x3/\(S.bO a1 a2 64).1.2=(S.bO a1 a2 64).1.2/\S.nK (S.bO a1 a2 64).1.1 x2++[wI 32 (S.qI a1 a2 x2)]=S.nK (S.bO a1 a2 64).1.1 x3)/\S.xq a1 a2 x3/\o8 (S.Ln a1 a2) x3 x2)))) (S.qI a1 a2 x2=(S.fM a1 a2).1.1/\(S.bO a1 a2 64).1.2=(S.fM a1 a2).1.2/\S.nK (S.bO a1 a2 64).1.1 x2=(S.fM a1 a2).2)):=by
 refine aE ?_;with_reducible and_intros
 trivial
 . refine⟨0,?_⟩;with_reducible and_intros
   omega;iterate 3 rfl
   exact S.aHx ..
 intro x1 h2;refine⟨?_,?_⟩
 . intro h3;simp at h3;refine V.dI (λh4=>?_) λh5=>?_
   . with_reducible and_intros
     iterate 2 (rw [S.amx h2 h3 h4])
     rw [S.amx h2 h3 h4]
   with_reducible and_intros
   iterate 2 omega
   . have:=S.amw h2;rw [C?];omega
   iterate 3 omega
   . have:=S.amw h2;omega
   refine⟨(x1+nat_lit 1),?_⟩;dsimp only;with_reducible and_intros
   omega;exact(S.U5 h2 h3 h5).1;rfl;exact(S.U5 h2 h3 h5).2.1;exact(S.U5 h2 h3 h5).2.2;simp [S.ag];have:=(S.U5 h2 h3 h5).2.2.1;omega
 grind[df,S.acp]
def at7(a1:B8)(a2:Int):gk (dH (cx (xx a1 a2).1.2) ((xx a1 a2).1.1=(S.e9 a1 a2).1.1) ((xx a1 a2).1.2=(S.e9 a1 a2).1.2/\0=(S.e9 a1 a2).2.1/\[]=(S.e9 a1 a2).2.2.1/\[]=(S.e9 a1 a2).2.2.2) (ir (xx a1 a2).2) ((xx a1 a2).1.1=(S.e9 a1 a2).1.1/\(S.hR (xx a1 a2).2).2=(S.e9 a1 a2).1.2/\(S.hR (xx a1 a2).2).1.1=(S.e9 a1 a2).2.1/\(S.hR (xx a1 a2).2).1.2.1=(S.e9 a1 a2).2.2.1/\(S.hR (xx a1 a2).2).1.2.2=(S.e9 a1 a2).2.2.2)):=by
 refine aE ?_;with_reducible and_intros
 trivial;grind[nt,df,S.e9];intro h2;with_reducible and_intros
 . have:=S.arO a1 a2 10000 (by decide);omega
 iterate 5 (grind [S.e9])
def aua(b:B8)(kind:UInt8):fX (decide (1048576<cE b)) ([]=(S.gQ b kind).1) (3=(S.gQ b kind).2) (Fi (bR (cE b)) ([]=(S.gQ b kind).1) (4=(S.gQ b kind).2) (rj (cE b)) (mZ (fF b 0) (Py kind)) (2=(S.gQ b kind).2) (qM 1 (cE b)) (mY 1 b=(S.gQ b kind).1) (0=(S.gQ b kind).2)):=by
 refine aE ?_;refine⟨?_,?_⟩
 . simp_all[dt,S.gQ]
 intro h2;refine⟨?_,?_⟩
 . simp_all[dt,S.gQ]
 intro h4;simp only [df] at h4;with_reducible and_intros
 iterate 2 omega
 grind[nt,df,S.gQ];grind[S.amy,S.acr]
def aub(a1:B8)(a2:Int):kB (oG (decide (a2=0)) (Ei 0 a1)) (2=S.jT a1 a2) (a2=S.jT a1 a2):=by
 refine aE ?_;simp_all[V.abe,dt,S.jT,V.ze,df]
def auc(b:B8):sA (sA (sA (eI (cx (S.jT (S.fM (sS b).1.1 (sS b).1.2).1.1 (S.fM (sS b).1.1 (sS b).1.2).1.2)) True (0=(S.ak b).1.1/\[]=(S.ak b).1.2.1/\[]=(S.ak b).1.2.2.1/\0=(S.ak b).1.2.2.2.1/\[]=(S.ak b).1.2.2.2.2.1/\[]=(S.ak b).1.2.2.2.2.2/\S.jT (S.fM (sS b).1.1 (sS b).1.2).1.1 (S.fM (sS b).1.1 (sS b).1.2).1.2=(S.ak b).2) ((xw b).2.1=(S.ak b).1.1) ((xw b).2.2.1=(S.ak b).1.2.1) ((xw b).2.2.2=(S.ak b).1.2.2.1/\(S.gD (xw b).1.1 (xw b).1.2).2=(S.ak b).1.2.2.2.1/\(sS b).2=(S.ak b).1.2.2.2.2.1/\(S.fM (sS b).1.1 (sS b).1.2).2=(S.ak b).1.2.2.2.2.2/\0=(S.ak b).2)))):=by
 refine aE ?_;with_reducible and_intros
 iterate 6 trivial
 . intro h1;simp at h1;with_reducible and_intros
   trivial;iterate 6 (rw [S.U6 h1])
   rw [S.U6 h1];rfl
 intro h2;simp at h2;with_reducible and_intros
 iterate 6
  . rw [S.O9 h2];rfl
 rw [S.O9 h2]
def aud(b:B8):sA (sA (gk (eI (cx (S.jT (S.fM (qQ b).1.1 (qQ b).1.2).1.1 (S.fM (qQ b).1.1 (qQ b).1.2).1.2)) True (0=(S.ah b).1.1/\[]=(S.ah b).1.2.1/\[]=(S.ah b).1.2.2.1/\0=(S.ah b).1.2.2.2.1/\[]=(S.ah b).1.2.2.2.2.1/\[]=(S.ah b).1.2.2.2.2.2.1/\[]=(S.ah b).1.2.2.2.2.2.2/\S.jT (S.fM (qQ b).1.1 (qQ b).1.2).1.1 (S.fM (qQ b).1.1 (qQ b).1.2).1.2=(S.ah b).2) ((S.e9 (S.gQ b 3).1 (S.gQ b 3).2).2.1=(S.ah b).1.1) ((S.e9 (S.gQ b 3).1 (S.gQ b 3).2).2.2.1=(S.ah b).1.2.1) ((S.e9 (S.gQ b 3).1 (S.gQ b 3).2).2.2.2=(S.ah b).1.2.2.1/\(qQ b).2.1=(S.ah b).1.2.2.2.1/\(qQ b).2.2.1=(S.ah b).1.2.2.2.2.1/\(qQ b).2.2.2=(S.ah b).1.2.2.2.2.2.1/\(S.fM (qQ b).1.1 (qQ b).1.2).2=(S.ah b).1.2.2.2.2.2.2/\0=(S.ah b).2)))):=by
 refine aE ?_;with_reducible and_intros
 iterate 5 trivial
 . intro h1;simp at h1;with_reducible and_intros
   trivial;iterate 7 (rw [S.U7 h1])
   rw [S.U7 h1];rfl
 intro h2;simp at h2;with_reducible and_intros
 iterate 7
  . (rw [S.Yz h2];rfl)
 (rw [S.Yz h2])
def aue(m:Nat)(i n:Int)(w:Bool)(o:B8)(p:List B8)(hm:n.toNat<m+1)(hp:S.iM i n o p)(hf:Vg.gq J.azr (i,n,w,o,p)):kB (decide (i=n)) (fX w (o=(S.aS i n w o p).1.1) (o=(S.aS i n w o p).1.2/\bR (bu p)=(S.aS i n w o p).2) (gl (mZ (bu p) 1) ([]=(S.aS i n w o p).1.1) ([]=(S.aS i n w o p).1.2) (false=(S.aS i n w o p).2) (rj (bu p)) (rj (bu p)/\nb p 0=(S.aS i n w o p).1.1/\nb p 0=(S.aS i n w o p).1.2/\true=(S.aS i n w o p).2))) (gl (bR (bu p)) ([]=(S.aS i n w o p).1.1) ([]=(S.aS i n w o p).1.2) (false=(S.aS i n w o p).2) True (qJ (bu p-1) 0 (bu p) (Fj (bu p-1) (bu p) (gl (decide (i<=S.split n)) (Ds (S.split n) m/\S.iM i (S.split n) o (sR p)) (S.aC ((S.aS i (S.split n) w o (sR p)).1.2++lG p (toNat (bu p-1)))) ((S.aS i (S.split n) w o (sR p)).1.1=(S.aS i n w o p).1.1/\S.eW 1 ((S.aS i (S.split n) w o (sR p)).1.2++lG p (toNat (bu p-1)))=(S.aS i n w o p).1.2/\(S.aS i (S.split n) w o (sR p)).2=(S.aS i n w o p).2) (b6 (i-S.split n)) (b6 (n-S.split n)/\(Ds (n-S.split n) m/\S.iM (i-S.split n) (n-S.split n) o (sR p))/\S.aC (lG p (toNat (bu p-1))++(S.aS (i-S.split n) (n-S.split n) false o (sR p)).1.1)/\S.aC (lG p (toNat (bu p-1))++(S.aS (i-S.split n) (n-S.split n) false o (sR p)).1.2)/\S.eW 1 (lG p (toNat (bu p-1))++(S.aS (i-S.split n) (n-S.split n) false o (sR p)).1.1)=(S.aS i n w o p).1.1/\S.eW 1 (lG p (toNat (bu p-1))++(S.aS (i-S.split n) (n-S.split n) false o (sR p)).1.2)=(S.aS i n w o p).1.2/\(S.aS (i-S.split n) (n-S.split n) false o (sR p)).2=(S.aS i n w o p).2))))):=by
 refine aE ?_;have YK:Vg.hlen p:=hf.2.2.2.2.1.1;refine⟨?_,?_⟩
 . simp_all[dt,S.aHy,nt,df,S.aHz,nf,S.aHA]
 intro h6;try simp at h6
 refine⟨?_,?_⟩
 . simp_all[dt,S.ayW]
 intro h8;try simp only [df] at h8
 with_reducible and_intros
 trivial;iterate 8 omega
 grind[S.YA];intro de;try simp only [df] at de
 with_reducible and_intros
 omega
 iterate 3
  . have q:=S.Ć hp h6;omega
 . have:=(S.SI (w:=w) hp h6 h8 de).2.2.1;omega
 exact(S.SI (w:=w) hp h6 h8 de).2.1;exact(S.SI (w:=w) hp h6 h8 de).2.2.2.1;exact(S.SI (w:=w) hp h6 h8 de).2.2.2.2;iterate 3 (grind[S.SI])
def auf(m n:Int)(one two:B8)(p:List B8)(hp:S.yo m n one two):gk (wG (Bool.not (S.bQ p)) (S.pB m n one two p) (dH (bR m) (ta (bR (bu p)) (S.small oH)) (Ce (bR (bu p)) one (S.sum oH)=S.pB m n one two p) (S.iM m n one p) (oG (S.aS m n true one p).2 (Ce (decide ((S.aS m n true one p).1.1=one)) (S.aS m n true one p).1.2 two)=S.pB m n one two p))):=by
 refine aE ?_;with_reducible and_intros
 trivial;grind[nt,S.pB];intro h2;refine⟨?_,?_⟩
 . intro h3;with_reducible and_intros
   . intro h4;exact U! _
   grind;grind[S.aHB]
 grind[df,S.ayX]
def aug(root:B8)(i:Int)(b:B8)(hp:b.length<1099511627776):Fi (sC root) ([]=(S.fS root i b).1) (1=(S.fS root i b).2) True (cx (S.ak b).2) ((S.ak b).2=(S.fS root i b).2) (S.bN (S.ak b).1.1 (S.ak b).1.2.1 (S.ak b).1.2.2.1=true) (sy (z7 (S.uW (S.ak b).1.1 (S.ak b).1.2.1 (S.ak b).1.2.2.1) root) (sy (mZ (S.ak b).1.2.2.2.1 i) (sy (decide ((S.ak b).1.1<=i)) (S.eM i (S.ak b).1.1)))) (eI (na (z7 (S.uW (S.ak b).1.1 (S.ak b).1.2.1 (S.ak b).1.2.2.1) root) (na (mZ (S.ak b).1.2.2.2.1 i) (na (decide ((S.ak b).1.1<=i)) (mZ (bu (S.ak b).1.2.2.2.2.2) (S.e8 i (S.ak b).1.1))))) ([]=(S.fS root i b).1) (6=(S.fS root i b).2) (S.aC (S.ak b).1.2.2.2.2.1) (S.mB (S.eW 0 (S.ak b).1.2.2.2.2.1) i (S.ak b).1.1 (S.ak b).1.2.2.2.2.2) (dH (z7 (S.kN (S.eW 0 (S.ak b).1.2.2.2.2.1) i (S.ak b).1.1 (S.ak b).1.2.2.2.2.2) (S.ak b).1.2.1) ([]=(S.fS root i b).1) (6=(S.fS root i b).2) ((S.ak b).1.2.2.2.2.1=(S.fS root i b).1) (0=(S.fS root i b).2))):=by
 refine aE ?_;refine⟨?_,?_⟩
 . grind[nt,df,S.fS]
 intro h2;with_reducible and_intros
 trivial;grind[nt,df,S.fS];intro h4;simp at h4;with_reducible and_intros
 grind[S.yq];grind;simp_all[nf,dt,nt,df,S.Pa]
 simp_all[V.IG,nt,df,dt,S.amB]
 intro gY;simp only [V.ajY,nf,dt,df] at gY;with_reducible and_intros
 exact(S.acs hp h4 gY).1;simp_all[S.acs]
 simp_all[nt,df,S.L5,J!]
 simp_all[nf,dt,S.L5,M!]
def auh(root b:B8)(hp:b.length<1099511627776):dH (sC root) ([]=(S.dW root b).1) (0=(S.dW root b).2.1/\1=(S.dW root b).2.2) True (dH (cx (S.ah b).2) ([]=(S.dW root b).1) (0=(S.dW root b).2.1/\(S.ah b).2=(S.dW root b).2.2) (S.bN (S.ah b).1.1 (S.ah b).1.2.1 (S.ah b).1.2.2.1=true) (dH (na (z7 (S.uW (S.ah b).1.1 (S.ah b).1.2.1 (S.ah b).1.2.2.1) root) (decide ((S.ah b).1.2.2.2.1<(S.ah b).1.1))) ([]=(S.dW root b).1) (0=(S.dW root b).2.1/\6=(S.dW root b).2.2) (S.yo (S.ah b).1.1 (S.ah b).1.2.2.2.1 (S.ah b).1.2.1 (S.ah b).1.2.2.2.2.1) (eI (Bool.not (S.pB (S.ah b).1.1 (S.ah b).1.2.2.2.1 (S.ah b).1.2.1 (S.ah b).1.2.2.2.2.1 (S.ah b).1.2.2.2.2.2.2)) ([]=(S.dW root b).1) (0=(S.dW root b).2.1/\6=(S.dW root b).2.2) (S.bN (S.ah b).1.2.2.2.1 (S.ah b).1.2.2.2.2.1 (S.ah b).1.2.2.2.2.2.1=true) (S.uW (S.ah b).1.2.2.2.1 (S.ah b).1.2.2.2.2.1 (S.ah b).1.2.2.2.2.2.1=(S.dW root b).1) ((S.ah b).1.2.2.2.1=(S.dW root b).2.1/\0=(S.dW root b).2.2)))):=by
 refine aE ?_;refine⟨?_,?_⟩
 . grind[nt,df,S.dW]
 intro h2;simp at h2;with_reducible and_intros
 trivial;grind[nt,df,S.dW];intro h4;simp at h4;with_reducible and_intros
 grind[S.Dd]
 . intro h5;with_reducible and_intros
   iterate 2 (rw [S.Jm h2 h4,if_neg x!])
   rw [S.Jm h2 h4,if_neg x!]
 simp_all[S.arP,nt,S.Jm,J!,nf,S.Dd,M!]
def aui(d:Bool)(l:B8):fX d (1=S.wz (l,d)) ([]=S.wy (l,d)) (dH (Ei 1048576 l) (3=S.wz (l,d)) ([]=S.wy (l,d)) (0=S.wz (l,d)) (l=S.wy (l,d))):=by
 refine aE ?_;simp_all[dt,S.wz,J!,M!,S.wy,df]
def auj(a1:Int)(a2:B8)(a3:List (Int×Int×Int×B8))(a4:List (List (Int×B8×B8×B8×List B8×B8)))(hp:S.qD a4)(hf:Vg.gq J.acA (a1,a2,a3,a4)):vB [1]/\dH (mZ (length a4) (length a3)) (1=(S.kv a1 a2 a3 a4).2) ([]=(S.kv a1 a2 a3 a4).1) (∃(x1:Nat),PE 0 x1 false (S.ajd a1 a2 a3) (S.cY a1 a2 a3 a4 x1) [1]/\S.kz a3 a4 x1) (∀(x2:Nat),S.kz a3 a4 x2->dH (decide ((x2:Int)<length a4)) (cK 0 x2 (length a4)) (eI (decide ((16:Int)<length (getD a4 (toNat x2) []))) (1=(S.kv a1 a2 a3 a4).2) ([]=(S.kv a1 a2 a3 a4).1) (vB (S.bytesOf (S.cY a1 a2 a3 a4 x2))) (∃(x3:Nat×Nat),PE 0 x3.1 (S.iG (S.cY a1 a2 a3 a4 x2)) (S.lO (length (getD a4 (toNat x2) []))) (S.dN a1 a2 a3 a4 x3.2 x3.1) (S.bytesOf (S.cY a1 a2 a3 a4 x2))/\S.iH a3 a4 x3.2 x3.1/\(x2:Int)=x3.2) (∀(x4:Nat×Nat),S.iH a3 a4 x4.2 x4.1/\(x2:Int)=x4.2->gl (decide ((x4.1:Int)<length (getD a4 (toNat x2) []))) (cK 0 x4.1 (length (getD a4 (toNat x2) []))) (đ (length (S.bytesOf (S.dN a1 a2 a3 a4 x4.2 x4.1)))/\SM (Cp a4 x2 x4).2.2.2.2.2) (b6 (x4.1+1)/\(∃(x5:Nat×Nat),PE (x4.1+1) x5.1 (S.iG (S.dN a1 a2 a3 a4 x4.2 x4.1)) (S.ku ((Cp a4 x2 x4).1,(Cp a4 x2 x4).2.1,(Cp a4 x2 x4).2.2.1,(Cp a4 x2 x4).2.2.2.1,(Cp a4 x2 x4).2.2.2.2.1,(Cp a4 x2 x4).2.2.2.2.2)) (S.dN a1 a2 a3 a4 x5.2 x5.1) (S.bytesOf (S.dN a1 a2 a3 a4 x4.2 x4.1))/\(S.iH a3 a4 x5.2 x5.1/\(x2:Int)=x5.2)/\vA (S.len (S.iE a4 x5.2)) x5.1 (S.ag (S.len (S.iE a4 x4.2)) x4.1))) (qK x2) (∃(x6:Nat),((x2:Int)+1=x6/\S.iG (S.dN a1 a2 a3 a4 x4.2 x4.1)=S.iG (S.cY a1 a2 a3 a4 x6)/\S.bytesOf (S.dN a1 a2 a3 a4 x4.2 x4.1)=S.bytesOf (S.cY a1 a2 a3 a4 x6))/\S.kz a3 a4 x6/\o8 (S.len a4) x6 x2))) True (S.wz (S.bytesOf (S.cY a1 a2 a3 a4 x2),S.iG (S.cY a1 a2 a3 a4 x2))=(S.kv a1 a2 a3 a4).2/\S.wy (S.bytesOf (S.cY a1 a2 a3 a4 x2),S.iG (S.cY a1 a2 a3 a4 x2))=(S.kv a1 a2 a3 a4).1)):=by
 refine aE ?_;have aDF:Vg.hlen a3:=hf.2.2.1.1;with_reducible and_intros
 decide;grind[nt,df,S.alN];intro h2;simp at h2;refine⟨?_,?_⟩
 . refine⟨(nat_lit 0:Nat),?_⟩;dsimp only;with_reducible and_intros
   omega;iterate 2 rfl
   grind[S.ayL]
 intro x3 h4;refine V.dI (λh5=>?_) λgY=>?_
 . with_reducible and_intros
   iterate 2 omega
   . intro h6;try simp at h6
     refine⟨?_,?_⟩
     . rw [S.LV h5 h6]
     rw [S.LV h5 h6]
   intro h7;try simp only [df,tn] at h7
   with_reducible and_intros
   exact X? (S.UK (n:=a1) (g:=a2) h4) (by decide)
   . refine⟨((nat_lit 0:Nat),(x3)),?_⟩;try dsimp only
     with_reducible and_intros
     omega
     iterate 2
      . rw [tn,S.LX w!];rfl
     exact S.alM h4 h5 h7;with_reducible rfl
   intro x8 h9;refine⟨?_,?_⟩
   . intro de;try simp only [dt,tn] at de
     with_reducible and_intros
     omega;assumption;exact X? (S.Yd (n:=a1) (g:=a2) h9.1) (by decide)
     . obtain⟨q,e⟩:=h9;have e':x8.2=x3:=by omega
       rw [e'] at q;exact S.Yc q de
     iterate 2 omega
     refine⟨((Prod.fst x8+nat_lit 1),(x3)),?_⟩;try dsimp only
     with_reducible and_intros
     omega
     . obtain⟨q,e⟩:=h9;have e':x8.2=x3:=by omega
       rw [e',tn,tn];exact(S.abN _ rfl _ _ rfl rfl).1
     . obtain⟨q,e⟩:=h9;have e':x8.2=x3:=by omega
       rw [e',tn,tn];exact(S.abN _ rfl _ _ rfl rfl).2
     . obtain⟨q,e⟩:=h9;have e':x8.2=x3:=by omega
       rw [e'] at q;exact S.Yb q de
     with_reducible rfl
     obtain⟨q,e⟩:=h9;have e':x8.2=x3:=by omega
     rw [e'];have hh:(x8.1:Int)<((S.iE a4 x3).length:Int):=de;simp only [S.ag,S.len];omega
   intro fC;try simp only [df,tn] at fC
   with_reducible and_intros
   iterate 2 omega
   refine⟨(x3+nat_lit 1),?_⟩;try dsimp only
   with_reducible and_intros
   omega
   iterate 2
    . obtain⟨q,e⟩:=h9;have e':x8.2=x3:=by omega
      rw [e'] at q |-;rw [(S.LU (n:=a1) (g:=a2) q fC).2]
   . obtain⟨q,e⟩:=h9;have e':x8.2=x3:=by omega
     rw [e'] at q;exact(S.LU (n:=a1) (g:=a2) q fC).1
   simp only [S.ag,S.len];omega
 with_reducible and_intros
 trivial
 . rw [S.LW h4 gY];rfl
 rw [S.LW h4 gY];rfl
def auk(y1:List B8)(y2:List (Int×Int×List (B8×List Int)))(l:List (Int×B8))(hp:S.fV l)(hf:Vg.gq J.acC (y1,y2,l)):gk (dH (cx (S.iv y1 y2).2) (7=(S.fE y1 y2 l).2) ([]=(S.fE y1 y2 l).1) (S.fV l) (eI (Bool.not (S.bw l)) (1=(S.fE y1 y2 l).2) ([]=(S.fE y1 y2 l).1) (S.small l) (∃(x1:Nat),((0:Int)=x1/\(S.iv y1 y2).2=0/\S.ax l=S.ax l/\(S.iv y1 y2).1.1=S.len y1/\(S.iv y1 y2).1.2.1=Jx y1/\(S.iv y1 y2).1.2.2=S.cB y1 y2/\[]=S.iL y2 (S.ax l) x1)/\S.gX y2 x1/\S.gv y1 y2/\S.bw l) (∀(x2:Nat),S.gX y2 x2/\S.gv y1 y2/\S.bw l->oI (decide ((x2:Int)<length y2)) 0 x2 (length y2) ((S.Jc (getD y2 (toNat x2) (0,0,[])).2.2 (S.ax l)/\(0:Int)=0)/\acI (S.iL y2 (S.ax l) x2) [S.Lm (getD y2 (toNat x2) (0,0,[])).2.2 (S.ax l)]/\eO x2 (∃(x3:Nat),((x2:Int)+1=x3/\yv/\S.ax l=S.ax l/\(S.len y1:Int)=S.len y1/\Jx y1=Jx y1/\S.cB y1 y2=S.cB y1 y2/\S.iL y2 (S.ax l) x2++[S.Lm (getD y2 (toNat x2) (0,0,[])).2.2 (S.ax l)]=S.iL y2 (S.ax l) x3)/\(S.gX y2 x3/\S.gv y1 y2/\S.bw l)/\o8 (S.len y2) x3 x2)) (dH (HL 0) (0=(S.fE y1 y2 l).2) ([]=(S.fE y1 y2 l).1) (S.qD (S.iL y2 (S.ax l) x2)) ((S.kv (S.len y1) (Jx y1) (S.cB y1 y2) (S.iL y2 (S.ax l) x2)).2=(S.fE y1 y2 l).2/\(S.kv (S.len y1) (Jx y1) (S.cB y1 y2) (S.iL y2 (S.ax l) x2)).1=(S.fE y1 y2 l).1))))):=by
 refine aE ?_;have JC:Vg.hlen y2:=hf.2.1.1;with_reducible and_intros
 trivial;grind[nt,df,S.al4];intro h2;simp at h2;with_reducible and_intros
 omega;grind[nt,S.abW];intro h4;simp at h4;with_reducible and_intros
 exact hp.1
 . refine⟨(nat_lit 0:Nat),?_⟩;dsimp only;with_reducible and_intros
   iterate 2 omega
   rfl;exact(S.wA h2).2.1;iterate 2 (simp_all[S.wA])
   rfl;exact Nat.zero_le _;grind[S.wA];omega
 intro x5 h6;refine V.dI (λh7=>?_) λh8=>?_
 . with_reducible and_intros
   iterate 2 omega
   exact S.abV h6.2.1 h6.2.2 h7;rfl
   . have:=S.abU y2 (S.ax l) x5;have:=S.Jd h6.2.1;rw [C?];omega
   iterate 2 omega
   refine⟨(x5+nat_lit 1),?_⟩;try dsimp only
   with_reducible and_intros
   omega;iterate 5 rfl
   exact S.Yg h7
   . unfold S.gX;omega
   exact h6.2.1;omega;simp only [S.ag,S.len];omega
 refine⟨?_,?_⟩
 . intro h9;refine⟨?_,?_⟩
   . grind
   grind
 grind[S.abX]
def aul(root b:B8):HJ 200 (cE root) (Ei 20000 b)=S.O7 root b:=by
 refine aE ?_;rfl
def aum:0<length ([104,97,121]:B8)/\mv (0<length ([119,97,105,110,32,104,97,121]:B8)) (sA (mv (0<length ([104,97,121]:B8)) ([104,97,121]=S.zA/\S.fV S.fy/\(YH (yu 97 32)/\S.fV S.fy)/\kB (bR (cE (yu 97 32))) (false=true) (b6 (cE (yu 97 32)-1)/\(0<=SR/\cE (yu 97 32)-1<cE (yu 97 32))/\ē/\(0<=SR/\cE (yu 97 32)-1<cE (yu 97 32))/\ē/\(∀(x1:B8),x1=List.set (yu 97 32) (toNat SR) (mw (fF (yu 97 32) SR+1))->(YH x1/\S.fV S.fy)/\gk (wK (S.sH ĕ.1 [0,1]) (bR ĕ.2) (cx (S.kA (S.mG (PA 97 32).1 (PA 97 32).2).1 S.fy x1).2)=true)))))):=by
 refine aE ?_;with_reducible and_intros
 decide;trivial;decide;iterate 3 trivial
 decide;rfl;exact S.al5;grind[S.UZ,S.L3];exact S.al5;grind[S.UZ,S.L3];intro h2;try simp only [df] at h2
 with_reducible and_intros
 omega;grind[S.UZ,S.L3];iterate 6 omega
 intro x3 h4;with_reducible and_intros
 grind[S.UZ,S.ayT];exact S.al5;trivial;exact S.arK (S.ayT h4).2
def aOq(root:B8)(i:Int)(b:B8)(hf:Vg.gq J.Pv (root,i,b)):gk (eI (S.O7 root b) True HN (Eh oH (length b)) (YH ([]++b)) (length b<1099511627776/\Eh oH (length b)/\YH ([]++b)/\length b<1099511627776/\ta (decide ((S.fS root i ([]++b)).1=(S.fS root i b).1)) (ta (decide ((S.fS root i ([]++b)).2=(S.fS root i b).2)) (ta (decide ((S.dW root ([]++b)).1=(S.dW root b).1)) (ta (decide ((S.dW root ([]++b)).2.1=(S.dW root b).2.1)) (oz (decide ((S.dW root ([]++b)).2.2=(S.dW root b).2.2))))))/\wK (decide ((S.fS root i ([]++b)).1=(S.fS root i b).1)) (decide ((S.fS root i ([]++b)).2=(S.fS root i b).2)) (wK (decide ((S.dW root ([]++b)).1=(S.dW root b).1)) (decide ((S.dW root ([]++b)).2.1=(S.dW root b).2.1)) (oG (decide ((S.dW root ([]++b)).2.2=(S.dW root b).2.2)) true)))):=by
 refine aE ?_;have YL:Vg.hlen root:=hf.1;have acK:Vg.hint i:=hf.2.1;have pT:Vg.hlen b:=hf.2.2.1.1;clear hf;with_reducible and_intros
 trivial
 . intro h1;refine⟨?_,?_⟩
   . trivial
   rfl
 intro h2;with_reducible and_intros
 iterate 6
  . have:=S.aHs (by assumption);simp [Vg.ur];omega
 . intro h3;try simp only [dt] at h3
   refine⟨?_,?_⟩
   . intro h4;try simp only [dt] at h4
     refine⟨?_,?_⟩
     . intro h5;try simp only [dt] at h5
       refine⟨?_,?_⟩
       . intro h6;try simp only [dt] at h6
         refine⟨?_,?_⟩
         . intro h7;try simp only [dt] at h7
           trivial
         intro h8;try simp only [df] at h8
         trivial
       intro h9;try simp only [df] at h9
       trivial
     intro de;try simp only [df] at de
     trivial
   intro fC;try simp only [df] at fC
   trivial
 . intro gY;try simp only [df] at gY
   trivial
 simp only [k?];simp
end Go
