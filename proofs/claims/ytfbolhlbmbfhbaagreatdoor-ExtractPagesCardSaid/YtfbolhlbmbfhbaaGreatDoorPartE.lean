import Derived.Test.YtfbolhlbmbfhbaaGreatDoorPartD
set_option linter.unusedVariables false
set_option linter.unusedSimpArgs false
set_option linter.unusedSectionVars false
set_option linter.defProp false
set_option linter.unusedVariables false
namespace Go
open List (length getD take drop replicate)
open Int (toNat)
open S
variable {p:Prop}{α:Type}{b:Bool}
theorem df[Decidable p]:decide p=false↔¬p:=q?
theorem dt[Decidable p]:(decide p=true)=p:=J!
theorem lc{a:α}{l:M α}:(a::l).length=l.length+1:=N?
theorem ln:([]:M α).length=0:=List.length_nil
theorem tn(n:Nat):(n:Int).toNat=n:=Z! n
theorem nf:((!b)=false)=(b=true):=Bool.not_eq_false' b
theorem nt:((!b)=true)=(b=false):=Q? b
def aMt: [1116352408,1899447441,3049323471,3921009573,961987163,1508970993,2453635748,2870763221,3624381080,310598401,607225278,1426881987,1925078388,2162078206,2614888103,3248222580,3835390401,4022224774,264347078,604807628,770255983,1249150122,1555081692,1996064986,2554220882,2821834349,2952996808,3210313671,3336571891,3584528711,113926993,338241895,666307205,773529912,1294757372,1396182291,1695183700,1986661051,2177026350,2456956037,2730485921,2820302411,3259730800,3345764771,3516065817,3600352804,4094571909,275423344,430227734,506948616,659060556,883997877,958139571,1322822218,1537002063,1747873779,1955562222,2024104815,2227730452,2361852424,2428436474,2756734187,3204031479,3329325298]=AI:=by
 rfl
def aMu(x n:Int)(hp:jq n)(hf:Vg.fS J.q1p (x,n)):ix n 32 (LX (32-n) 0 32 (jt (kp x n+jt (x*sT 2 (32-n)))=S.right x n)):=by
 refine ar ?_;have aMv:Vg.hint n:=hf.2.1;with_reducible and_intros
 iterate 2 (grind[jq])
 omega;iterate 3 (grind[jq])
 rfl
def aMw(b:B8)(hp:b.length=64)(hf:Vg.fS J.lz b):(∃(x1:Nat),((0:Int)=((4*x1:Nat):Int)/\[]=S.sched b x1)/\cw x1 16)/\(∀(x2:Nat),vX (cw x2 16) (decide (((4*x2:Nat):Int)<64)) ((4*x2:Nat):Int) (fB b) (mu (((4*x2:Nat):Int)+1) 0 (fB b) (mu (((4*x2:Nat):Int)+2) 0 (fB b) (mu (((4*x2:Nat):Int)+3) 0 (fB b) (length (S.sched b x2)+length (ź b x2)<=35184372088832/\cI (((4*x2:Nat):Int)+4)/\(∃(x3:Nat),(((4*x2:Nat):Int)+4=((4*x3:Nat):Int)/\S.sched b x2++ź b x2=S.sched b x3)/\cw x3 16/\vR 16 x3 x2))))) (∃(x4:Nat),((16:Int)=x4/\S.sched b x2=S.sched b x4)/\16<=x4/\x4<=64) (∀(x5:Nat),16<=x5/\x5<=64->dp (decide ((x5:Int)<64)) (mu (x5-15) 0 (mL b x5) (Gn x5<mL b x5/\IE 7 (mu (x5-15) 0 (mL b x5) (Gn x5<mL b x5/\IE 18 (mu (x5-15) 0 (mL b x5) (Gn x5<mL b x5/\ix 3 32 (mu (x5-2) 0 (mL b x5) (Gp x5<mL b x5/\IE 17 (mu (x5-2) 0 (mL b x5) (Gp x5<mL b x5/\IE 19 (mu (x5-2) 0 (mL b x5) (Gp x5<mL b x5/\ix 10 32 (mu (x5-16) 0 (mL b x5) (toNat (x5-16)<mL b x5/\mu (x5-7) 0 (mL b x5) (toNat (x5-7)<mL b x5/\mL b x5+length (Ż b x5)<=35184372088832/\dh x5 (∃(x6:Nat),iw x5 x6 (S.sched b x5++Ż b x5=S.sched b x6) (16<=x6/\x6<=64) 64)))))))))))))))) (S.sched b x5=S.sched b 64))):=by
 refine ar ?_;have rh:Vg.hlen b:=hf.1.1;clear hf;refine⟨?_,?_⟩;grind[cV,cw,ag,lc,ln];intro x1 h2;refine V.dI (λh3=>?_) λh4=>?_
 . with_reducible and_intros
   iterate 14 omega
   simp only[cV,cw,ag,lc,ln] at *;omega;iterate 2 omega
   refine⟨(x1+1),?_⟩;try dsimp only
   with_reducible and_intros
   omega;exact aiO b x1 w!;simp only[cV,cw,ag,lc,ln] at *;omega;simp only[cV,cw,ag,lc,ln] at *;omega
 refine⟨?_,?_⟩
 . refine⟨16,?_⟩;try dsimp only
   with_reducible and_intros
   omega;rw[show x1=16 by(simp only[cw] at *;omega)];iterate 2 omega
 intro x5 h6;refine⟨?_,?_⟩
 . intro h7;try simp only[dt] at h7
   with_reducible and_intros
   iterate 3 omega
   iterate 2
    simp only[cV,cw,ag,lc,ln] at *;omega
   simp only[jq];omega;iterate 3 omega
   iterate 2
    simp only[cV,cw,ag,lc,ln] at *;omega
   simp only[jq];omega;iterate 3 omega
   iterate 2
    simp only[cV,cw,ag,lc,ln] at *;omega
   iterate 5 omega
   iterate 2
    simp only[cV,cw,ag,lc,ln] at *;omega
   simp only[jq];omega;iterate 3 omega
   iterate 2
    simp only[cV,cw,ag,lc,ln] at *;omega
   simp only[jq];omega;iterate 3 omega
   iterate 2
    simp only[cV,cw,ag,lc,ln] at *;omega
   iterate 5 omega
   iterate 2
    simp only[cV,cw,ag,lc,ln] at *;omega
   iterate 3 omega
   iterate 3
    simp only[cV,cw,ag,lc,ln] at *;omega
   iterate 2 omega
   refine⟨(x5+1),?_⟩;try dsimp only
   with_reducible and_intros
   omega;exact aiP b x5 w!;iterate 2 omega
   simp only[cV,cw,ag,lc,ln] at *;omega
 grind
def aMx(l:U)(p:B8)(hp:OJ l p):length p=64/\gj ((0:Int)<=0/\0<cQ l) (Z7 0 1 (cQ l) 2 3 4 5 6 (bH 0 7 (cQ l)/\(∃(x1:Nat),vW x1 (q39 (gq (vY p) (ta l) x1) (gT l) (jk l 1) (jk l 2) (jk l 3) (jk l 4) (jk l 5) (jk l 6) (jk l 7)) 64)/\(∀(x2:Nat),cw x2 64->cm (decide ((x2:Int)<64)) (IE 6 (IE 11 (IE 25 (bH 0 x2 (cQ AI)/\toNat x2<length AI/\bH 0 x2 (length (vY p))/\toNat x2<length (vY p)/\jq 2/\IE 13 (jq 22/\dh x2 (∃(x3:Nat),E6 x2 x3 (jt (Ź l p x2+apP (E5 (S.right (jJ l p x2).1 2) (S.right (jJ l p x2).1 13) (S.right (jJ l p x2).1 22)) (jJ l p x2).1 (jJ l p x2).2.1 (jJ l p x2).2.2.1)=(gq (vY p) (ta l) x3).1/\(jJ l p x2).1=(gq (vY p) (ta l) x3).2.1/\(jJ l p x2).2.1=(gq (vY p) (ta l) x3).2.2.1/\(jJ l p x2).2.2.1=(gq (vY p) (ta l) x3).2.2.2.1/\q40 (gq (vY p) (ta l) x3).2.2.2.2 (jt ((jJ l p x2).2.2.2.1+Ź l p x2)) (jJ l p x2).2.2.2.2.1 (Ap l p x2).1 (Ap l p x2).2.1) 64)))))) ((0:Int)<=0/\0<cQ l) (Z7 0 1 (cQ l) 2 3 4 5 6 (bH 0 7 (cQ l)/\[jt (gT l+(jJ l p x2).1),jt (jk l 1+(jJ l p x2).2.1),jt (jk l 2+(jJ l p x2).2.2.1),jt (jk l 3+(jJ l p x2).2.2.2.1),jt (jk l 4+(jJ l p x2).2.2.2.2.1),jt (jk l 5+(Ap l p x2).1),jt (jk l 6+(Ap l p x2).2.1),jt (jk l 7+(Ap l p x2).2.2)]=eQ (S.block (ta l) p)))))):=by
 refine ar ?_;obtain⟨tP,ø,hp3⟩:=hp;have Ol:=asJ tP;with_reducible and_intros
 omega;trivial;iterate 16 omega
 . refine⟨(nat_lit 0:Nat),?_⟩;dsimp only;with_reducible and_intros
   omega;iterate 8 rfl
   grind[cV,cw,ag]
 intro x1 h2;refine V.dI (λh3=>?_) λh4=>?_
 . with_reducible and_intros
   iterate 3
    simp only[jq];omega
   omega
   iterate 2
    rw[<-Jr];simp only[cw] at *;omega
   omega
   iterate 2
    simp only[cV,cw,ag] at *;omega
   iterate 3
    simp only[jq];omega
   iterate 2 omega
   refine⟨(x1+nat_lit 1),?_⟩;try dsimp only
   with_reducible and_intros
   omega;have hk:=B5 (S.sched p 64) (ta l) Ol x1;have hx:=S.xor_not (hk (gq (S.sched p 64) (ta l) x1).2.2.2.2.1 (by simp[eQ]));simp only[gq,hx,tn];rfl;iterate 3 rfl
   have hk:=B5 (S.sched p 64) (ta l) Ol x1;have hx:=S.xor_not (hk (gq (S.sched p 64) (ta l) x1).2.2.2.2.1 (by simp[eQ]));simp only[gq,hx,tn];rfl;iterate 3 rfl
   simp only[cV,cw,ag] at *;omega;simp only[cV,cw,ag] at *;omega
 with_reducible and_intros
 iterate 16 omega
 simp[cw] at h2;rw[show x1=64 by omega];simp[S.block,ads,eQ,ta,show toNat 0=0 by rfl,show toNat 1=1 by rfl,show toNat 2=2 by rfl,show toNat 3=3 by rfl,show toNat 4=4 by rfl,show toNat 5=5 by rfl,show toNat 6=6 by rfl,show toNat 7=7 by rfl]
def aMy(b:B8)(hp:S.small b):IC jP (length b)/\nD ([]++b) [128]/\(∃(x1:Nat),[]++b++[128]=gu b x1/\cA b x1)/\(∀(x2:Nat),cA b x2->(0:Int)<=length (gu b x2)/\(0:Int)<64/\cm (oX (length (gu b x2)%64) 56) (LY (length (gu b x2)) [0]/\(∃(x3:Nat),gu b x2++[0]=gu b x3/\cA b x3/\vR (ik (S.len b)) x3 x2)) (∃(x4:Nat),vW x4 (Ix (Ix (length b)*8)=mR b x4/\[]=lp b x4) 8) (∀(x5:Nat),cw x5 8->cm (decide ((x5:Int)<8)) ((0:Int)<256/\IC [ko (mR b x5%256)] (length (lp b x5))/\(0:Int)<256/\dh x5 (∃(x6:Nat),E6 x5 x6 (mR b x5/256=mR b x6/\[ko (mR b x5%256)]++lp b x5=lp b x6) 8)) (Iv (length (gu b x2)+length (lp b x5))) (gu b x2++lp b x5=S.tail b (pP b)))):=by
 refine ar ?_;simp[S.small] at hp;refine⟨?_,?_,?_,?_⟩;iterate 2 grind
 refine⟨0,?_⟩;refine⟨?_,?_⟩;exact Yz _;simp only[cW,cA,ik,cw,ag,S.len,lc,ln,H!] at *;omega;intro x1 h2;refine⟨?_,?_,?_,?_⟩;iterate 2 omega
 intro h3;simp at h3;refine⟨?_,?_⟩;simp[cW,cA,ik,cw,ag,S.len,lc,ln,List.length_append] at *;omega;refine⟨(x1+1),?_⟩;refine⟨?_,?_,?_⟩;grind[Lp];grind[OM];simp[cW,cA,ik,cw,ag,S.len,lc,ln,List.length_append] at *;omega;intro h4;simp at h4;refine⟨?_,?_⟩
 . refine⟨(nat_lit 0:Nat),?_⟩;dsimp only;with_reducible and_intros
   omega;exact aiQ b hp;rfl;simp only[cW,cA,ik,cw,ag,S.len,lc,ln,H!] at *;omega
 intro x5 h6;refine V.dI (λh7=>?_) λh8=>?_
 . with_reducible and_intros
   omega;have hx:x5<=8:=by(simp only[cw] at *;omega)
   simp only[HN _ _ hx,cW,cA,lc,ln] at *;have:=OL b.length;omega;iterate 3 omega
   refine⟨(x5+nat_lit 1),?_⟩;try dsimp only
   with_reducible and_intros
   omega;exact Vk b x5;exact RR b x5 w!;simp only[cW,cA,ik,cw,ag,S.len,lc,ln,H!] at *;omega;simp only[cW,cA,ik,cw,ag,S.len,lc,ln,H!] at *;omega
 refine⟨?_,?_⟩;have hx:x5<=8:=by(simp[cw] at *;omega)
 simp[HN _ _ hx,cW,cA,lc,ln] at *;have:=OL b.length;omega;rw[SN h2 h4,show x5=8 by(simp[cw] at *;omega),S.Ė];rfl
def aMz(b:B8)(hp:S.small b):qM b ((∃(x1:Nat),((0:Int)=((64*x1:Nat):Int)/\[1779033703,3144134277,1013904242,2773480762,1359893119,2600822924,528734635,1541459225]=eQ (S.proc H0 (tz b) x1))/\x1<=S.blocks (tz b))/\(∀(x2:Nat),x2<=S.blocks (tz b)->cm (decide (((64*x2:Nat):Int)<fB (tz b))) (cI (((64*x2:Nat):Int)+64)/\E7 0 ((64*x2:Nat):Int) (((64*x2:Nat):Int)+64) (fB (tz b))/\OJ (C1 b x2) (ŷ b x2)/\cI (((64*x2:Nat):Int)+64)/\(∃(x3:Nat),(((64*x2:Nat):Int)+64=((64*x3:Nat):Int)/\eQ (S.block (ta (C1 b x2)) (ŷ b x2))=eQ (S.proc H0 (tz b) x3))/\x3<=S.blocks (tz b)/\vR (S.blocks (tz b)) x3 x2)) (∃(x4:Nat),vW x4 ([]=oQ (Kq b) x4) 8) (∀(x5:Nat),cw x5 8->dp (decide ((x5:Int)<8)) (bH 0 x5 (Ao b x2)/\toNat x5<Ao b x2/\(0:Int)<16777216/\bH 0 x5 (Ao b x2)/\toNat x5<Ao b x2/\(0:Int)<65536/\(0:Int)<256/\bH 0 x5 (Ao b x2)/\toNat x5<Ao b x2/\(0:Int)<256/\(0:Int)<256/\bH 0 x5 (Ao b x2)/\toNat x5<Ao b x2/\(0:Int)<256/\nD (oQ (Kq b) x5) (Ÿ b x2 x5)/\dh x5 (∃(x6:Nat),E6 x5 x6 (oQ (Kq b) x5++Ÿ b x2 x5=oQ (Kq b) x6) 8)) (oQ (Kq b) x5=S.sum b)))):=by
 refine ar ?_;have hsm:=hp;simp[S.small] at hp;have ht:=amV b (pP b);have ht2:=SO b (pP b);have ht3:=OL b.length;refine⟨?_,?_,?_⟩;omega
 . refine⟨0,?_⟩;with_reducible and_intros
   omega;rfl;omega
 intro x1 h2;refine V.dI (λh3=>?_) λh4=>?_
 . with_reducible and_intros
   iterate 5 omega
   exact⟨OK _ _ S.Ĕ _,rfl,by rw[amW,Y!,I?];omega⟩;iterate 2 omega
   refine⟨(x1+1),?_⟩;try dsimp only
   with_reducible and_intros
   omega;rw[amW];rfl;omega;simp only[cw,ag] at *;omega
 refine⟨?_,?_⟩
 . refine⟨(nat_lit 0:Nat),?_⟩;dsimp only;with_reducible and_intros
   omega;rfl;simp only[cw,ag] at *;omega
 intro x5 h6;refine V.dI (λh7=>?_) λh8=>?_
 . with_reducible and_intros
   omega
   iterate 2
    simp only[eQ,lc,ln];omega
   iterate 2 omega
   iterate 2
    simp only[eQ,lc,ln];omega
   iterate 3 omega
   iterate 2
    simp only[eQ,lc,ln];omega
   iterate 3 omega
   iterate 2
    simp only[eQ,lc,ln];omega
   omega;rw[Jt _ _ (by simp only[cw] at *;omega)];simp;omega;iterate 2 omega
   refine⟨(x5+nat_lit 1),?_⟩;try dsimp only
   with_reducible and_intros
   omega;rw[show x1=S.blocks (S.tail b (pP b)) by omega];exact asK _ x5 w!;simp only[cw,ag] at *;omega;simp only[cw,ag] at *;omega
 rw[show x5=8 by(simp[cw] at *;omega)];rfl
def aMA(x k:Int)(hp:tX x k):ix (QG k) 32 (ix (Ix (32-QG k)) 32 (Vg.cn (jt (x*sT 2 (QG k))) (kp x (Ix (32-QG k)))=S.rotl x k)):=by
 refine ar ?_;grind[asG,tX,asF]
def aMB:TW 1779033703 3144134277 (TW 1013904242 2773480762 (TW 1359893119 2600822924 (TW 528734635 1541459225 yR))):=by
 refine ar ?_;omega
def aMC(s1 s2 s3 s4 s5 s6 s7 s8:Int)(s9:B8)(fC:Int):fj (nE fC) (fj (decide (fC<=1099511627776)) (0<=fC/\(0:Int)<64))/\om (nE fC) (om (decide (fC<=1099511627776)) (decide (fB s9=fC%64)))=qw s9 fC:=by
 refine ar ?_;grind[qw]
def aMD(u1 u2 u3 u4 u5 u6 u7 u8:Int)(p:B8)(hp:Vj (u1,u2,u3,u4,u5,u6,u7,u8) p)(hf:Vg.fS J.q5p (u1,u2,u3,u4,u5,u6,u7,u8,p)):(∃(x1:Nat),vW x1 (Z6 0 (Z6 0 (Z6 0 (Z6 0 [])))=ba p x1) 16)/\(∀(x2:Nat),cw x2 16->cm (decide ((x2:Int)<16)) (mu (4*x2) 0 (fB p) (ix 24 32 (cI (4*x2)/\mu (4*x2+1) 0 (fB p) (ix 16 32 (cI (4*x2)/\mu (4*x2+2) 0 (fB p) (ix 8 32 (cI (4*x2)/\mu (4*x2+3) 0 (fB p) (bH 0 x2 CU/\0+toNat x2*1<length (ba p x2)/\dh x2 (∃(x3:Nat),E6 x2 x3 (List.set (ba p x2) (0+toNat x2*1) (Vg.cn (Vg.cn (Vg.cn (jt (fY p (4*x2)*sT 2 24)) (jt (fY p (4*x2+1)*sT 2 16))) (jt (fY p (4*x2+2)*sT 2 8))) (fY p (4*x2+3)))=ba p x3) 16))))))))) (∃(x4:Nat),((16:Int)=x4/\ba p x2=ba p x4)/\16<=x4/\x4<=64) (∀(x5:Nat),16<=x5/\x5<=64->cm (decide ((x5:Int)<64)) (mu (x5-15) 0 CU (0+toNat (x5-15)*1<Gu p x5/\mu (x5-2) 0 CU (0+toNat (x5-2)*1<Gu p x5/\CR (Kw p x5) 7/\CR (Kw p x5) 18/\ix 3 32 (CR (Kv p x5) 17/\CR (Kv p x5) 19/\ix 10 32 (mu (x5-16) 0 CU (0+toNat (x5-16)*1<Gu p x5/\mu (x5-7) 0 CU (0+toNat (x5-7)*1<Gu p x5/\bH 0 x5 CU/\0+toNat x5*1<Gu p x5/\dh x5 (∃(x6:Nat),iw x5 x6 (List.set (ba p x5) (0+toNat x5*1) (jt (jt (jt (getD (ba p x5) (0+toNat (x5-16)*1) 0+E5 (CQ (Kw p x5) 7) (CQ (Kw p x5) 18) (kp (Kw p x5) 3))+getD (ba p x5) (0+toNat (x5-7)*1) 0)+E5 (CQ (Kv p x5) 17) (CQ (Kv p x5) 19) (kp (Kv p x5) 10)))=ba p x6) (16<=x6/\x6<=64) 64)))))))) ((0:Int)<=0/\0<Ad) (Z7 0 1 Ad 2 3 4 5 6 (bH 0 7 Ad/\(∃(x7:Nat),vW x7 (q39 (gq (S.sched p 64) (u1,u2,u3,u4,u5,u6,u7,u8) x7) u1 u2 u3 u4 u5 u6 u7 u8) 64)/\(∀(x8:Nat),cw x8 64->cm (decide ((x8:Int)<64)) (CR (eB p u1 u2 u3 u4 u5 u6 u7 u8 x8).2.2.2.2.1 6/\CR (eB p u1 u2 u3 u4 u5 u6 u7 u8 x8).2.2.2.2.1 11/\CR (eB p u1 u2 u3 u4 u5 u6 u7 u8 x8).2.2.2.2.1 25/\64=length AI/\bH 0 x8 (cQ AI)/\bH 0 x8 CU/\0+toNat x8*1<Gu p x5/\CR (eB p u1 u2 u3 u4 u5 u6 u7 u8 x8).1 2/\CR (eB p u1 u2 u3 u4 u5 u6 u7 u8 x8).1 13/\CR (eB p u1 u2 u3 u4 u5 u6 u7 u8 x8).1 22/\dh x8 (∃(x9:Nat),E6 x8 x9 (jt (aac p u1 u2 u3 u4 u5 u6 u7 u8 x5 x8+apP (E5 (CQ (eB p u1 u2 u3 u4 u5 u6 u7 u8 x8).1 2) (CQ (eB p u1 u2 u3 u4 u5 u6 u7 u8 x8).1 13) (CQ (eB p u1 u2 u3 u4 u5 u6 u7 u8 x8).1 22)) (eB p u1 u2 u3 u4 u5 u6 u7 u8 x8).1 (eB p u1 u2 u3 u4 u5 u6 u7 u8 x8).2.1 (eB p u1 u2 u3 u4 u5 u6 u7 u8 x8).2.2.1)=(gq (S.sched p 64) (u1,u2,u3,u4,u5,u6,u7,u8) x9).1/\(eB p u1 u2 u3 u4 u5 u6 u7 u8 x8).1=(gq (S.sched p 64) (u1,u2,u3,u4,u5,u6,u7,u8) x9).2.1/\(eB p u1 u2 u3 u4 u5 u6 u7 u8 x8).2.1=(gq (S.sched p 64) (u1,u2,u3,u4,u5,u6,u7,u8) x9).2.2.1/\(eB p u1 u2 u3 u4 u5 u6 u7 u8 x8).2.2.1=(gq (S.sched p 64) (u1,u2,u3,u4,u5,u6,u7,u8) x9).2.2.2.1/\q40 (gq (S.sched p 64) (u1,u2,u3,u4,u5,u6,u7,u8) x9).2.2.2.2 (jt ((eB p u1 u2 u3 u4 u5 u6 u7 u8 x8).2.2.2.1+aac p u1 u2 u3 u4 u5 u6 u7 u8 x5 x8)) (eB p u1 u2 u3 u4 u5 u6 u7 u8 x8).2.2.2.2.1 (eB p u1 u2 u3 u4 u5 u6 u7 u8 x8).2.2.2.2.2.1 (eB p u1 u2 u3 u4 u5 u6 u7 u8 x8).2.2.2.2.2.2.1) 64)) ((0:Int)<=0/\0<Ad) (Z7 0 1 Ad 2 3 4 5 6 (bH 0 7 Ad/\q39 (S.block (u1,u2,u3,u4,u5,u6,u7,u8) p) (jt (u1+(eB p u1 u2 u3 u4 u5 u6 u7 u8 x8).1)) (jt (u2+(eB p u1 u2 u3 u4 u5 u6 u7 u8 x8).2.1)) (jt (u3+(eB p u1 u2 u3 u4 u5 u6 u7 u8 x8).2.2.1)) (jt (u4+(eB p u1 u2 u3 u4 u5 u6 u7 u8 x8).2.2.2.1)) (jt (u5+(eB p u1 u2 u3 u4 u5 u6 u7 u8 x8).2.2.2.2.1)) (jt (u6+(eB p u1 u2 u3 u4 u5 u6 u7 u8 x8).2.2.2.2.2.1)) (jt (u7+(eB p u1 u2 u3 u4 u5 u6 u7 u8 x8).2.2.2.2.2.2.1)) (jt (u8+(eB p u1 u2 u3 u4 u5 u6 u7 u8 x8).2.2.2.2.2.2.2))))))))):=by
 refine ar ?_;have aOM:0<=u1/\u1<=4294967295:=hf.1;have aON:0<=u2/\u2<=4294967295:=hf.2.1;have aOO:0<=u3/\u3<=4294967295:=hf.2.2.1;have aOP:0<=u4/\u4<=4294967295:=hf.2.2.2.1;have aOQ:0<=u5/\u5<=4294967295:=hf.2.2.2.2.1;have aOR:0<=u6/\u6<=4294967295:=hf.2.2.2.2.2.1;have aOS:0<=u7/\u7<=4294967295:=hf.2.2.2.2.2.2.1;have aOT:0<=u8/\u8<=4294967295:=hf.2.2.2.2.2.2.2.1;clear hf;obtain⟨tP,ø⟩:=hp;refine⟨?_,?_⟩
 . refine⟨0,?_⟩;try dsimp only
   with_reducible and_intros
   omega;rfl;grind[cw,ag]
 intro x1 h2;refine V.dI (λh3=>?_) λh4=>?_
 . with_reducible and_intros
   iterate 30 omega
   rw[vf _ _ w!];omega;iterate 2 omega
   refine⟨(x1+1),?_⟩;try dsimp only
   with_reducible and_intros
   omega;exact asC _ _ w!;simp only[cw,ag] at *;omega;simp only[cw,ag] at *;omega
 refine⟨?_,?_⟩
 . refine⟨16,?_⟩;try dsimp only
   with_reducible and_intros
   omega;simp only[cw] at h2;rw[show x1=16 by omega];iterate 2 omega
 intro x5 h6;refine V.dI (λh7=>?_) λh8=>?_
 . with_reducible and_intros
   iterate 4 omega
   rw[vf _ _ w!];omega;iterate 4 omega
   rw[vf _ _ w!];omega;iterate 2 (with_reducible exact Yx _ _ _ _ w!)
   iterate 2 omega
   iterate 2 (with_reducible exact Yx _ _ _ _ w!)
   iterate 6 omega
   rw[vf _ _ w!];omega;iterate 4 omega
   rw[vf _ _ w!];omega;iterate 2 omega
   rw[vf _ _ w!];omega;iterate 2 omega
   refine⟨(x5+1),?_⟩;try dsimp only
   with_reducible and_intros
   omega;exact asD _ _ w! w!;iterate 2 omega
   simp only[cw,ag] at *;omega
 with_reducible and_intros
 iterate 16 omega
 . refine⟨0,?_⟩;try dsimp only
   with_reducible and_intros
   omega;iterate 8 rfl
   simp only[cw,ag] at *;omega
 intro x9 ez;refine⟨?_,?_⟩
 . intro iZ;try simp only[dt] at iZ
   with_reducible and_intros
   iterate 3 (with_reducible exact aD1 (B5 _ _ tP _) _ w!)
   with_reducible exact Jr
   omega;rw[<-Jr];simp only[cw] at *;omega;iterate 2 omega
   rw[vf _ _ w!];omega;iterate 3 (with_reducible exact aD0 (B5 _ _ tP _) _ w!)
   iterate 2 omega
   refine⟨(x9+1),?_⟩;try dsimp only
   with_reducible and_intros
   omega;rw[show x5=64 by omega,adt];simp only[gq,tn,o?,u?];rfl;iterate 3 rfl
   rw[show x5=64 by omega,adt];simp only[gq,tn,o?,u?];rfl;iterate 3 rfl
   simp only[cw,ag] at *;omega;simp only[cw,ag] at *;omega
 grind[df,cw,S.block,ads]
def aFV(u1 u2 u3 u4 u5 u6 u7 u8:Int)(b:B8)(hp:xt (u1,u2,u3,u4,u5,u6,u7,u8)):(∃(x1:Nat),(b=j7 b x1/\q39 (S.proc (u1,u2,u3,u4,u5,u6,u7,u8) b x1) u1 u2 u3 u4 u5 u6 u7 u8)/\64*x1<=length b)/\(∀(x2:Nat),64*x2<=length b->dp (decide (64<=fB (j7 b x2))) (ix 64 (fB (j7 b x2)) (Vj (aad b u1 u2 u3 u4 u5 u6 u7 u8 x2) (take (toNat 64) (j7 b x2))/\ix 64 (fB (j7 b x2)) (∃(x3:Nat),(drop (toNat 64) (j7 b x2)=j7 b x3/\q49 (S.block (aad b u1 u2 u3 u4 u5 u6 u7 u8 x2) (take (toNat 64) (j7 b x2))) (S.proc (u1,u2,u3,u4,u5,u6,u7,u8) b x3))/\64*x3<=length b/\vR (S.blocks b) x3 x2))) (q48 (S.proc (u1,u2,u3,u4,u5,u6,u7,u8) b x2) (b8 (u1,u2,u3,u4,u5,u6,u7,u8) b) (j7 b x2=j6 b))):=by
 refine ar ?_;refine⟨?_,?_⟩
 . refine⟨0,?_⟩;try dsimp only
   with_reducible and_intros
   iterate 9 rfl
   omega
 intro x1 h2;refine V.dI (λh3=>?_) λh4=>?_
 . with_reducible and_intros
   iterate 2 omega
   exact⟨OK _ _ hp _,x!⟩;iterate 2 omega
   refine⟨(x1+1),?_⟩;grind[j7,List.drop_drop,asI,List.length_drop,ag,S.blocks]
 with_reducible and_intros
 iterate 8
  rw[show x1=S.blocks b by grind[j7,List.length_drop,S.blocks]];rfl
 rw[show x1=S.blocks b by grind[j7,List.length_drop,S.blocks]];rfl
def aFW(s1 s2 s3 s4 s5 s6 s7 s8:Int)(s9:B8)(fC:Int)(b:B8)(hp:Vi (s1,s2,s3,s4,s5,s6,s7,s8) s9 fC b):gj (tJ (Bool.not (qw s9 fC)) (cI (1099511627776-fC))) (lA (Gt b fC s9)/\cI (length (Au b fC s9)+C3 b)/\((0:Int)<=0/\(0:Int)<=length (Au b fC s9)+C3 b/\length (Au b fC s9)+C3 b<=140737488355328/J5)/\IC (Qs 0 0) (length (Au b fC s9))/\IC (Qs 0 0++Au b fC s9) (C3 b)/\xt (Á (Gt b fC s9) s1 s2 s3 s4 s5 s6 s7 s8)/\jI (j6 (Qs 0 0++Au b fC s9++b))/\cI ((bif Gt b fC s9 then 0 else fC)+C3 b)/\q48 (b8 (Á (Gt b fC s9) s1 s2 s3 s4 s5 s6 s7 s8) (Qs 0 0++Au b fC s9++b)) (b8 (s1,s2,s3,s4,s5,s6,s7,s8) b) (j6 (Qs 0 0++Au b fC s9++b)=j6 b/\(bif Gt b fC s9 then(0:Int) else fC)+C3 b=pP b)):=by
 refine ar ?_;obtain⟨Ol,rfl,rfl,hs⟩:=hp;simp[S.small] at hs;have hv:qw [] 0=true:=by decide
 have hd:decide ((1099511627776:Int)-0<(b.length:Int))=false:=by grind
 simp only[hv,hd,Bool.not_true,N!,K!,ln,Int.toNat_zero];with_reducible and_intros
 trivial;grind;omega;iterate 2 grind
 iterate 5 omega
 iterate 2 grind
 omega;simp[List.replicate_zero,d?,F?,wK,pP,ln,H!] at *;omega;iterate 2 omega
 iterate 9 rfl
 simp only[List.replicate_zero,d?,F?,wK,pP,ln,H!] at *;omega
def aFX(s1 s2 s3 s4 s5 s6 s7 s8:Int)(s9:B8)(fC:Int)(hp:MN (s1,s2,s3,s4,s5,s6,s7,s8) s9 fC):gj (lA (C4 fC s9)) (Iv (length (bif C4 fC s9 then [] else s9))/\LY (length (bif C4 fC s9 then [] else s9)) [128]/\(∃(x1:Nat),(bif C4 fC s9 then([]:B8) else s9)++[128]=gu s9 x1/\cA s9 x1)/\(∀(x2:Nat),cA s9 x2->(0:Int)<=length (gu s9 x2)/\(0:Int)<64/\cm (oX (length (gu s9 x2)%64) 56) (LY (length (gu s9 x2)) [0]/\(∃(x3:Nat),gu s9 x2++[0]=gu s9 x3/\cA s9 x3/\vR (ik (S.len s9)) x3 x2)) (∃(x4:Nat),vW x4 (gu s9 x2=pt s9 fC x4) 8) (∀(x5:Nat),cw x5 8->ca (decide ((x5:Int)<8)) (cI (8*x5)/\LX (56-8*x5) 0 64 (nD (pt s9 fC x5) (ſ fC s9 x5)/\dh x5 (∃(x6:Nat),E6 x5 x6 (pt s9 fC x5++ſ fC s9 x5=pt s9 fC x6) 8))) (xt (Á (C4 fC s9) s1 s2 s3 s4 s5 s6 s7 s8)) ((0:Int)<=0/\(0:Int)<=32/\32<=140737488355328/J5) ((∃(x7:Nat),vW x7 (Qs 0 0=oQ (b8 (s1,s2,s3,s4,s5,s6,s7,s8) (S.tail s9 fC)) x7) 8)/\(∀(x8:Nat),vT (cw x8 8) (decide ((x8:Int)<8)) 0 x8 Ad ((0:Int)<=24/\(24:Int)<=32) (ix 16 32 (ix 8 32 (nD (oQ (b8 (s1,s2,s3,s4,s5,s6,s7,s8) (S.tail s9 fC)) x8) (aaa fC s1 s2 s3 s4 s5 s6 s7 s8 s9 x5 x8)/\dh x8 (∃(x9:Nat),E6 x8 x9 (oQ (b8 (s1,s2,s3,s4,s5,s6,s7,s8) (S.tail s9 fC)) x8++aaa fC s1 s2 s3 s4 s5 s6 s7 s8 s9 x5 x8=oQ (b8 (s1,s2,s3,s4,s5,s6,s7,s8) (S.tail s9 fC)) x9) 8)))) (oQ (b8 (s1,s2,s3,s4,s5,s6,s7,s8) (S.tail s9 fC)) x8=dig (b8 (s1,s2,s3,s4,s5,s6,s7,s8) (S.tail s9 fC)))))))):=by
 refine ar ?_;have hv:=aiM hp;obtain⟨Ol,h01,h02,h03⟩:=hp;simp only[hv,Bool.not_true,N!];with_reducible and_intros
 trivial;iterate 2 grind
 omega;grind;refine⟨0,?_⟩;refine⟨?_,?_⟩;exact Yz _;simp only[cW,jA,cA,ik,cw,ag,S.len,lc,ln] at *;omega;intro x3 h4;refine⟨?_,?_,?_,?_⟩;iterate 2 omega
 intro h5;try simp at h5
 refine⟨?_,?_⟩;simp[cW,jA,cA,ik,cw,ag,S.len,lc,ln] at *;omega;refine⟨(x3+1),?_⟩;refine⟨?_,?_,?_⟩;grind[Lp];grind[OM];simp only[cW,jA,cA,ik,cw,ag,S.len,lc,ln] at *;omega;intro h6;refine⟨?_,?_⟩
 . refine⟨0,?_⟩;try dsimp only
   with_reducible and_intros
   omega;grind[amT,SN];simp only[cW,jA,cA,ik,cw,ag,S.len,lc,ln] at *;omega
 intro x7 h8;refine V.dI (λh9=>?_) λez=>?_
 . with_reducible and_intros
   iterate 6 omega
   simp only[cW,jA,cA,ik,cw,ag,S.len,lc,ln] at *;omega;iterate 2 omega
   refine⟨(x7+1),?_⟩;try dsimp only
   with_reducible and_intros
   omega;exact YA s9 fC x7 h01 h02 w!;simp only[cW,jA,cA,ik,cw,ag,S.len,lc,ln] at *;omega;simp only[cW,jA,cA,ik,cw,ag,S.len,lc,ln] at *;omega
 with_reducible and_intros
 iterate 4 omega
 . refine⟨0,?_⟩;try dsimp only
   with_reducible and_intros
   omega;rfl;simp only[cW,jA,cA,ik,cw,ag,S.len,lc,ln] at *;omega
 intro Mu jV;refine V.dI (λoq=>?_) λpG=>?_
 . with_reducible and_intros
   iterate 8 omega
   rw[Jt _ _ (by simp only[cw] at *;omega)];simp;omega;iterate 2 omega
   refine⟨(Mu+1),?_⟩;try dsimp only
   with_reducible and_intros
   omega;rw[show x7=8 by(simp only[cw] at *;omega)];exact asH _ Mu w!;simp only[cW,jA,cA,ik,cw,ag,S.len,lc,ln] at *;omega;simp only[cW,jA,cA,ik,cw,ag,S.len,lc,ln] at *;omega
 rw[show Mu=8 by(simp only[cw] at *;omega)];rfl
def aFY(b:B8)(hp:S.small b):gj (Vi Gl jP 0 b) (MN (aab b) (j6 b) (pP b)/\dig (b8 (aab b) (S.tail (j6 b) (pP b)))=S.sum b):=by
 refine ar ?_;refine⟨?_,?_,?_,?_⟩;trivial;exact⟨S.Ĕ,rfl,rfl,hp⟩;simp[S.small] at hp;exact⟨OK _ _ S.Ĕ _,by grind[pP],by grind[pP],by grind[wK,pP]⟩;exact congrArg dig (S.ĕ b _)
def aFZ(m:Nat)(v:Int)(hm:v.toNat<m+1)(hp:0<=v)(hf:Vg.fS J.D9 v):dp (TY v) ([ko v]=S.num v) (0<=v/\(0:Int)<128/\cI (v%128+128)/\0<=v/\(0:Int)<128/\(toNat (v/128)<m/\0<=v/128)/\nD [ko (v%128+128)] (S.num (v/128))/\[ko (v%128+128)]++S.num (v/128)=S.num v):=by
 refine ar ?_;have aME:Vg.hint v:=hf.1;refine⟨?_,?_⟩;grind[HR];grind[df,cO,adu,List.singleton_append]
def aF0(s:B8)(hp:S.small s):(0:Int)<=length s/\IC (S.num (length s)) (length s)/\S.num (length s)++s=S.text s:=by
 refine ar ?_;refine⟨?_,?_,?_⟩;omega;grind[cO,S.small];rfl
def aF1(b:B8)(hp:b.length<=140737488355328):jI b/\b=b:=by
 refine ar ?_;grind
def aF2(v:Int)(l:B8)(hp:HO l v)(hf:Vg.aBX J.q9p v):(∃(x1:B8×Int),(v=x1.2/\l=x1.1)/\tY l v x1.1 x1.2)/\(∀(x2:B8×Int),tY l v x2.1 x2.2->cm (decide (127<x2.2)) (0<=x2.2/\(0:Int)<=127/\LY (length x2.1) [Ea (Vg.cn (Vg.aT x2.2 127%256) 128)]/\ix 7 64 (∃(x3:B8×Int),(kp x2.2 7=x3.2/\x2.1++[Ea (Vg.cn (Vg.aT x2.2 127%256) 128)]=x3.1)/\tY l v x3.1 x3.2/\Z5 x3.2 x2.2)) (LY (length x2.1) [ko x2.2]) (x2.1++[ko x2.2]=l++S.num v)):=by
 refine ar ?_;have aME:Vg.hint v:=hf.1;obtain⟨tP,ø⟩:=hp;refine⟨?_,?_⟩
 . refine⟨((l),(v)),?_⟩;with_reducible and_intros
   omega;rfl;exact⟨tP,Int.le_refl _,rfl⟩
 intro x1 h2;refine V.dI (λh3=>?_) λh4=>?_
 . with_reducible and_intros
   iterate 2 omega
   (have hl:=HS h2;grind)
   iterate 2 omega
   refine⟨((x1.1++[UInt8.ofNat (toNat (Vg.cn (Vg.aT (x1.2) (127:Int)%(256:Int)) (128:Int)))]),(x1.2/(2:Int)^toNat (7:Int))),?_⟩;grind[HS,adx,aiT]
 refine⟨?_,?_⟩
 (have hl:=HS h2;grind)
 grind[HS,adx,am3]
def aF3(s l:B8)(hp:oR l s):HO l (length s)/\IC (l++S.num (length s)) (length s)/\l++S.num (length s)++s=l++S.text s:=by
 refine ar ?_;obtain⟨tP,ø⟩:=hp;grind[cO,HO,List.length_append,S.text]
def aF4(b:B8)(v:Int)(hp:b.length<=35184372088832):ca (Z3 v 0 4611686018427387904) (1=yo v/\[]=ml b v) (jI b) (HO b v) (0=yo v/\b++S.num v=ml b v):=by
 refine ar ?_;refine⟨?_,?_⟩;simp_all[V.HF,dt,ml,yo,fZ]
 intro h2;simp at h2;refine⟨?_,?_,?_,?_⟩;omega;exact⟨w!,w!⟩;iterate 2 (grind[ml,yo,fZ])
def aF5(b s:B8)(hp:oR b s):jI b/\oR b s/\b++S.text s=b++S.text s:=by
 refine ar ?_;grind[oR]
def aF6(r1:B8)(r2 r3:Int):LU 0 r2 (fB r1)=S.inside r1 r2:=by
 refine ar ?_;grind[S.inside,decide]
def aF7(r1:B8)(r2 r3:Int)(hp:r1.length<=140737488355328):jI r1/\lA (dA r3)/\r1=r1/\(bif om (dA r3) (Bool.not (S.inside r1 r2)) then r2 else r2)=r2/\(bif om (dA r3) (Bool.not (S.inside r1 r2)) then(1:Int) else r3)=bU r1 r2 r3:=by
 refine ar ?_;grind[bU,S.inside]
def aF8(b:B8)(p:Int)(hp:dB b p)(hf:Vg.fS J.ZV (b,p)):(∃(x1:Nat),(0=gR b p x1/\(0:Int)=x1)/\j8 b p x1)/\(∀(x2:Nat),j8 b p x2->ov (decide ((x2:Int)=9)) (0=(aP b p).1/\0=(aP b p).2.1/\2=(aP b p).2.2) (fB b-p) (ov (decide (x2=fB b-p)) (0=(aP b p).1/\0=(aP b p).2.1/\4=(aP b p).2.2) (p+x2) (bH 0 (p+x2) (fB b)/\LX (7*x2) 0 64 (cI (Kc b p x2)/\0<=gR b p x2/\0<=Kc b p x2/\dh x2 (dp (TY (fY b (p+x2))) (fj (decide ((1:Int)<x2+1)) (cI (p+(x2+1))/\cI (p+(x2+1)-1)/\bH 0 (p+(x2+1)-1) (fB b))/\ov (Z8 (decide ((1:Int)<x2+1)) (dA (fY b (p+(x2+1)-1))) (decide (4611686018427387904<Vg.cn (gR b p x2) (Kc b p x2)))) (0=(aP b p).1/\0=(aP b p).2.1/\2=(aP b p).2.2) (p+(x2+1)) (Vg.cn (gR b p x2) (Kc b p x2)=(aP b p).1/\p+(x2+1)=(aP b p).2.1/\0=(aP b p).2.2)) (∃(x3:Nat),(Vg.cn (gR b p x2) (Kc b p x2)=gR b p x3/\(x2:Int)+1=x3)/\j8 b p x3/\vR 9 x3 x2)))))):=by
 refine ar ?_;have rh:Vg.hlen b:=hf.1.1;clear hf;have zw:=hp;simp only[dB] at zw;refine⟨?_,?_⟩
 . refine⟨0,?_⟩;try dsimp only
   with_reducible and_intros
   exact(aKI b p).symm;omega;exact aKH hp
 intro x1 h2;refine V.dI (λh3=>?_) λh4=>?_;refine⟨?_,?_,?_⟩;iterate 3 (grind[am0,YC])
 with_reducible and_intros
 iterate 2 omega
 intro h5;refine⟨?_,?_,?_⟩;iterate 3 (grind[am0,YC])
 intro h6;try simp at h6
 with_reducible and_intros
 omega
 (have hg:=hU h2;omega)
 omega
 (have hg:=hU h2;omega)
 omega
 (have hg:=hU h2;omega)
 omega
 (have hg:=hU h2;omega)
 iterate 2
  have hg:=hU h2;have hn:=nm ((b.getD (p+(x1:Int)).toNat 0).toNat:Int) w!;have hs:=adw (Vg.aT ((b.getD (p+(x1:Int)).toNat 0).toNat:Int) 127) x1 w! w! w!;try clear h8
  try clear h9
  clear hn;omega
 (have hg:=hU h2;have hv:=asL (b:=b) (p:=p) hg.1;exact hv.1)
 (have hg:=hU h2;have hn:=nm ((b.getD (p+(x1:Int)).toNat 0).toNat:Int) w!;have hs:=adw (Vg.aT ((b.getD (p+(x1:Int)).toNat 0).toNat:Int) 127) x1 w! w! w!;exact hs.1)
 omega
 (have hg:=hU h2;omega)
 . intro h7;try simp only[dt] at h7
   with_reducible and_intros
   . intro h8;with_reducible and_intros
     omega;have hg:=hU h2;have hn:=nm ((b.getD (p+(x1:Int)).toNat 0).toNat:Int) w!;try clear h8
     try clear h9
     clear hn;omega;omega;have hg:=hU h2;have hn:=nm ((b.getD (p+(x1:Int)).toNat 0).toNat:Int) w!;try clear h8
     try clear h9
     clear hn;omega;omega;have hg:=hU h2;have hn:=nm ((b.getD (p+(x1:Int)).toNat 0).toNat:Int) w!;try clear h8
     try clear h9
     clear hn;omega
   intro h9;trivial;intro ez;refine⟨?_,?_,?_⟩;exact(Jx hp h2 (by have hg:=hU h2;omega) w! w! ez).1;exact(Jx hp h2 (by have hg:=hU h2;omega) w! w! ez).2.1;exact(Jx hp h2 (by have hg:=hU h2;omega) w! w! ez).2.2;intro iZ;with_reducible and_intros
   omega;clear iZ;have hg:=hU h2;omega;exact(Jy hp h2 (by have hg:=hU h2;omega) w! w! iZ).1;exact(Jy hp h2 (by have hg:=hU h2;omega) w! w! iZ).2.1;exact(Jy hp h2 (by have hg:=hU h2;omega) w! w! iZ).2.2
 intro jV;try simp only[df] at jV
 refine⟨(x1+1),?_⟩;try dsimp only
 with_reducible and_intros
 (have hg:=hU h2;exact adv hp h2 w!)
 omega
 (have hg:=hU h2;exact aiS hp h2 w! w! w!)
 (have hg:=hU h2;simp only[ag];omega)
def aF9(b:B8)(p gi:Int)(hp:dB b p)(hf:Vg.fS J.aCj (b,p,gi)):dB b p/\dp (cR (aP b p).2.2) ([]=(dP b p gi).1/\mK 0 (dP b p gi).2 (aP b p).2.2) (ov (decide (gi<(aP b p).1)) ([]=(dP b p gi).1/\mK 0 (dP b p gi).2 2) (fB b-(aP b p).2.1) (ov (decide (fB b-(aP b p).2.1<(aP b p).1)) ([]=(dP b p gi).1/\mK 0 (dP b p gi).2 4) (Kd b p) (E7 0 (aP b p).2.1 (Kd b p) (fB b)/\cI (Kd b p)/\drop (toNat (aP b p).2.1) (take (toNat (Kd b p)) b)=(dP b p gi).1/\mK (Kd b p) (dP b p gi).2 0))):=by
 refine ar ?_;have rh:Vg.hlen b:=hf.1.1;have hb:=OS hp;refine⟨?_,?_,?_⟩;omega;grind[nt,df,dP];intro h2;refine⟨?_,?_⟩;simp_all[dt,dP]
 intro h4;with_reducible and_intros
 iterate 2 omega
 grind[dP];grind[df,dP]
def aGa(r1:B8)(r2 r3 gi:Int)(hp:r1.length<=140737488355328):jI r1/\cm (cR (bU r1 r2 r3)) (Ť (ao r1 r2 r3 gi) r1 r2 (bU r1 r2 r3) []) (dB r1 r2) (dp (cR (dP r1 r2 gi).2.2) (Ť (ao r1 r2 r3 gi) r1 r2 (dP r1 r2 gi).2.2 []) (Ť (ao r1 r2 r3 gi) r1 (dP r1 r2 gi).2.1 (bU r1 r2 r3) (dP r1 r2 gi).1)):=by
 refine ar ?_;refine⟨?_,?_,?_⟩;omega;grind[nt,df,ao,dB,bU,S.inside];intro h2;refine⟨?_,?_,?_⟩;grind[ao,dB,bU,S.inside];grind[nt,df,ao,dB,bU,S.inside];simp_all[nf,dt,ao,dB,bU,S.inside]
def aGb(r1:B8)(r2 r3:Int)(hp:r1.length<=140737488355328):jI r1/\cm (cR (bU r1 r2 r3)) (r1=(af r1 r2 r3).1.1/\r2=(af r1 r2 r3).1.2.1/\bU r1 r2 r3=(af r1 r2 r3).1.2.2/\0=(af r1 r2 r3).2) (dB r1 r2) (dp (cR (aP r1 r2).2.2) (r1=(af r1 r2 r3).1.1/\r2=(af r1 r2 r3).1.2.1/\(aP r1 r2).2.2=(af r1 r2 r3).1.2.2/\0=(af r1 r2 r3).2) (r1=(af r1 r2 r3).1.1/\(aP r1 r2).2.1=(af r1 r2 r3).1.2.1/\bU r1 r2 r3=(af r1 r2 r3).1.2.2/\(aP r1 r2).1=(af r1 r2 r3).2)):=by
 refine ar ?_;refine⟨?_,?_,?_⟩;omega;grind[nt,df,af,dB,bU,S.inside];intro h2;refine⟨?_,?_,?_⟩;grind[af,dB,bU,S.inside];grind[nt,df,af,dB,bU,S.inside];simp_all[nf,dt,af,dB,bU,S.inside]
def aGc(r1:B8)(r2 r3:Int)(hp:r1.length<=140737488355328)(hf:Vg.fS J.TL (r1,r2,r3)):Iv (length r1)/\ov (cR (bU r1 r2 r3)) (Ť (aD r1 r2 r3) r1 r2 (bU r1 r2 r3) []) (length r1-r2) (ov (decide (length r1-r2<32)) (Ť (aD r1 r2 r3) r1 r2 4 []) (r2+32) (E7 0 r2 (r2+32) (length r1)/\cI (r2+32)/\Ť (aD r1 r2 r3) r1 (r2+32) (bU r1 r2 r3) (drop (toNat r2) (take (toNat (r2+32)) r1)))):=by
 refine ar ?_;have aOW:Vg.hint r2:=hf.2.1;refine⟨?_,?_,?_⟩;omega;grind[nt,df,aD,dB,bU,S.inside];intro h2;with_reducible and_intros
 omega;grind[aD,dB,bU,S.inside];simp_all[dt,aD,dB,bU,S.inside]
 grind[df,aD,dB,bU,S.inside,aiU,List.drop_take]
def aGd(r1:B8)(r2 r3:Int):cm (cR r3) (r3=S.done r1 r2 r3) True (dp (Bool.not (S.inside r1 r2)) (1=S.done r1 r2 r3) (dp (CT r2 r1) (2=S.done r1 r2 r3) (0=S.done r1 r2 r3))):=by
 refine ar ?_;simp_all[nt,df,S.done,nf,dt]
def aGe(kind:Int)(b:B8)(hp:ax b)(hf:Vg.fS J.ao8 (kind,b)):(∃(x1:Nat),((0:Int)=x1/\[ko kind]=kO kind (take x1 b))/\gV b x1)/\(∀(x2:Nat),vT (gV b x2) (decide (x2<fB b)) 0 x2 (fB b) (nD (kO kind (take x2 b)) [Ea (fY b x2)]) (dh x2 (∃(x3:Nat),iw x2 x3 (kO kind (take x2 b)++[Ea (fY b x2)]=kO kind (take x3 b)) (gV b x3) (S.len b))) (kO kind (take x2 b)=kO kind b)):=by
 refine ar ?_;have aMF:Vg.hint kind:=hf.1;have rh:Vg.hlen b:=hf.2.1.1;clear hf;refine⟨?_,?_⟩
 . refine⟨0,?_⟩;try dsimp only
   with_reducible and_intros
   omega;rfl;simp only[gV,ag,S.len,ax,kO,lc,Y!,ln] at *;omega
 intro x1 h2;refine⟨?_,?_⟩
 . intro h3;try simp only[dt] at h3
   with_reducible and_intros
   iterate 2 omega
   simp only[gV,ag,S.len,ax,kO,lc,Y!,ln] at *;omega;iterate 2 omega
   refine⟨(x1+1),?_⟩;try dsimp only
   with_reducible and_intros
   omega;simp only[kO,U?,amP b x1 w!];simp only[gV,ag,S.len,ax,kO,lc,Y!,ln] at *;omega;simp only[gV,ag,S.len,ax,kO,lc,Y!,ln] at *;omega
 grind[df,kO,gV,List.take_add_one]
def aGf(kind:Int)(b:B8)(hp:ax b):rl b (Qu (kO kind b) (pv kind b)):=by
 refine ar ?_;refine⟨?_,?_,?_⟩;omega;exact hp;rfl
def aGg(b:B8)(hp:ax b):rl b (pv 0 b=pv 0 b):=by
 refine ar ?_;grind
def aGh(l r:B8)(hp:ax (l++r)):((length l+length r:Nat):Int)<=9223372036854775807/\rl (l++r) (pv 1 (l++r)=pv 1 (l++r)):=by
 refine ar ?_;grind[ax,List.length_append]
def aGi(kind:UInt8)(parts:O)(hp:oS parts)(hf:Vg.fS J.aCk (kind,parts)):(∃(x1:Nat),((0:Int)=x1/\[Ea (UInt8.toNat kind)]=n0 kind parts x1)/\gV parts x1)/\(∀(x2:Nat),vT (gV parts x2) (decide (x2<bE parts)) 0 x2 (bE parts) (nD (n0 kind parts x2) (ew parts x2)) (dh x2 (∃(x3:Nat),iw x2 x3 (n0 kind parts x2++ew parts x2=n0 kind parts x3) (gV parts x3) (S.len parts))) (n0 kind parts x2=gS kind parts)):=by
 refine ar ?_;have aJB:Vg.hlen parts:=hf.2.1.1;clear hf;refine⟨?_,?_⟩;grind[aiW,gV,ag,S.len];intro x1 h2;refine⟨?_,?_⟩
 . intro h3;try simp only[dt] at h3
   with_reducible and_intros
   iterate 2 omega
   exact S.Ě kind hp w!;iterate 2 omega
   refine⟨(x1+1),?_⟩;try dsimp only
   with_reducible and_intros
   omega;exact Vl _ _ _ w!;simp only[gV,ag,S.len] at *;omega;simp only[gV,ag,S.len] at *;omega
 grind[df,YE]
def aGj(b:B8)(hp:ax b):À [b] 0 0 b:=by
 refine ar ?_;grind[oS,ax,gS,bA]
def aGk(l r:B8)(hp:ax (l++r)):À [l,r] 1 1 (l++r):=by
 refine ar ?_;grind[oS,ax,List.length_append,gS,bA]
def aGl(b:B8)(hp:ax b):À [b] 2 2 b:=by
 refine ar ?_;grind[oS,ax,gS,bA]
def aGm(b:B8)(hp:ax b):À [b] 3 3 b:=by
 refine ar ?_;grind[oS,ax,gS,bA]
def aGn(b:B8)(hp:ax b):rl b (Qu (bA 0 b) (S.leaf b)):=by
 refine ar ?_;refine⟨?_,?_,?_⟩;omega;exact hp;rfl
def aGo(l r:B8):ca (kI (E8 l) (E8 r)) ([]=bo l r/\1=vg l r) (ax (l++r)) (S.small (bA 1 (l++r))) (S.sum (bA 1 (l++r))=bo l r/\0=vg l r):=by
 refine ar ?_;refine⟨?_,?_⟩;grind[bo,vg,Lr,S.ę,lX];intro h2;refine⟨?_,?_,?_,?_⟩;iterate 2 (grind[S.small,bA,ax,lc,List.length_append])
 iterate 2 (grind[bo,vg,Lr,S.ę,lX])
def aGp(b:B8)(hp:ax b):rl b (Qu (bA 2 b) (lX 2 b)):=by
 refine ar ?_;refine⟨?_,?_,?_⟩;omega;exact hp;rfl
def aGq(b:B8)(hp:ax b):rl b (Qu (bA 3 b) (lX 3 b)):=by
 refine ar ?_;refine⟨?_,?_,?_⟩;omega;exact hp;rfl
def aGr(c:Int):E4 0 c (E4 c 1114111 (Z3 c 55296 57343))=cu c:=by
 refine ar ?_;grind[cu]
def aGs(c:Int):dp (TY c) (1=eR c) (dp (decide (c<2048)) (2=eR c) (dp (decide (c<65536)) (3=eR c) (4=eR c))):=by
 refine ar ?_;refine⟨?_,?_⟩;simp_all[dt,eR]
 intro h2;refine⟨?_,?_⟩;simp_all[dt,eR]
 intro h4;refine⟨?_,?_⟩;grind[eR];grind[df,eR]
def aGt(c:Int)(hp:0<=c):0<=c/\(0:Int)<=63/\Vg.cn 128 (Vg.aT c 63%256)=LZ c:=by
 refine ar ?_;have e:Vg.aT c 63%256=c%64:=by grind[OH]
 grind[B4,asN]
def aGu(c:Int):dV (cm (L0 c) (1=AJ c/\[]=il c) True (dp (J4 (eR c)) (0=AJ c/\[ko c]=il c) (dp (decide (eR c=2)) (ix 6 64 (0<=c/\0=AJ c/\[Ea (Vg.cn 192 (kp c 6%256)),Ea (LZ c)]=il c)) (ca (decide (eR c=3)) (ix 12 64 (ix 6 64 (0<=kp c 6/\0<=c/\0=AJ c/\[Ea (Vg.cn 224 (kp c 12%256)),Ea (LZ (kp c 6)),Ea (LZ c)]=il c))) ((0:Int)<=18/\(18:Int)<=64) ((0:Int)<=12/\(12:Int)<=64) (0<=kp c 12/\ix 6 64 (0<=kp c 6/\0<=c/\0=AJ c/\[Ea (Vg.cn 240 (kp c 18%256)),Ea (LZ (kp c 12)),Ea (LZ (kp c 6)),Ea (LZ c)]=il c)))))):=by
 refine ar ?_;refine⟨?_,?_,?_⟩;trivial;grind[nt,AJ,il];intro h2;simp at h2;refine⟨?_,?_,?_⟩;trivial;intro h3;refine⟨?_,?_⟩;grind[eH,AJ]
 (have hc:=eH h2;(simp[il,h2,if_true];grind[ady,eR]))
 intro h4;refine V.dI (λh5=>?_) λh6=>?_
 . with_reducible and_intros
   iterate 2 omega
   simp_all[eH]
   grind[eH,AJ]
   (have hc:=eH h2;(simp only[il,h2,if_true];grind[asR,eR]))
 refine V.dI (λh7=>?_) λh8=>?_
 . with_reducible and_intros
   iterate 4 omega
   (have hc:=eH h2;grind)
   simp_all[eH]
   grind[eH,AJ]
   (have hc:=eH h2;(simp only[il,h2,if_true];grind[asS,eR]))
 with_reducible and_intros
 iterate 4 omega
 (have hc:=eH h2;grind)
 iterate 2 omega
 (have hc:=eH h2;grind)
 simp_all[eH]
 grind[eH,AJ]
 (have hc:=eH h2;(simp only[il,h2,if_true];grind[asT,eR]))
def aGv(b:B8)(hp:0<b.length)(hf:Vg.fS J.lz b):((0:Int)<=0/\0<fB b)/\cm (TY (fY b 0)) (mK (fY b 0) (bf b) 1) ((0:Int)<=5/\(5:Int)<=64) (cm (decide (kp (fY b 0) 5=6)) (0<=fY b 0/\(0:Int)<=31/\ca (decide (fB b<2)) (AR (bf b) 1) (E7 0 1 2 (fB b)) (∃(x1:Nat),((0:Int)=x1/\Vg.aT (fY b 0) 31=bN b x1)/\pR b x1) (∀(x2:Nat),pR b x2->ca (decide (x2<fB (Ky b))) (bH 0 x2 (fB (Ky b))/\((0:Int)<=6/\(6:Int)<=8)/\cm (oX (kp (fY (Ky b) x2) 6) 2) (AR (bf b) 1) ((0:Int)<=6/\(6:Int)<=64) (cI (bN b x2*sT 2 6)/\0<=bN b x2*sT 2 6/\0<=Vg.aT (fY (Ky b) x2) 63/\dh x2 (∃(x3:Nat),iw x2 x3 (Vg.cn (bN b x2*sT 2 6) (Vg.aT (fY (Ky b) x2) 63)=bN b x3) (pR b x3) 4))) True (lA (L0 (bN b x2))) (dp (kI (L0 (bN b x2)) (oX (eR (bN b x2)) 2)) (AR (bf b) 1) (mK (bN b x2) (bf b) 2)))) ((0:Int)<=4/\(4:Int)<=64) (cm (decide (kp (fY b 0) 4=14)) (0<=fY b 0/\(0:Int)<=15/\ca (decide (fB b<3)) (AR (bf b) 1) (E7 0 1 3 (fB b)) (∃(x4:Nat),((0:Int)=x4/\Vg.aT (fY b 0) 15=bN b x4)/\pR b x4) (∀(x5:Nat),pR b x5->ca (decide (x5<fB (Kz b))) (bH 0 x5 (fB (Kz b))/\((0:Int)<=6/\(6:Int)<=8)/\cm (oX (kp (fY (Kz b) x5) 6) 2) (AR (bf b) 1) ((0:Int)<=6/\(6:Int)<=64) (cI (bN b x5*sT 2 6)/\0<=bN b x5*sT 2 6/\0<=Vg.aT (fY (Kz b) x5) 63/\dh x5 (∃(x6:Nat),iw x5 x6 (Vg.cn (bN b x5*sT 2 6) (Vg.aT (fY (Kz b) x5) 63)=bN b x6) (pR b x6) 4))) True (lA (L0 (bN b x5))) (dp (kI (L0 (bN b x5)) (oX (eR (bN b x5)) 3)) (AR (bf b) 1) (mK (bN b x5) (bf b) 3)))) ((0:Int)<=3/\(3:Int)<=64) (dp (decide (kp (fY b 0) 3=30)) (0<=fY b 0/\(0:Int)<=7/\ca (decide (fB b<4)) (AR (bf b) 1) (E7 0 1 4 (fB b)) (∃(x7:Nat),((0:Int)=x7/\Vg.aT (fY b 0) 7=bN b x7)/\pR b x7) (∀(x8:Nat),pR b x8->ca (decide (x8<fB (KA b))) (bH 0 x8 (fB (KA b))/\((0:Int)<=6/\(6:Int)<=8)/\cm (oX (kp (fY (KA b) x8) 6) 2) (AR (bf b) 1) ((0:Int)<=6/\(6:Int)<=64) (cI (bN b x8*sT 2 6)/\0<=bN b x8*sT 2 6/\0<=Vg.aT (fY (KA b) x8) 63/\dh x8 (∃(x9:Nat),iw x8 x9 (Vg.cn (bN b x8*sT 2 6) (Vg.aT (fY (KA b) x8) 63)=bN b x9) (pR b x9) 4))) True (lA (L0 (bN b x8))) (dp (kI (L0 (bN b x8)) (oX (eR (bN b x8)) 4)) (AR (bf b) 1) (mK (bN b x8) (bf b) 4)))) (AR (bf b) 1)))):=by
 refine ar ?_;have rh:Vg.hlen b:=hf.1.1;clear hf;have zw:(0:Int)<b.length:=by omega
 with_reducible and_intros
 iterate 2 omega
 simp_all[dt,uf1]
 intro h2;try simp only[df] at h2
 with_reducible and_intros
 iterate 2 omega
 . intro h3;try simp only[dt] at h3
   refine⟨?_,?_,?_,?_⟩;iterate 2 omega
   intro h4;try simp only[dt] at h4
   refine⟨?_,?_⟩
   (have hn:=vj (b:=b) w! w!;simp_all[uv])
   (have hn:=vj (b:=b) w! w!;simp_all[uv])
   intro h5;try simp only[df] at h5
   with_reducible and_intros
   iterate 3 omega
   . refine⟨0,?_⟩;try dsimp only
     with_reducible and_intros
     omega;grind[vj,aKJ]
     (have hn:=vj (b:=b) w! w!;simp_all[S.ě])
   intro x6 h7;refine V.dI (λh8=>?_) λiZ=>?_
   . with_reducible and_intros
     iterate 4 omega
     intro h9;try simp only[nt,df,tn] at h9
     refine⟨?_,?_⟩;have hn:=vj (b:=b) v! v!;have hb:=bO h7;have hx:(x6:Int)+1<2:=by(have hc:=cr b 2 w! w!;simp only[hc,show toNat 2=2 by rfl] at *;omega)
     simp only[lq b 2 x6 hx,ob b 2 x6 hx] at *;rw[yp hn h7 w! v!];have hn:=vj (b:=b) v! v!;have hb:=bO h7;have hx:(x6:Int)+1<2:=by(have hc:=cr b 2 w! w!;simp only[hc,show toNat 2=2 by rfl] at *;omega)
     simp only[lq b 2 x6 hx,ob b 2 x6 hx] at *;rw[yp hn h7 w! v!];intro ez;try simp only[nf,dt,tn] at ez
     with_reducible and_intros
     iterate 2 omega
     iterate 3
      (have hn:=vj (b:=b) v! v!;(have hb:=bO h7;(try simp only[cr b 2 w! w!,show toNat 2=2 by rfl] at *);simp only[show toNat 6=6 by rfl,ag] at *;omega))
     exact Int.natCast_nonneg _;omega
     (have hn:=vj (b:=b) v! v!;(have hb:=bO h7;(try simp only[cr b 2 w! w!,show toNat 2=2 by rfl] at *);omega))
     refine⟨(x6+1),?_⟩;try dsimp only
     with_reducible and_intros
     omega;have hn:=vj (b:=b) v! v!;have hb:=bO h7;have hx:(x6:Int)+1<2:=by(have hc:=cr b 2 w! w!;simp only[hc,show toNat 2=2 by rfl] at *;omega)
     rw[lq b 2 x6 hx];exact S.ĝ h7 w!;have hn:=vj (b:=b) v! v!;have hb:=bO h7;have hx:(x6:Int)+1<2:=by(have hc:=cr b 2 w! w!;simp only[hc,show toNat 2=2 by rfl] at *;omega)
     simp only[lq b 2 x6 hx,ob b 2 x6 hx] at *;exact Vn h7 v! w!
     (have hn:=vj (b:=b) v! v!;(have hb:=bO h7;(try simp only[cr b 2 w! w!,show toNat 2=2 by rfl] at *);simp only[show toNat 6=6 by rfl,ag] at *;omega))
   with_reducible and_intros
   trivial;intro jV;try simp only[nt] at jV
   trivial;intro oq;try simp only[nf] at oq
   trivial;intro pG;try simp only[V.HF,nt,df] at pG
   refine⟨?_,?_⟩;have hn:=vj (b:=b) v! v!;have hb:=bO h7;have hc:=cr b 2 w! w!;rw[hc] at iZ;have hx:x6+1=2:=by omega
   rw[yq hn h7 hx pG rfl];have hn:=vj (b:=b) v! v!;have hb:=bO h7;have hc:=cr b 2 w! w!;rw[hc] at iZ;have hx:x6+1=2:=by omega
   rw[yq hn h7 hx pG rfl];intro KB;try simp only[V.pr,nf,dt] at KB
   refine⟨?_,?_⟩;have hn:=vj (b:=b) v! v!;have hb:=bO h7;have hc:=cr b 2 w! w!;rw[hc] at iZ;have hx:x6+1=2:=by omega
   rw[yr hn h7 hx KB rfl];have hn:=vj (b:=b) v! v!;have hb:=bO h7;have hc:=cr b 2 w! w!;rw[hc] at iZ;have hx:x6+1=2:=by omega
   rw[yr hn h7 hx KB rfl]
 intro IH;try simp only[df] at IH
 with_reducible and_intros
 iterate 2 omega
 . intro QT;try simp only[dt] at QT
   refine⟨?_,?_,?_,?_⟩;iterate 2 omega
   intro Â;try simp only[dt] at Â
   refine⟨?_,?_⟩
   (have hn:=wM (b:=b) v! v! v!;rw[uv hn w! w!])
   (have hn:=wM (b:=b) v! v! v!;rw[uv hn w! w!])
   intro Ã;try simp only[df] at Ã
   with_reducible and_intros
   iterate 3 omega
   . refine⟨0,?_⟩;try dsimp only
     with_reducible and_intros
     omega
     (exact aKK v! v!)
     (have hn:=wM (b:=b) v! v! v!;exact S.ě hn w! w!)
   intro Eb ui;refine V.dI (λh22=>?_) λh25=>?_
   . with_reducible and_intros
     iterate 4 omega
     intro h23;try simp only[nt,df,tn] at h23
     refine⟨?_,?_⟩;have hn:=wM (b:=b) v! v! v!;have hb:=bO ui;have hx:(Eb:Int)+1<3:=by(have hc:=cr b 3 w! w!;simp only[hc,show toNat 3=3 by rfl] at *;omega)
     simp only[lq b 3 Eb hx,ob b 3 Eb hx] at *;rw[yp hn ui w! v!];have hn:=wM (b:=b) v! v! v!;have hb:=bO ui;have hx:(Eb:Int)+1<3:=by(have hc:=cr b 3 w! w!;simp only[hc,show toNat 3=3 by rfl] at *;omega)
     simp only[lq b 3 Eb hx,ob b 3 Eb hx] at *;rw[yp hn ui w! v!];intro h24;try simp only[nf,dt,tn] at h24
     with_reducible and_intros
     iterate 2 omega
     iterate 3
      (have hn:=wM (b:=b) v! v! v!;(have hb:=bO ui;(try simp only[cr b 3 w! w!,show toNat 3=3 by rfl] at *);simp only[show toNat 6=6 by rfl,ag] at *;omega))
     exact Int.natCast_nonneg _;omega
     (have hn:=wM (b:=b) v! v! v!;(have hb:=bO ui;(try simp only[cr b 3 w! w!,show toNat 3=3 by rfl] at *);omega))
     refine⟨(Eb+1),?_⟩;try dsimp only
     with_reducible and_intros
     omega;have hn:=wM (b:=b) v! v! v!;have hb:=bO ui;have hx:(Eb:Int)+1<3:=by(have hc:=cr b 3 w! w!;simp only[hc,show toNat 3=3 by rfl] at *;omega)
     rw[lq b 3 Eb hx];exact S.ĝ ui w!;have hn:=wM (b:=b) v! v! v!;have hb:=bO ui;have hx:(Eb:Int)+1<3:=by(have hc:=cr b 3 w! w!;simp only[hc,show toNat 3=3 by rfl] at *;omega)
     simp only[lq b 3 Eb hx,ob b 3 Eb hx] at *;exact Vn ui v! w!
     (have hn:=wM (b:=b) v! v! v!;(have hb:=bO ui;(try simp only[cr b 3 w! w!,show toNat 3=3 by rfl] at *);simp only[show toNat 6=6 by rfl,ag] at *;omega))
   with_reducible and_intros
   trivial;intro h26;try simp only[nt] at h26
   trivial;intro h27;try simp only[nf] at h27
   trivial;intro h28;try simp only[V.HF,nt,df] at h28
   refine⟨?_,?_⟩;have hn:=wM (b:=b) v! v! v!;have hb:=bO ui;have hc:=cr b 3 w! w!;rw[hc] at h25;have hx:Eb+1=3:=by omega
   rw[yq hn ui hx h28 rfl];have hn:=wM (b:=b) v! v! v!;have hb:=bO ui;have hc:=cr b 3 w! w!;rw[hc] at h25;have hx:Eb+1=3:=by omega
   rw[yq hn ui hx h28 rfl];intro h29;try simp only[V.pr,nf,dt] at h29
   refine⟨?_,?_⟩;have hn:=wM (b:=b) v! v! v!;have hb:=bO ui;have hc:=cr b 3 w! w!;rw[hc] at h25;have hx:Eb+1=3:=by omega
   rw[yr hn ui hx h29 rfl];have hn:=wM (b:=b) v! v! v!;have hb:=bO ui;have hc:=cr b 3 w! w!;rw[hc] at h25;have hx:Eb+1=3:=by omega
   rw[yr hn ui hx h29 rfl]
 intro h30;try simp only[df] at h30
 with_reducible and_intros
 iterate 2 omega
 . intro h31;try simp only[dt] at h31
   refine⟨?_,?_,?_,?_⟩;iterate 2 omega
   intro Ś;try simp only[dt] at Ś
   refine⟨?_,?_⟩
   (have hn:=wN (b:=b) v! v! v! v!;rw[uv hn w! w!])
   (have hn:=wN (b:=b) v! v! v! v!;rw[uv hn w! w!])
   intro h33;try simp only[df] at h33
   with_reducible and_intros
   iterate 3 omega
   . refine⟨0,?_⟩;try dsimp only
     with_reducible and_intros
     omega
     (exact aKL v! v!)
     (have hn:=wN (b:=b) v! v! v! v!;exact S.ě hn w! w!)
   intro Ec Ax;refine V.dI (λh36=>?_) λh39=>?_
   . with_reducible and_intros
     iterate 4 omega
     intro h37;try simp only[nt,df,tn] at h37
     refine⟨?_,?_⟩;have hn:=wN (b:=b) v! v! v! v!;have hb:=bO Ax;have hx:(Ec:Int)+1<4:=by(have hc:=cr b 4 w! w!;simp only[hc,show toNat 4=4 by rfl] at *;omega)
     simp only[lq b 4 Ec hx,ob b 4 Ec hx] at *;rw[yp hn Ax w! v!];have hn:=wN (b:=b) v! v! v! v!;have hb:=bO Ax;have hx:(Ec:Int)+1<4:=by(have hc:=cr b 4 w! w!;simp only[hc,show toNat 4=4 by rfl] at *;omega)
     simp only[lq b 4 Ec hx,ob b 4 Ec hx] at *;rw[yp hn Ax w! v!];intro h38;try simp only[nf,dt,tn] at h38
     with_reducible and_intros
     iterate 2 omega
     iterate 3
      (have hn:=wN (b:=b) v! v! v! v!;(have hb:=bO Ax;(try simp only[cr b 4 w! w!,show toNat 4=4 by rfl] at *);simp only[show toNat 6=6 by rfl,ag] at *;omega))
     exact Int.natCast_nonneg _;omega
     (have hn:=wN (b:=b) v! v! v! v!;(have hb:=bO Ax;(try simp only[cr b 4 w! w!,show toNat 4=4 by rfl] at *);omega))
     refine⟨(Ec+1),?_⟩;try dsimp only
     with_reducible and_intros
     omega;have hn:=wN (b:=b) v! v! v! v!;have hb:=bO Ax;have hx:(Ec:Int)+1<4:=by(have hc:=cr b 4 w! w!;simp only[hc,show toNat 4=4 by rfl] at *;omega)
     rw[lq b 4 Ec hx];exact S.ĝ Ax w!;have hn:=wN (b:=b) v! v! v! v!;have hb:=bO Ax;have hx:(Ec:Int)+1<4:=by(have hc:=cr b 4 w! w!;simp only[hc,show toNat 4=4 by rfl] at *;omega)
     simp only[lq b 4 Ec hx,ob b 4 Ec hx] at *;exact Vn Ax v! w!
     (have hn:=wN (b:=b) v! v! v! v!;(have hb:=bO Ax;(try simp only[cr b 4 w! w!,show toNat 4=4 by rfl] at *);simp only[show toNat 6=6 by rfl,ag] at *;omega))
   with_reducible and_intros
   trivial;intro h40;try simp only[nt] at h40
   trivial;intro h41;try simp only[nf] at h41
   trivial;intro h42;try simp only[V.HF,nt,df] at h42
   refine⟨?_,?_⟩;have hn:=wN (b:=b) v! v! v! v!;have hb:=bO Ax;have hc:=cr b 4 w! w!;rw[hc] at h39;have hx:Ec+1=4:=by omega
   rw[yq hn Ax hx h42 rfl];have hn:=wN (b:=b) v! v! v! v!;have hb:=bO Ax;have hc:=cr b 4 w! w!;rw[hc] at h39;have hx:Ec+1=4:=by omega
   rw[yq hn Ax hx h42 rfl];intro h43;try simp only[V.pr,nf,dt] at h43
   refine⟨?_,?_⟩;have hn:=wN (b:=b) v! v! v! v!;have hb:=bO Ax;have hc:=cr b 4 w! w!;rw[hc] at h39;have hx:Ec+1=4:=by omega
   rw[yr hn Ax hx h43 rfl];have hn:=wN (b:=b) v! v! v! v!;have hb:=bO Ax;have hc:=cr b 4 w! w!;rw[hc] at h39;have hx:Ec+1=4:=by omega
   rw[yr hn Ax hx h43 rfl]
 grind[df,uf0]
def aGB(b:B8)(hp:S.small b):(∃(x1:B8×U),(b=x1.1/\[]=x1.2)/\kP b x1.1 x1.2)/\(∀(x2:B8×U),kP b x2.1 x2.2->dp (gF (length x2.1)) (0<length x2.1/\AQ x2.2 [(bf x2.1).1]/\ix (bf x2.1).2 (length x2.1) (∃(x3:B8×U),(drop (toNat (bf x2.1).2) x2.1=x3.1/\x2.2++[(bf x2.1).1]=x3.2)/\kP b x3.1 x3.2/\S.len x3.1<S.len x2.1)) (x2.2=S.decode b)):=by
 refine ar ?_;simp[S.small] at hp;refine⟨?_,?_⟩;refine⟨((b),([])),?_⟩;grind[aD3];intro x1 h2;refine⟨?_,?_⟩
 . intro h3;simp at h3;with_reducible and_intros
   omega
   (have hd:=Vo h2 w!;grind)
   iterate 2
    (have hd:=Vo h2 w!;omega)
   refine⟨((drop (toNat ((bf (x1.1)).2)) (x1.1)),(x1.2++[(bf (x1.1)).1])),?_⟩;dsimp only;with_reducible and_intros
   iterate 2 rfl
   grind[SV]
   (have hd:=Vo h2 w!;grind[S.len,List.length_drop,lc,ln])
 grind[df,YI]
def aGC(c:Int):(∃(x1:Nat),(0:Int)=x1/\pQ c x1)/\(∀(x2:Nat),rk (pQ c x2) (decide ((x2:Int)<9)) 0 x2 ((9:Nat):Int) (rj (LU (getD [65,97,192,216,248,913,931,945,1024] (toNat x2) 0) c (getD [90,122,214,246,255,929,937,969,1119] (toNat x2) 0)) (true=S.letter c) x2 (∃(x3:Nat),oY x2 x3 (pQ c x3) 9)) (false=S.letter c)):=by
 refine ar ?_;refine⟨?_,?_⟩;refine⟨(nat_lit 0:Nat),?_⟩;grind[pQ];intro x1 h2;refine⟨?_,?_⟩
 . intro h3;simp at h3;with_reducible and_intros
   iterate 2 omega
   intro h4;simp at h4;exact S.ğ (x:=x1) w! (S.Ģ h4);intro h5;simp only[V.MM,df,tn] at h5;with_reducible and_intros
   iterate 2 omega
   refine⟨(x1+nat_lit 1),?_⟩;dsimp only;refine⟨?_,?_,?_⟩;omega;exact S.Ġ (x:=x1) h2 w! (am4 h5);simp[ag];omega
 grind[df,S.ġ]
def aGD(c:Int):LU 48 c 57=S.digit c:=by
 refine ar ?_;grind[S.digit]
def aGE(c:Int):(∃(x1:Nat),(0:Int)=x1/\qy c x1)/\(∀(x2:Nat),rk (qy c x2) (decide ((x2:Int)<7)) 0 x2 ((7:Nat):Int) (rj (LU (getD [65,192,216,913,931,1024,1040] (toNat x2) 0) c (getD [90,214,222,929,937,1039,1071] (toNat x2) 0)) (cI (c+lD [32,32,32,32,32,80,32] (toNat x2))/\c+lD [32,32,32,32,32,80,32] (toNat x2)=aZ c) x2 (∃(x3:Nat),oY x2 x3 (qy c x3) 7)) (c=aZ c)):=by
 refine ar ?_;refine⟨?_,?_⟩;refine⟨(nat_lit 0:Nat),?_⟩;grind[qy];intro x1 h2;refine⟨?_,?_⟩
 . intro h3;simp at h3;with_reducible and_intros
   iterate 2 omega
   . intro h4;simp at h4;with_reducible and_intros
     iterate 2
      have hs:=(SY (c:=c) (x:=x1) h2 h3 (S.Ģ h4)).2;omega
     exact(SY (x:=x1) h2 w! (S.Ģ h4)).1
   intro h5;simp only[V.MM,df,tn] at h5;with_reducible and_intros
   iterate 2 omega
   refine⟨(x1+nat_lit 1),?_⟩;dsimp only;refine⟨?_,?_,?_⟩;omega;exact aiY (x:=x1) h2 w! (am4 h5);simp[ag];omega
 grind[df,aiZ]
def aGF(c a b:Int):LU a c b=dc c a b:=by
 refine ar ?_;grind[dc]
def aGG(c:Int):(bif nE c then Iw c 55296 (Ž c) else Ž c)=o9 c:=by
 refine ar ?_;grind[o9]
def aGH(c:Int)(hp:0<=c/\c<=1114111):dp (TY c) ([ko c]=S.enc c) (dp (decide (c<2048)) (0<=c/\(0:Int)<64/\cI (192+c/64)/\0<=c/\(0:Int)<64/\cI (128+c%64)/\[ko (192+c/64),ko (128+c%64)]=S.enc c) (dp (decide (c<65536)) (0<=c/\(0:Int)<4096/\cI (224+c/4096)/\0<=c/\(0:Int)<64/\0<=c/64/\(0:Int)<64/\cI (128+c/64%64)/\0<=c/\(0:Int)<64/\cI (128+c%64)/\[ko (224+c/4096),ko (128+c/64%64),ko (128+c%64)]=S.enc c) (0<=c/\(0:Int)<262144/\cI (240+c/262144)/\0<=c/\(0:Int)<4096/\0<=c/4096/\(0:Int)<64/\cI (128+c/4096%64)/\0<=c/\(0:Int)<64/\0<=c/64/\(0:Int)<64/\cI (128+c/64%64)/\0<=c/\(0:Int)<64/\cI (128+c%64)/\[ko (240+c/262144),ko (128+c/4096%64),ko (128+c/64%64),ko (128+c%64)]=S.enc c))):=by
 refine ar ?_;refine⟨?_,?_⟩;simp_all[dt,asU]
 intro h2;refine V.dI (λh3=>?_) λh4=>?_;grind[asV];refine⟨?_,?_⟩;grind[asW];grind[df,asX]
def aGI(a b:Int):dp (decide (a<b)) (a=qz a b) (b=qz a b):=by
 refine ar ?_;refine⟨?_,?_⟩;simp_all[dt,qz]
 grind[df,qz]
def aGJ(c:Int):gj (TV (dc c 65 90) (dc c 97 122) (TV (dc c 192 214) (dc c 216 246) (TV (dc c 248 255) (dc c 913 929) (tJ (dc c 931 937) (dV (lA (dc c 945 969))))))) (kI (dc c 65 90) (kI (dc c 97 122) (kI (dc c 192 214) (kI (dc c 216 246) (kI (dc c 248 255) (kI (dc c 913 929) (kI (dc c 931 937) (kI (dc c 945 969) (dc c 1024 1119))))))))=S.letter c):=by
 refine ar ?_;grind[OX]
def aGK(c:Int):dV (ca (dc c 1024 1039) (cI (c+80)/\c+80=aZ c) True (TV (dc c 65 90) (dc c 192 214) (TV (dc c 216 222) (dc c 913 929) (lA (dc c 931 937)))) (dp (kI (dc c 65 90) (kI (dc c 192 214) (kI (dc c 216 222) (kI (dc c 913 929) (kI (dc c 931 937) (dc c 1040 1071)))))) (cI (c+32)/\c+32=aZ c) (c=aZ c))):=by
 refine ar ?_;refine⟨?_,?_,?_⟩;trivial;grind[DC];intro h2;with_reducible and_intros
 trivial;iterate 2 grind
 grind[DD];grind[B7]
def aGL(b:B8)(n:Int)(hp:DB b n)(hf:Vg.fS J.ZV (b,n)):cm (decide (fB b<n)) (-(1:Int)=cc b n) ((0:Int)<=(0:Int)/\(0:Int)<fB b) (bH (0:Int) n (cQ [(0:Int),(0:Int),(192:Int),(224:Int),(240:Int)])/\toNat n<length [(0:Int),(0:Int),(192:Int),(224:Int),(240:Int)]/\cI (fY b (0:Int)-lD [(0:Int),(0:Int),(192:Int),(224:Int),(240:Int)] (toNat n))/\(∃(x1:Nat),((1:Int)=(x1:Int)/\fY b (0:Int)-lD [(0:Int),(0:Int),(192:Int),(224:Int),(240:Int)] (toNat n)=pS b n (x1-(1:Nat)))/\sh b n x1)/\(∀(x2:Nat),sh b n x2->dp (decide ((x2:Int)<n)) (cI (pS b n (x2-(1:Nat))*(64:Int))/\bH (0:Int) (x2:Int) (fB b)/\cI (pS b n (x2-(1:Nat))*(64:Int)+fY b (x2:Int))/\cI (pS b n (x2-(1:Nat))*(64:Int)+fY b (x2:Int)-(128:Int))/\dh (x2:Int) (∃(x3:Nat),iw x2 x3 (pS b n (x2-(1:Nat))*(64:Int)+fY b (x2:Int)-(128:Int)=pS b n (x3-(1:Nat))) (sh b n x3) (toNat n))) (pS b n (x2-(1:Nat))=cc b n))):=by
 refine ar ?_;have rh:Vg.hlen b:=hf.1.1;have aMv:Vg.hint n:=hf.2.1;clear hf;have iK:=hp;simp only[DB] at iK;refine⟨?_,?_⟩;intro h1;try simp only[dt] at h1
 grind[YK];intro h2;try simp only[df] at h2
 with_reducible and_intros
 iterate 3 omega
 iterate 3 grind
 have h1:=OY b n 0 w!;grind[S0];grind[S0,sh,ag];intro x3 h4;refine⟨?_,?_⟩
 . intro h5;try simp only[dt] at h5
   with_reducible and_intros
   iterate 2
    have hq:=adA v! hp;have:=(getD b (toNat (x3:Int)) 0).toNat_lt;omega
   iterate 2 omega
   iterate 4
    have hq:=adA v! hp;have:=(getD b (toNat (x3:Int)) 0).toNat_lt;omega
   iterate 2 omega
   refine⟨(x3+1),?_⟩;try dsimp only
   with_reducible and_intros
   omega;exact ai3 v!;simp only[sh,ag] at *;omega;simp only[sh,ag] at *;omega
 grind[df,ana]
def aGM(b:B8)(hp:S.small b):(∃(x1:Nat×U),((0:Int)=x1.1/\[]=x1.2)/\kP b (drop x1.1 b) x1.2/\x1.1<=Aq b)/\(∀(x2:Nat×U),kP b (drop x2.1 b) x2.2/\x2.1<=Aq b->dp (decide ((x2.1:Int)<Aq b)) ((∃(x3:Nat×Nat),((1:Int)=((x3.1+1:Nat):Int)/\AR (im (drop x3.2 b) x3.1) 1)/\x3.1<=4/\(x2.1:Int)=x3.2)/\(∀(x4:Nat×Nat),x4.1<=4/\(x2.1:Int)=x4.2->cm (decide (((x4.1+1:Nat):Int)<=4)) (ix x2.1 (Aq b) (DB (drop (toNat x2.1) b) ((x4.1+1:Nat):Int)/\gj (fj (o9 (Kr b x2 x4)) (ix (Kr b x2 x4) 1114111 (cI (x2.1+((x4.1+1:Nat):Int))/\dV (E7 0 x2.1 (qz (x2.1+((x4.1+1:Nat):Int)) (Aq b)) (Aq b))))) (cI (((x4.1+1:Nat):Int)+1)/\(∃(x5:Nat×Nat),(((x4.1+1:Nat):Int)+1=((x5.1+1:Nat):Int)/\mK (bif ż b x2 x4 then Kr b x2 x4 else(Gq b x4).1) (im (drop x5.2 b) x5.1) (bif ż b x2 x4 then((x4.1+1:Nat):Int) else(Gq b x4).2))/\(x5.1<=4/\(x2.1:Int)=x5.2)/\vR 4 x5.1 x4.1)))) (AQ x2.2 [(Gq b x4).1]) (cI (x2.1+(Gq b x4).2)/\(∃(x6:Nat×U),(x2.1+(Gq b x4).2=x6.1/\x2.2++[(Gq b x4).1]=x6.2)/\(kP b (drop x6.1 b) x6.2/\x6.1<=Aq b)/\vR (S.len b) x6.1 x2.1)))) (x2.2=S.decode b)):=by
 refine ar ?_;have iK:b.length<=1099511627776:=by grind[S.small]
 refine⟨?_,?_⟩;refine⟨(0,([])),?_⟩;grind[asY];intro x1 h2;refine⟨?_,?_⟩
 . intro h3;try simp only[dt] at h3
   refine⟨?_,?_⟩
   . refine⟨(0,x1.1),?_⟩;with_reducible and_intros
     omega;iterate 2 rfl
     iterate 2 omega
   intro x4 h5;refine V.dI (λh6=>?_) λh9=>?_
   . with_reducible and_intros
     iterate 2 omega
     grind[DB,List.length_drop];trivial
     . intro h7;with_reducible and_intros
       iterate 2 (simp_all[S.ĥ])
       iterate 2 omega
       trivial;omega;iterate 2 (grind[qz])
     grind;iterate 2 omega
     refine⟨(x4.1+1,x1.1),?_⟩;try dsimp only
     with_reducible and_intros
     omega;simp_all[S3,ai5]
     simp_all[S3,ai6]
     iterate 2 omega
     grind[ag]
   with_reducible and_intros
   have hq:=rF h2 h3 h5 h9;grind
   iterate 2
    have hq:=rF h2 h3 h5 h9;omega
   refine⟨((toNat ((↑(x1.1):Int)+(im (drop (x4.2) b) (x4.1)).2)),(x1.2++[(im (drop (x4.2) b) (x4.1)).1])),?_⟩;with_reducible and_intros
   have hq:=rF h2 h3 h5 h9;omega;rfl;have hq:=rF h2 h3 h5 h9;grind;have hq:=rF h2 h3 h5 h9;omega;have hq:=rF h2 h3 h5 h9;grind[ag,S.len]
 grind[df,YI,List.length_drop]
def aGN(u:U)(hp:RS u):(∃(x1:Nat×B8),((0:Int)=x1.1/\[]=x1.2)/\lu u x1.1 x1.2)/\(∀(x2:Nat×B8),rk (lu u x2.1 x2.2) (decide (x2.1<cQ u)) 0 x2.1 (cQ u) (dV (dV (cI (length x2.2+length (QP u x2))/\cm (Gk (length x2.2+length (QP u x2))) (x2.2=eS u) (Iv (length x2.2+length (QP u x2))) (cI (x2.1+1)/\(∃(x3:Nat×B8),((x2.1:Int)+1=x3.1/\x2.2++QP u x2=x3.2)/\lu u x3.1 x3.2/\vR (S.len u) x3.1 x2.1))))) (x2.2=eS u)):=by
 refine ar ?_;have hq:=hp.1;refine⟨?_,?_⟩;refine⟨(0,([])),?_⟩;grind[zG];intro x1 h2;refine⟨?_,?_⟩
 . intro h3;simp at h3;with_reducible and_intros
   iterate 2 omega
   iterate 2 trivial
   omega;have:=h2.2.2;grind[ai7];grind[pz];intro h5;with_reducible and_intros
   grind;iterate 2 omega
   refine⟨((x1.1+1),(x1.2++il (aZ (getD u (toNat (↑(x1.1):Int)) (0:Int))))),?_⟩;grind[py,ag,S.len]
 grind[df,rG]
def aGO(b:B8)(hp:S.small b):qM b ((∃(x1:Nat×O×U),((0:Int)=x1.1/\[]=x1.2.1/\[]=x1.2.2)/\kQ (S.decode b) x1.1 x1.2.1 x1.2.2)/\(∀(x2:Nat×O×U),kQ (S.decode b) x2.1 x2.2.1 x2.2.2->dp (decide ((x2.1:Int)<length (S.decode b))) (bH 0 x2.1 (length (S.decode b))/\toNat x2.1<length (S.decode b)/\gj (lA (S.letter (Kx b x2))) (dp (kI (S.letter (Kx b x2)) (S.digit (Kx b x2))) (length x2.2.2+length [Kx b x2]<=17592186044416/\cI (x2.1+1)/\(∃(x3:Nat×O×U),mv (x2.1+1) x3.1 (x2.2.1=x3.2.1/\x2.2.2++[Kx b x2]=x3.2.2) (kQ (S.decode b) x3.1 x3.2.1 x3.2.2) (S.len (S.decode b)) (ag (S.len (S.decode b)) x2.1))) (ov (gF (length x2.2.2)) (RS x2.2.2/\AP x2.2.1 [eS x2.2.2]/\cI (x2.1+1)/\(∃(x4:Nat×O×U),mv (x2.1+1) x4.1 (x2.2.1++[eS x2.2.2]=x4.2.1/\[]=x4.2.2) (kQ (S.decode b) x4.1 x4.2.1 x4.2.2) (S.len (S.decode b)) (ag (S.len (S.decode b)) x2.1))) (x2.1+1) (∃(x5:Nat×O×U),mv (x2.1+1) x5.1 (x2.2.1=x5.2.1/\x2.2.2=x5.2.2) (kQ (S.decode b) x5.1 x5.2.1 x5.2.2) (S.len (S.decode b)) (ag (S.len (S.decode b)) x2.1))))) (dp (gF (length x2.2.2)) (RS x2.2.2/\AP x2.2.1 [eS x2.2.2]/\x2.2.1++[eS x2.2.2]=aS b) (x2.2.1=aS b)))):=by
 refine ar ?_;have iK:b.length<=1099511627776:=hp;refine⟨?_,?_,?_⟩;omega;refine⟨(0,(([]),([]))),?_⟩;grind[aEb];intro x1 h2;refine V.dI (λh3=>?_) λez=>?_
 . with_reducible and_intros
   iterate 3 omega
   trivial;iterate 2 grind
   . intro h6;try simp only[V.HF] at h6
     with_reducible and_intros
     (have hq:=si h2 iK;grind)
     omega
     (have hq:=si h2 iK;omega)
     refine⟨((x1.1+1),((x1.2.1),(x1.2.2++[getD (S.decode b) (toNat (↑(x1.1):Int)) (0:Int)]))),?_⟩;grind[ai8,anc,si,ag,S.len]
   intro h7;try simp only[V.pr] at h7
   refine V.dI (λh8=>?_) λh9=>?_
   . with_reducible and_intros
     iterate 2
      (have hq:=si h2 iK;grind)
     omega
     (have hq:=si h2 iK;omega)
     refine⟨((x1.1+1),((x1.2.1++[eS (x1.2.2)]),([]))),?_⟩;grind[anb,YM,si,ag,S.len]
   with_reducible and_intros
   omega
   (have hq:=si h2 iK;omega)
   refine⟨((x1.1+1),((x1.2.1),(x1.2.2))),?_⟩;grind[ai9,YM,si,ag,S.len]
 refine⟨?_,?_⟩;intro iZ;refine⟨?_,?_,?_⟩
 (have hq:=si h2 iK;grind)
 (have hq:=si h2 iK;simp;omega)
 grind[aja];grind[df,ajb]
def aGP(s:B8)(hp:S.small s):qM s (fj (J4 (QO s)) (((0:Int)<=0/\(0:Int)<QO s)/\toNat 0<QO s)/\Iy (J4 (QO s)) (ew (aS s) 0) s=S.isTerm s):=by
 refine ar ?_;grind[aje]
def aGQ(c:Int):dV (kI (S.letter c) (LU 48 c 57)=gG c):=by
 refine ar ?_;grind[ajf]
def aGR(u:U)(hp:RS u):(∃(x1:Nat×B8),((0:Int)=x1.1/\[]=x1.2)/\lu u x1.1 x1.2)/\(∀(x2:Nat×B8),rk (lu u x2.1 x2.2) (decide (x2.1<cQ u)) 0 x2.1 (cQ u) (gj (0<=aZ (jk u x2.1)/\aZ (jk u x2.1)<=1114111) (cI (length x2.2+Wv u x2)/\cm (Gk (length x2.2+Wv u x2)) (x2.2=eS u) (((length x2.2+Wv u x2:Nat):Int)<=9223372036854775807) (cI (x2.1+1)/\(∃(x3:Nat×B8),((x2.1:Int)+1=x3.1/\x2.2++S.enc (aZ (jk u x2.1))=x3.2)/\lu u x3.1 x3.2/\vR (S.len u) x3.1 x2.1)))) (x2.2=eS u)):=by
 refine ar ?_;have hq:=hp.1;refine⟨?_,?_⟩;refine⟨((nat_lit 0:Nat),([])),?_⟩;grind[zG,rG,yw,yv,pz,py]
 . intro x1 h2;refine⟨?_,?_⟩
   . intro h3;try simp at h3
     with_reducible and_intros
     omega;omega;trivial;grind[zG,rG,yw,yv,pz,py];grind[zG,rG,yw,yv,pz,py];omega;first|omega|rfl|exact zG u|exact rG h2 (by assumption)|(first|exact he.2.1|exact he.2.2|(have:=h2.2.2;grind[yv])|(rw[<-he.1] at *)|(omega))
     grind[yw,tn,pz]
     . intro h5;with_reducible and_intros
       grind;omega;omega
       . refine⟨((Prod.fst x1+nat_lit 1),(Prod.snd x1++S.enc (aZ (getD u (toNat (↑(Prod.fst x1):Int)) (0:Int))))),?_⟩;with_reducible and_intros
         rfl;rfl;grind[yw,tn,py];first|omega|rfl|exact zG u|exact rG h2 (by assumption)|(first|exact he.2.1|exact he.2.2|(omega)|(first|exact pz h2 h3 (by assumption)|exact py h2 h3 (by assumption))|grind[ag,S.len])
   grind[zG,rG,yw,yv,pz,py]
def aGS(b:B8)(hp:S.small b):qM b ((∃(x1:Nat×O),((0:Int)=x1.1/\[]=x1.2)/\np (S.decode b) x1.1 x1.2)/\(∀(x2:Nat×O),np (S.decode b) x2.1 x2.2->dp (decide ((x2.1:Int)<Gr b)) ((∃(x3:Nat×Nat),(x2.1:Int)=x3.1/\tZ (S.decode b) x3.2 x3.1/\(x2.1:Int)=x3.2)/\(∀(x4:Nat×Nat),tZ (S.decode b) x4.2 x4.1/\(x2.1:Int)=x4.2->fj (decide ((x4.1:Int)<Gr b)) (bH 0 x4.1 (Gr b)/\toNat x4.1<Gr b/\True)/\dp (om (decide ((x4.1:Int)<Gr b)) (gG (lD (S.decode b) (toNat x4.1)))) (cI (x4.1+1)/\(∃(x5:Nat×Nat),(x4.1:Int)+1=x5.1/\(tZ (S.decode b) x5.2 x5.1/\(x2.1:Int)=x5.2)/\vR (S.len (S.decode b)) x5.1 x4.1)) (ov (decide ((x2.1:Int)<x4.1)) (E7 0 x2.1 x4.1 (Gr b)/\RS (Ww b x2 x4)/\AP x2.2 [eS (Ww b x2 x4)]/\cI (x4.1+1)/\(∃(x6:Nat×O),mv (x4.1+1) x6.1 (x2.2++[eS (Ww b x2 x4)]=x6.2) (np (S.decode b) x6.1 x6.2) (S.len (S.decode b)+1) (ag (S.len (S.decode b)+1) x2.1))) (x4.1+1) (∃(x7:Nat×O),mv (x4.1+1) x7.1 (x2.2=x7.2) (np (S.decode b) x7.1 x7.2) (S.len (S.decode b)+1) (ag (S.len (S.decode b)+1) x2.1))))) (x2.2=aS b))):=by
 refine ar ?_;have iK:b.length<=1099511627776:=hp;have hd0:=sK b;refine⟨?_,?_,?_⟩;omega;refine⟨((nat_lit 0:Nat),([])),?_⟩;grind[zH,FN,zI,rH,lc,ln]
 . intro x1 h2;refine⟨?_,?_⟩
   . intro h3;try simp only[dt] at h3
     refine⟨?_,?_⟩;refine⟨((Prod.fst x1),(Prod.fst x1)),?_⟩;grind[zH,FN,zI,rH,lc,ln]
     . intro x4 h5;with_reducible and_intros
       iterate 2 grind
       . intro h8;try simp only[V.amI,dt] at h8
         with_reducible and_intros
         omega;omega
         . refine⟨((Prod.fst x4+nat_lit 1),(Prod.fst x1)),?_⟩;try dsimp only
           with_reducible and_intros
           rfl;grind[ajc];rfl;first|omega|with_reducible rfl|exact hp|exact zH _|exact FN h3|exact zI iK|exact rH h2 v!|grind[lc,ln,ag,S.len]
       . intro h9;refine⟨?_,?_⟩
         . intro ez;try simp only[dt] at ez
           with_reducible and_intros
           omega;omega;have hr:=h5.1.1;have hr2:=h5.1.2.1;omega;grind[zH,FN,zI,rH,lc,ln];first|omega|with_reducible rfl|exact hp|exact zH _|exact FN h3|exact zI iK|exact rH h2 v!|(have:=h2.2.1;have:=h2.2.2;grind)
           omega;have hr:=h5.1.1;have hr2:=h5.1.2.1;omega
           . refine⟨((Prod.fst x4+nat_lit 1),(Prod.snd x1++[eS (take (toNat (↑(Prod.fst x4):Int)-toNat (↑(Prod.fst x1):Int)) (drop (toNat (↑(Prod.fst x1):Int)) (S.decode b)))])),?_⟩;try dsimp only
             with_reducible and_intros
             rfl;rfl;grind[ajd];first|omega|with_reducible rfl|exact hp|exact zH _|exact FN h3|exact zI iK|exact rH h2 v!|grind[lc,ln,ag,S.len]
         . intro iZ;try simp only[df] at iZ
           with_reducible and_intros
           omega;omega
           . refine⟨((Prod.fst x4+nat_lit 1),(Prod.snd x1)),?_⟩;try dsimp only
             with_reducible and_intros
             rfl;rfl;grind[S.Ħ];have hr:=h5.1.1;grind[ag,S.len]
   intro jV;grind[zH,FN,zI,rH,lc,ln]
def aGT(l:O)(hf:Vg.fS J.yP l):(∃(x1:Nat),((1:Int)=x1/\(0:Int)=dQ l x1)/\uw l x1)/\(∀(x2:Nat),uw l x2->dp (decide (x2<bE l)) (bH 0 x2 (bE l)/\bH 0 (dQ l x2) (bE l)/\dh x2 (∃(x3:Nat),iw x2 x3 ((bif Op.bytesLess (ew l x2) (ew l (dQ l x2)) then(x2:Int) else(dQ l x2:Int))=dQ l x3) (uw l x3) (S.len l))) ((dQ l x2:Int)=dR l)):=by
 refine ar ?_;have C7:Vg.hlen l:=hf.1.1;clear hf;refine⟨?_,?_⟩
 . refine⟨1,?_⟩;try dsimp only
   with_reducible and_intros
   omega;grind[YL];exact⟨Nat.le_refl _,.inr rfl⟩
 intro x1 h2;refine⟨?_,?_⟩
 . intro h3;try simp only[dt] at h3
   with_reducible and_intros
   iterate 3 omega
   have:=B9 (l:=l) x1 w! (by have:=h2.2;omega);omega;iterate 2 omega
   refine⟨(x1+1),?_⟩;try dsimp only
   with_reducible and_intros
   omega;exact YN l x1;simp only[uw] at *;omega;simp only[ag,S.len];omega
 grind[df,S.ħ]
def aGU(l:O)(hp:S.small l):(∃(x1:O×O),(l=x1.1/\[]=x1.2)/\sM l x1.1 x1.2)/\(∀(x2:O×O),sM l x2.1 x2.2->dp (gF (Ar x2)) (dV (bH 0 (dR x2.1) (Ar x2)/\toNat (dR x2.1)<Ar x2/\AP x2.2 [C2 x2]/\(∃(x3:Nat×O×O×B8),((0:Int)=x3.1/\[]=x3.2.1)/\j9 x3.2.2.1 x3.2.2.2 x3.1 x3.2.1/\x2.1=x3.2.2.1/\C2 x2=x3.2.2.2)/\(∀(x4:Nat×O×O×B8),j9 x4.2.2.1 x4.2.2.2 x4.1 x4.2.1/\x2.1=x4.2.2.1/\C2 x2=x4.2.2.2->dp (decide ((x4.1:Int)<Ar x2)) (bH 0 x4.1 (Ar x2)/\toNat x4.1<Ar x2/\ov (LW (qS x2.1 (toNat x4.1)) (C2 x2)) (bH 0 x4.1 (Ar x2)/\toNat x4.1<Ar x2/\AP x4.2.1 [qS x2.1 (toNat x4.1)]/\cI (x4.1+1)/\(∃(x5:Nat×O×O×B8),mv (x4.1+1) x5.1 (x4.2.1++[qS x2.1 (toNat x4.1)]=x5.2.1) (j9 x5.2.2.1 x5.2.2.2 x5.1 x5.2.1/\x2.1=x5.2.2.1/\C2 x2=x5.2.2.2) (S.len x5.2.2.1) (ag (S.len x4.2.2.1) x4.1))) (x4.1+1) (∃(x6:Nat×O×O×B8),mv (x4.1+1) x6.1 (x4.2.1=x6.2.1) (j9 x6.2.2.1 x6.2.2.2 x6.1 x6.2.1/\x2.1=x6.2.2.1/\C2 x2=x6.2.2.2) (S.len x6.2.2.1) (ag (S.len x4.2.2.1) x4.1))) (∃(x7:O×O),(x4.2.1=x7.1/\x2.2++[C2 x2]=x7.2)/\sM l x7.1 x7.2/\S.len x7.1<S.len x2.1)))) (x2.2=S.sorted l)):=by
 refine ar ?_;have iK:l.length<=1099511627776:=hp;refine⟨?_,?_⟩;refine⟨((l),([])),?_⟩;grind[asZ];intro x1 h2;refine⟨?_,?_⟩
 . intro h3;simp only[dt] at h3;with_reducible and_intros
   trivial;omega
   iterate 2
    have:=Ca (l:=x1.1) w!;omega
   have:=h2.2;simp;omega
   . refine⟨(0,(([]),((x1.1),(getD (x1.1) (toNat (↑(dR (x1.1)):Int)) [])))),?_⟩;dsimp only;with_reducible and_intros
     omega;rfl;exact as1 _ _;iterate 2 rfl
   intro x4 h5;refine V.dI (λh6=>?_) λh9=>?_
   . with_reducible and_intros
     iterate 3 omega
     . intro h7;with_reducible and_intros
       iterate 3 omega
       have hr:=ajh h5.1;have:=h2.2;simp;omega
       omega;have:=h2.2;omega;refine⟨((x4.1+1),((x4.2.1++[getD (x1.1) (toNat (↑(x4.1):Int)) []]),((x1.1),(getD (x1.1) (toNat (↑(dR (x1.1)):Int)) [])))),?_⟩;try dsimp only
       with_reducible and_intros
       omega;with_reducible rfl
       exact S.Ī (HV h5) h6 (by simpa using h7);iterate 2 with_reducible rfl
       have e:x1.1=x4.2.2.1:=h5.2.1;simp only[ag,S.len,<-e];omega
     intro h8;with_reducible and_intros
     omega;have:=h2.2;omega;refine⟨((x4.1+1),((x4.2.1),((x1.1),(getD (x1.1) (toNat (↑(dR (x1.1)):Int)) [])))),?_⟩;try dsimp only
     with_reducible and_intros
     omega;with_reducible rfl
     exact S.ī (HV h5) h6 (by simpa using h8);iterate 2 with_reducible rfl
     have e:x1.1=x4.2.2.1:=h5.2.1;simp only[ag,S.len,<-e];omega
   refine⟨((x4.2.1),(x1.2++[getD (x1.1) (toNat (↑(dR (x1.1)):Int)) []])),?_⟩;with_reducible and_intros
   iterate 2 rfl
   exact(O0 h2 h3 (HV h5) h9).1;exact(O0 h2 h3 (HV h5) h9).2
 grind[df,ajg]
def aGV(b:B8)(hp:S.small b):qM b (S.small (aS b)/\S.sorted (aS b)=S.sorted (aS b)):=by
 refine ar ?_;grind[zJ,S.small]
def aGW(b t:B8)(hp:S.small b):qM b ((∃(x1:Nat×U),((0:Int)=(x1.1:Int)/\([]:U)=x1.2)/\lv (aS b) t x1.1 x1.2)/\(∀(x2:Nat×U),lv (aS b) t x2.1 x2.2->dp (decide ((x2.1:Int)<(length (aS b):Int))) (bH (0:Int) (x2.1:Int) (length (aS b):Int)/\toNat (x2.1:Int)<length (aS b)/\ov (decide (qS (aS b) (toNat (x2.1:Int))=t)) (AQ x2.2 [(x2.1:Int)]/\cI ((x2.1:Int)+(1:Int))/\(∃(x3:Nat×U),mv ((x2.1:Int)+(1:Int)) x3.1 (x2.2++[(x2.1:Int)]=x3.2) (lv (aS b) t x3.1 x3.2) (S.len (aS b)) (ag (S.len (aS b)) x2.1))) ((x2.1:Int)+(1:Int)) (∃(x4:Nat×U),mv ((x2.1:Int)+(1:Int)) x4.1 (x2.2=x4.2) (lv (aS b) t x4.1 x4.2) (S.len (aS b)) (ag (S.len (aS b)) x2.1))) (x2.2=S.places b t))):=by
 refine ar ?_;have hq:=zJ b;have iK:b.length<=1099511627776:=hp;refine⟨?_,?_,?_⟩;omega;refine⟨((nat_lit 0:Nat),([])),?_⟩;grind[rI,lZ,l4,nq,lc,ln]
 . intro x1 h2;refine⟨?_,?_⟩
   . intro h3;try simp at h3
     with_reducible and_intros
     omega;omega;omega
     . intro h4;with_reducible and_intros
       first|omega|with_reducible rfl|exact hp|exact rI _ _|exact lZ h2 h3 h4|exact l4 h2 h3 h5|exact nq h2 v!|(have:=h2.2.2;grind)
       omega;omega
       . refine⟨((Prod.fst x1+nat_lit 1),(Prod.snd x1++[(↑(Prod.fst x1):Int)])),?_⟩;with_reducible and_intros
         rfl;rfl;grind[rI,lZ,l4,nq,lc,ln];first|omega|with_reducible rfl|exact hp|exact rI _ _|exact lZ h2 h3 h4|exact l4 h2 h3 h5|exact nq h2 (by assumption)|grind[lc,ln,ag,S.len]
     . intro h5;with_reducible and_intros
       omega;omega
       . refine⟨((Prod.fst x1+nat_lit 1),(Prod.snd x1)),?_⟩;with_reducible and_intros
         rfl;rfl;grind[rI,lZ,l4,nq,lc,ln];first|omega|with_reducible rfl|exact hp|exact rI _ _|exact lZ h2 h3 h4|exact l4 h2 h3 h5|exact nq h2 v!|grind[lc,ln,ag,S.len]
   intro h6;grind[rI,lZ,l4,nq,lc,ln]
def aGX(s:B8):Bool.not (decide (s=s))=false:=by
 grind
def aGY(a b:B8):dV (yQ false (dp false (0=lL a b) (-1=lL a b)) (dp false (1=lL a b) (dp (Op.bytesLess a b) (-1=lL a b) (dp (Bool.not (Op.bytesLess a b||decide (a=b))) (1=lL a b) (0=lL a b))))):=by
 refine ar ?_;grind[lL,eI,pa,DF,nt,nf]
def aGZ(a b:B8):dV (dA (lL a b)=decide (a=b)):=by
 refine ar ?_;grind[as4]
def aG0(l:O)(hp:S.small l):cm (decide ((tC l:Int)<2)) (l=bT l) (∃(x1:Nat),(1:Int)=x1/\oc l x1) (∀(x2:Nat),oc l x2->dp (decide ((x2:Int)<tC l)) (bH 0 x2 (tC l)/\rW x2<tC l/\mu (x2-1) 0 (tC l) (toNat (x2-1)<tC l/\dV (rj (decide (qS l (rW x2)=qS l (toNat (x2-1)))) (ix x2 (tC l) ((∃(x3:Nat×Nat×O×Nat),((x2:Int)=x3.1/\(1:Int)=x3.2.1/\l=x3.2.2.1)/\jB l x3.2.2.2 x3.1 x3.2.1 x3.2.2.1/\(x2:Int)=x3.2.2.2)/\(∀(x4:Nat×Nat×O×Nat),jB l x4.2.2.2 x4.1 x4.2.1 x4.2.2.1/\(x2:Int)=x4.2.2.2->ca (decide ((x4.2.1:Int)<((tC l-rW x2:Nat):Int))) (bH 0 x4.2.1 ((tC l-rW x2:Nat):Int)/\rW x2+toNat x4.2.1<v7 x4/\mu (x4.2.1-1) 0 ((tC l-rW x2:Nat):Int) (rW x2+toNat (x4.2.1-1)<v7 x4/\gj (fj (WA x2 x4) (bH 0 x4.2.1 ((tC l-rW x2:Nat):Int)/\rW x2+toNat x4.2.1<v7 x4/\bH 0 x4.1 (v7 x4)/\xM x4<v7 x4/\cI (x4.1+1))) (cI (x4.2.1+1)/\(∃(x5:Nat×Nat×O×Nat),((bif WA x2 x4 then(x4.1:Int)+1 else(x4.1:Int))=x5.1/\(x4.2.1:Int)+1=x5.2.1/\(bif WA x2 x4 then List.set x4.2.2.1 (xM x4) (qS x4.2.2.1 (rW x2+toNat x4.2.1)) else x4.2.2.1)=x5.2.2.1)/\(jB l x5.2.2.2 x5.1 x5.2.1 x5.2.2.1/\(x2:Int)=x5.2.2.2)/\vR (S.len l) x5.2.1 x4.2.1)))) ((0:Int)<=x4.1/\(x4.1:Int)<=v7 x4) (xM x4+(v7 x4-xM x4)<=v7 x4) (ix x4.1 (bE (aae x4)) (take (xM x4) (aae x4)=bT l))))) x2 (∃(x6:Nat),oY x2 x6 (oc l x6) (S.len l))))) (l=bT l)):=by
 refine ar ?_;have iK:l.length<=1099511627776:=hp;refine V.dI (λh1=>?_) λh2=>?_;exact O5 h1;refine⟨?_,?_⟩;grind[anf];intro x3 h4;refine⟨?_,?_⟩
 . intro h5;try simp only[dt] at h5
   with_reducible and_intros
   iterate 5 omega
   have:=h4.1;omega;iterate 2 omega
   trivial
   . intro h6;try simp only[dt,tn] at h6
     with_reducible and_intros
     iterate 2 omega
     refine⟨((x3),(1,((l),(x3)))),?_⟩;grind[adB];intro x7 h8;refine⟨?_,?_⟩
     . intro h9;try simp at h9
       with_reducible and_intros
       iterate 2 omega
       have q1:=h8.1.1;have q2:=h8.1.2.1;have q3:=h8.1.2.2.2.1;have q4:=h8.1.2.2.2.2.1;have q5:=h8.2;omega
       iterate 2 omega
       have q1:=h8.1.1;have q2:=h8.1.2.1;have q3:=h8.1.2.2.2.1;have q4:=h8.1.2.2.2.2.1;have q5:=h8.2;omega
       omega;have q1:=h8.1.1;have q2:=h8.1.2.1;have q3:=h8.1.2.2.2.1;have q4:=h8.1.2.2.2.2.1;have q5:=h8.2;omega
       trivial
       . intro ez;with_reducible and_intros
         iterate 2 omega
         have q1:=h8.1.1;have q2:=h8.1.2.1;have q3:=h8.1.2.2.2.1;have q4:=h8.1.2.2.2.2.1;have q5:=h8.2;omega
         omega
         iterate 2
          have q1:=h8.1.1;have q2:=h8.1.2.1;have q3:=h8.1.2.2.2.1;have q4:=h8.1.2.2.2.2.1;have q5:=h8.2;omega
         omega;have q1:=h8.1.1;have q2:=h8.1.2.1;have q3:=h8.1.2.2.2.1;have q4:=h8.1.2.2.2.2.1;have q5:=h8.2;omega
       intro iZ;trivial;iterate 2 omega
       refine⟨((toNat (bif !Decidable.decide (getD (x7.2.2.1) (toNat (↑x3:Int)+toNat (↑(x7.2.1):Int)) []=getD (x7.2.2.1) (toNat (↑x3:Int)+toNat ((↑(x7.2.1):Int)-(1:Int))) []) then(↑(x7.1):Int)+(1:Int) else(↑(x7.1):Int))),((x7.2.1+1),((bif !Decidable.decide (getD (x7.2.2.1) (toNat (↑x3:Int)+toNat (↑(x7.2.1):Int)) []=getD (x7.2.2.1) (toNat (↑x3:Int)+toNat ((↑(x7.2.1):Int)-(1:Int))) []) then List.set (x7.2.2.1) (toNat (↑(x7.1):Int)) (getD (x7.2.2.1) (toNat (↑x3:Int)+toNat (↑(x7.2.1):Int)) []) else Prod.fst (x7.2.2)),(x3)))),?_⟩;try dsimp only
       with_reducible and_intros
       generalize (!decide (getD x7.2.2.1 (toNat (x3:Int)+toNat (x7.2.1:Int)) []=getD x7.2.2.1 (toNat (x3:Int)+toNat ((x7.2.1:Int)-1)) []))=c;cases c<;>simp only[K!,N!]<;>omega;omega;trivial;have q1:=h8.1.1;have e3:x7.2.2.2=x3:=by have:=h8.2;omega
       have hi:=h8.1;rw[e3] at hi;have e1:toNat (x3:Int)+toNat (x7.2.1:Int)=x3+x7.2.1:=by omega
       have e2:toNat (x3:Int)+toNat ((x7.2.1:Int)-1)=x3+x7.2.1-1:=by omega
       rw[e1,e2];by_cases hd:getD x7.2.2.1 (x3+x7.2.1) []=getD x7.2.2.1 (x3+x7.2.1-1) [];rw[M? hd];exact O6 hi w! hd;rw[f? hd];exact S7 hi w! hd;omega;simp only[ag,S.len];omega
     intro jV;with_reducible and_intros
     omega
     iterate 2
      have q1:=h8.1.2.1;have q2:=h8.1.2.2.2.1;have q3:=h8.1.2.2.2.2.1;omega
     omega;have q1:=h8.1.2.1;have q2:=h8.1.2.2.2.1;have q3:=h8.1.2.2.2.2.1;simp;omega;have q1:=h8.1.2.1;have q2:=h8.1.2.2.2.1;have q3:=h8.1.2.2.2.2.1;grind[toNat,LC,S8]
   intro oq;try simp only[df,tn] at oq
   with_reducible and_intros
   iterate 2 omega
   refine⟨(x3+1),?_⟩;grind[S5,ag,S.len]
 grind[df,YQ]
def aG1(l:O)(hp:S.small l):S.small l/\S.small l/\S.small (fh l)/\bT (fh l)=bT (fh l):=by
 grind[Vv]
def aG2(b:B8)(hp:S.small b):qM b (S.small (aS b)/\bT (fh (aS b))=S.sorted (aS b)):=by
 refine ar ?_;grind[Vu,O7]
def aG3(l:O)(hf:Vg.fS J.yP l):(∃(x1:Nat),(0:Int)=x1/\sN l x1)/\(∀(x2:Nat),rk (sN l x2) (decide (x2<bE l)) 0 x2 (bE l) (vU (E8 (ew l x2)) (cJ l) x2 (∃(x3:Nat),oY x2 x3 (sN l x3) (S.len l))) (true=cJ l)):=by
 refine ar ?_;have C7:Vg.hlen l:=hf.1.1;refine⟨?_,?_⟩;grind[as8];intro x1 h2;refine⟨?_,?_⟩
 . intro h3;simp only[dt] at h3;with_reducible and_intros
   iterate 2 omega
   intro h4;simp at h4;exact ajm h3 h4;intro h5;simp at h5;with_reducible and_intros
   iterate 2 omega
   refine⟨(x1+nat_lit 1),?_⟩;dsimp only;refine⟨?_,?_,?_⟩;omega;exact S.İ h2 h3 h5;simp[ag,S.len];omega
 grind[df,ajn]
def aG4(a b:B8):dV (bo a b=bo a b):=by
 refine ar ?_;grind
def aG5(s:O)(hp:yy s):mu (mM s-2) 0 (mM s) (toNat (mM s-2)<mM s/\mu (mM s-2+1) 0 (mM s) (toNat (mM s-2+1)<mM s/\dV (bH 0 (mM s-2) (mM s)/\toNat (mM s-2)<mM s/\LX (mM s-2+1) 0 (bE (aag s)) (take (toNat (mM s-2+1)) (aag s)=S.comb s)))):=by
 refine ar ?_;have h1:=hp.1;have h2:=hp.2;with_reducible and_intros
 iterate 10 omega
 trivial;iterate 6 omega
 grind;exact as7 hp
def aG6(l:O)(hp:cX l)(hf:Vg.fS J.ZX l):(∃(x1:Nat),((0:Int)=x1/\[]=eT l x1)/\gV l x1)/\(∀(x2:Nat),vT (gV l x2) (decide (x2<bE l)) 0 x2 (bE l) (ax (ew l x2)) (AP (eT l x2) [S.leaf (ew l x2)]/\dh x2 (∃(x3:Nat),iw x2 x3 (eT l x2++[S.leaf (ew l x2)]=eT l x3) (gV l x3) (S.len l))) (eT l x2=S.leaves l)):=by
 refine ar ?_;have C7:Vg.hlen l:=hf.1.1;clear hf;have h1:=hp.1;refine⟨?_,?_⟩
 . refine⟨0,?_⟩;try dsimp only
   with_reducible and_intros
   omega;rfl;grind[gV,ag,S.len]
 intro x1 h2;refine⟨?_,?_⟩
 . intro h3;try simp only[dt] at h3
   with_reducible and_intros
   iterate 2 omega
   exact fU hp v!;have:=EO l x1;simp only[lc,ln];omega;iterate 2 omega
   refine⟨(x1+1),?_⟩;try dsimp only
   with_reducible and_intros
   omega;exact eU v!;simp only[gV,ag,S.len] at *;omega;simp only[gV,ag,S.len] at *;omega
 grind[df,fT]
def aG7(l:O)(hp:eJ l):cm (dA (bE l)) (Qu jP (S.root l)) (∃(x1:Nat×O),((0:Int)=x1.1/\[]=x1.2)/\qA l x1.1 x1.2) (∀(x2:Nat×O),qA l x2.1 x2.2->cm (decide (x2.1<bE l)) (bH 0 x2.1 (bE l)/\AP x2.2 [ew l x2.1]/\(∃(x3:Nat×Nat×O×Nat),((x2.1:Int)=x3.2.1/\x2.2++[ew l x2.1]=x3.2.2.1)/\pb l x3.2.2.2 x3.1 x3.2.1 x3.2.2.1/\(x2.1:Int)=x3.2.2.2)/\(∀(x4:Nat×Nat×O×Nat),pb l x4.2.2.2 x4.1 x4.2.1 x4.2.2.1/\(x2.1:Int)=x4.2.2.2->(0:Int)<=x4.2.1/\(0:Int)<=1/\ov (J4 (Vg.aT x4.2.1 1)) (yy x4.2.2.1/\ix 1 64 (∃(x5:Nat×Nat×O×Nat),(kp x4.2.1 1=x5.2.1/\S.comb x4.2.2.1=x5.2.2.1)/\(pb l x5.2.2.2 x5.1 x5.2.1 x5.2.2.1/\(x2.1:Int)=x5.2.2.2)/\x5.2.1<x4.2.1)) (x2.1+1) (∃(x6:Nat×O),((x2.1:Int)+1=x6.1/\x4.2.2.1=x6.2)/\qA l x6.1 x6.2/\vR (S.len l) x6.1 x2.1))) (∃(x7:O),x2.2=x7/\qB l x7) (∀(x8:O),qB l x8->ca (decide ((1:Int)<length x8)) (yy x8/\(∃(x9:O),S.comb x8=x9/\qB l x9/\S.len x9<S.len x8)) ((0:Int)<=0/\(0:Int)<length x8) (toNat 0<length x8) (ew x8 0=S.root l))):=by
 refine ar ?_;have iK:=hp.2;refine V.dI (λh1=>?_) λh2=>?_;refine⟨?_,?_⟩;exact Nat.zero_le _;exact Tc h1;refine⟨?_,?_⟩;refine⟨(0,([])),?_⟩;grind[as5];intro x3 h4;refine V.dI (λh5=>?_) λez=>?_
 . with_reducible and_intros
   iterate 2 omega
   have:=YS h4;simp;omega
   . refine⟨(0,x3.1,x3.2++[getD l (toNat (x3.1:Int)) []],x3.1),?_⟩;try dsimp only
     with_reducible and_intros
     omega;with_reducible rfl
     exact aEd h4 h5;omega
   intro x6 h7;refine⟨?_,?_,?_,?_⟩;iterate 2 omega
   . intro h8;try simp at h8
     with_reducible and_intros
     exact anm (MO h7) h8 hp;iterate 2 omega
     refine⟨(x6.1+1,x6.2.1/2,S.comb x6.2.2.1,x3.1),?_⟩;try dsimp only
     with_reducible and_intros
     simp only[show toNat 1=1 by rfl];omega;with_reducible rfl
     exact(JC (MO h7) h8).1;omega;exact(JC (MO h7) h8).2.1
   intro h9;try simp at h9
   with_reducible and_intros
   iterate 2 omega
   refine⟨((x3.1+1),(x6.2.2.1)),?_⟩;try dsimp only
   with_reducible and_intros
   omega;with_reducible rfl
   exact anh (MO h7) h9;simp only[ag,S.len];omega
 refine⟨?_,?_⟩;refine⟨(x3.2),?_⟩;refine⟨?_,?_⟩;rfl;exact aEe h4 ez h2;intro Mu jV;refine⟨?_,?_⟩;intro oq;simp at oq;refine⟨?_,?_⟩;have:=anl jV;exact⟨w!,w!⟩;refine⟨(S.comb Mu),?_⟩;refine⟨?_,?_,?_⟩;rfl;exact(Tb jV oq).1;exact(Tb jV oq).2;grind[df,ank]
def aG8(l:O)(hp:S.small l):dV (ca (Bool.not (cJ l)) ([]=jS l/\1=xx l) (eJ l) (S.root l=jS l) (0=xx l)):=by
 refine ar ?_;have iK:l.length<=1099511627776:=hp;grind[nt,jS,xx,eJ,nf]
def aG9(n:Int):cm (Z3 n 2 1099511627776) (0=S.split n) (∃(x1:Nat×Int),1=x1.2/\jr n x1.2 x1.1) (∀(x2:Nat×Int),jr n x2.2 x2.1->cI (2*x2.2)/\dp (decide (2*x2.2<n)) (cI (2*x2.2)/\(∃(x3:Nat×Int),2*x2.2=x3.2/\jr n x3.2 x3.1/\Z5 (n-x3.2) (n-x2.2))) (x2.2=S.split n)):=by
 refine ar ?_;refine⟨?_,?_⟩;grind[YR];intro h2;simp at h2;refine⟨?_,?_⟩;refine⟨(0,1),?_⟩;grind[Lu];intro x3 h4;with_reducible and_intros
 iterate 2
  (have:=ka h4;omega)
 . intro h5;simp at h5;with_reducible and_intros
   (have:=ka h4;omega)
   omega;refine⟨(x3.1+1,2*x3.2),?_⟩;grind[ka,Ci]
 grind[df,ka,EN]
def aHa(m:Nat)(l:O)(hm:S.len l<m+1)(hp:eJ l)(hf:Vg.fS J.yP l):dp (dA (bE l)) (Qu jP (S.root l)) (ca (J4 (bE l)) (((0:Int)<=0/\0<bE l)/\ew l 0=S.root l) True (0<=S.split (bE l)/\S.split (bE l)<=bE l) ((S.len (QL l)<m/\eJ (QL l))/\ix (S.split (bE l)) (bE l) ((S.len (QK l)<m/\eJ (QK l))/\rl (S.root (QL l)++S.root (QK l)) (pv 1 (S.root (QL l)++S.root (QK l))=S.root l)))):=by
 refine ar ?_;refine⟨?_,?_⟩;intro h1;refine⟨?_,?_⟩;exact Nat.zero_le _;grind[Tc]
 . intro h2;simp only[df] at h2;refine⟨?_,?_⟩;grind[iq,DG]
   . intro h4;simp at h4;with_reducible and_intros
     trivial;first|omega|(have hq:=iq hp w!;omega)
     first|omega|(have hq:=iq hp w!;omega)
     first|omega|(have hq:=iq hp w!;grind[S.len])
     first|omega|(have hq:=iq hp w!;grind)
     first|omega|(have hq:=iq hp w!;omega)
     first|omega|(have hq:=iq hp w!;omega)
     first|omega|(have hq:=iq hp w!;grind[S.len])
     first|omega|(have hq:=iq hp w!;grind)
     first|omega|(have hq:=iq hp w!;grind)
     first|omega|(have hq:=iq hp w!;grind)
def aHb(l:O)(hp:cX l):(∃(x1:Nat),((0:Int)=x1/\[]=eT l x1)/\gV l x1)/\(∀(x2:Nat),vT (gV l x2) (decide (x2<bE l)) 0 x2 (bE l) (ax (ew l x2)) (AP (eT l x2) [pv 0 (ew l x2)]/\dh x2 (∃(x3:Nat),iw x2 x3 (eT l x2++[pv 0 (ew l x2)]=eT l x3) (gV l x3) (S.len l))) (eT l x2=S.leaves l)):=by
 refine ar ?_;have h1:=hp.1;refine⟨?_,?_⟩
 . refine⟨(nat_lit 0:Nat),?_⟩;with_reducible and_intros
   rfl;rfl;first|omega|rfl|exact fU hp (by assumption)|exact eU (by assumption)|exact fT (by assumption)|grind[gV,ag,S.len]|(omega)
 . intro x1 h2;refine⟨?_,?_⟩
   . intro h3;simp only[dt] at h3;with_reducible and_intros
     first|omega|rfl|exact fU hp (by assumption)|exact eU (by assumption)|exact fT (by assumption)|(omega)|(omega)
     first|omega|rfl|exact fU hp (by assumption)|exact eU (by assumption)|exact fT (by assumption)|(omega)|(omega)
     first|omega|rfl|exact fU hp (by assumption)|exact eU (by assumption)|exact fT (by assumption)|(omega)|(omega)
     first|omega|rfl|exact fU hp (by assumption)|exact eU (by assumption)|exact fT (by assumption)|(omega)|(have:=EO l x1;simp;omega)
     first|omega|rfl|exact fU hp (by assumption)|exact eU (by assumption)|exact fT (by assumption)|(omega)|(omega)
     first|omega|rfl|exact fU hp (by assumption)|exact eU (by assumption)|exact fT (by assumption)|(omega)|(omega)
     . refine⟨(x1+nat_lit 1),?_⟩;with_reducible and_intros
       first|omega|rfl|exact fU hp (by assumption)|exact eU (by assumption)|exact fT (by assumption)|(omega)|(omega)
       first|omega|rfl|exact fU hp (by assumption)|exact eU (by assumption)|exact fT (by assumption)|(omega)|(omega)
       first|omega|rfl|exact fU hp (by assumption)|exact eU (by assumption)|exact fT (by assumption)|(simp[gV,ag,S.len] at *;omega)|(omega)
       first|omega|rfl|exact fU hp (by assumption)|exact eU (by assumption)|exact fT (by assumption)|(simp[gV,ag,S.len] at *;omega)|(omega)
   intro h4;simp only[df] at h4;first|omega|rfl|exact fU hp (by assumption)|exact eU (by assumption)|exact fT (by assumption)|(omega)|(omega)
def aHc(n:Int):cm (Z3 n 2 1099511627776) (0=S.split n) (∃(x1:Nat×Int),1=x1.2/\jr n x1.2 x1.1) (∀(x2:Nat×Int),jr n x2.2 x2.1->cI (2*x2.2)/\dp (decide (2*x2.2<n)) (cI (x2.2*2)/\(∃(x3:Nat×Int),x2.2*2=x3.2/\jr n x3.2 x3.1/\Z5 (n-x3.2) (n-x2.2))) (x2.2=S.split n)):=by
 refine ar ?_;refine⟨?_,?_⟩;grind[YR];intro h2;simp at h2;refine⟨?_,?_⟩;refine⟨(0,1),?_⟩;grind[Lu];intro x3 h4;with_reducible and_intros
 iterate 2
  (have:=ka h4;omega)
 . intro h5;simp at h5;with_reducible and_intros
   (have:=ka h4;omega)
   omega;refine⟨(x3.1+1,2*x3.2),?_⟩;grind[ka,Ci]
 grind[df,ka,EN]
def aHd(l:O)(i:Int)(hp:fa l):dV (cm (kI (Bool.not (cJ l)) (TT i 0 (bE l))) ([]=oC l i/\1=tj l i) (∃(x1:O×Int×O),(l=x1.1/\i=x1.2.1/\[]=x1.2.2)/\gw l i x1) (∀(x2:O×Int×O),gw l i x2->ca (decide (1<bE x2.1)) (dV (ca (decide (x2.2.1<wa x2)) (ix (wa x2) (bE x2.1) (eJ (QR x2)/\length x2.2.2+length [S.root (QR x2)]<=8796093022208/\ix (wa x2) (bE x2.1) (∃(x3:O×Int×O),(QQ x2=x3.1/\x2.2.1=x3.2.1/\x2.2.2++[S.root (QR x2)]=x3.2.2)/\gw l i x3/\S.len x3.1<S.len x2.1))) (0<=wa x2/\wa x2<=bE x2.1) (eJ (QQ x2)) (length x2.2.2+length [S.root (QQ x2)]<=8796093022208/\ix (wa x2) (bE x2.1) (cI (x2.2.1-wa x2)/\(∃(x4:O×Int×O),(QR x2=x4.1/\x2.2.1-wa x2=x4.2.1/\x2.2.2++[S.root (QQ x2)]=x4.2.2)/\gw l i x4/\S.len x4.1<S.len x2.1))))) (S.small x2.2.2) (PC x2.2.2=oC l i) (0=tj l i))):=by
 refine ar ?_;have iK:l.length<=1099511627776:=hp;refine⟨?_,?_,?_⟩;trivial;intro h1;grind[aEo];intro h2;refine⟨?_,?_⟩;refine⟨((l),((i),([]))),?_⟩;grind[ajV];intro x3 h4;refine⟨?_,?_⟩
 . intro h5;try simp only[dt] at h5
   refine⟨?_,?_,?_⟩;trivial
   . intro h6;with_reducible and_intros
     iterate 2
      (have q:=Ii iK h4 h5;omega)
     iterate 2
      (have q:=Ii iK h4 h5;grind)
     iterate 2
      (have q:=Ii iK h4 h5;omega)
     refine⟨((take (toNat (S.split (↑(length (x3.1)):Int))) (x3.1)),((x3.2.1),(x3.2.2++[S.root (drop (toNat (S.split (↑(length (x3.1)):Int))) (x3.1))]))),?_⟩;try dsimp only
     with_reducible and_intros
     iterate 3 rfl
     grind[aEp]
     (have q:=Ii iK h4 h5;omega)
   intro h7;try simp only[df] at h7
   with_reducible and_intros
   iterate 2
    (have q:=Ii iK h4 h5;omega)
   (have q:=Ii iK h4 h5;grind)
   (have q:=Ii iK h4 h5;exact q.2.2.2.1 _)
   iterate 4
    (have q:=Ii iK h4 h5;omega)
   refine⟨((drop (toNat (S.split (↑(length (x3.1)):Int))) (x3.1)),((x3.2.1-S.split (↑(length (x3.1)):Int)),(x3.2.2++[S.root (take (toNat (S.split (↑(length (x3.1)):Int))) (x3.1))]))),?_⟩;try dsimp only
   with_reducible and_intros
   iterate 3 with_reducible rfl
   exact aEq iK h4 h5 h7
   (have q:=Ii iK h4 h5;omega)
 grind[df,aEr,atL]
def aHe(l:U)(hf:Vg.fS J.CN l):(∃(x1:Nat),((0:Int)=x1/\-1=fL l x1)/\mn l x1)/\(∀(x2:Nat),rk (mn l x2) (decide (x2<cQ l)) 0 x2 (cQ l) (vU (kI (decide (jk l x2<=fL l x2)) (decide (1000<=jk l x2))) (bq l) x2 (∃(x3:Nat),iw x2 x3 (jk l x2=fL l x3) (mn l x3) (S.len l))) (true=bq l)):=by
 refine ar ?_;have C7:Vg.hlen l:=hf.1.1;refine⟨?_,?_⟩;grind[vt,as9];intro x1 h2;refine⟨?_,?_⟩
 . intro h3;simp only[dt] at h3;with_reducible and_intros
   iterate 2 omega
   intro h4;simp at h4;exact ajo h3 h4;intro h5;simp only[V.pr,df,tn] at h5;with_reducible and_intros
   iterate 2 omega
   refine⟨(x1+nat_lit 1),?_⟩;dsimp only;with_reducible and_intros
   omega;rw[lM,tn];exact S.ı h2 h3 h5;simp[ag,S.len];omega
 grind[df,ajp]
def aHf(l:U)(hf:Vg.fS J.CN l):dV (ca (IA l) (1=qC l/\[]=l7 l) (nC jP) (∃(x1:Nat),((0:Int)=x1/\-1=fL l x1/\ml jP (length l)=dy l x1)/\x1<=length l) (∀(x2:Nat),vX (x2<=length l) (decide ((x2:Int)<length l)) x2 (length l) (cI (jk l x2-fL l x2)/\cI (jk l x2-fL l x2-1)/\nC jP/\nD (dy l x2) (ml jP (jk l x2-fL l x2-1))/\dh x2 (∃(x3:Nat),iw x2 x3 (jk l x2=fL l x3/\dy l x2++ml jP (jk l x2-fL l x2-1)=dy l x3) (x3<=length l) (S.len l))) (0=qC l) (dy l x2=l7 l))):=by
 refine ar ?_;have C7:Vg.hlen l:=hf.1.1;clear hf;refine⟨?_,?_,?_⟩;trivial;grind[nt,qC,l7];intro h2;try simp only[nf] at h2
 refine⟨?_,?_,?_⟩;grind;grind[vt,od,Te,JD];intro x3 h4;refine⟨?_,?_⟩
 . intro h5;try simp only[dt] at h5
   with_reducible and_intros
   iterate 2 omega
   iterate 4
    have:=DH h2 h5;omega
   exact R! _;have:=(xz h2 h5 (getD l (toNat (x3:Int)) 0-fL l x3-1)).1;omega;iterate 2 omega
   refine⟨(x3+1),?_⟩;try dsimp only
   with_reducible and_intros
   omega;rw[lM,tn];exact Pc h2 h5;omega;simp only[ag,S.len];omega
 grind[df,qC,ajq]
def aHg(l:U):dV (ca (cR (qC l)) ([]=vr l/\qC l=qC l) (ax (l7 l)) (lX 2 (l7 l)=vr l) (0=qC l)):=by
 refine ar ?_;refine⟨?_,?_,?_⟩;trivial;grind[nt,df,bq,absurd,qC,vr];intro h2;simp at h2;refine⟨?_,?_,?_⟩
 have hq:bq l=true:=by
  grind[bq,qC,absurd]
 have hl:=zM hq;simp[l7,vr,hq,P?,ax];omega
 have hq:bq l=true:=by
  grind[bq,qC,absurd]
 simp_all[zM,l7,vr,P?,ax]
 omega
def aHh(n:Int)(p q:Bool)(s1 s2:Int):E4 s1 n (decide (n<s2))=xy n s1 s2/\s1=s1/\s2=s2:=by
 refine ar ?_;grind[xy]
def auP(a b:U)(s1 s2:Int)(hp:b.length=0):dV (gj (∃(x1:U×U),((bif IA a then([]:U) else a)=x1.1/\(bif IA b then([]:U) else b)=so/\[]=x1.2/\s1=s1/\s2=s2)/\nr a s1 s2 x1.1 x1.2) (∀(x2:U×U),nr a s1 s2 x2.1 x2.2->ca (Iz (gF (cQ x2.1)) 0 IB) (fj (gF (cQ x2.1)) (IF (dA IB) 0 (cQ x2.1) IB)/\fj (gF IB) (IF (dA (cQ x2.1)) 0 IB (cQ x2.1))/\fj (QJ x2) (IG 0 (cQ x2.1) 1)/\fj (QI x2) (IG 0 IB 1)/\yQ (xy (Wr x2) s1 s2) (AQ x2.2 [Wr x2]/\(∃(x3:U×U),(sV (QJ x2) 1 x2.1=x3.1/\sV (QI x2) 1 so=so/\x2.2++[Wr x2]=x3.2/\s1=s1/\s2=s2)/\nr a s1 s2 x3.1 x3.2/\S.len x3.1<S.len x2.1)) (∃(x4:U×U),(sV (QJ x2) 1 x2.1=x4.1/\sV (QI x2) 1 so=so/\x2.2=x4.2/\s1=s1/\s2=s2)/\nr a s1 s2 x4.1 x4.2/\S.len x4.1<S.len x2.1)) (s1=s1) (s2=s2) (x2.2=Pa a s1 s2))):=by
 refine ar ?_;have hb:b=[]:=List.eq_nil_of_length_eq_zero hp;subst hb;refine⟨trivial,trivial,?_,?_⟩;refine⟨(we a,[]),⟨?_,?_,rfl,rfl,rfl⟩,ata a s1 s2⟩;grind[we,bq];rfl;rintro⟨r,out⟩ h;have hl:=h.2;cases r with
 |nil=>grind[so,ajs]
 |cons n r=>
  simp[so];refine⟨w!,λhn=>⟨?_,?_⟩,λhn=>?_⟩;grind;exact⟨r,out++[n],⟨rfl,rfl⟩,ajr h hn,by simp[S.len]⟩;exact⟨r,out,⟨rfl,rfl⟩,ano h hn,by simp[S.len]⟩
def auQ(l:U)(s1 s2:Int):length (Vg.pO Int)=0/\Pa l s1 s2=Pa l s1 s2:=by
 grind
def auR(l:U)(hp:bq l=true)(hf:Vg.fS J.CN l):(0:Int)<=vZ l/\(∃(x1:Nat),((0:Int)=x1/\S.num (vZ l)=dy l x1)/\x1<=vZ l)/\(∀(x2:Nat),x2<=vZ l->dp (decide ((x2:Int)<vZ l)) (cm (dA x2) (((0:Int)<=0/\(0:Int)<vZ l)/\0<=gT l/\LY (length (dy l x2)) (S.num (gT l))/\dh x2 (∃(x3:Nat),mv (x2+1) x3 (dy l x2++S.num (gT l)=dy l x3) (x3<=vZ l) (S.len l) (ag (S.len l) x2))) (bH 0 x2 (vZ l)) (mu (x2-1) 0 (vZ l) (cI (Ks l x2)/\cI (Ks l x2-1)/\0<=Ks l x2-1/\LY (length (dy l x2)) (S.num (Ks l x2-1))/\dh x2 (∃(x4:Nat),mv (x2+1) x4 (dy l x2++S.num (Ks l x2-1)=dy l x4) (x4<=vZ l) (S.len l) (ag (S.len l) x2))))) (dy l x2=tf l)):=by
 refine ar ?_;have C7:Vg.hlen l:=hf.1.1;refine⟨?_,?_,?_⟩;omega;grind[JD]
 . intro x1 h2;refine⟨?_,?_⟩
   . intro h3;simp only[dt] at h3;refine⟨?_,?_⟩
     . intro h4;simp only[dt] at h4;with_reducible and_intros
       omega;omega;have:=DH hp h3;rw[show(x1:Int)=0 by omega] at this;exact this.2.2;have:=(xz hp h3 (getD l (toNat 0) 0)).2;omega;omega;omega
       . refine⟨(x1+nat_lit 1),?_⟩;dsimp only;with_reducible and_intros
         omega;exact Vs h4;omega;simp[ag,S.len];omega
     . intro h5;simp only[df] at h5;with_reducible and_intros
       omega;omega;omega;omega;omega;omega
       iterate 5
        have:=DH hp h3;rw[Pb w!];omega
       have:=(xz hp h3 (getD l (toNat (x1:Int)) 0-getD l (toNat ((x1:Int)-1)) 0-1)).2;omega;omega;omega
       . refine⟨(x1+nat_lit 1),?_⟩;dsimp only;with_reducible and_intros
         omega;exact YT h5;omega;simp[ag,S.len];omega
   intro h6;simp at h6;rw[show x1=l.length by omega];rfl
def auS(l:U)(hp:bq l=true):bq l/\rl (tf l) (pv 2 (tf l)=l8 l):=by
 refine ar ?_;refine⟨?_,?_,?_⟩;omega;grind[zM,ax];rfl
def auT(a b:U)(hf:Vg.fS J.Qh (a,b)):cm (oX (cQ a) (cQ b)) (false=pA a b) (∃(x1:Nat),(0:Int)=x1/\wO a b x1) (∀(x2:Nat),rk (wO a b x2) (decide (x2<cQ a)) 0 x2 (cQ a) (bH 0 x2 (cQ b)/\vU (oX (getD a (toNat x2) 0) (getD b (toNat x2) 0)) (pA a b) x2 (∃(x3:Nat),oY x2 x3 (wO a b x3) (S.len a))) (true=pA a b)):=by
 refine ar ?_;have II:Vg.hlen a:=hf.1.1;refine⟨?_,?_⟩;grind[nt,df,aju];intro h2;simp at h2;refine⟨?_,?_⟩;grind[atb];intro x3 h4;refine⟨?_,?_⟩
 . intro h5;simp only[dt] at h5;with_reducible and_intros
   iterate 4 omega
   intro h6;simp at h6;exact ajt h6;intro h7;simp at h7;with_reducible and_intros
   iterate 2 omega
   refine⟨(x3+nat_lit 1),?_⟩;dsimp only;refine⟨?_,?_,?_⟩;omega;exact S.Ĳ h4 h5 h7;simp[ag,S.len];omega
 grind[df,ajv]
def auU(d:M (B8×U))(hp:aY d):(∃(x1:Nat),(0:Int)=x1/\Lv d x1)/\(∀(x2:Nat),vT (Lv d x2) (decide (x2<lB d)) 0 x2 (lB d) (fj (gF x2) (cI (x2-1)/\bH 0 (x2-1) (lB d))) (cm (om (gF x2) (aeO (lC d x2).1 (lC d (x2-1)).1)) (false=aQ d) (tJ (dA (cQ (lC d x2).2)) (dV (tJ (IA (lC d x2).2) (S.small (lC d x2).1)))) (vU (kI (dA (cQ (lC d x2).2)) (xd (IA (lC d x2).2) (S.isTerm (lC d x2).1))) (aQ d) x2 (∃(x3:Nat),oY x2 x3 (Lv d x3) (S.len d)))) (true=aQ d)):=by
 refine ar ?_;have iK:=hp.1;refine⟨?_,?_⟩;grind[aKN];intro x1 h2;refine⟨?_,?_⟩
 . intro h3;simp only[dt] at h3;with_reducible and_intros
   iterate 2 omega
   iterate 2 grind
   intro h6;simp only[V.amI,dt] at h6;refine adD h3 ((Pd _ _).2 (.inl ⟨w!,?_⟩));have e:toNat ((x1:Int)-1)=x1-1:=by omega
   have h62:=h6.2;rw[e] at h62;exact h62;intro h7;simp only[V.MM,df] at h7;with_reducible and_intros
   grind;intro h9;refine⟨?_,?_,?_⟩;trivial;grind;intro iZ;exact ajw hp;intro jV;simp only[V.HF,dt,tn,nt] at jV;exact adD h3 ((Pd _ _).2 (.inr (jV.imp (λq=>by grind[jD]) id)));intro oq;simp at oq;with_reducible and_intros
   iterate 2 omega
   refine⟨(x1+nat_lit 1),?_⟩;dsimp only;refine⟨?_,?_,?_⟩;omega
   . refine anp h2 h3 ((vv _ _).2 ⟨?_,?_,oq.2.1,oq.2.2⟩);rotate_left;grind[jD];rcases h7 with h7|h7;omega;right;have e:toNat ((x1:Int)-1)=x1-1:=by omega
     rw[e] at h7;exact h7
   grind[ag,S.len]
 grind[df,atc]
def auV(l1 l2 l3:B8):ca (Iw 64 (fB l1) (Iw 64 (fB l2) (oX (length l3) 32))) ([]=dK l1 l2 l3/\1=kD l1 l2 l3) (oR jP l1) (oR ([]++S.text l1) l2) (IC ([]++S.text l1++S.text l2) (length l3)/\[]++S.text l1++S.text l2++l3=dK l1 l2 l3/\0=kD l1 l2 l3):=by
 refine ar ?_;refine⟨?_,?_⟩;simp_all[V.HF,dt,nt,df,S.ĸ,dK,kD]
 intro h2;simp only[V.pr,df,nf,dt] at h2;apply QS;exact Lx (Nat.zero_le _) w!;have t1:=yB (s:=l1);exact Lx (by rw[List.nil_append];omega) w!;grind[Cp,sO,yB,List.length_append,ln];have hq:=Cp h2;simp only[dK,hq,if_true];rfl;simp_all[Cp,sO,yB,kD,if_true]
def auW(b:B8)(hp:b.length<=140737488355328):jI b/\jI (ao b 0 0 64).1.1/\jI (Ke b).1.1/\yQ (cR (S.done (CX b).1.1 (CX b).1.2.1 (CX b).1.2.2)) ([]=(bh b).1.1/\[]=(bh b).1.2.1/\[]=(bh b).1.2.2/\S.done (CX b).1.1 (CX b).1.2.1 (CX b).1.2.2=(bh b).2) ((ao b 0 0 64).2=(bh b).1.1/\(Ke b).2=(bh b).1.2.1/\(CX b).2=(bh b).1.2.2/\0=(bh b).2):=by
 refine ar ?_;refine⟨hp,?_,?_,trivial,λh=>?_,λh=>?_⟩;grind[Cn];grind[Cn];have h':(!decide (S.done (vu b).1.1 (vu b).1.2.1 (vu b).1.2.2=0))=true:=h
 have e:bh b=(([],[],[]),S.done (vu b).1.1 (vu b).1.2.1 (vu b).1.2.2):=by
  simp_all[bh,W!,M?]
 rw[e];exact⟨rfl,rfl,rfl,rfl⟩;have h':(!decide (S.done (vu b).1.1 (vu b).1.2.1 (vu b).1.2.2=0))=false:=h
 have e:bh b=(((S.ĳ b).2,(Vt b).2,(vu b).2),0):=by
  grind[bh]
 rw[e];exact⟨rfl,rfl,rfl,rfl⟩
def auX(d:M (B8×U))(hp:aY d):vV d (ov (Bool.not (aQ d)) (1=dE d/\[]=bD d) (tw d+1) ((∃(x1:Nat),((0:Int)=x1/\[]=e9 d x1)/\x1<=tw d+1)/\(∀(x2:Nat),x2<=tw d+1->cm (decide ((x2:Int)<tw d+1)) (fj (gF x2) (mu (x2-1) 0 (tw d) (cI (x2-1)/\bH 0 (x2-1) (tw d)))/\fj (decide ((x2:Int)<tw d)) (bH 0 x2 (tw d))/\dV (gj (AO (length (e9 d x2)+length (Ū d x2))) (dh x2 (∃(x3:Nat),iw x2 x3 (e9 d x2++Ū d x2=e9 d x3) (x3<=tw d+1) (S.len d+1))))) (0=dE d) (e9 d x2=bD d)))):=by
 refine ar ?_;have iK:=hp.1;refine⟨?_,?_,?_⟩;omega;grind[nt,dE,bD];intro h2;simp at h2;with_reducible and_intros
 iterate 2 omega
 . refine⟨(nat_lit 0:Nat),?_⟩;dsimp only;with_reducible and_intros
   omega;rfl;omega
 intro x3 h4;refine V.dI (λh5=>?_) λez=>?_
 . with_reducible and_intros
   . intro h6;simp at h6;with_reducible and_intros
     iterate 8 omega
   intro h7;trivial;intro h8;try simp at h8
   refine⟨?_,?_⟩;omega;omega;intro h9;trivial;iterate 2 trivial
   rw[FP];simp;omega;iterate 2 omega
   refine⟨(x3+nat_lit 1),?_⟩;try dsimp only
   with_reducible and_intros
   omega;rw[ate h2 w!,Lw];omega;simp[ag,S.len];omega
 refine⟨?_,?_⟩;simp only[dE,h2];rfl;simp[bD,h2,P?];rw[show x3=d.length+1 by omega];rfl
def auY(d:M (B8×U))(hp:aY d):vV d (ca (cR (dE d)) ([]=xA d/\dE d=dE d) (cX (bD d)) (S.small (S.leaves (bD d))) (jS (S.leaves (bD d))=xA d/\xx (S.leaves (bD d))=dE d)):=by
 refine ar ?_;refine⟨?_,?_,?_⟩;omega;grind[nt,df,xA,aKO];intro h2;simp at h2;refine⟨?_,?_,?_,?_⟩;have hr:=H3 h2;have hq:=kF hp hr;simp_all[bD,fu,if_true]
 have hr:=H3 h2;have hq:=kF hp hr;have e:bD d=fu d:=by simp_all[bD,P?]
 rw[e];exact hq.2.2;have hr:=H3 h2;have hq:=kF hp hr;have e:bD d=fu d:=by simp_all[bD,P?]
 rw[e];simp[xA,jS,hr,hq.2.1,P?];rfl;have hr:=H3 h2;have hq:=kF hp hr;have e:bD d=fu d:=by simp_all[bD,P?]
 rw[e];simp[dE,xx,hr,hq.2.1,P?]
def auZ(d:M (B8×U))(t:B8)(hp:aY d):vV d (cm (Bool.not (aQ d)) (-1=bJ d t/\false=kT d t) (∃(x1:Nat),((0:Int)=x1/\-1=eu d t x1)/\x1<=length d) (∀(x2:Nat),vX (x2<=length d) (decide ((x2:Int)<length d)) x2 (length d) (dh x2 (∃(x3:Nat),iw x2 x3 ((bif aeO (lC d x2).1 t then(x2:Int) else eu d t x2)=eu d t x3) (x3<=length d) (S.len d))) (fj (nE (eu d t x2)) (bH 0 (eu d t x2) (length d))) ((bif nE (eu d t x2) then eu d t x2 else eu d t x2)=bJ d t/\Iy (nE (eu d t x2)) (lC d (eu d t x2)).1 t=kT d t))):=by
 refine ar ?_;have iK:=hp.1;refine⟨?_,?_,?_⟩;omega;intro h1;simp at h1;refine⟨?_,?_⟩;exact(Th h1).1;exact(Th h1).2;intro h2;simp at h2;refine⟨?_,?_⟩
 . refine⟨(nat_lit 0:Nat),?_⟩;dsimp only;with_reducible and_intros
   omega;rfl;omega
 intro x3 h4;refine V.dI (λh5=>?_) λh6=>?_
 . with_reducible and_intros
   iterate 4 omega
   refine⟨(x3+nat_lit 1),?_⟩;dsimp only;with_reducible and_intros
   omega;exact atf d t x3;omega;simp[ag,S.len];omega
 with_reducible and_intros
 intro h7;simp at h7;refine⟨?_,?_⟩;omega;have:=(H2 (d:=d) (t:=t) x3).2;omega;intro h8;trivial;rw[show x3=d.length by omega,anq h2];cases decide (0<=bJ d t)<;>rfl;rw[show x3=d.length by omega];exact anr h2
def au0(d:M (B8×U))(t:B8)(hp:aY d):vV d (ca (Bool.not (kT d t)) ([]=nu d t) (bH 0 (bJ d t) (lB d)) (S.small (lC d (bJ d t)).2) ((lC d (bJ d t)).2=nu d t)):=by
 refine ar ?_;grind[nt,atj,nf,MP,atk]
def au1(docs:O)(s1 s2:Int)(hf:Vg.fS J.Qi (docs,s1,s2)):(∃(x1:Nat),(0:Int)=x1/\qD docs x1)/\(∀(x2:Nat),rk (qD docs x2) (decide (x2<bE docs)) 0 x2 (bE docs) (vU (CT 2000 (ew docs x2)) (dS docs s1 s2) x2 (∃(x3:Nat),oY x2 x3 (qD docs x3) (S.len docs))) (E4 (bE docs) 1000 (E4 0 s1 (LU s1 s2 (bE docs)))=dS docs s1 s2)):=by
 refine ar ?_;have apR:Vg.hlen docs:=hf.1.1;refine⟨?_,?_⟩;grind[wQ]
 . intro x1 h2;refine⟨?_,?_⟩
   . intro h3;simp only[dt] at h3;with_reducible and_intros
     first|omega|exact wQ docs|(omega)
     first|omega|exact wQ docs|(omega)
     intro h4;simp at h4;exact Tf h3 h4
     . intro h5;simp only[df,tn] at h5;with_reducible and_intros
       first|omega|exact wQ docs|(omega)
       first|omega|exact wQ docs|(omega)
       refine⟨(x1+nat_lit 1),?_⟩;dsimp only;refine⟨?_,?_,?_⟩;first|omega|exact wQ docs|(omega)
       exact Ph h2 h3 w!;first|omega|exact wQ docs|(simp[ag,S.len];omega)
   intro h6;simp only[df] at h6;have q:=Tg h2 h6;simp[dS,q,Bool.true_and,vk]
def au2(b t:B8)(hp:S.small b):qM b (decide (0<cQ (S.places b t))=wP b t):=by
 refine ar ?_;refine⟨?_,?_⟩;omega;rfl
def au3(l1 l2 l3:B8)(hp:eE l1 l2 l3=true):qM l1 (qM l2 (nD (S.text l1) (S.text l2)/\nD (S.text l1++S.text l2) l3/\S.text l1++S.text l2++l3=mH l1 l2 l3)):=by
 refine ar ?_;have q:=(sO _ _ _).1 hp;have t1:=yB (s:=l1);have t2:=yB (s:=l2);apply QS;iterate 2 (grind[S.small])
 omega;grind;rfl
def au4(d:M (B8×U))(hp:aY d/\aQ d=true):(∃(x1:Nat),(-(1:Int)=x1-1/\[]=e9 d x1)/\x1<=tA d+1)/\(∀(x2:Nat),x2<=tA d+1->dp (decide ((x2:Int)-1<tA d)) (bq (Vg.pO Int)/\fj (nE (x2-1)) (bH 0 (x2-1) (tA d)/\bH 0 (x2-1) (tA d)/\bq (lC d (x2-1)).2)/\cI (x2-1+1)/\fj (decide ((x2:Int)-1+1<tA d)) (cI (x2-1+1)/\bH 0 (x2-1+1) (tA d))/\eE (Wz d x2) (Wx d x2) (Wy d x2)/\AO (length (e9 d x2)+length [mH (Wz d x2) (Wx d x2) (Wy d x2)])/\cI (x2-1+1)/\(∃(x3:Nat),((x2:Int)-1+1=x3-1/\e9 d x2++[mH (Wz d x2) (Wx d x2) (Wy d x2)]=e9 d x3)/\x3<=tA d+1/\vR (S.len d+1) x3 x2)) (e9 d x2=fu d)):=by
 refine ar ?_;have iK:=hp.1.1;refine⟨?_,?_⟩
 . refine⟨0,?_⟩;with_reducible and_intros
   rfl;rfl;omega
 . intro x1 h2;refine⟨?_,?_⟩
   . intro h3;simp at h3;with_reducible and_intros
     rfl
     . intro h4;simp at h4;with_reducible and_intros
       first|omega|exact hp.1|(omega)
       first|omega|exact hp.1|(omega)
       first|omega|exact hp.1|(omega)
       first|omega|exact hp.1|(omega)
       have e:toNat ((x1:Int)-1)=x1-1:=by omega
       rw[e];exact(vw hp.2 (i:=x1-1) w!).2
     intro h5;trivial;first|omega|exact hp.1|(omega)
     first|omega|exact hp.1|(omega)
     . intro h6;simp at h6;with_reducible and_intros
       first|omega|exact hp.1|(omega)
       first|omega|exact hp.1|(omega)
       first|omega|exact hp.1|(omega)
       first|omega|exact hp.1|(omega)
     intro h7;trivial;obtain⟨e1,e2,e3⟩:=adE d x1;rw[e1,e2,e3];rcases Co hp.2 (k:=x1) with q|q;exact q;omega;rw[FP];simp;omega;first|omega|exact hp.1|(omega)
     first|omega|exact hp.1|(omega)
     . refine⟨x1+1,?_⟩;with_reducible and_intros
       first|omega|exact hp.1|(omega)
       obtain⟨e1,e2,e3⟩:=adE d x1;rw[e1,e2,e3];exact Lw d x1;first|omega|exact hp.1|(omega)
       first|omega|exact hp.1|(simp[ag,S.len];omega)
   intro h8;simp at h8;rw[show x1=d.length+1 by omega];rfl
def au5(d:M (B8×U))(hp:aY d/\aQ d=true):vV d (aQ d=true)/\cX (fu d)/\eJ (S.leaves (fu d))/\S.root (S.leaves (fu d))=pc d:=by
 refine ar ?_;with_reducible and_intros
 grind;grind;grind[kF];grind[kF];rfl
def au6(a b:M (B8×U))(hf:Vg.fS J.aph (a,b)):cm (oX (lB a) (lB b)) (false=iT a b) (∃(x1:Nat),(0:Int)=x1/\mo a b x1) (∀(x2:Nat),rk (mo a b x2) (decide (x2<lB a)) 0 x2 (lB a) (bH 0 x2 (lB b)/\cm (LW (getD a (toNat x2) ([],[])).1 (getD b (toNat x2) ([],[])).1) True (bH 0 x2 (lB a)) (bH 0 x2 (lB b)/\True)/\vU (xd (LW (getD a (toNat x2) ([],[])).1 (getD b (toNat x2) ([],[])).1) (pA (getD a (toNat x2) ([],[])).2 (getD b (toNat x2) ([],[])).2)) (iT a b) x2 (∃(x3:Nat),oY x2 x3 (mo a b x3) (S.len a))) (true=iT a b)):=by
 refine ar ?_;have II:Vg.hlen a:=hf.1.1;clear hf;refine⟨?_,?_⟩;grind[nt,df,ke,gv]
 . intro h2;refine⟨?_,?_⟩;grind[ke,gv]
   . intro x3 h4;refine⟨?_,?_⟩
     . intro h5;try simp only[dt] at h5
       with_reducible and_intros
       first|omega|exact ke h2|exact gv h1|(omega)|(omega)
       first|omega|exact ke h2|exact gv h1|(omega)|(omega)
       first|omega|exact ke h2|exact gv h1|(omega)|(omega)
       first|omega|exact ke h2|exact gv h1|(omega)|(have:=h4.1;omega)
       intro h6;trivial
       . intro h7;with_reducible and_intros
         first|omega|exact ke h2|exact gv h1|(omega)|(have:=h4.1;omega)
         first|omega|exact ke h2|exact gv h1|(omega)|(omega)
         first|omega|exact ke h2|exact gv h1|(omega)|(omega)
         first|omega|exact ke h2|exact gv h1|(omega)|(have:=h4.1;omega)
         trivial
       intro h8;try simp only[V.HF,nt,df,tn] at h8
       refine S.Ķ (k:=x3) λe=>?_;rw[e] at h8;rcases h8 with q|q;exact q rfl;simp[pA] at q
       . intro h9;try simp at h9
         with_reducible and_intros
         first|omega|exact ke h2|exact gv h1|(omega)|(omega)
         first|omega|exact ke h2|exact gv h1|(omega)|(have:=h4.1;omega)
         refine⟨(x3+nat_lit 1),?_⟩;refine⟨?_,?_,?_⟩;first|omega|exact ke h2|exact gv h1|(simp only[ag,S.len];omega)|(have:=h4.1;omega)
         exact YU h4 h5 (Prod.ext h9.1 (by simpa[pA] using h9.2));first|omega|exact ke h2|exact gv h1|(simp only[ag,S.len];omega)|(have:=h4.1;omega)
     grind[df,S.ķ]
def au7(docs:O)(s1 s2:Int)(hp:gJ docs s1 s2):(∃(x1:Nat),(s1=s1+x1/\[]=b9 docs s1 x1)/\fV s1 s2 x1)/\(∀(x2:Nat),fV s1 s2 x2->ca (decide (s1+x2<s2)) (bH 0 (s1+x2) (bE docs)/\S.small (ew docs (s1+x2))/\AP (b9 docs s1 x2) (S.sorted (aS (ew docs (s1+x2))))/\cI (s1+x2+1)/\(∃(x3:Nat),(s1+x2+1=s1+x3/\b9 docs s1 x2++S.sorted (aS (ew docs (s1+x2)))=b9 docs s1 x3)/\fV s1 s2 x3/\vR (toNat (s2-s1)) x3 x2)) (S.small (b9 docs s1 x2)) (∃(x4:Nat),((0:Int)=x4/\[]=mS docs s1 s2 x4)/\gV (cB docs s1 s2) x4) (∀(x5:Nat),gV (cB docs s1 s2) x5->dp (decide ((x5:Int)<Kt docs s1 x2)) (bH 0 x5 (Kt docs s1 x2)/\toNat x5<Kt docs s1 x2/\(∃(x6:Nat×B8),(s1=s1+x6.1/\Gs docs s1 x2 x5=x6.2/\[]=cx docs s1 x6.2 x6.1)/\fV s1 s2 x6.1/\Gs docs s1 x2 x5=x6.2)/\(∀(x7:Nat×B8),vX (fV s1 s2 x7.1/\Gs docs s1 x2 x5=x7.2) (decide (s1+x7.1<s2)) (s1+x7.1) (bE docs) (bH 0 x5 (Kt docs s1 x2)/\toNat x5<Kt docs s1 x2/\qM (ew docs (s1+x7.1)) (ov (wP (ew docs (s1+x7.1)) (Gs docs s1 x2 x5)) (AQ (cx docs s1 x7.2 x7.1) [s1+x7.1]/\cI (s1+x7.1+1)/\(∃(x8:Nat×B8),(s1+x7.1+1=s1+x8.1/\x7.2=x8.2/\cx docs s1 x7.2 x7.1++[s1+x7.1]=cx docs s1 x8.2 x8.1)/\(fV s1 s2 x8.1/\Gs docs s1 x2 x5=x8.2)/\ag (toNat (s2-s1)) x8.1<ag (toNat (s2-s1)) x7.1)) (s1+x7.1+1) (∃(x9:Nat×B8),(s1+x7.1+1=s1+x9.1/\x7.2=x9.2/\cx docs s1 x7.2 x7.1=cx docs s1 x9.2 x9.1)/\(fV s1 s2 x9.1/\Gs docs s1 x2 x5=x9.2)/\ag (toNat (s2-s1)) x9.1<ag (toNat (s2-s1)) x7.1))) (LV (length (mS docs s1 s2 x5)+length [(x7.2,cx docs s1 x7.2 x7.1)])) (dh x5 (∃(WD:Nat),iw x5 WD (mS docs s1 s2 x5++[(x7.2,cx docs s1 x7.2 x7.1)]=mS docs s1 s2 WD) (gV (cB docs s1 s2) WD) (S.len (cB docs s1 s2)))))) (mS docs s1 s2 x5=S.make docs s1 s2))):=by
 refine ar ?_;have p1:=hp.1;have p2:=hp.2.1;have p3:=hp.2.2.1;have p4:=hp.2.2.2.1;refine⟨?_,?_⟩;grind[bk,aX,b9,cC,ans,fV]
 . intro x1 h2;refine⟨?_,?_⟩
   . intro h3;try simp only[dt] at h3
     with_reducible and_intros
     first|omega|rfl|(have q1:=bk hp x1;have q2:=aX (b9 docs s1 x1);have q3:=cC h2 p2;omega)
     first|omega|rfl|(have q1:=bk hp x1;have q2:=aX (b9 docs s1 x1);have q3:=cC h2 p2;omega)
     exact Pj hp _;have q1:=bk hp x1;have q2:=Cq hp (toNat (s1+(x1:Int)));simp only[fV] at h2;omega;first|omega|rfl|(have q1:=bk hp x1;have q2:=aX (b9 docs s1 x1);have q3:=cC h2 p2;omega)
     first|omega|rfl|(have q1:=bk hp x1;have q2:=aX (b9 docs s1 x1);have q3:=cC h2 p2;omega)
     . refine⟨x1+1,?_⟩;try dsimp only
       with_reducible and_intros
       first|omega|rfl|(have q1:=bk hp x1;have q2:=aX (b9 docs s1 x1);have q3:=cC h2 p2;omega)
       exact wR docs s1 x1;simp only[fV];omega;simp only[ag];omega
   . intro h4;try simp only[df] at h4
     refine⟨?_,?_,?_⟩;have q1:=bk hp x1;simp only[fV] at h2;simp only[S.small];omega
     . refine⟨(nat_lit 0:Nat),?_⟩;try dsimp only
       with_reducible and_intros
       first|omega|rfl|(have q1:=bk hp x1;have q2:=aX (b9 docs s1 x1);have q3:=cC h2 p2;omega)
       first|omega|rfl|(have q1:=bk hp x1;have q2:=aX (b9 docs s1 x1);have q3:=cC h2 p2;omega)
       exact R! _
     . intro x5 h6;refine⟨?_,?_⟩
       . intro h7;try simp only[dt] at h7
         with_reducible and_intros
         first|omega|rfl|(have q1:=bk hp x1;have q2:=aX (b9 docs s1 x1);have q3:=cC h2 p2;omega)
         first|omega|rfl|(have q1:=bk hp x1;have q2:=aX (b9 docs s1 x1);have q3:=cC h2 p2;omega)
         first|omega|rfl|(have q1:=bk hp x1;have q2:=aX (b9 docs s1 x1);have q3:=cC h2 p2;omega)
         . refine⟨(0,getD (S.sorted (b9 docs s1 x1)) (toNat (x5:Int)) []),?_⟩;try dsimp only
           with_reducible and_intros
           first|omega|rfl|(have q1:=bk hp x1;have q2:=aX (b9 docs s1 x1);have q3:=cC h2 p2;omega)
           first|omega|rfl|(have q1:=bk hp x1;have q2:=aX (b9 docs s1 x1);have q3:=cC h2 p2;omega)
           exact ajy _ _ _;simp only[fV];omega;first|omega|rfl|(have q1:=bk hp x1;have q2:=aX (b9 docs s1 x1);have q3:=cC h2 p2;omega)
         . intro x8 h9;refine⟨?_,?_⟩
           . intro ez;try simp only[dt] at ez
             with_reducible and_intros
             first|omega|rfl|(have q1:=bk hp x1;have q2:=aX (b9 docs s1 x1);have q3:=cC h2 p2;omega)
             first|omega|rfl|(have q1:=bk hp x1;have q2:=aX (b9 docs s1 x1);have q3:=cC h2 p2;omega)
             first|omega|rfl|(have q1:=bk hp x1;have q2:=aX (b9 docs s1 x1);have q3:=cC h2 p2;omega)
             first|omega|rfl|(have q1:=bk hp x1;have q2:=aX (b9 docs s1 x1);have q3:=cC h2 p2;omega)
             first|omega|rfl|(have q1:=bk hp x1;have q2:=aX (b9 docs s1 x1);have q3:=cC h2 p2;omega)
             exact Pj hp _
             . intro iZ;with_reducible and_intros
               have q:=Ly docs s1 x8.2 x8.1;simp only[lc,ln];omega;first|omega|rfl|(have q1:=bk hp x1;have q2:=aX (b9 docs s1 x1);have q3:=cC h2 p2;omega)
               first|omega|rfl|(have q1:=bk hp x1;have q2:=aX (b9 docs s1 x1);have q3:=cC h2 p2;omega)
               . refine⟨(x8.1+1,x8.2),?_⟩;try dsimp only
                 with_reducible and_intros
                 first|omega|rfl|(have q1:=bk hp x1;have q2:=aX (b9 docs s1 x1);have q3:=cC h2 p2;omega)
                 first|omega|rfl|(have q1:=bk hp x1;have q2:=aX (b9 docs s1 x1);have q3:=cC h2 p2;omega)
                 rw[h9.2] at iZ;exact Cr iZ;simp only[fV];omega;exact h9.2;simp only[ag];omega
             . intro jV;with_reducible and_intros
               first|omega|rfl|(have q1:=bk hp x1;have q2:=aX (b9 docs s1 x1);have q3:=cC h2 p2;omega)
               first|omega|rfl|(have q1:=bk hp x1;have q2:=aX (b9 docs s1 x1);have q3:=cC h2 p2;omega)
               . refine⟨(x8.1+1,x8.2),?_⟩;try dsimp only
                 with_reducible and_intros
                 first|omega|rfl|(have q1:=bk hp x1;have q2:=aX (b9 docs s1 x1);have q3:=cC h2 p2;omega)
                 first|omega|rfl|(have q1:=bk hp x1;have q2:=aX (b9 docs s1 x1);have q3:=cC h2 p2;omega)
                 rw[h9.2] at jV;exact FQ jV;simp only[fV];omega;exact h9.2;simp only[ag];omega
           . intro oq;try simp only[df] at oq
             with_reducible and_intros
             have q:=YX docs s1 s2 x5;have q1:=bk hp x1;have q2:=aX (b9 docs s1 x1);have q3:=cC h2 p2;simp only[lc,ln];omega;first|omega|rfl|(have q1:=bk hp x1;have q2:=aX (b9 docs s1 x1);have q3:=cC h2 p2;omega)
             first|omega|rfl|(have q1:=bk hp x1;have q2:=aX (b9 docs s1 x1);have q3:=cC h2 p2;omega)
             . refine⟨(x5+nat_lit 1),?_⟩;try dsimp only
               with_reducible and_intros
               first|omega|rfl|(have q1:=bk hp x1;have q2:=aX (b9 docs s1 x1);have q3:=cC h2 p2;omega)
               have e:=yC (docs:=docs) h2 h4;have h92:=h9.2;rw[e.1] at h7 h92;exact H4 w! (yC (docs:=docs) h9.1 oq).2 h92;have e:=yC (docs:=docs) h2 h4;rw[e.1] at h7;simp only[gV,ag,S.len];omega;have e:=yC (docs:=docs) h2 h4;rw[e.1] at h7;simp only[gV,ag,S.len];omega
       intro pG;try simp only[df] at pG
       have e:=yC (docs:=docs) h2 h4;rw[e.1] at pG;exact Lz w!
def au8(d:M (B8×U))(hf:Vg.fS J.LQ d):(∃(x1:Nat),(0:Int)=x1/\Cw d x1)/\(∀(x2:Nat),vT (Cw d x2) (decide (x2<lB d)) 0 x2 (lB d) (tJ (CT 200 (lC d x2).1) (bH 0 x2 (lB d))) (rj (Iz (CT 200 (lC d x2).1) 200 (cQ (lC d x2).2)) (true=mT d) x2 (∃(x3:Nat),oY x2 x3 (Cw d x3) (S.len d))) (decide (100<lB d)=mT d)):=by
 refine ar ?_;have aCO:Vg.hlen d:=hf.1.1;clear hf;refine⟨?_,?_⟩;refine⟨(nat_lit 0:Nat),?_⟩;try dsimp only
 refine⟨?_,?_⟩;omega;exact aKP d;intro x1 h2;refine⟨?_,?_⟩
 . intro h3;try simp only[dt] at h3
   with_reducible and_intros
   iterate 2 omega
   intro h4;try simp only[dt,tn] at h4
   trivial;intro h5;try simp only[df,tn] at h5
   refine⟨?_,?_⟩;omega;omega;intro h6;try simp only[V.HF,dt,tn] at h6
   refine atl h3 ?_;simp only[zQ,e?,dt];exact h6;intro h7;try simp only[V.pr,df,tn] at h7
   with_reducible and_intros
   iterate 2 omega
   refine⟨(x1+nat_lit 1),?_⟩;try dsimp only
   refine⟨?_,?_,?_⟩;omega;refine anE h2 h3 ?_;simp only[zQ,Y?,df];exact h7;simp only[ag,S.len];omega
 intro h8;try simp only[df] at h8
 exact atm h2 h8
def au9(docs:O)(hf:Vg.fS J.ZX docs):(∃(x1:Nat),(0:Int)=x1/\Cx docs x1)/\(∀(x2:Nat),rk (Cx docs x2) (decide (x2<bE docs)) 0 x2 (bE docs) (rj (CT 2500 (ew docs x2)) (true=sq docs) x2 (∃(x3:Nat),oY x2 x3 (Cx docs x3) (S.len docs))) (decide (40<bE docs)=sq docs)):=by
 refine ar ?_;have apR:Vg.hlen docs:=hf.1.1;clear hf;refine⟨?_,?_⟩;refine⟨(nat_lit 0:Nat),?_⟩;try dsimp only
 refine⟨?_,?_⟩;omega;exact aKQ docs;intro x1 h2;refine⟨?_,?_⟩
 . intro h3;try simp only[dt] at h3
   with_reducible and_intros
   iterate 2 omega
   intro h4;try simp only[dt,tn] at h4
   exact atn h3 h4;intro h5;try simp only[df,tn] at h5
   with_reducible and_intros
   iterate 2 omega
   refine⟨(x1+nat_lit 1),?_⟩;try dsimp only
   refine⟨?_,?_,?_⟩;omega;exact anF h2 h3 h5;simp only[ag,S.len];omega
 intro h6;try simp only[df] at h6
 exact ato h2 h6
def ava(s1 s2:Int):E4 0 s1 (om (decide (s1<s2)) (decide (s2<=1000)))=ma s1 s2:=by
 refine ar ?_;grind[ma,vk]
def avb(s1 s2:Int)(s3:M (B8×U))(hp:aY s3)(hf:Vg.fS J.TM (s1,s2,s3)):gj (tJ (Bool.not (ma s1 s2)) (aY s3)) (cm (xd (Bool.not (ma s1 s2)) (aQ s3)) (false=eF s1 s2 s3) (∃(x1:Nat),(0:Int)=x1/\wS s1 s2 s3 x1) (∀(x2:Nat),rk (wS s1 s2 s3 x2) (decide (x2<lB s3)) 0 x2 (lB s3) (dV (vU (oX (cQ (Pa (lC s3 x2).2 s1 s2)) (cQ (lC s3 x2).2)) (eF s1 s2 s3) x2 (∃(x3:Nat),oY x2 x3 (wS s1 s2 s3 x3) (S.len s3)))) (true=eF s1 s2 s3))):=by
 refine ar ?_;have aHi:Vg.hlen s3:=hf.2.2.1.1;with_reducible and_intros
 trivial;iterate 2 grind
 intro h3;simp at h3;exact ath h3;intro h4;refine⟨?_,?_⟩;grind[aEg];intro x5 h6;refine⟨?_,?_⟩
 . intro h7;simp only[dt] at h7;with_reducible and_intros
   iterate 2 omega
   trivial;intro h8;simp at h8;exact anw h7 (f? h8);intro h9;simp at h9;with_reducible and_intros
   iterate 2 omega
   refine⟨(x5+nat_lit 1),?_⟩;dsimp only;refine⟨?_,?_,?_⟩;omega;exact ajC h6 h7 (decide_eq_true h9);simp[ag,S.len];omega
 grind[df,anx]
def avc(s1 s2:Int)(s3:M (B8×U))(hp:aY s3):vV s3 (cm (Bool.not (eF s1 s2 s3)) (0=(tg s1 s2 s3).1.1/\0=(tg s1 s2 s3).1.2.1/\0=(tg s1 s2 s3).1.2.2.1/\[]=(tg s1 s2 s3).1.2.2.2/\1=(tg s1 s2 s3).2) (aY s3) (ov (cR (dE s3)) (0=(tg s1 s2 s3).1.1/\0=(tg s1 s2 s3).1.2.1/\0=(tg s1 s2 s3).1.2.2.1/\[]=(tg s1 s2 s3).1.2.2.2/\1=(tg s1 s2 s3).2) (lB s3+1) (s1=(tg s1 s2 s3).1.1/\s2=(tg s1 s2 s3).1.2.1/\lB s3+1=(tg s1 s2 s3).1.2.2.1/\xA s3=(tg s1 s2 s3).1.2.2.2/\0=(tg s1 s2 s3).2))):=by
 refine ar ?_;have iK:=hp.1;refine⟨?_,?_,?_⟩;omega;grind[nt,S.ĺ];intro h2;refine⟨?_,?_,?_⟩;omega;grind[nt,df,LB];grind[LB]
def avd(s1 s2 s3:Int)(s4:B8):dV (om (ma s1 s2) (E4 1 s3 (E4 s3 1099511627776 (decide (fB s4=32))))=oB s1 s2 s3 s4):=by
 refine ar ?_;grind[oB,vk]
def ave(docs:O)(s1 s2:Int):dV (dp (cR (lx docs s1 s2).2) (0=(c9 docs s1 s2).1.1/\0=(c9 docs s1 s2).1.2.1/\[]=(c9 docs s1 s2).1.2.2/\(lx docs s1 s2).2=(c9 docs s1 s2).2) (dp (decide (s1=s2)) (0=(c9 docs s1 s2).1.1/\0=(c9 docs s1 s2).1.2.1/\[]=(c9 docs s1 s2).1.2.2/\1=(c9 docs s1 s2).2) (s1=(c9 docs s1 s2).1.1/\s2=(c9 docs s1 s2).1.2.1/\(lx docs s1 s2).1=(c9 docs s1 s2).1.2.2/\0=(c9 docs s1 s2).2))):=by
 refine ar ?_;simp_all[nt,df,anz,nf,dt,anB,anC]
def avf(l:M (Int×Int×Int×B8))(n:Int):cm (Gk (length l)) (false=rf l n) (∃(x1:Nat),((0:Int)=x1/\0=S.rowAt l x1)/\S.ym l x1) (∀(x2:Nat),vT (S.ym l x2) (decide ((x2:Int)<length l)) 0 x2 (length l) (lA (Bool.not (Bool.rec false (Bool.rec false (decide ((lE l x2).2.2.2=(lE l x2).2.2.2)) (decide ((lE l x2).2.2.1=(lE l x2).2.2.1))) (Bool.rec false (decide ((lE l x2).2.1=(lE l x2).2.1)) (decide ((lE l x2).1=S.rowAt l x2)))))) (vU (xd (Bool.not (Bool.rec false (Bool.rec false (decide ((lE l x2).2.2.2=(lE l x2).2.2.2)) (decide ((lE l x2).2.2.1=(lE l x2).2.2.1))) (Bool.rec false (decide ((lE l x2).2.1=(lE l x2).2.1)) (decide ((lE l x2).1=S.rowAt l x2))))) (oB (lE l x2).1 (lE l x2).2.1 (lE l x2).2.2.1 (lE l x2).2.2.2)) (rf l n) x2 (∃(x3:Nat),iw x2 x3 ((lE l x2).2.1=S.rowAt l x3) (S.ym l x3) (S.len l))) (decide (S.rowAt l x2=n)=rf l n)):=by
 refine ar ?_;refine V.dI (λh1=>?_) λh2=>?_;exact anD h1;refine⟨?_,?_⟩;grind[Po,ati];intro x3 h4;refine⟨?_,?_⟩
 . intro h5;simp only[dt] at h5;with_reducible and_intros
   iterate 2 omega
   intro h6;trivial;intro h7;trivial;intro h8;refine ajF h4 h5 (Y0 ?_);simpa[Pn,sg] using h8;intro h9;with_reducible and_intros
   iterate 2 omega
   refine⟨(x3+nat_lit 1),?_⟩;dsimp only;with_reducible and_intros
   omega;exact(YZ l x3).symm;refine S.Ļ h4 h5 (S.ļ ?_);simpa[Pn,sg] using h9;simp[ag,S.len];omega
 grind[df,ajG]
def avg(docs:O)(s1 s2:Int):dV (om (dS docs s1 s2) (decide (s1<s2))=eM docs s1 s2):=by
 refine ar ?_;grind[eM,vk]
def avh(docs:O)(s1 s2:Int)(hp:gJ docs s1 s2):gJ docs s1 s2/\s1=s1/\s2=s2/\S.make docs s1 s2=S.make docs s1 s2:=by
 grind
def avi(s1 s2:Int)(s3:M (B8×U))(hp:aY s3/\aQ s3=true):vV s3 (aQ s3=true)/\vV s3 (aQ s3=true)/\s1=(RU s1 s2 s3).1/\s2=(RU s1 s2 s3).2.1/\bE (fu s3)=(RU s1 s2 s3).2.2.1/\pc s3=(RU s1 s2 s3).2.2.2:=by
 refine ar ?_;with_reducible and_intros
 grind;grind;grind;grind;rfl;rfl;rfl;rfl
def avj(a1 a2:Int)(a3:M (B8×U))(b1 b2:Int)(b3:M (B8×U)):lA (Bool.rec false (decide (a2=b2)) (decide (a1=b1)))/\om (Bool.rec false (decide (a2=b2)) (decide (a1=b1))) (iT a3 b3)=zP a1 a2 a3 b1 b2 b3:=by
 refine ar ?_;grind[Pn,zP,iT,vk,Bool.and_assoc]
def avk(s1 s2:Int)(s3:M (B8×U))(hf:Vg.fS J.TM (s1,s2,s3)):TW s1 s2 (s3=s3):=by
 refine ar ?_;have aHj:Vg.hint s1:=hf.1;have aHk:Vg.hint s2:=hf.2.1;have aHi:Vg.hlen s3:=hf.2.2.1.1;clear hf;refine⟨?_,?_,?_⟩;iterate 3 rfl
def avl(l:B8)(hp:S.small l):(l=[]->[]=l)/\nD jP l/\[]++l=l:=by
 refine ar ?_;refine⟨?_,?_,?_⟩;grind;simp[S.small,Vg.pO,ln] at *;omega;rfl
def avn(l:M (B8×U))(hp:S.small l):(l=[]->[]=l)/\LV (length (Vg.pO apN)+length l)/\[]++l=l:=by
 refine ar ?_;refine⟨?_,?_,?_⟩;grind;simp[S.small,Vg.pO,ln] at *;omega;rfl
def avo(a b:U)(hf:Vg.fS J.Qh (a,b)):cm (oX (cQ a) (cQ b)) (false=JJ a b) (∃(x1:Nat),(0:Int)=x1/\Ie a b x1) (∀(x2:Nat),rk (Ie a b x2) (decide (x2<cQ a)) 0 x2 (cQ a) (bH 0 x2 (cQ b)/\vU (oX (getD a (toNat x2) 0) (getD b (toNat x2) 0)) (JJ a b) x2 (∃(x3:Nat),oY x2 x3 (Ie a b x3) (S.len a))) (true=JJ a b)):=by
 refine ar ?_;have II:Vg.hlen a:=hf.1.1;refine⟨?_,?_⟩;intro h1;simp at h1;exact(decide_eq_false (Zd h1)).symm;intro h2;simp at h2;refine⟨?_,?_⟩;refine⟨(nat_lit 0:Nat),?_⟩;dsimp only;refine⟨?_,?_⟩;omega;exact anW h2;intro x3 h4;refine V.dI (λh5=>?_) λh8=>?_
 . with_reducible and_intros
   iterate 4 omega
   intro h6;simp at h6;exact(f? (Ze 0 h6)).symm;intro h7;simp at h7;with_reducible and_intros
   iterate 2 omega
   refine⟨(x3+nat_lit 1),?_⟩;dsimp only;refine⟨?_,?_,?_⟩;omega;exact Tl 0 h4 h5 h7;simp[ag,S.len,fX,oU] at *;omega
 exact(M? (Zc h4 h8)).symm
def avp(a1:B8)(a2:U)(b1:B8)(b2:U):lA (decide (a1=b1))/\om (decide (a1=b1)) (JJ a2 b2)=CB a1 a2 b1 b2:=by
 refine ar ?_;simp_all[dt,df,CB,JJ,decide]
def avq(a b:M (B8×U))(hf:Vg.Row.ok (Vg.TA.db [.dJ (.slice [.str,.slice [.int .i64]]),.dJ (.slice [.str,.slice [.int .i64]]),.fn (.func 214) [] []]) (a,b)):cm (oX (lB a) (lB b)) (false=iT a b) (∃(x1:Nat),(0:Int)=x1/\mo a b x1) (∀(x2:Nat),rk (mo a b x2) (decide (x2<lB a)) 0 x2 (lB a) (bH 0 x2 (lB b)/\dV (vU (Bool.not (CB (getD a (toNat x2) ([],[])).1 (getD a (toNat x2) ([],[])).2 (getD b (toNat x2) ([],[])).1 (getD b (toNat x2) ([],[])).2)) (iT a b) x2 (∃(x3:Nat),oY x2 x3 (mo a b x3) (S.len a)))) (true=iT a b)):=by
 refine ar ?_;have II:Vg.hlen a:=hf.1.1;refine⟨?_,?_⟩;intro h1;simp at h1;exact(decide_eq_false (Zd h1)).symm;intro h2;simp at h2;refine⟨?_,?_⟩;refine⟨(nat_lit 0:Nat),?_⟩;dsimp only;refine⟨?_,?_⟩;omega;exact anW h2;intro x3 h4;refine V.dI (λh5=>?_) λh8=>?_
 . with_reducible and_intros
   iterate 4 omega
   trivial;intro h6;simp at h6;exact(f? (Ze ([],[]) (ats h6))).symm;intro h7;simp at h7;with_reducible and_intros
   iterate 2 omega
   refine⟨(x3+nat_lit 1),?_⟩;dsimp only;refine⟨?_,?_,?_⟩;omega;exact Tl ([],[]) h4 h5 (atr h7);simp[ag,S.len,fX,oU] at *;omega
 exact(M? (Zc h4 h8)).symm
def avr(a b:M (B8×U)):dV (iT a b=iT a b):=by
 refine ar ?_;grind
def avt(y1:O)(y2:M (Int×Int×M (B8×U))):cm (Iw 1000 (bE y1) (Gk (length y2))) (false=bQ y1 y2) (∃(x1:Nat),(0:Int)=x1/\Pz y1 y2 x1) (∀(x2:Nat),vX (Pz y1 y2 x2) (decide (x2<bE y1)) x2 (bE y1) (vU (CT 2000 (ew y1 x2)) (bQ y1 y2) x2 (∃(x3:Nat),oY x2 x3 (Pz y1 y2 x3) (S.len y1))) (∃(x4:Nat),((0:Int)=x4/\0=dU y2 x4)/\vB y1 y2 x4) (∀(x5:Nat),rk (vB y1 y2 x5) (decide ((x5:Int)<length y2)) 0 x5 (length y2) (ca (kI (oX (fF y2 x5 0).1 (dU y2 x5)) (Iz (decide ((fF y2 x5 0).2.1<=dU y2 x5)) (bE y1) (fF y2 x5 0).2.1)) (false=bQ y1 y2) True (lA (cR (c9 y1 (fF y2 x5 0).1 (fF y2 x5 0).2.1).2)) (vU (xd (cR (c9 y1 (fF y2 x5 0).1 (fF y2 x5 0).2.1).2) (iT (c9 y1 (fF y2 x5 0).1 (fF y2 x5 0).2.1).1.2.2 (fF y2 x5 0).2.2)) (bQ y1 y2) x5 (∃(x6:Nat),iw x5 x6 ((fF y2 x5 0).2.1=dU y2 x6) (vB y1 y2 x6) (S.len y2)))) (true=bQ y1 y2))):=by
 refine ar ?_;refine⟨?_,?_⟩;intro h1;simp at h1;exact aKR h1;intro h2;simp at h2;refine⟨?_,?_⟩;refine⟨(nat_lit 0:Nat),?_⟩;dsimp only;refine⟨?_,?_⟩;omega;exact⟨w!,w!,wQ _⟩;intro x3 h4;refine V.dI (λh5=>?_) λh8=>?_
 . with_reducible and_intros
   iterate 2 omega
   intro h6;try simp only[dt,tn] at h6
   exact aKS h5 h6;intro h7;try simp only[df,tn] at h7
   with_reducible and_intros
   iterate 2 omega
   refine⟨(x3+nat_lit 1),?_⟩;try dsimp only
   refine⟨?_,?_,?_⟩;omega;exact⟨h4.1,h4.2.1,Ph h4.2.2 h5 w!⟩;simp only[ag,S.len,fX,oU] at *;omega
 refine⟨?_,?_⟩
 . refine⟨(nat_lit 0:Nat),?_⟩;dsimp only;with_reducible and_intros
   omega;rfl;exact anX h4 h8
 intro x9 ez;refine⟨?_,?_⟩
 . intro iZ;simp only[dt] at iZ;with_reducible and_intros
   iterate 2 omega
   intro jV;simp at jV;exact MT iZ (aKT jV);intro oq;simp only[V.pr,nf,dt,tn,df] at oq;with_reducible and_intros
   trivial;intro pG;trivial;intro KB;trivial;intro IH;simp at IH;exact MT iZ (aKU ez oq IH);intro QT;simp at QT;with_reducible and_intros
   iterate 2 omega
   refine⟨(x9+nat_lit 1),?_⟩;try dsimp only
   with_reducible and_intros
   omega;exact Tm _ _;exact Zf ez iZ (aKV ez oq QT);simp[ag,S.len,fX,oU] at *;omega
 grind[df,adL]
def avu(y1:O)(y2:M (Int×Int×M (B8×U))):yQ (Bool.not (bQ y1 y2)) ([]=(ak y1 y2).1/\[]=(ak y1 y2).2) (y1=(ak y1 y2).1/\y2=(ak y1 y2).2):=by
 refine ar ?_;grind[nt,Zg,nf,rL]
def avv(y1:O)(y2:M (Int×Int×M (B8×U)))(hf:Vg.fS J.lO (y1,y2)):ov (dA (length y2)) (0=ec y2) (length y2-1) (bH 0 (length y2-1) (length y2)/\(fF y2 (length y2-1) 0).2.1=ec y2):=by
 refine ar ?_;have rY:Vg.hlen y2:=hf.2.1.1;refine V.dI (λh1=>?_) λh2=>?_;exact aEj h1;with_reducible and_intros
 iterate 4 omega
 exact aEk h2
def avw(y1:O)(y2:M (Int×Int×M (B8×U)))(hp:wW y1 y2)(hf:Vg.fS J.lO (y1,y2)):Z9 0 (bE y1) ((24:Nat):Int)/\Z9 0 (length y2) ((40:Nat):Int)/\(∃(x1:Nat),((0:Int)=x1/\replicate (toNat (bE y1)) jP=dX jP y1 x1)/\fX y1 x1)/\(∀(x2:Nat),fX y1 x2->cm (decide (x2<bE y1)) (bH 0 x2 (bE y1)/\S.small (qS y1 (toNat x2))/\bH 0 x2 (length (dX jP y1 x2))/\toNat x2<length (dX jP y1 x2)/\dh x2 (∃(x3:Nat),iw x2 x3 (List.set (dX jP y1 x2) (toNat x2) (qS y1 (toNat x2))=dX jP y1 x3) (fX y1 x3) (S.len y1))) (∃(x4:Nat),((0:Int)=x4/\replicate (toNat (length y2)) (0,0,[])=dX (0,0,[]) y2 x4)/\fX y2 x4) (∀(x5:Nat),fX y2 x5->cm (decide ((x5:Int)<length y2)) (bH 0 x5 (length y2)/\S.small (Am y2 x5).2.2/\bH 0 x5 (length (dX (0,0,[]) y2 x5))/\toNat x5<length (dX (0,0,[]) y2 x5)/\(∃(x6:Nat×Nat×M aG),((0:Int)=x6.1/\List.set (dX (0,0,[]) y2 x5) (toNat x5) ((Am y2 x5).1,(Am y2 x5).2.1,[])=x6.2.2/\toNat x5=x6.2.1/\(Am y2 x5).2.2=(aA y2 x6.2.1).2.2)/\wX y2 x6.2.2 x6.2.1 x6.1/\(x5:Int)=x6.2.1)/\(∀(x7:Nat×Nat×M aG),vX (wX y2 x7.2.2 x7.2.1 x7.1/\(x5:Int)=x7.2.1) (decide (x7.1<lB (Am y2 x5).2.2)) x7.1 (lB (Am y2 x5).2.2) (bH 0 x5 (length x7.2.2)/\toNat x5<length x7.2.2/\toNat x5=x7.2.1/\S.small (getD (Am y2 x5).2.2 (toNat x7.1) ([],[])).2/\bH 0 x7.1 (length (aA y2 x7.2.1).2.2)/\toNat x7.1<length (aA y2 x7.2.1).2.2/\cI (x7.1+1)/\(∃(x8:Nat×Nat×M aG),mv (x7.1+1) x8.1 (x7.2.2=x8.2.2/\x7.2.1=x8.2.1/\List.set (aA y2 x7.2.1).2.2 (toNat x7.1) ((getD (aA y2 x7.2.1).2.2 (toNat x7.1) ([],[])).1,(getD (Am y2 x5).2.2 (toNat x7.1) ([],[])).2)=(aA y2 x8.2.1).2.2) (wX y2 x8.2.2 x8.2.1 x8.1/\(x5:Int)=x8.2.1) (oU y2 x8.2.1) (ag (oU y2 x7.2.1) x7.1))) (x7.2.1<length x7.2.2) (dh x5 (∃(x9:Nat),iw x5 x9 (List.set x7.2.2 x7.2.1 ((getD x7.2.2 x7.2.1 (0,0,[])).1,(getD x7.2.2 x7.2.1 (0,0,[])).2.1,(aA y2 x7.2.1).2.2)=dX (0,0,[]) y2 x9) (fX y2 x9) (S.len y2))))) (dX jP y1 x2=y1) (dX (0,0,[]) y2 x5=y2))):=by
 refine ar ?_;have xO:Vg.hlen y1:=hf.1.1;have rY:Vg.hlen y2:=hf.2.1.1;clear hf;with_reducible and_intros
 iterate 2 omega
 have:=hp.1;omega;iterate 2 omega
 have:=hp.2.1;omega;grind[adM,ag,S.len,fX,oU];intro x1 h2;refine V.dI (λh3=>?_) λh4=>?_
 . with_reducible and_intros
   iterate 2 omega
   exact Zi hp _;omega;exact(DO _ h3).1;exact(DO _ h3).2;iterate 2 omega
   refine⟨(x1+1),?_⟩;try dsimp only
   with_reducible and_intros
   omega;exact Zh _ h3;simp only[ag,S.len,fX,oU] at *;omega;simp only[ag,S.len,fX,oU] at *;omega
 refine⟨?_,?_⟩
 . refine⟨0,?_⟩;try dsimp only
   with_reducible and_intros
   omega;exact adM _ _;simp only[ag,S.len,fX,oU] at *;omega
 intro x5 h6;refine⟨?_,?_⟩
 . intro h7;try simp only[dt] at h7
   with_reducible and_intros
   iterate 2 omega
   exact(FY hp _).1;omega;exact(DO _ h7).1;exact(DO _ h7).2
   . refine⟨(0,((toNat (↑x5:Int)),(List.set (dX ((0:Int),(0:Int),[]) y2 x5) (toNat (↑x5:Int)) ((getD y2 (toNat (↑x5:Int)) ((0:Int),(0:Int),[])).1,((getD y2 (toNat (↑x5:Int)) ((0:Int),(0:Int),[])).2).1,[])))),?_⟩;try dsimp only
     with_reducible and_intros
     omega;rfl;omega;rfl;exact aEl h7;omega
   intro x8 h9;refine⟨?_,?_⟩
   . intro ez;try simp only[dt,tn] at ez
     with_reducible and_intros
     omega;trivial;omega;have q:=h9.1.2.2.1;have q3:=h9.2;omega
     have q:=h9.1.2.2.1;have q2:=h9.1.1;have q3:=h9.2;omega
     omega;exact(FY hp _).2 _;omega
     iterate 2
      have e:x5=x8.2.1:=w!;subst e;first|exact ez|exact Int.ofNat_lt.1 ez
     omega;have q:=(FY hp x5).1;exact ajM q ez;refine⟨((x8.1+1),((x8.2.1),(x8.2.2))),?_⟩;try dsimp only
     with_reducible and_intros
     omega;rfl;omega;have e:x5=x8.2.1:=w!;subst e;exact S.Dk _ _ _;have e:x5=x8.2.1:=w!;subst e;exact ajN h9.1 ez;omega;have e:x5=x8.2.1:=w!;subst e;exact ajO ez
   intro iZ;with_reducible and_intros
   have q:=h9.1.2.2.1;have q3:=h9.2;omega
   iterate 2 omega
   refine⟨(x5+1),?_⟩;try dsimp only
   with_reducible and_intros
   omega;have e:x5=x8.2.1:=w!;subst e;exact anY h9.1;simp only[ag,S.len,fX,oU] at *;omega;simp only[ag,S.len,fX,oU] at *;omega
 grind[df,ajL]
def avx(y1:O)(y2:M (Int×Int×M (B8×U))):dV (dV (ec (ak y1 y2).2=jF y1 y2)):=by
 refine ar ?_;refine⟨?_,?_,?_⟩;iterate 2 trivial
 rfl
def avy(y1:O)(y2:M (Int×Int×M (B8×U)))(d:B8):yQ (CT 2000 d) ((ak y1 y2).1=(fW y1 y2 d).1.1/\(ak y1 y2).2=(fW y1 y2 d).1.2/\1=(fW y1 y2 d).2) (ca (decide ((1000:Int)<=length (ak y1 y2).1)) ((ak y1 y2).1=(fW y1 y2 d).1.1/\(ak y1 y2).2=(fW y1 y2 d).1.2/\3=(fW y1 y2 d).2) (wW (ak y1 y2).1 (ak y1 y2).2) (S.small d) (AO (length (ak y1 y2).1+length [d])/\(ak y1 y2).1++[d]=(fW y1 y2 d).1.1/\(ak y1 y2).2=(fW y1 y2 d).1.2/\0=(fW y1 y2 d).2)):=by
 refine ar ?_;refine⟨?_,?_,?_⟩;trivial;simp_all[dt,aKW]
 intro h2;refine⟨?_,?_⟩;simp_all[dt,aKX]
 grind[df,LG,S.small,sQ,List.length_singleton,aKY]
def avz(y1:O)(y2:M (Int×Int×M (B8×U))):dV (yQ (decide (ec (ak y1 y2).2=bE (ak y1 y2).1)) ((ak y1 y2).1=(fy y1 y2).1.1/\(ak y1 y2).2=(fy y1 y2).1.2/\5=(fy y1 y2).2) (cm (decide ((64:Int)<=length (ak y1 y2).2)) ((ak y1 y2).1=(fy y1 y2).1.1/\(ak y1 y2).2=(fy y1 y2).1.2/\3=(fy y1 y2).2) True (ca (cR (Ak y1 y2).2) ((ak y1 y2).1=(fy y1 y2).1.1/\(ak y1 y2).2=(fy y1 y2).1.2/\(Ak y1 y2).2=(fy y1 y2).2) (wW (ak y1 y2).1 (ak y1 y2).2) (LV (length (ak y1 y2).2+length [((Ak y1 y2).1.1,(Ak y1 y2).1.2.1,(Ak y1 y2).1.2.2)])) ((ak y1 y2).1=(fy y1 y2).1.1/\(ak y1 y2).2++[((Ak y1 y2).1.1,(Ak y1 y2).1.2.1,(Ak y1 y2).1.2.2)]=(fy y1 y2).1.2/\0=(fy y1 y2).2)))):=by
 refine ar ?_;refine⟨?_,?_,?_,?_⟩;iterate 2 trivial
 simp_all[dt,aKZ]
 intro h2;refine⟨?_,?_⟩;simp_all[dt,aK0]
 intro h4;refine⟨?_,?_,?_⟩;trivial;grind[nt,df,aB0];grind[LG,sQ,List.length_singleton,aK1]
def avA(y1:O)(y2:M (Int×Int×M (B8×U)))(hf:Vg.fS J.lO (y1,y2)):gj ((0:Int)<=0/\(0:Int)<=length (ak y1 y2).2/\(length (ak y1 y2).2:Int)<=140737488355328/((40:Nat):Int)) ((∃(x1:Nat),((0:Int)=x1/\replicate (toNat 0) (0,0,0,[])=fv y1 y2 x1)/\x1<=gL y1 y2)/\(∀(x2:Nat),vT (x2<=gL y1 y2) (decide ((x2:Int)<length (ak y1 y2).2)) 0 x2 (length (ak y1 y2).2) (aY (QH y1 y2 x2).2.2) (LV (length (fv y1 y2 x2)+length [((Al y1 y2 x2).1,(Al y1 y2 x2).2.1,(Al y1 y2 x2).2.2.1,(Al y1 y2 x2).2.2.2)])/\dh x2 (∃(x3:Nat),iw x2 x3 (fv y1 y2 x2++[((Al y1 y2 x2).1,(Al y1 y2 x2).2.1,(Al y1 y2 x2).2.2.1,(Al y1 y2 x2).2.2.2)]=fv y1 y2 x3) (x3<=gL y1 y2) (gL y1 y2))) (fv y1 y2 x2=bV y1 y2))):=by
 refine ar ?_;have xO:Vg.hlen y1:=hf.1.1;have rY:Vg.hlen y2:=hf.2.1.1;clear hf;with_reducible and_intros
 trivial;iterate 2 omega
 grind[sQ]
 . refine⟨0,?_⟩;try dsimp only
   with_reducible and_intros
   omega;rfl;omega
 intro x1 h2;refine⟨?_,?_⟩
 . intro h3;try simp only[dt] at h3
   with_reducible and_intros
   iterate 2 omega
   exact(yG y1 y2 (k:=x1) w!).2;have:=Ig y1 y2 x1;simp only[List.length_singleton];omega;omega;have:=(sQ y1 y2).2.1;omega;refine⟨(x1+1),?_⟩;try dsimp only
   with_reducible and_intros
   omega;exact Zj h3;simp only[gL,ag] at *;omega;simp only[gL,ag] at *;omega
 grind[df,adN]
def avB(y1:O)(y2:M (Int×Int×M (B8×U))):dV (cm (Iz (Bool.not (dS y1 0 0)) 64 (length y2)) (false=bQ y1 y2) (∃(x1:Nat),(0:Int)=x1/\vB y1 y2 x1) (∀(x2:Nat),vT (vB y1 y2 x2) (decide ((x2:Int)<length y2)) 0 x2 (length y2) (dp (dA x2) (tJ (cR (fF y2 x2 0).1) (fj (gF x2) (mu (x2-1) 0 (length y2) (lA (oX (fF y2 x2 0).1 (fF y2 (x2-1) 0).2.1))))) (fj (gF x2) (mu (x2-1) 0 (length y2) (lA (oX (fF y2 x2 0).1 (fF y2 (x2-1) 0).2.1))))) (ca (Z8 (dA x2) (cR (fF y2 x2 0).1) (Z8 (gF x2) (oX (fF y2 x2 0).1 (fF y2 (x2-1) 0).2.1) (Bool.not (eM y1 (fF y2 x2 0).1 (fF y2 x2 0).2.1)))) (false=bQ y1 y2) (bH 0 x2 (length y2)) (gJ y1 (fF y2 x2 0).1 (fF y2 x2 0).2.1) (dV (vU (Bool.not (zP (fF y2 x2 0).1 (fF y2 x2 0).2.1 (fF y2 x2 0).2.2 (fF y2 x2 0).1 (fF y2 x2 0).2.1 (S.make y1 (fF y2 x2 0).1 (fF y2 x2 0).2.1))) (bQ y1 y2) x2 (∃(x3:Nat),oY x2 x3 (vB y1 y2 x3) (S.len y2))))) (true=bQ y1 y2))):=by
 refine ar ?_;refine⟨?_,?_,?_⟩;trivial;intro h1;simp at h1;exact aK2 h1;intro h2;simp at h2;refine⟨?_,?_⟩;refine⟨(nat_lit 0:Nat),?_⟩;dsimp only;refine⟨?_,?_⟩;omega;exact⟨h2.1,w!,λi hi=>absurd hi (Nat.not_lt_zero i),Nat.zero_le _⟩;intro x3 h4;refine⟨?_,?_⟩
 . intro h5;simp only[dt] at h5;with_reducible and_intros
   iterate 2 omega
   . intro h6;refine⟨?_,?_⟩;intro h7;trivial;intro h8;refine V.dI (λh9=>?_) λjV=>?_
     . with_reducible and_intros
       iterate 4 omega
       intro ez;trivial;intro iZ;trivial
     trivial
   . intro oq;refine V.dI (λpG=>?_) λQT=>?_
     . with_reducible and_intros
       iterate 4 omega
       intro KB;trivial;intro IH;trivial
     trivial
   intro Â;exact MT h5 (atu (S.anZ.symm.trans Â));intro Ã;with_reducible and_intros
   iterate 2 omega
   exact rJ (aB1 (S.anZ.symm.trans Ã)).2;trivial;intro h20;simp at h20;exact MT h5 (aEm h20);intro ui;simp at ui;with_reducible and_intros
   iterate 2 omega
   refine⟨(x3+nat_lit 1),?_⟩;dsimp only;refine⟨?_,?_,?_⟩;omega;exact Zf h4 h5 (atv (aB1 (S.anZ.symm.trans Ã)) ui);simp[ag,S.len,fX,oU,gL] at *;omega
 grind[df,adL]
def avC(y1:O)(y2:M (Int×Int×M (B8×U))):yQ (bQ y1 y2) (y1=(ak y1 y2).1/\y2=(ak y1 y2).2) ([]=(ak y1 y2).1/\[]=(ak y1 y2).2):=by
 refine ar ?_;grind[rL,Zg]
def avD(y1:O)(y2:M (Int×Int×M (B8×U)))(hf:Vg.fS J.lO (y1,y2)):gj (∃(x1:Nat),((0:Int)=x1/\0=dU (ak y1 y2).2 x1)/\x1<=gL y1 y2) (∀(x2:Nat),rk (x2<=gL y1 y2) (decide ((x2:Int)<length (ak y1 y2).2)) 0 x2 (length (ak y1 y2).2) (dh x2 (∃(x3:Nat),iw x2 x3 ((getD (ak y1 y2).2 (toNat x2) (0,0,[])).2.1=dU (ak y1 y2).2 x3) (x3<=gL y1 y2) (gL y1 y2))) (dU (ak y1 y2).2 x2=jF y1 y2)):=by
 refine ar ?_;have xO:Vg.hlen y1:=hf.1.1;have rY:Vg.hlen y2:=hf.2.1.1;clear hf;refine⟨?_,?_,?_⟩;trivial
 . refine⟨(nat_lit 0:Nat),?_⟩;try dsimp only
   with_reducible and_intros
   omega;rfl;omega
 intro x1 h2;refine⟨?_,?_⟩
 . intro h3;try simp only[dt] at h3
   with_reducible and_intros
   iterate 3 omega
   have:=(sQ y1 y2).2.1;omega;refine⟨(x1+nat_lit 1),?_⟩;try dsimp only
   with_reducible and_intros
   omega;exact Tm _ _;simp only[ag,S.len,fX,oU,gL] at *;omega;simp only[ag,S.len,fX,oU,gL] at *;omega
 grind[df,ajQ]
def avE(y1:O)(y2:M (Int×Int×M (B8×U)))(hf:Vg.fS J.lO (y1,y2)):gj (∃(x1:Nat),((0:Int)=x1/\[]=fv y1 y2 x1)/\x1<=gL y1 y2) (∀(x2:Nat),vT (x2<=gL y1 y2) (decide ((x2:Int)<length (ak y1 y2).2)) 0 x2 (length (ak y1 y2).2) (aY (Ku y1 y2 x2).2.2/\aQ (Ku y1 y2 x2).2.2) (LV (length (fv y1 y2 x2)+length [((As y1 y2 x2).1,(As y1 y2 x2).2.1,(As y1 y2 x2).2.2.1,(As y1 y2 x2).2.2.2)])/\dh x2 (∃(x3:Nat),iw x2 x3 (fv y1 y2 x2++[((As y1 y2 x2).1,(As y1 y2 x2).2.1,(As y1 y2 x2).2.2.1,(As y1 y2 x2).2.2.2)]=fv y1 y2 x3) (x3<=gL y1 y2) (gL y1 y2))) (fv y1 y2 x2=bV y1 y2)):=by
 refine ar ?_;have xO:Vg.hlen y1:=hf.1.1;have rY:Vg.hlen y2:=hf.2.1.1;clear hf;refine⟨?_,?_,?_⟩;trivial
 . refine⟨(nat_lit 0:Nat),?_⟩;try dsimp only
   with_reducible and_intros
   omega;rfl;omega
 intro x1 h2;refine⟨?_,?_⟩
 . intro h3;try simp only[dt] at h3
   with_reducible and_intros
   iterate 2 omega
   exact(yG y1 y2 (k:=x1) w!).2;exact Zb (yG y1 y2 (k:=x1) w!).1;have:=Ig y1 y2 x1;simp only[List.length_singleton];omega;omega;have:=(sQ y1 y2).2.1;omega;refine⟨(x1+nat_lit 1),?_⟩;try dsimp only
   with_reducible and_intros
   omega;exact ajR h3;simp only[ag,S.len,fX,oU,gL] at *;omega;simp only[ag,S.len,fX,oU,gL] at *;omega
 grind[df,adN]
def avF(y1:O)(y2:M (Int×Int×M (B8×U)))(hp:S.small y2)(hf:Vg.fS J.lO (y1,y2)):(∃(x1:Nat),((0:Int)=x1/\y1=y1/\[]=take x1 y2)/\fX y2 x1)/\(∀(x2:Nat),vX (fX y2 x2) (decide ((x2:Int)<length y2)) x2 (length y2) (gj (LV (length (take x2 y2)+length [((fF y2 x2 0).1,(fF y2 x2 0).2.1,(fF y2 x2 0).2.2)])) (dh x2 (∃(x3:Nat),iw x2 x3 (y1=y1/\take x2 y2++[((fF y2 x2 0).1,(fF y2 x2 0).2.1,(fF y2 x2 0).2.2)]=take x3 y2) (fX y2 x3) (S.len y2)))) (y1=y1) (take x2 y2=y2)):=by
 refine ar ?_;have rY:Vg.hlen y2:=hf.2.1.1;refine⟨?_,?_⟩
 . refine⟨(nat_lit 0:Nat),?_⟩;dsimp only;with_reducible and_intros
   omega;iterate 2 rfl
   simp only[ag,S.len,fX,gL,pL,pD] at *;omega
 intro x1 h2;refine V.dI (λh3=>?_) λh4=>?_
 . with_reducible and_intros
   iterate 2 omega
   trivial;simp[Y!,J?,S.small] at *;omega;iterate 2 omega
   refine⟨(x1+nat_lit 1),?_⟩;dsimp only;with_reducible and_intros
   omega;rfl;exact(S.aw y2 x1 (0,0,[]) w!).symm;simp[ag,S.len,fX,gL,pL,pD] at *;omega;simp[ag,S.len,fX,gL,pL,pD] at *;omega
 refine⟨?_,?_⟩;rfl;exact i? w!
def avG(y1:O)(y2:M (Int×Int×M (B8×U)))(hf:Vg.fS J.lO (y1,y2)):(∃(x1:Nat),(0:Int)=x1/\CC y2 x1)/\(∀(x2:Nat),CC y2 x2->cm (decide ((x2:Int)<length y2)) (bH 0 x2 (length y2)/\dV (rj (mT (fF y2 x2 0).2.2) (true=sr y1 y2) x2 (∃(x3:Nat),oY x2 x3 (CC y2 x3) (S.len y2)))) True (Iz (sq y1) 100 (length y2)=sr y1 y2)):=by
 refine ar ?_;have xO:Vg.hlen y1:=hf.1.1;have rY:Vg.hlen y2:=hf.2.1.1;clear hf;refine⟨?_,?_⟩;refine⟨(nat_lit 0:Nat),?_⟩;try dsimp only
 refine⟨?_,?_⟩;omega;exact aK3 _;intro x1 h2;refine⟨?_,?_⟩
 . intro h3;try simp only[dt] at h3
   with_reducible and_intros
   iterate 2 omega
   trivial;intro h4;exact atw h3 h4;intro h5;with_reducible and_intros
   iterate 2 omega
   refine⟨(x1+nat_lit 1),?_⟩;try dsimp only
   refine⟨?_,?_,?_⟩;omega;exact an0 h2 h3 h5;simp only[ag,S.len,fX,gL,pL,pD] at *;omega
 intro h6;try simp only[df] at h6
 refine⟨?_,?_⟩;trivial;exact atx h2 h6
def avH(y1:Int)(y2:B8)(y3:M (Int×Int×Int×B8)):fj (nE y1) (fj (decide (y1<=1000)) (lA (decide (fB y2=32))))/\om (nE y1) (om (decide (y1<=1000)) (om (decide (fB y2=32)) (rf y3 y1)))=cG y1 y2 y3:=by
 refine ar ?_;grind[atD]
def avI(y1:O)(y2:M (Int×Int×M (B8×U))):gj (lA (Bool.not (bQ y1 y2))) (ca (kI (Bool.not (bQ y1 y2)) (oX (jF y1 y2) (bE y1))) (TX (hX y1 y2) 0 7) (cX y1) (S.small (S.leaves y1)) (cm (cR (xx (S.leaves y1))) (TX (hX y1 y2) 0 (xx (S.leaves y1))) True (bE y1=(hX y1 y2).1.1/\jS (S.leaves y1)=(hX y1 y2).1.2.1/\bV y1 y2=(hX y1 y2).1.2.2/\0=(hX y1 y2).2))):=by
 refine ar ?_;with_reducible and_intros
 trivial;iterate 2 grind
 simp_all[V.HF,nt,df,atE]
 intro h4;simp at h4;refine⟨?_,?_,?_,?_⟩;grind[F4];exact(F4 h4.1).2;grind[nt,df,Zq];simp_all[nf,dt,Zp,Zq]
def avJ(v q:Int)(hp:fZ v=false/\q=0):cm (dA q) (nC jP/\yo v=0/\ml jP v=S.num v) (q=0) ([]=S.num v):=by
 refine ar ?_;refine⟨?_,?_⟩;grind[aB2];grind
def avK(v q:Int)(l:B8)(hp:fZ v=false/\q=0/\l.length<=35184372088832):cm (dA q) (nC l/\yo v=0/\ml l v=l++S.num v) (q=0) (l=l++S.num v):=by
 refine ar ?_;refine⟨?_,?_⟩;grind[aB2];grind
def avL(d l:B8)(hp:l.length<=35184372088832/\d.length<=35184372088832):nD l d/\l++d=l++d:=by
 refine ar ?_;grind
def avM(y1:Int)(y2:B8)(y3:M (Int×Int×Int×B8))(hf:Vg.fS J.Qk (y1,y2,y3)):dV (ca (Bool.not (cG y1 y2 y3)) (1=(hW y1 y2 y3).2/\[]=(hW y1 y2 y3).1) (fZ y1=false/\yR) (nC (S.num y1)/\nC y2) ((fZ (length y3)=false/\(0:Int)=0/\nC (S.num y1++y2))/\(∃(x1:Nat),((0:Int)=x1/\S.num y1++y2++S.num (length y3)=ti y1 y2 y3 x1/\yR)/\ET y1 y2 y3 x1)/\(∀(x2:Nat),vT (ET y1 y2 y3 x2) (decide ((x2:Int)<length y3)) 0 x2 (length y3) (fZ (xL y3 x2).1=false/\(0:Int)=0/\nC (ti y1 y2 y3 x2)) ((fZ (xL y3 x2).2.1=false/\(0:Int)=0/\nC (ti y1 y2 y3 x2++S.num (xL y3 x2).1))/\(nC (ti y1 y2 y3 x2++S.num (xL y3 x2).1++S.num (xL y3 x2).2.1)/\nC (xL y3 x2).2.2)/\dh x2 (∃(x3:Nat),iw x2 x3 (ti y1 y2 y3 x2++S.num (xL y3 x2).1++S.num (xL y3 x2).2.1++(xL y3 x2).2.2=ti y1 y2 y3 x3/\yR) (ET y1 y2 y3 x3) (S.len y3))) (dp (Qo 0) (0=(hW y1 y2 y3).2/\[]=(hW y1 y2 y3).1) (0=(hW y1 y2 y3).2/\ti y1 y2 y3 x2=(hW y1 y2 y3).1))))):=by
 refine ar ?_;have aHl:Vg.hlen y3:=hf.2.2.1.1;clear hf;refine⟨?_,?_,?_⟩;trivial;grind[nt,S.ň];intro h2;try simp at h2
 with_reducible and_intros
 grind[ji,PB];rfl;grind[cO];grind[ji];grind[rM,ji,PB];rfl;grind[cO,ji,List.length_append]
 . refine⟨0,?_⟩;try dsimp only
   with_reducible and_intros
   omega;grind[aB3];rfl;exact⟨h2,Nat.zero_le _⟩
 intro x3 h4;refine⟨?_,?_⟩
 . intro h5;try simp only[dt] at h5
   with_reducible and_intros
   iterate 2 omega
   exact(F5 h4 h5).1;rfl;have:=DR h4;omega;exact(F5 h4 h5).2.1;rfl;have q:=DR h4;have q2:=cO (y3.getD (toNat (x3:Int)) (0,0,0,[])).2.1;simp only[H!];omega
   have q:=DR h4;have q2:=cO (y3.getD (toNat (x3:Int)) (0,0,0,[])).2.1;have q3:=cO (y3.getD (toNat (x3:Int)) (0,0,0,[])).2.2.1;simp only[H!];omega
   exact Z? (Nat.le_of_eq (F5 h4 h5).2.2) (by decide);iterate 2 omega
   refine⟨(x3+1),?_⟩;try dsimp only
   with_reducible and_intros
   omega;exact Zr h5;rfl;exact⟨h4.1,w!⟩;simp only[ag,S.len];omega
 simp_all[df,nt,nf,dt,MU,VG]
def avN(r1:B8)(r2 r3:Int)(hp:r1.length<=140737488355328):jI r1/\(af r1 r2 r3).2=(af r1 r2 r3).2/\(af r1 r2 r3).1.1=r1/\mK (af r1 r2 r3).1.2.1 (af r1 r2 r3).1.2 (af r1 r2 r3).1.2.2:=by
 refine ar ?_;grind[DQ]
def avO(r1:B8)(r2 r3:Int)(hp:r1.length<=140737488355328):jI r1/\(aD r1 r2 r3).2=(aD r1 r2 r3).2/\(aD r1 r2 r3).1.1=r1/\mK (aD r1 r2 r3).1.2.1 (aD r1 r2 r3).1.2 (aD r1 r2 r3).1.2.2:=by
 refine ar ?_;simp_all[DQ]
def avP(a:Int)(r1:B8)(r2 r3:Int)(hp:r1.length<=140737488355328):jI r1/\jI r1/\jI r1/\a=a/\(af r1 r2 r3).2=(vC r1 r2 r3 a).2.2.1/\(Wo r1 r2 r3).2=(vC r1 r2 r3 a).2.2.2.1/\(Wq r1 r2 r3).2=(vC r1 r2 r3 a).2.2.2.2/\(af r1 r2 r3).2=(vC r1 r2 r3 a).2.2.1/\0=0/\0=0/\r1=r1/\mK (Wq r1 r2 r3).1.2.1 (vC r1 r2 r3 a).1 (Wq r1 r2 r3).1.2.2:=by
 refine ar ?_;with_reducible and_intros
 iterate 3 omega
 iterate 10 rfl
def avQ(b:B8)(hp:b.length<=140737488355328):jI b/\jI b/\jI b/\cm (Gk (QE b).2) (TX (hR b) 0 2) (∃(x1:Nat),((0:Int)=x1/\b=b/\(QE b).1.2.1=(jL b x1).1.1/\(QE b).1.2.2=(jL b x1).1.2/\0=(jL b x1).2.1/\0=0/\0=0/\(af b 0 0).2=(qP b).1/\(Wn b).2=(qP b).2.1/\[]=(jL b x1).2.2)/\x1<=pN b/\(qP b).2.2<=64) (∀(x2:Nat),x2<=pN b/\(qP b).2.2<=64->cm (decide (x2<(QE b).2)) (jI b/\LV (length (jL b x2).2.2+length (Ů b x2))/\dh x2 (∃(x3:Nat),iw x2 x3 (b=b/\(Gm b x2).1.1=(jL b x3).1.1/\(Gm b x2).1.2=(jL b x3).1.2/\(Gm b x2).2.2.1=(jL b x3).2.1/\0=0/\0=0/\(qP b).1=(qP b).1/\(qP b).2.1=(qP b).2.1/\(jL b x2).2.2++Ů b x2=(jL b x3).2.2) (x3<=pN b/\(qP b).2.2<=64) (pN b))) True (cm (cR (S.done b (jL b x2).1.1 (jL b x2).1.2)) (TX (hR b) 0 (S.done b (jL b x2).1.1 (jL b x2).1.2)) True (dp (Bool.not (cG (qP b).1 (qP b).2.1 (jL b x2).2.2)) (TX (hR b) 0 2) ((qP b).1=(hR b).1.1/\(qP b).2.1=(hR b).1.2.1/\(jL b x2).2.2=(hR b).1.2.2/\0=(hR b).2)))):=by
 refine ar ?_;apply QS;iterate 3 omega
 intro h1;simp at h1;refine⟨?_,?_,?_,?_⟩;iterate 3 (rw[Zo h1])
 rw[Zo h1];intro h2;simp only[df] at h2;refine⟨?_,?_⟩
 . refine⟨(nat_lit 0:Nat),?_⟩;dsimp only;with_reducible and_intros
   omega;iterate 9 rfl
   omega;exact Int.not_lt.1 h2
 intro x3 h4;refine V.dI (λh5=>?_) λh6=>?_
 . with_reducible and_intros
   omega;have q:=aEn b x3;have q2:=h4.2;have q3:(x3:Int)<(iz b).1.2.2:=h5;simp only[J?];omega
   omega;have q2:=h4.2;have q3:(x3:Int)<(iz b).1.2.2:=h5;omega
   refine⟨(x3+nat_lit 1),?_⟩;try dsimp only
   with_reducible and_intros
   omega;iterate 9 rfl
   exact an6 h5;omega;have q:=an6 h5;simp only[ag];omega
 refine⟨?_,?_,?_⟩;trivial;intro h7;simp at h7;refine⟨?_,?_,?_,?_⟩;iterate 3 (rw[aB4 h2 h4.1 h6 h7])
 rw[aB4 h2 h4.1 h6 h7];intro h8;simp at h8;refine⟨?_,?_,?_⟩;trivial;intro h9;simp at h9;refine⟨?_,?_,?_,?_⟩;iterate 3 (rw[aB5 h2 h4.1 h6 h8 h9])
 rw[aB5 h2 h4.1 h6 h8 h9];intro ez;simp at ez;refine⟨?_,?_,?_,?_⟩;iterate 3 (rw[aB6 h2 h4.1 h6 h8 ez])
 rw[aB6 h2 h4.1 h6 h8 ez]
def avR(y1:O)(y2:M (Int×Int×M (B8×U))):gj (lA (bQ y1 y2)) (om (bQ y1 y2) (decide (jF y1 y2=bE y1))=dD y1 y2):=by
 refine ar ?_;grind[ajS]
def avS(y1:O)(y2:M (Int×Int×M (B8×U)))(hp:cX y1):cX y1/\eJ (S.leaves y1)/\dV (bE y1=S.len y1/\S.root (S.leaves y1)=S.root (S.leaves y1)/\bV y1 y2=bV y1 y2):=by
 refine ar ?_;with_reducible and_intros
 omega;exact VF hp;trivial;iterate 3 rfl
def avT(d:M (B8×U))(t:B8)(hp:aY d/\S.small t):vV d (tJ (cR (dE d)) (S.small t)/\cm (xd (cR (dE d)) (S.isTerm t)) (q50 (vG d t) 0 [] [] [] [] [] 1) (aY d) (mu (bJ d t+1) 0 (length (bD d)) (toNat (bJ d t+1)<length (bD d)/\jI (C6 d t)/\cX (bD d)/\fa (S.leaves (bD d))/\dp (kT d t) (vV d (dV (q50 (vG d t) (bJ d t+1) (bh (C6 d t)).1.1 (bh (C6 d t)).1.2.1 (bh (C6 d t)).1.2.2 (oC (S.leaves (bD d)) (bJ d t+1)) (l7 (nu d t)) 0))) (q50 (vG d t) (bJ d t+1) (bh (C6 d t)).1.1 (bh (C6 d t)).1.2.1 (bh (C6 d t)).1.2.2 (oC (S.leaves (bD d)) (bJ d t+1)) [] 0)))):=by
 refine ar ?_;have iK:=hp.1;with_reducible and_intros
 omega;iterate 2 grind
 . intro h3;simp at h3;with_reducible and_intros
   iterate 6
    rw[adU w!];rfl
   grind[adU]
 intro h4;simp at h4;with_reducible and_intros
 omega
 iterate 2
  (have q:=Zw iK (H3 (And.left (by assumption))) t;omega)
 iterate 3 (simp_all[Zw,H3,And.left])
 (have q:=Zw iK (H3 (And.left (by assumption))) t;omega)
 iterate 2
  (have q:=Zw iK (H3 (And.left (by assumption))) t;grind)
 iterate 2 (simp_all[dE,S.isTerm,PE,H3,aEs,Q!,W!])
def avU(l:O)(hp:S.small l):cm (decide ((tE l:Int)<2)) (l=bT l) (∃(x1:Nat),(1:Int)=x1/\oc l x1) (∀(x2:Nat),oc l x2->dp (decide ((x2:Int)<tE l)) (bH 0 x2 (tE l)/\rX x2<tE l/\mu (x2-1) 0 (tE l) (toNat (x2-1)<tE l/\rj (decide (qS l (rX x2)=qS l (toNat (x2-1)))) (ix x2 (tE l) ((∃(x3:Nat×Nat×O×Nat),((x2:Int)=x3.1/\(1:Int)=x3.2.1/\l=x3.2.2.1)/\jB l x3.2.2.2 x3.1 x3.2.1 x3.2.2.1/\(x2:Int)=x3.2.2.2)/\(∀(x4:Nat×Nat×O×Nat),jB l x4.2.2.2 x4.1 x4.2.1 x4.2.2.1/\(x2:Int)=x4.2.2.2->ca (decide ((x4.2.1:Int)<((tE l-rX x2:Nat):Int))) (bH 0 x4.2.1 ((tE l-rX x2:Nat):Int)/\rX x2+toNat x4.2.1<v8 x4/\mu (x4.2.1-1) 0 ((tE l-rX x2:Nat):Int) (rX x2+toNat (x4.2.1-1)<v8 x4/\fj (WB x2 x4) (bH 0 x4.2.1 ((tE l-rX x2:Nat):Int)/\rX x2+toNat x4.2.1<v8 x4/\bH 0 x4.1 (v8 x4)/\xN x4<v8 x4/\cI (x4.1+1))/\cI (x4.2.1+1)/\(∃(x5:Nat×Nat×O×Nat),((bif WB x2 x4 then(x4.1:Int)+1 else(x4.1:Int))=x5.1/\(x4.2.1:Int)+1=x5.2.1/\(bif WB x2 x4 then List.set x4.2.2.1 (xN x4) (qS x4.2.2.1 (rX x2+toNat x4.2.1)) else x4.2.2.1)=x5.2.2.1)/\(jB l x5.2.2.2 x5.1 x5.2.1 x5.2.2.1/\(x2:Int)=x5.2.2.2)/\vR (S.len l) x5.2.1 x4.2.1))) ((0:Int)<=x4.1/\(x4.1:Int)<=v8 x4) (xN x4+(v8 x4-xN x4)<=v8 x4) (ix x4.1 (bE (aaf x4)) (take (xN x4) (aaf x4)=bT l))))) x2 (∃(x6:Nat),oY x2 x6 (oc l x6) (S.len l)))) (l=bT l)):=by
 refine ar ?_;have iK:l.length<=1099511627776:=hp;refine V.dI (λh1=>?_) λh2=>?_;exact O5 h1;refine⟨?_,?_⟩;grind[anf];intro x3 h4;refine⟨?_,?_⟩
 . intro h5;try simp only[dt] at h5
   with_reducible and_intros
   iterate 5 omega
   have:=h4.1;omega;iterate 2 omega
   . intro h6;try simp only[dt,tn] at h6
     with_reducible and_intros
     iterate 2 omega
     refine⟨((x3),(1,((l),(x3)))),?_⟩;grind[adB];intro x7 h8;refine⟨?_,?_⟩
     . intro h9;try simp at h9
       with_reducible and_intros
       iterate 2 omega
       have q1:=h8.1.1;have q2:=h8.1.2.1;have q3:=h8.1.2.2.2.1;have q4:=h8.1.2.2.2.2.1;omega
       iterate 2 omega
       have q1:=h8.1.1;omega;omega;have q1:=h8.1.1;have q2:=h8.1.2.1;have q3:=h8.1.2.2.2.1;have q4:=h8.1.2.2.2.2.1;omega
       . intro ez;with_reducible and_intros
         iterate 2 omega
         have q1:=h8.1.1;have q2:=h8.1.2.1;have q3:=h8.1.2.2.2.1;have q4:=h8.1.2.2.2.2.1;have q5:=h8.2;omega
         omega
         iterate 2
          have q1:=h8.1.1;have q2:=h8.1.2.1;have q3:=h8.1.2.2.2.1;have q4:=h8.1.2.2.2.2.1;have q5:=h8.2;omega
         omega;have q1:=h8.1.1;have q2:=h8.1.2.1;have q3:=h8.1.2.2.2.1;have q4:=h8.1.2.2.2.2.1;have q5:=h8.2;omega
       intro iZ;trivial;iterate 2 omega
       refine⟨((toNat (bif !Decidable.decide (getD (x7.2.2.1) (toNat (↑x3:Int)+toNat (↑(x7.2.1):Int)) []=getD (x7.2.2.1) (toNat (↑x3:Int)+toNat ((↑(x7.2.1):Int)-(1:Int))) []) then(↑(x7.1):Int)+(1:Int) else(↑(x7.1):Int))),((x7.2.1+1),((bif !Decidable.decide (getD (x7.2.2.1) (toNat (↑x3:Int)+toNat (↑(x7.2.1):Int)) []=getD (x7.2.2.1) (toNat (↑x3:Int)+toNat ((↑(x7.2.1):Int)-(1:Int))) []) then List.set (x7.2.2.1) (toNat (↑(x7.1):Int)) (getD (x7.2.2.1) (toNat (↑x3:Int)+toNat (↑(x7.2.1):Int)) []) else Prod.fst (x7.2.2)),(x3)))),?_⟩;try dsimp only
       with_reducible and_intros
       generalize (!decide (getD x7.2.2.1 (toNat (x3:Int)+toNat (x7.2.1:Int)) []=getD x7.2.2.1 (toNat (x3:Int)+toNat ((x7.2.1:Int)-1)) []))=c;cases c<;>simp<;>omega;omega;trivial;have q1:=h8.1.1;have e3:x7.2.2.2=x3:=by have:=h8.2;omega
       have hi:=h8.1;rw[e3] at hi;have e1:toNat (x3:Int)+toNat (x7.2.1:Int)=x3+x7.2.1:=by omega
       have e2:toNat (x3:Int)+toNat ((x7.2.1:Int)-1)=x3+x7.2.1-1:=by omega
       rw[e1,e2];by_cases hd:getD x7.2.2.1 (x3+x7.2.1) []=getD x7.2.2.1 (x3+x7.2.1-1) [];rw[M? hd];exact O6 hi w! hd;rw[f? hd];exact S7 hi w! hd;omega;simp only[ag,S.len];omega
     intro jV;with_reducible and_intros
     omega
     iterate 2
      have q1:=h8.1.2.1;have q2:=h8.1.2.2.2.1;have q3:=h8.1.2.2.2.2.1;omega
     omega;have q1:=h8.1.2.1;have q2:=h8.1.2.2.2.1;have q3:=h8.1.2.2.2.2.1;simp;omega;have q1:=h8.1.2.1;have q2:=h8.1.2.2.2.1;have q3:=h8.1.2.2.2.2.1;grind[toNat,LC,S8]
   intro oq;try simp only[df,tn] at oq
   with_reducible and_intros
   iterate 2 omega
   refine⟨(x3+1),?_⟩;grind[S5,ag,S.len]
 grind[df,YQ]
def avV(l:M (Int×B8))(hp:fA l):(∃(x:Nat),((0:Int)=(↑x:Int)/\(0:Int)=gB l x/\(0:Int)=nW l x)/\nA l x)/\∀(x:Nat),nA l x->(decide ((↑x:Int)<(↑(length l):Int))=true->((0:Int)<=(↑x:Int)/\(↑x:Int)<(↑(length l):Int))/\(decide ((getD l (toNat (↑x:Int)) ((0:Int),[])).1=(0:Int))=true->S.small ((getD l (toNat (↑x:Int)) ((0:Int),[])).2)/\((!S.isTerm ((getD l (toNat (↑x:Int)) ((0:Int),[])).2))=true->false=bR l)/\((!S.isTerm ((getD l (toNat (↑x:Int)) ((0:Int),[])).2))=false->((-9223372036854775808:Int)<=gB l x+(1:Int)/\gB l x+(1:Int)<=(9223372036854775807:Int))/\((-9223372036854775808:Int)<=nW l x+(1:Int)/\nW l x+(1:Int)<=(9223372036854775807:Int))/\((-9223372036854775808:Int)<=(↑x:Int)+(1:Int)/\(↑x:Int)+(1:Int)<=(9223372036854775807:Int))/\∃(wb:Nat),((↑x:Int)+(1:Int)=(↑wb:Int)/\gB l x+(1:Int)=gB l wb/\nW l x+(1:Int)=nW l wb)/\nA l wb/\ag (S.len l) wb<ag (S.len l) x))/\(decide ((getD l (toNat (↑x:Int)) ((0:Int),[])).1=(0:Int))=false->(decide ((getD l (toNat (↑x:Int)) ((0:Int),[])).1=(1:Int))=true->((bif !decide ((getD l (toNat (↑x:Int)) ((0:Int),[])).2=[]) then true else decide (gB l x<(2:Int)))=true->false=bR l)/\((bif !decide ((getD l (toNat (↑x:Int)) ((0:Int),[])).2=[]) then true else decide (gB l x<(2:Int)))=false->((-9223372036854775808:Int)<=gB l x-(1:Int)/\gB l x-(1:Int)<=(9223372036854775807:Int))/\((-9223372036854775808:Int)<=(↑x:Int)+(1:Int)/\(↑x:Int)+(1:Int)<=(9223372036854775807:Int))/\∃(wb:Nat),((↑x:Int)+(1:Int)=(↑wb:Int)/\gB l x-(1:Int)=gB l wb/\nW l x=nW l wb)/\nA l wb/\ag (S.len l) wb<ag (S.len l) x))/\(decide ((getD l (toNat (↑x:Int)) ((0:Int),[])).1=(1:Int))=false->(decide ((getD l (toNat (↑x:Int)) ((0:Int),[])).1=(2:Int))=true->((bif !decide ((getD l (toNat (↑x:Int)) ((0:Int),[])).2=[]) then true else decide (gB l x<(2:Int)))=true->false=bR l)/\((bif !decide ((getD l (toNat (↑x:Int)) ((0:Int),[])).2=[]) then true else decide (gB l x<(2:Int)))=false->((-9223372036854775808:Int)<=gB l x-(1:Int)/\gB l x-(1:Int)<=(9223372036854775807:Int))/\((-9223372036854775808:Int)<=(↑x:Int)+(1:Int)/\(↑x:Int)+(1:Int)<=(9223372036854775807:Int))/\∃(wb:Nat),((↑x:Int)+(1:Int)=(↑wb:Int)/\gB l x-(1:Int)=gB l wb/\nW l x=nW l wb)/\nA l wb/\ag (S.len l) wb<ag (S.len l) x))/\(decide ((getD l (toNat (↑x:Int)) ((0:Int),[])).1=(2:Int))=false->(decide ((getD l (toNat (↑x:Int)) ((0:Int),[])).1=(3:Int))=true->((bif !decide ((getD l (toNat (↑x:Int)) ((0:Int),[])).2=[]) then true else decide (gB l x<(2:Int)))=true->false=bR l)/\((bif !decide ((getD l (toNat (↑x:Int)) ((0:Int),[])).2=[]) then true else decide (gB l x<(2:Int)))=false->((-9223372036854775808:Int)<=gB l x-(1:Int)/\gB l x-(1:Int)<=(9223372036854775807:Int))/\((-9223372036854775808:Int)<=(↑x:Int)+(1:Int)/\(↑x:Int)+(1:Int)<=(9223372036854775807:Int))/\∃(wb:Nat),((↑x:Int)+(1:Int)=(↑wb:Int)/\gB l x-(1:Int)=gB l wb/\nW l x=nW l wb)/\nA l wb/\ag (S.len l) wb<ag (S.len l) x))/\(decide ((getD l (toNat (↑x:Int)) ((0:Int),[])).1=(3:Int))=false->false=bR l)))))/\(decide ((↑x:Int)<(↑(length l):Int))=false->(bif decide (gB l x=(1:Int)) then decide (nW l x<=(16:Int)) else false)=bR l):=by
 have iK:l.length<=1099511627776:=hp.1;have hq:=hp;clear hp;refine⟨?_,?_⟩
 . refine⟨0,?_⟩;try dsimp only
   with_reducible and_intros
   iterate 3 rfl
   exact aLb hq.1
 intro x1 h2;refine⟨?_,?_⟩
 . intro h3;try simp only[dt] at h3
   with_reducible and_intros
   iterate 2 omega
   . intro h4;try simp only[dt,tn] at h4
     refine⟨?_,?_,?_⟩;exact aEt hq _;intro h5;try simp only[nt] at h5
     exact aoe h3 h4 h5;intro h6;try simp only[nf] at h6
     with_reducible and_intros
     iterate 6
      have q:=xC l x1;have q2:gB l x1=2*nW l x1-x1:=rfl;omega
     refine⟨(x1+1),?_⟩;try dsimp only
     with_reducible and_intros
     have q:=xC l x1;have q2:gB l x1=2*nW l x1-x1:=rfl;omega
     exact(Zx (by assumption)).symm;exact(VL (by assumption)).symm;exact aod h2 h3 h4 h6;grind[ag,S.len]
   intro h7;try simp only[df,tn] at h7
   refine⟨?_,?_⟩
   . intro h8;try simp only[dt,tn] at h8
     refine⟨?_,?_⟩;intro h9;try simp at h9
     exact Ij h3 h7 (.inr (by assumption));intro ez;try simp only[V.pr,nf,dt,tn,df] at ez
     with_reducible and_intros
     iterate 4
      have q:=xC l x1;have q2:gB l x1=2*nW l x1-x1:=rfl;omega
     refine⟨(x1+1),?_⟩;try dsimp only
     with_reducible and_intros
     have q:=xC l x1;have q2:gB l x1=2*nW l x1-x1:=rfl;omega
     exact(MV (by assumption)).symm;exact(PG (by assumption)).symm;exact PJ h2 h3 h7 w! (by assumption);grind[ag,S.len]
   intro iZ;refine⟨?_,?_⟩
   . intro jV;try simp only[dt,tn] at jV
     refine⟨?_,?_⟩;intro oq;try simp at oq
     exact Ij h3 h7 (.inr (by assumption));intro pG;try simp only[V.pr,nf,dt,tn,df] at pG
     with_reducible and_intros
     iterate 4
      have q:=xC l x1;have q2:gB l x1=2*nW l x1-x1:=rfl;omega
     refine⟨(x1+1),?_⟩;try dsimp only
     with_reducible and_intros
     have q:=xC l x1;have q2:gB l x1=2*nW l x1-x1:=rfl;omega
     exact(MV (by assumption)).symm;exact(PG (by assumption)).symm;exact PJ h2 h3 h7 w! (by assumption);grind[ag,S.len]
   intro KB;refine⟨?_,?_⟩
   . intro IH;try simp only[dt,tn] at IH
     refine⟨?_,?_⟩;intro QT;try simp at QT
     exact Ij h3 h7 (.inr (by assumption));intro Â;try simp only[V.pr,nf,dt,tn,df] at Â
     with_reducible and_intros
     iterate 4
      have q:=xC l x1;have q2:gB l x1=2*nW l x1-x1:=rfl;omega
     refine⟨(x1+1),?_⟩;try dsimp only
     with_reducible and_intros
     have q:=xC l x1;have q2:gB l x1=2*nW l x1-x1:=rfl;omega
     exact(MV (by assumption)).symm;exact(PG (by assumption)).symm;exact PJ h2 h3 h7 w! (by assumption);grind[ag,S.len]
   grind[df,tn,Ij]
 grind[df,atP]
def avW(l:M (Int×B8))(hp:S.small l):(∃(x1:Nat),((0:Int)=x1/\[]=bP l x1)/\fX l x1)/\(∀(x2:Nat),fX l x2->ca (decide ((x2:Int)<length l)) (bH 0 x2 (length l)/\rj (dA (getD l (toNat x2) (0,[])).1) (AP (bP l x2) [(getD l (toNat x2) (0,[])).2]/\dh x2 (∃(x3:Nat),mv (x2+1) x3 (bP l x2++[(getD l (toNat x2) (0,[])).2]=bP l x3) (fX l x3) (S.len l) (ag (S.len l) x2))) x2 (∃(x4:Nat),mv (x2+1) x4 (bP l x2=bP l x4) (fX l x4) (S.len l) (ag (S.len l) x2))) (S.small (bP l x2)) (S.small (fh (bP l x2))) (bT (fh (bP l x2))=aF l)):=by
 refine ar ?_;have iK:l.length<=1099511627776:=hp;refine⟨?_,?_⟩;grind[ag,S.len,fX,aLc];intro x1 h2;refine V.dI (λh3=>?_) λh6=>?_
 . with_reducible and_intros
   iterate 2 (grind[ag,S.len,fX])
   . intro h4;try simp only[dt,tn] at h4
     with_reducible and_intros
     (have q:=aog iK h2 [];exact q.1)
     iterate 2 (grind[ag,S.len,fX])
     refine⟨(x1+1),?_⟩;try dsimp only
     with_reducible and_intros
     grind[ag,S.len,fX];exact aof h3 h4;iterate 2 (grind[ag,S.len,fX])
   intro h5;try simp only[df,tn] at h5
   with_reducible and_intros
   iterate 2 (grind[ag,S.len,fX])
   refine⟨(x1+1),?_⟩;try dsimp only
   with_reducible and_intros
   grind[ag,S.len,fX];exact aob h3 h5;iterate 2 (grind[ag,S.len,fX])
 refine⟨?_,?_,?_⟩
 (have q:=aog iK h2 [];exact q.2.1)
 (have q:=aog iK h2 [];exact q.2.2.1)
 grind[atQ]
def avX(b:B8)(hp:S.small b):qM b (ca (dA (length (aS b))) ([]=hdT (aS b)) ((0:Int)<=0/\(0:Int)<length (aS b)) (toNat 0<length (aS b)) (ew (aS b) 0=hdT (aS b))):=by
 refine ar ?_;refine⟨?_,?_,?_⟩;omega;intro h1;simp only[dt] at h1;rw[show aS b=[] from W?.1 w!];rfl;intro h2;simp only[df] at h2;with_reducible and_intros
 iterate 3 omega
 rfl
def avY(st:Int)(bb:B8)(at_:Int)(hp:st=0/\bb=zZ/\at_=3):ca (nE st) (E7 0 st at_ (fB bb)/\qM (Ws at_ bb st) (length ([(-1,st,hdT (aS (Ws at_ bb st)))]:M (Int×Int×B8))<=4398046511104/\-(1:Int)=-1/\bb=bb/\at_=at_/\[(-1,st,hdT (aS (Ws at_ bb st)))]=kE1)) (st=-1) (bb=bb) (at_=at_/\[]=kE1):=by
 refine ar ?_;obtain⟨q1,q2,q3⟩:=hp;subst q1;subst q2;subst q3;refine⟨?_,?_⟩
 . intro h1;with_reducible and_intros
   iterate 2 omega
   decide;exact(show(drop 0 (take 3 zZ)).length<=1099511627776 by decide);decide;iterate 4 rfl
 grind
def avZ(b:B8)(hp:b=zZ):qM b ((∃(x1:Nat),vW x1 (b=b/\(0:Int)=(x1:Int)/\-(1:Int)=ue x1) (3:Nat))/\(∀(x2:Nat),cw x2 (3:Nat)->ca (decide ((x2:Int)<(length (S.decode b):Int))) (bH (0:Int) (x2:Int) (length (S.decode b):Int)/\toNat (x2:Int)<length (S.decode b)/\gj (lA (S.letter (nF b x2))) (cm (kI (S.letter (nF b x2)) (S.digit (nF b x2))) (dV (cI ((x2:Int)+fB (il (nF b x2)))/\dh (x2:Int) (∃(x3:Nat),mv ((x2:Int)+(1:Int)) x3 (b=b/\(x2:Int)+fB (il (nF b x2))=(x3:Int)/\(bif decide (ue x2<(0:Int)) then(x2:Int) else ue x2)=ue x3) (cw x3 (3:Nat)) (3:Nat) (ag (3:Nat) x2)))) (ue x2=(0:Int)/\b=zZ/\(x2:Int)=(3:Int)) (dp (decide (nF b x2=(32:Int))) (dh (x2:Int) (dh (x2:Int) (∃(x4:Nat),mv ((x2:Int)+(1:Int)) x4 (b=b/\False/\(x2:Int)+(1:Int)=(x4:Int)/\-(1:Int)=ue x4) (cw x4 (3:Nat)) (3:Nat) (ag (3:Nat) x2)))) (cm (bif decide (nF b x2=(40:Int)) then decide (nF b x2=(40:Int)) else bif decide (nF b x2=(41:Int)) then decide (nF b x2=(41:Int)) else bif decide (nF b x2=(124:Int)) then decide (nF b x2=(124:Int)) else bif decide (nF b x2=(38:Int)) then decide (nF b x2=(38:Int)) else decide (nF b x2=(33:Int))) (aeQ [(nF b x2,(x2:Int),([]:B8))]/\dh (x2:Int) (dh (x2:Int) (∃(x5:Nat),mv ((x2:Int)+(1:Int)) x5 (b=b/\False/\(x2:Int)+(1:Int)=(x5:Int)/\-(1:Int)=ue x5) (cw x5 (3:Nat)) (3:Nat) (ag (3:Nat) x2)))) (aeQ [(-(3:Int),(x2:Int),([]:B8))]) (kE1++[(-(3:Int),(x2:Int),([]:B8))]=kE))))) (ue x2=(0:Int)/\b=zZ/\(x2:Int)=(3:Int)) (aeQ [(-(2:Int),fB b,([]:B8))]) (kE1++[(-(2:Int),fB b,([]:B8))]=kE))):=by
 refine ar ?_;subst hp;refine⟨?_,?_,?_⟩;exact(show S.zZ.length<=1099511627776 by decide)
 . refine⟨0,?_⟩;with_reducible and_intros
   decide;rfl;iterate 2 decide
   exact R! _
 intro x1 h2;refine V.dI (λh3=>?_) λjV=>?_
 . with_reducible and_intros
   iterate 3 omega
   trivial;intro h4;trivial;intro h5;trivial
   . intro h6;with_reducible and_intros
     trivial;omega;rcases yK h3 with rfl|rfl|rfl<;>first|exact absurd h7.1 (by decide)|decide
     omega;rcases yK h3 with rfl|rfl|rfl<;>first|exact absurd h7.1 (by decide)|decide
     refine⟨(x1+1),?_⟩;try dsimp only
     with_reducible and_intros
     omega;rfl
     iterate 2
      rcases yK h3 with rfl|rfl|rfl<;>first|exact absurd h7.1 (by decide)|decide
     unfold cw;have :x1<3:=by have:=yK h3;omega
     omega;rcases yK h3 with rfl|rfl|rfl<;>first|exact absurd h7.1 (by decide)|decide
   intro h7;try simp only[V.pr] at h7
   with_reducible and_intros
   rcases yK h3 with rfl|rfl|rfl<;>first|exact absurd h7.1 (by decide)|decide
   with_reducible rfl
   rcases yK h3 with rfl|rfl|rfl<;>first|exact absurd h7.1 (by decide)|decide
   . intro h8;with_reducible and_intros
     omega;rcases yK h3 with rfl|rfl|rfl<;>first|exact absurd h7.1 (by decide)|decide
     omega;rcases yK h3 with rfl|rfl|rfl<;>first|exact absurd h7.1 (by decide)|decide
     refine⟨(x1+1),?_⟩;try dsimp only
     with_reducible and_intros
     omega;rfl;rcases yK h3 with rfl|rfl|rfl<;>first|exact absurd h7.1 (by decide)|decide
     omega
     iterate 2
      rcases yK h3 with rfl|rfl|rfl<;>first|exact absurd h7.1 (by decide)|decide
     rcases yK h3 with rfl|rfl|rfl<;>first|exact absurd h7.1 (by decide)|decide
   intro h9;refine⟨?_,?_⟩
   . intro ez;with_reducible and_intros
     rcases yK h3 with rfl|rfl|rfl<;>first|exact absurd h7.1 (by decide)|decide
     omega;rcases yK h3 with rfl|rfl|rfl<;>first|exact absurd h7.1 (by decide)|decide
     omega;rcases yK h3 with rfl|rfl|rfl<;>first|exact absurd h7.1 (by decide)|decide
     refine⟨(x1+1),?_⟩;try dsimp only
     with_reducible and_intros
     omega;rfl;rcases yK h3 with rfl|rfl|rfl<;>first|exact absurd h7.1 (by decide)|decide
     omega
     iterate 2
      rcases yK h3 with rfl|rfl|rfl<;>first|exact absurd h7.1 (by decide)|decide
     rcases yK h3 with rfl|rfl|rfl<;>first|exact absurd h7.1 (by decide)|decide
   intro iZ;refine⟨?_,?_⟩;rcases yK h3 with rfl|rfl|rfl<;>first|exact absurd h7.1 (by decide)|decide
   rcases yK h3 with rfl|rfl|rfl<;>first|exact absurd h7.1 (by decide)|decide
 with_reducible and_intros
 (have hx:=ge3 h2 jV;subst hx;decide)
 rfl
 (have hx:=ge3 h2 jV;subst hx;decide)
 iterate 2 decide
def av0(e:M (Int×Int×B8))(n w:Int)(hp:0<=n/\n<e.length):bH 0 n (length e)/\q0 (getD e (toNat n) (0,0,[])) (A5 e n) (e=e/\n=n/\w=w):=by
 refine ar ?_;with_reducible and_intros
 iterate 2 omega
 iterate 6 rfl
def av1(e:M (Int×Int×B8))(n w:Int)(l:M (Int×B8))(hp:0<=n/\n<e.length):bH 0 n (length e)/\q0 (getD e (toNat n) (0,0,[])) (A5 e n) (e=e/\n=n/\w=w/\l=l):=by
 refine ar ?_;with_reducible and_intros
 iterate 2 omega
 iterate 7 rfl
def av3(d:Int)(e:M (Int×Int×B8))(n w:Int)(hp:e=kE/\n=0/\w=0):bH (0:Int) n (length e:Int)/\dp (decide ((A5 e n).1=-(1:Int))) (rj (decide ((16:Int)<=w)) ((8:Int)=(0:Int)/\e=e/\n=(1:Int)/\w=(1:Int)/\Qr) w (dh n (AO (length [((0:Int),(A5 e n).2.2)])/\(0:Int)=(0:Int)/\e=e/\n+(1:Int)=(1:Int)/\w+(1:Int)=(1:Int)/\[((0:Int),(A5 e n).2.2)]=jG))) (dp (decide ((A5 e n).1=(40:Int))) (rj (decide ((8:Int)<=d)) ((8:Int)=(0:Int)/\e=e/\n=(1:Int)/\w=(1:Int)/\Qr) n False) (ca (decide ((A5 e n).1=(33:Int))) ((9:Int)=(0:Int)/\e=e/\n=(1:Int)/\w=(1:Int)/\Qr) ((2:Int)=(0:Int)) (e=e) (n=(1:Int)/\w=(1:Int)/\Qr))):=by
 refine ar ?_;obtain⟨q1,q2,q3⟩:=hp;subst q1;subst q2;refine⟨⟨?_,?_⟩,⟨?_,?_⟩⟩;omega;decide
 . intro h1;refine⟨?_,?_⟩;grind;intro h3;with_reducible and_intros
   iterate 4 omega
   decide;iterate 2 rfl
   iterate 2 omega
   decide
 intro h4;simp at h4;refine V.dI (λh5=>?_) λh8=>?_
 . refine V.dI (λh6=>?_) λh7=>?_;apply QS;exact absurd rfl h4;rfl;iterate 3 exact absurd rfl h4
   with_reducible and_intros
   iterate 2 omega
   exact absurd rfl h4
 refine V.dI (λh9=>?_) λez=>?_;apply QS;exact absurd rfl h4;rfl;iterate 3 exact absurd rfl h4
 apply QS;exact absurd rfl h4;rfl;iterate 3 exact absurd rfl h4
def av4(d:Int)(e:M (Int×Int×B8))(n w:Int)(hp:e=kE/\n=0/\w=0):(e=kE/\n=0/\w=0)/\cm (Qo 0) ((0:Int)=0/\e=e/\(1:Int)=1/\Qt 1) (∃(x1:Nat),(e=e/\(1:Int)=1/\Qt 1)/\x1=0) (∀(x2:Nat),x2=0->bH 0 1 (length e)/\dp (decide ((A5 e 1).1=38)) (dh 1 False) (ca (decide ((A5 e 1).1=33)) (dh 1 False) yR (e=e) ((1:Int)=1/\Qt 1))):=by
 refine ar ?_;obtain⟨q1,q2,q3⟩:=hp;subst q1;subst q2;subst q3;with_reducible and_intros
 iterate 3 rfl
 grind;intro h2;refine⟨?_,?_⟩;grind;intro x3 h4;with_reducible and_intros
 omega;decide
 . intro h5;with_reducible and_intros
   iterate 2 omega
   exact absurd h5 (by decide)
 intro h6;refine⟨?_,?_⟩
 . intro h7;with_reducible and_intros
   iterate 2 omega
   exact absurd h7 (by decide)
 grind
def av5(d:Int)(e:M (Int×Int×B8))(n w:Int)(hp:e=kE/\n=0/\w=0):(e=kE/\n=0/\w=0)/\cm (Qo 0) ((0:Int)=0/\e=e/\(1:Int)=1/\Qt 1) (∃(x1:Nat),(e=e/\(1:Int)=1/\Qt 1)/\x1=0) (∀(x2:Nat),x2=0->bH 0 1 (length e)/\ca (decide ((A5 e 1).1=124)) (dh 1 False) yR (e=e) ((1:Int)=1/\Qt 1)):=by
 refine ar ?_;obtain⟨q1,q2,q3⟩:=hp;subst q1;subst q2;subst q3;with_reducible and_intros
 iterate 3 rfl
 grind;intro h2;refine⟨?_,?_⟩;grind;intro x3 h4;with_reducible and_intros
 omega;decide
 . intro h5;with_reducible and_intros
   iterate 2 omega
   exact absurd h5 (by decide)
 grind
def av6(b:B8)(hp:b=zZ):ca (CT 2000 b) (Qr/\(0:Int)=0/\(8:Int)=0) (b=zZ) (kE=kE/\(0:Int)=0/\yR) (fj (dA 0) (bH 0 1 (length kE))/\cm (cR (Ŧ 0 1 2)) (bH 0 (bif dA 0 then 1 else 1) (length (bif dA 0 then kE else kE))/\Qr/\(A5 (bif dA 0 then kE else kE) (bif dA 0 then 1 else 1)).2.1=0/\Ŧ 0 1 2=0) ((bif dA 0 then jG else jG)=jG) ((0:Int)=0/\yR)):=by
 refine ar ?_;subst hp;refine V.dI (λh1=>?_) λh2=>?_;refine⟨?_,?_,?_⟩;exact absurd h1 (by decide);rfl;exact absurd h1 (by decide);with_reducible and_intros
 iterate 4 rfl
 intro h3;refine⟨?_,?_⟩;omega;decide;grind
 . intro h5;simp at h5;with_reducible and_intros
   iterate 2 decide
   iterate 2 (exact absurd (by decide) h5)
   decide
 grind
def av7(v:Int)(d:Bool)(l:B8)(hp:l.length<=35184372088832):nC jP/\nD l (ml jP v)/\kI (cR (yo v)) d=oD d (jH v)/\l++ml jP v=gM l (jH v):=by
 refine ar ?_;refine⟨?_,?_,?_,?_⟩;grind;grind[atX];grind[aLh];rw[aLg v];rfl
def av8(b:B8)(m:Int)(d:Bool)(l:B8)(hp:l.length<=35184372088832/\b.length<=1099511627776):ca (CT m b) (true=oD d (gg b m)/\l=gM l (gg b m)) (oR jP b) (nD l ([]++S.text b)) (d=oD d (gg b m)/\l++([]++S.text b)=gM l (gg b m)):=by
 refine ar ?_;refine V.dI (λh1=>?_) λh2=>?_;refine⟨?_,?_⟩;rw[ad9 h1];exact(Bool.or_true d).symm;rw[ad9 h1];exact(F? l).symm;refine⟨?_,?_,?_,?_⟩;exact⟨R! _,w!⟩;have:=aoj b;simp;omega;rw[aoo h2];exact(Bool.or_false d).symm;rw[aoo h2];rfl
def av9(y1:Int)(y2:B8)(y3:M (Int×Int×Int×B8))(d:Bool)(l:B8)(hp:l.length<=35184372088832):dV (ca (cR (hW y1 y2 y3).2) (true=oD d (kG y1 y2 y3)/\l=gM l (kG y1 y2 y3)) (nC l/\Qp (hW y1 y2 y3).1) (oD d (gg (hW y1 y2 y3).1 10000)=oD d (kG y1 y2 y3)) (gM l (gg (hW y1 y2 y3).1 10000)=gM l (kG y1 y2 y3))):=by
 refine ar ?_;refine⟨?_,?_,?_⟩;trivial;intro h1;simp at h1;refine⟨?_,?_⟩;rw[aop h1];exact(Bool.or_true d).symm;rw[aop h1];exact(List.append_nil l).symm;grind[atY]
def awa(p:O)(d:Bool)(l:B8)(hp:l.length<=17592186044416):ca (Gk (bE p)) (true=oD d (iU p)/\l=gM l (iU p)) (nC l) (∃(x1:Nat),((0:Int)=x1/\oD d (jH (bE p))=d/\gM l (jH (bE p))=l++ir p x1)/\mA p x1) (∀(x2:Nat),vX (mA p x2) (decide (x2<bE p)) x2 (bE p) (cm (oX (length (ew p x2)) 32) (true=oD d (iU p)/\l++ir p x2=gM l (iU p)) (IC (l++ir p x2) (length (ew p x2))) (dh x2 (∃(x3:Nat),iw x2 x3 (d=d/\l++ir p x2++ew p x2=l++ir p x3) (mA p x3) (S.len p)))) (d=oD d (iU p)) (l++ir p x2=gM l (iU p))):=by
 refine ar ?_;refine V.dI (λh1=>?_) λh2=>?_;refine⟨?_,?_⟩;rw[aok h1];exact(Bool.or_true d).symm;rw[aok h1];exact(F? l).symm;refine⟨?_,?_,?_⟩;omega
 . refine⟨(nat_lit 0:Nat),?_⟩;dsimp only;with_reducible and_intros
   omega;rw[VN w!];exact Bool.or_false d;grind[VN,ir,S.bytesOf];exact aLe h2
 intro x3 h4;refine V.dI (λh5=>?_) λh8=>?_
 . with_reducible and_intros
   iterate 2 omega
   intro h6;simp at h6;refine⟨?_,?_⟩;rw[ad3 h4 h5 h6];exact(Bool.or_true d).symm;rw[ad3 h4 h5 h6];rfl;intro h7;simp only[nf,dt,tn] at h7;with_reducible and_intros
   have q:=atV h4;rw[H!,tn];omega;iterate 2 omega
   refine⟨(x3+nat_lit 1),?_⟩;dsimp only;with_reducible and_intros
   omega;rfl;rw[tn,V!,(ZD h4 h5 h7).2];exact(ZD h4 h5 h7).1;simp[ag,S.len];omega
 refine⟨?_,?_⟩;rw[ad4 h4 h8];exact(Bool.or_false d).symm;rw[ad4 h4 h8];rfl
def awb(p1:Int)(p2 p3 p4:B8)(p5:O)(p6:B8)(d:Bool)(l:B8)(hp:l.length<=8796093022208/\p6.length<=1099511627776):nC l/\dV (ca (cR (kD p2 p3 p4)) (true=oD d (kW (p1,p2,p3,p4,p5,p6))/\gM l (jH p1)=gM l (kW (p1,p2,p3,p4,p5,p6))) (nC (gM l (jH p1))/\Qp (dK p2 p3 p4)) (length (gM (gM l (jH p1)) (gg (dK p2 p3 p4) 200))<=17592186044416) ((nC (gM (gM (gM l (jH p1)) (gg (dK p2 p3 p4) 200)) (iU p5))/\Qp p6)/\oD (oD (oD (oD d (jH p1)) (gg (dK p2 p3 p4) 200)) (iU p5)) (gg p6 4000)=oD d (kW (p1,p2,p3,p4,p5,p6))/\gM (gM (gM (gM l (jH p1)) (gg (dK p2 p3 p4) 200)) (iU p5)) (gg p6 4000)=gM l (kW (p1,p2,p3,p4,p5,p6)))):=by
 refine ar ?_;have a1:=PL p1;have a2:=yM (dK p2 p3 p4) (m:=200) (by decide);have a3:=PM p5;have a4:=atZ p2 p3 p4;refine⟨?_,?_,?_,?_⟩;omega;trivial;intro h1;simp at h1;refine⟨?_,?_⟩;rw[aea h1];exact(Bool.or_true d).symm;rw[aea h1];rfl;grind[S.bytesOf,List.length_append,aoq,oD,S.cat,Bool.or_assoc,List.append_assoc]
def awc(d:Bool)(l:B8):dp d ([]=EV (l,d)/\1=EW (l,d)) (cm (CT 1048576 l) ([]=EV (l,d)/\3=EW (l,d)) (l=EV (l,d)) (0=EW (l,d))):=by
 refine ar ?_;simp_all[dt,EV,W!,Q!,EW,df]
def awd(a1:Int)(a2:B8)(a3:M (Int×Int×Int×B8))(a4:M (M (Int×B8×B8×B8×O×B8)))(hp:yL a4)(hf:Vg.fS J.aCr (a1,a2,a3,a4)):nC [1]/\cm (oX (length a4) (length a3)) (xe (wZ a1 a2 a3 a4) 1) (∃(x1:Nat),((0:Int)=x1/\oD false (kG a1 a2 a3)=mU (ga a1 a2 a3 a4 x1)/\gM [1] (kG a1 a2 a3)=S.bytesOf (ga a1 a2 a3 a4 x1))/\oV a3 a4 x1) (∀(x2:Nat),vX (oV a3 a4 x2) (decide ((x2:Int)<length a4)) x2 (length a4) (ca (decide (16<Ko a4 x2)) (xe (wZ a1 a2 a3 a4) 1) (nC (S.bytesOf (ga a1 a2 a3 a4 x2))) (∃(x3:Nat×Nat),((0:Int)=x3.1/\oD (mU (ga a1 a2 a3 a4 x2)) (jH (Ko a4 x2))=mU (gx a1 a2 a3 a4 x3.2 x3.1)/\gM (S.bytesOf (ga a1 a2 a3 a4 x2)) (jH (Ko a4 x2))=S.bytesOf (gx a1 a2 a3 a4 x3.2 x3.1))/\mB a3 a4 x3.2 x3.1/\(x2:Int)=x3.2) (∀(x4:Nat×Nat),mB a3 a4 x4.2 x4.1/\(x2:Int)=x4.2->rj (decide (x4.1<Ko a4 x2)) (bH 0 x4.1 (Ko a4 x2)/\(length (S.bytesOf (gx a1 a2 a3 a4 x4.2 x4.1))<=8796093022208/\Qp (C0 a4 x2 x4).2.2.2.2.2)/\cI (x4.1+1)/\(∃(x5:Nat×Nat),mv (x4.1+1) x5.1 (oD (mU (gx a1 a2 a3 a4 x4.2 x4.1)) (ŵ a4 x2 x4)=mU (gx a1 a2 a3 a4 x5.2 x5.1)/\gM (S.bytesOf (gx a1 a2 a3 a4 x4.2 x4.1)) (ŵ a4 x2 x4)=S.bytesOf (gx a1 a2 a3 a4 x5.2 x5.1)) (mB a3 a4 x5.2 x5.1/\(x2:Int)=x5.2) (S.len (fw a4 x5.2)) (ag (S.len (fw a4 x4.2)) x4.1))) x2 (∃(x6:Nat),iw x2 x6 (mU (gx a1 a2 a3 a4 x4.2 x4.1)=mU (ga a1 a2 a3 a4 x6)/\S.bytesOf (gx a1 a2 a3 a4 x4.2 x4.1)=S.bytesOf (ga a1 a2 a3 a4 x6)) (oV a3 a4 x6) (S.len a4)))) True (EV (S.bytesOf (ga a1 a2 a3 a4 x2),mU (ga a1 a2 a3 a4 x2))=(wZ a1 a2 a3 a4).1/\EW (S.bytesOf (ga a1 a2 a3 a4 x2),mU (ga a1 a2 a3 a4 x2))=(wZ a1 a2 a3 a4).2)):=by
 refine ar ?_;have apT:Vg.hlen a3:=hf.2.2.1.1;refine⟨?_,?_,?_⟩;decide;grind[nt,df,aEv];intro h2;simp at h2;refine⟨?_,?_⟩
 . refine⟨(nat_lit 0:Nat),?_⟩;dsimp only;with_reducible and_intros
   omega;iterate 2 rfl
   grind[aLf]
 intro x3 h4;refine V.dI (λh5=>?_) λjV=>?_
 . with_reducible and_intros
   iterate 2 omega
   intro h6;try simp at h6
   refine⟨?_,?_⟩;rw[ad6 h5 h6];rw[ad6 h5 h6];intro h7;try simp only[df,tn] at h7
   refine⟨?_,?_,?_⟩;exact Z? (ad8 (n:=a1) (g:=a2) h4) (by decide)
   . refine⟨((nat_lit 0:Nat),(x3)),?_⟩;try dsimp only
     with_reducible and_intros
     omega
     iterate 2
      rw[tn,VN w!];rfl
     exact aEu h4 h5 h7;with_reducible rfl
   intro x8 h9;refine⟨?_,?_⟩
   . intro ez;try simp only[dt,tn] at ez
     with_reducible and_intros
     omega;assumption;exact Z? (aon (n:=a1) (g:=a2) h9.1) (by decide);obtain⟨q,e⟩:=h9;have e':x8.2=x3:=by omega
     rw[e'] at q;exact aom q ez;iterate 2 omega
     refine⟨((Prod.fst x8+nat_lit 1),(x3)),?_⟩;try dsimp only
     with_reducible and_intros
     omega;obtain⟨q,e⟩:=h9;have e':x8.2=x3:=by omega
     rw[e',tn,tn];exact(aB9 _ rfl _ _ rfl rfl).1;obtain⟨q,e⟩:=h9;have e':x8.2=x3:=by omega
     rw[e',tn,tn];exact(aB9 _ rfl _ _ rfl rfl).2;obtain⟨q,e⟩:=h9;have e':x8.2=x3:=by omega
     rw[e'] at q;exact aol q ez;with_reducible rfl
     obtain⟨q,e⟩:=h9;have e':x8.2=x3:=by omega
     rw[e'];have hh:(x8.1:Int)<((fw a4 x3).length:Int):=ez;simp only[ag,S.len];omega
   intro iZ;try simp only[df,tn] at iZ
   with_reducible and_intros
   iterate 2 omega
   refine⟨(x3+nat_lit 1),?_⟩;try dsimp only
   with_reducible and_intros
   omega
   iterate 2
    obtain⟨q,e⟩:=h9;have e':x8.2=x3:=by omega
    rw[e'] at q |-;rw[(ad5 (n:=a1) (g:=a2) q iZ).2]
   obtain⟨q,e⟩:=h9;have e':x8.2=x3:=by omega
   rw[e'] at q;exact(ad5 (n:=a1) (g:=a2) q iZ).1;simp only[ag,S.len];omega
 refine⟨?_,?_,?_⟩;trivial;rw[ad7 h4 jV];rfl;rw[ad7 h4 jV];rfl
def awe(p1:Int)(p2:B8)(p3:M (Int×Int×Int×B8))(p4:Int)(p5:B8)(p6:O)(hp:p5.length<=1099511627776):nC [2]/\nC (gM [2] (kG p1 p2 p3))/\(nC (gM (gM [2] (kG p1 p2 p3)) (jH p4))/\Qp p5)/\length (gM (gM (gM [2] (kG p1 p2 p3)) (jH p4)) (gg p5 2000))<=17592186044416/\dV (EV (Ŷ p1 p2 p3 p4 p5 p6)=(JO p1 p2 p3 p4 p5 p6).1/\EW (Ŷ p1 p2 p3 p4 p5 p6)=(JO p1 p2 p3 p4 p5 p6).2):=by
 refine ar ?_;have a1:=Tr p1 p2 p3;have a2:=PL p4;have a3:=yM p5 (m:=2000) (by decide);with_reducible and_intros
 grind;iterate 2 (grind[S.bytesOf,List.length_append,List.length_singleton])
 omega;grind[S.bytesOf,List.length_append,List.length_singleton];trivial;iterate 2 rfl
def awf(b:B8)(c:UInt8)(hp:iW b c=0):dp (decide (1048576<fB b)) (False/\(3:Int)=0/\False) (cm (dA (fB b)) (False/\(4:Int)=0/\False) ((0:Int)<=0/\0<fB b) (ca (oX (fY b 0) (UInt8.toNat c)) (False/\(2:Int)=0/\False) (0=0) yR (b=b/\(1:Int)=1/\yR))):=by
 refine ar ?_;refine⟨?_,?_⟩;intro h1;simp_all[dt,aeb]
 intro h2;refine⟨?_,?_⟩;intro h3;simp_all[dt,aec]
 grind[df,nt,aor]
def awg(b:B8)(c:UInt8)(hp:¬iW b c=0):dp (decide (1048576<fB b)) (3=iW b c) (cm (dA (fB b)) (4=iW b c) ((0:Int)<=0/\0<fB b) (cm (oX (fY b 0) (UInt8.toNat c)) (2=iW b c) False (0=iW b c))):=by
 refine ar ?_;refine⟨?_,?_⟩;simp_all[dt,aeb]
 intro h2;refine⟨?_,?_⟩;simp_all[dt,aec]
 intro h4;simp only[df] at h4;with_reducible and_intros
 iterate 2 omega
 grind[nt,df,aor];intro h6;simp_all[nf,dt,aEx]
def awh(r1:B8)(r2 r3:Int)(hp:r1.length<=140737488355328):jI r1/\(af r1 r2 r3).2=(af r1 r2 r3).2/\(af r1 r2 r3).1.1=r1/\mK (af r1 r2 r3).1.2.1 (af r1 r2 r3).1.2 (af r1 r2 r3).1.2.2:=by
 refine ar ?_;grind[DQ]
def awi(m:Int)(r1:B8)(r2 r3:Int)(hp:r1.length<=140737488355328):jI r1/\(ao r1 r2 r3 m).2=(ao r1 r2 r3 m).2/\(ao r1 r2 r3 m).1.1=r1/\mK (ao r1 r2 r3 m).1.2.1 (ao r1 r2 r3 m).1.2 (ao r1 r2 r3 m).1.2.2:=by
 refine ar ?_;grind[Cn]
def awj(m:Int)(r1:B8)(r2 r3:Int)(hp:r1.length<=140737488355328):jI r1/\ca (decide (m<(af r1 r2 r3).2)) (0=(eW r1 r2 r3 m).2/\r1=r1/\(af r1 r2 r3).1.2.1=(eW r1 r2 r3 m).1.1/\2=(eW r1 r2 r3 m).1.2) ((af r1 r2 r3).2=(eW r1 r2 r3 m).2) (r1=r1) (q2 (af r1 r2 r3).1.2 (eW r1 r2 r3 m).1):=by
 refine ar ?_;simp_all[dt,at1,df,aEy]
def awk(r1:B8)(r2 r3:Int)(hp:r1.length<=140737488355328):jI r1/\cm (cR (ao r1 r2 r3 10000).1.2.2) (0=(fi r1 r2 r3).2.1/\[]=(fi r1 r2 r3).2.2.1/\[]=(fi r1 r2 r3).2.2.2/\r1=r1/\q2 (ao r1 r2 r3 10000).1.2 (fi r1 r2 r3).1) (jI (ao r1 r2 r3 10000).2) (q4 (hR (ao r1 r2 r3 10000).2).1 (fi r1 r2 r3).2 (r1=r1/\(ao r1 r2 r3 10000).1.2.1=(fi r1 r2 r3).1.1/\(hR (ao r1 r2 r3 10000).2).2=(fi r1 r2 r3).1.2)):=by
 refine ar ?_;refine⟨?_,?_,?_⟩;omega;grind[nt,df,aEz];grind[MW,at2]
def awl(r1:B8)(r2 r3:Int)(hp:r1.length<=140737488355328):jI r1/\cm (cR (ao r1 r2 r3 200).1.2.2) ([]=(ly r1 r2 r3).2.1/\[]=(ly r1 r2 r3).2.2.1/\[]=(ly r1 r2 r3).2.2.2/\r1=r1/\q2 (ao r1 r2 r3 200).1.2 (ly r1 r2 r3).1) (jI (ao r1 r2 r3 200).2) ((bh (ao r1 r2 r3 200).2).1.1=(ly r1 r2 r3).2.1/\(bh (ao r1 r2 r3 200).2).1.2.1=(ly r1 r2 r3).2.2.1/\(bh (ao r1 r2 r3 200).2).1.2.2=(ly r1 r2 r3).2.2.2/\r1=r1/\(ao r1 r2 r3 200).1.2.1=(ly r1 r2 r3).1.1/\(bh (ao r1 r2 r3 200).2).2=(ly r1 r2 r3).1.2):=by
 refine ar ?_;refine⟨?_,?_,?_⟩;omega;grind[nt,df,aEA];grind[MW,at3]
def awm(r1:B8)(r2 r3:Int)(hp:r1.length<=140737488355328):jI r1/\(∃(x1:Nat),vW x1 ([]=(iu r1 r2 r3 x1).2/\r1=r1/\(eW r1 r2 r3 64).1.1=(iu r1 r2 r3 x1).1.1/\(eW r1 r2 r3 64).1.2=(iu r1 r2 r3 x1).1.2) (qG r1 r2 r3))/\(∀(x2:Nat),cw x2 (qG r1 r2 r3)->ca (decide (x2<(eW r1 r2 r3 64).2)) (jI r1/\AP (iu r1 r2 r3 x2).2 [(Qw r1 r2 r3 x2).2]/\dh x2 (∃(x3:Nat),E6 x2 x3 ((iu r1 r2 r3 x2).2++[(Qw r1 r2 r3 x2).2]=(iu r1 r2 r3 x3).2/\(Qw r1 r2 r3 x2).1.1=r1/\q2 (Qw r1 r2 r3 x2).1.2 (iu r1 r2 r3 x3).1) (qG r1 r2 r3))) ((iu r1 r2 r3 x2).2=(rN r1 r2 r3).2) (r1=r1) ((iu r1 r2 r3 x2).1.1=(rN r1 r2 r3).1.1/\(iu r1 r2 r3 x2).1.2=(rN r1 r2 r3).1.2)):=by
 refine ar ?_;refine⟨?_,?_,?_⟩;omega
 . refine⟨(nat_lit 0:Nat),?_⟩;dsimp only;with_reducible and_intros
   omega;iterate 4 rfl
   exact R! _
 intro x1 h2;refine V.dI (λh3=>?_) λh4=>?_
 . with_reducible and_intros
   omega;have:=VO r1 r2 r3 x1;have:=VP r1 r2 r3;have q:x1<=qG r1 r2 r3:=h2
   rw[J?];omega;omega;have:=VP r1 r2 r3;have q:x1<=qG r1 r2 r3:=h2
   omega;refine⟨(x1+nat_lit 1),?_⟩;dsimp only;with_reducible and_intros
   omega;exact rfl;exact(DQ _ _ _).2;iterate 2 exact rfl
   exact S.Ō h3;have e:qG r1 r2 r3=(eW r1 r2 r3 64).2.toNat:=rfl;simp[ag];omega
 refine⟨?_,?_,?_,?_⟩;have e:=PN h2 h4;rw[e];rfl;rfl;have e:=PN h2 h4;rw[e];rfl;have e:=PN h2 h4;rw[e];rfl
def awn(r1:B8)(r2 r3:Int)(hp:r1.length<=140737488355328):jI r1/\jI r1/\jI r1/\jI r1/\(af r1 r2 r3).2=(iV r1 r2 r3).2.1/\(J6 r1 r2 r3).2.1=(iV r1 r2 r3).2.2.1/\(J6 r1 r2 r3).2.2.1=(iV r1 r2 r3).2.2.2.1/\(J6 r1 r2 r3).2.2.2=(iV r1 r2 r3).2.2.2.2.1/\(J7 r1 r2 r3).2=(iV r1 r2 r3).2.2.2.2.2.1/\(ao r1 (J7 r1 r2 r3).1.1 (J7 r1 r2 r3).1.2 4000).2=(iV r1 r2 r3).2.2.2.2.2.2/\r1=r1/\q2 (ao r1 (J7 r1 r2 r3).1.1 (J7 r1 r2 r3).1.2 4000).1.2 (iV r1 r2 r3).1:=by
 refine ar ?_;with_reducible and_intros
 iterate 4 omega
 iterate 9 rfl
def awo(b:B8)(hp:b.length<=140737488355328/\iW b 1=0):iW b 1=0/\ca (Qo 0) (q36 (aU b) 0 [] [] [] 0) (jI b) (∃(x1:Nat),vW x1 (b=b/\q37 (fi b 1 0).1 (kl b x1).1 (q4 (fi b 1 0).2 (aH b).2 ([]=(kl b x1).2))) (aN b)) (∀(x2:Nat),cw x2 (aN b)->cm (decide ((x2:Int)<length (fi b 1 0).2.2.2)) (jI b/\(∃(x3:Nat×Nat),((0:Int)=x3.1/\[]=(Il b x3.2 x3.1).2/\b=b/\q37 (eW b (kl b x2).1.1 (kl b x2).1.2 16).1 (Il b x3.2 x3.1).1 (q4 (aH b).2 (aH b).2 ((kl b x2).2=(kl b x3.2).2)))/\(cw x3.1 (qH b x3.2)/\x3.2+1<=aN b)/\(x2:Int)=x3.2)/\(∀(x4:Nat×Nat),(cw x4.1 (qH b x4.2)/\x4.2+1<=aN b)/\(x2:Int)=x4.2->cm (decide (x4.1<(eW b (kl b x2).1.1 (kl b x2).1.2 16).2)) (jI b/\length (CY b x4).2+length (Ŵ b x4)<=1353245080339/\cI (x4.1+1)/\(∃(x5:Nat×Nat),mv (x4.1+1) x5.1 ((CY b x4).2++Ŵ b x4=(Il b x5.2 x5.1).2/\b=b/\q37 (CZ b x4).1 (Il b x5.2 x5.1).1 (q4 (aH b).2 (aH b).2 ((kl b x4.2).2=(kl b x5.2).2))) ((cw x5.1 (qH b x5.2)/\x5.2+1<=aN b)/\(x2:Int)=x5.2) (qH b x5.2) (ag (qH b x4.2) x4.1))) (AO (length (kl b x4.2).2+length [(CY b x4).2])) (dh x2 (∃(x6:Nat),E6 x2 x6 (b=b/\q37 (CY b x4).1 (kl b x6).1 (q4 (aH b).2 (aH b).2 ((kl b x4.2).2++[(CY b x4).2]=(kl b x6).2))) (aN b))))) True (dp (cR (S.done b (kl b x2).1.1 (kl b x2).1.2)) (q36 (aU b) 0 [] [] [] (S.done b (kl b x2).1.1 (kl b x2).1.2)) (q36 (aU b) (aH b).2.1 (aH b).2.2.1 (aH b).2.2.2 (kl b x2).2 0))):=by
 refine ar ?_;have tP:=hp.2;refine⟨?_,?_,?_⟩;omega;grind;intro h2;refine⟨?_,?_,?_⟩;omega
 . refine⟨(nat_lit 0:Nat),?_⟩;dsimp only;with_reducible and_intros
   omega;iterate 7 rfl
   exact R! _
 intro x3 h4;refine V.dI (λh5=>?_) λez=>?_
 . refine⟨?_,?_,?_⟩;omega
   . refine⟨((nat_lit 0:Nat),(x3)),?_⟩;try dsimp only
     with_reducible and_intros
     omega;exact rfl;rfl;iterate 2 exact rfl
     iterate 3 rfl
     with_reducible rfl
     exact R! _;exact VQ h5;with_reducible rfl
   intro x6 h7;refine V.dI (λh8=>?_) λh9=>?_
   . with_reducible and_intros
     omega;rw[at4,J?];have:=aot b x6.2;have :x6.1<=qH b x6.2:=h7.1.1
     omega;omega;have:=aot b x6.2;have :x6.1<=qH b x6.2:=h7.1.1
     omega;refine⟨((Prod.fst x6+nat_lit 1),(x3)),?_⟩;try dsimp only
     with_reducible and_intros
     omega;have e':x6.2=x3:=by have:=h7.2;omega
     rw[e'];exact rfl;rfl
     iterate 2
      have e':x6.2=x3:=by have:=h7.2;omega
      rw[e'];exact rfl
     iterate 3 rfl
     have e':x6.2=x3:=by have:=h7.2;omega
     rw[e'];exact S.Ō (by assumption);omega;with_reducible rfl
     have e':x6.2=x3:=by have:=h7.2;omega
     rw[e'];have q:=S.Ō (by assumption);have w:qH b x3=(eW b (kl b x3).1.1 (kl b x3).1.2 16).2.toNat:=rfl
     simp only[ag];omega
   with_reducible and_intros
   rw[at5,J?];have:=S.ō b;have:=h7.1.2;omega
   omega;have:=S.ō b;have:=VQ h5;omega
   refine⟨(x3+nat_lit 1),?_⟩;try dsimp only
   with_reducible and_intros
   omega;rfl
   iterate 2
    have e':x6.2=x3:=by have:=h7.2;omega
    rw[e'];have q:x6.1=qH b x3:=PN (e'▸h7.1.1) (by assumption)
    rw[q];exact rfl
   iterate 3 rfl
   have e':x6.2=x3:=by have:=h7.2;omega
   rw[e'];have q:x6.1=qH b x3:=PN (e'▸h7.1.1) (by assumption)
   rw[q];exact rfl;exact VQ h5;have:=VQ h5;simp only[ag];omega
 refine⟨?_,?_,?_⟩;trivial;intro iZ;simp at iZ;apply QS;iterate 4 (rw[aou tP (S.Ŏ h4 (by assumption)) (by assumption)])
 rw[aou tP (S.Ŏ h4 (by assumption)) (by assumption)];grind[aCb,S.Ŏ]
def awp(b:B8)(hp:¬iW b 1=0):(iW b 1=0->False)/\dp (cR (iW b 1)) (q36 (aU b) 0 [] [] [] (iW b 1)) False:=by
 refine ar ?_;simp_all[nt,df,aCa,nf,dt]
def awq(b:B8)(hp:b.length<=140737488355328/\iW b 2=0):iW b 2=0/\cm (Qo 0) (q38 (aK b) 0 [] [] 0 [] [] 0) (jI b) (jI b/\jI b/\jI b/\yQ (cR (S.done b (Kn b).1.1 (Kn b).1.2)) (q38 (aK b) 0 [] [] 0 [] [] (S.done b (Kn b).1.1 (Kn b).1.2)) (q38 (aK b) (fi b 1 0).2.1 (fi b 1 0).2.2.1 (fi b 1 0).2.2.2 (Wt b).2 (Wu b).2 (Kn b).2 0)):=by
 refine ar ?_;have tP:=hp.2;refine⟨?_,?_,?_⟩;omega;grind;intro h2;with_reducible and_intros
 iterate 4 omega
 trivial
 . intro h3;simp at h3;with_reducible and_intros
   iterate 6 (rw[aov tP h3])
   rw[aov tP h3];rfl
 intro h4;simp at h4;with_reducible and_intros
 iterate 6
  rw[aow tP h4];rfl
 rw[aow tP h4]
def awr(b:B8)(hp:¬iW b 2=0):(iW b 2=0->False)/\dp (cR (iW b 2)) (q38 (aK b) 0 [] [] 0 [] [] (iW b 2)) False:=by
 refine ar ?_;simp_all[nt,df,aEB,nf,dt]
def aws(y1:Int)(y2:B8)(y3:M (Int×Int×Int×B8))(hp:cG y1 y2 y3=true)(hf:Vg.fS J.Qk (y1,y2,y3)):0<=y1/\nD (S.num y1) y2/\(0:Int)<=length y3/\nD (S.num y1++y2) (S.num (length y3))/\(∃(x1:Nat),((0:Int)=x1/\S.num y1++y2++S.num (length y3)=ti y1 y2 y3 x1)/\ET y1 y2 y3 x1)/\(∀(x2:Nat),rk (ET y1 y2 y3 x2) (decide ((x2:Int)<length y3)) 0 x2 (length y3) (0<=(tB y3 x2).1/\nD (ti y1 y2 y3 x2) (S.num (tB y3 x2).1)/\0<=(tB y3 x2).2.1/\nD (ti y1 y2 y3 x2++S.num (tB y3 x2).1) (S.num (tB y3 x2).2.1)/\nD (ti y1 y2 y3 x2++S.num (tB y3 x2).1++S.num (tB y3 x2).2.1) (tB y3 x2).2.2/\dh x2 (∃(x3:Nat),iw x2 x3 (ti y1 y2 y3 x2++S.num (tB y3 x2).1++S.num (tB y3 x2).2.1++(tB y3 x2).2.2=ti y1 y2 y3 x3) (ET y1 y2 y3 x3) (S.len y3))) (ti y1 y2 y3 x2=hB y1 y2 y3)):=by
 refine ar ?_;have xO:Vg.hint y1:=hf.1;have rY:Vg.hlen y2:=hf.2.1;have aHl:Vg.hlen y3:=hf.2.2.1.1;clear hf;have hb:=rh hp;have n1:=cO y1;have n2:=cO (y3.length:Int);with_reducible and_intros
 iterate 3 omega
 grind
 . refine⟨0,?_⟩;try dsimp only
   with_reducible and_intros
   omega;grind[aB3];exact⟨hp,Nat.zero_le _⟩
 intro x1 h2;refine⟨?_,?_⟩
 . intro h3;try simp only[dt] at h3
   with_reducible and_intros
   iterate 2 omega
   have q:=F5 h2 h3;rw[tn];have:=MX q.1;have:=MX q.2.1;unfold sg at *;omega
   have q:=DR h2;have w:=F5 h2 h3;have a1:=cO (y3.getD (toNat (x1:Int)) (0,0,0,[])).2.1;have a2:=cO (y3.getD (toNat (x1:Int)) (0,0,0,[])).2.2.1;have a3:(y3.getD (toNat (x1:Int)) (0,0,0,[])).2.2.2.length=32:=w.2.2
   omega;have q:=F5 h2 h3;rw[tn];have:=MX q.1;have:=MX q.2.1;unfold sg at *;omega
   iterate 2
    have q:=DR h2;have w:=F5 h2 h3;have a1:=cO (y3.getD (toNat (x1:Int)) (0,0,0,[])).2.1;have a2:=cO (y3.getD (toNat (x1:Int)) (0,0,0,[])).2.2.1;have a3:(y3.getD (toNat (x1:Int)) (0,0,0,[])).2.2.2.length=32:=w.2.2
    simp only[H!];omega
   iterate 2 omega
   refine⟨(x1+1),?_⟩;try dsimp only
   with_reducible and_intros
   omega;rw[tn];exact Zr h3;exact⟨hp,w!⟩;simp only[ag,S.len];omega
 grind[df,VG]
def awt(y1:Int)(y2:B8)(y3:M (Int×Int×Int×B8))(hp:cG y1 y2 y3=true):cG y1 y2 y3/\rl (hB y1 y2 y3) (pv 3 (hB y1 y2 y3)=aeg y1 y2 y3):=by
 refine ar ?_;refine⟨?_,?_,?_⟩;omega;grind[VR];rfl
def awu(y1:Int)(y2:B8)(y3:M (Int×Int×Int×B8)):dV (cm (cR (hW y1 y2 y3).2) (xe (qI y1 y2 y3) (hW y1 y2 y3).2) (ax (hW y1 y2 y3).1) (lX 3 (hW y1 y2 y3).1=(qI y1 y2 y3).1/\0=(qI y1 y2 y3).2)):=by
 refine ar ?_;simp_all[nt,df,aED,nf,dt,at7]
def awv(a b:B8):decide (a=b)=PO a b:=by
 rfl
def aww(y1:O)(y2:M (Int×Int×M (B8×U))):dV (cm (cR (hX y1 y2).2) (xe (eX y1 y2) 7) True (q35 (qI (hX y1 y2).1.1 (hX y1 y2).1.2.1 (hX y1 y2).1.2.2) (eX y1 y2))):=by
 refine ar ?_;simp_all[nt,df,aEE,nf,dt,aua]
def awx(t:B8)(dd:M (B8×U))(er:Int)(hp:aY dd/\aQ dd=true/\S.isTerm t=true/\er=0):vV dd (S.small t)/\length (Ų dd t)<=1353245080339/\dd=dd/\(bif dA er then(vG dd t).2 else er)=0/\Ų dd t=[kU dd t]:=by
 refine ar ?_;grind[LI,List.length_singleton,PE]
def awy(t:B8)(dd:M (B8×U))(er:Int)(l:M (Int×B8×B8×B8×O×B8))(hp:aY dd/\aQ dd=true/\S.isTerm t=true/\er=0/\l.length<=100000):vV dd (S.small t)/\length l+length (ų dd t)<=1353245080339/\dd=dd/\(bif dA er then(vG dd t).2 else er)=0/\l++ų dd t=l++[kU dd t]:=by
 refine ar ?_;grind[LI,List.length_singleton,PE]
def awz(d:M (B8×U))(er:Int)(ts:O)(hp:PQ d ts/\er=0)(hf:Vg.aBX J.aCu d)(hg:Vg.fx.ok J.aCv (er,(ts,()))):(∃(x1:Nat),((0:Int)=x1/\d=d/\[]=rO d ts x1/\er=0/\ts=ts)/\fX ts x1)/\(∀(x2:Nat),fX ts x2->ca (decide (x2<bE ts)) (bH 0 x2 (bE ts)/\vV d (aQ d/\S.isTerm (ew ts x2)/\(0:Int)=0/\length (rO d ts x2)<=100000)/\dh x2 (∃(x3:Nat),iw x2 x3 (d=d/\rO d ts x2++[kU d (ew ts x2)]=rO d ts x3/\(0:Int)=0/\ts=ts) (fX ts x3) (S.len ts))) (rO d ts x2=RV d ts) yR (ts=ts)):=by
 refine ar ?_;have aCO:Vg.hlen d:=hf.1.1;have aO6:Vg.hint er:=hg.1.1;have aO7:Vg.hlen ts:=hg.2.1.1.1;clear hf hg;obtain⟨tP,q4⟩:=hp;subst q4;refine⟨?_,?_⟩
 . refine⟨0,?_⟩;try dsimp only
   with_reducible and_intros
   omega;iterate 4 rfl
   exact R! _
 intro x1 h2;refine⟨?_,?_⟩
 . intro h3;try simp only[dt] at h3
   with_reducible and_intros
   iterate 2 omega
   exact tP.1;exact tP.2.1;exact aEF tP h3;rfl;have:=aub d ts x1;have:=tP.2.2.1;omega
   iterate 2 omega
   refine⟨(x1+1),?_⟩;try dsimp only
   with_reducible and_intros
   omega;rfl;exact aoB h3;iterate 2 rfl
   unfold fX;omega;simp only[ag,S.len];omega
 grind[df,auc]
def awA(y1:O)(y2:M (Int×Int×M (B8×U)))(l:M (Int×B8))(hp:fA l)(hf:Vg.fS J.aCw (y1,y2,l)):dV (cm (cR (hX y1 y2).2) (xe (ri y1 y2 l) 7) (fA l) (ca (Bool.not (bR l)) (xe (ri y1 y2 l) 1) (S.small l) (∃(x1:Nat),((0:Int)=x1/\(hX y1 y2).2=0/\aF l=aF l/\(hX y1 y2).1.1=S.len y1/\(hX y1 y2).1.2.1=S.root (S.leaves y1)/\(hX y1 y2).1.2.2=bV y1 y2/\[]=oE y2 (aF l) x1)/\fX y2 x1/\dD y1 y2/\bR l) (∀(x2:Nat),vT (fX y2 x2/\dD y1 y2/\bR l) (decide ((x2:Int)<length y2)) 0 x2 (length y2) (PQ (fF y2 x2 0).2.2 (aF l)/\yR) (AO (length (oE y2 (aF l) x2)+length [RV (fF y2 x2 0).2.2 (aF l)])/\dh x2 (∃(x3:Nat),iw x2 x3 ((0:Int)=0/\aF l=aF l/\(S.len y1:Int)=S.len y1/\S.root (S.leaves y1)=S.root (S.leaves y1)/\bV y1 y2=bV y1 y2/\oE y2 (aF l) x2++[RV (fF y2 x2 0).2.2 (aF l)]=oE y2 (aF l) x3) (fX y2 x3/\dD y1 y2/\bR l) (S.len y2))) (cm (Qo 0) (xe (ri y1 y2 l) 0) (yL (oE y2 (aF l) x2)) (q35 (wZ (S.len y1) (S.root (S.leaves y1)) (bV y1 y2) (oE y2 (aF l) x2)) (ri y1 y2 l)))))):=by
 refine ar ?_;have rY:Vg.hlen y2:=hf.2.1.1;refine⟨?_,?_,?_⟩;trivial;grind[nt,df,aEG];intro h2;simp at h2;refine⟨?_,?_,?_⟩;omega;grind[nt,aug];intro h4;simp at h4;refine⟨?_,?_,?_⟩;exact hp.1
 . refine⟨(nat_lit 0:Nat),?_⟩;dsimp only;with_reducible and_intros
   iterate 2 omega
   rfl;exact(uf h2).2.1;iterate 2 (simp_all[uf])
   rfl;exact Nat.zero_le _;grind[uf];omega
 intro x5 h6;refine V.dI (λh7=>?_) λh8=>?_
 . with_reducible and_intros
   iterate 2 omega
   exact auf h6.2.1 h6.2.2 h7;rfl;have:=aud y2 (aF l) x5;have:=Tt h6.2.1;rw[J?];omega
   iterate 2 omega
   refine⟨(x5+nat_lit 1),?_⟩;try dsimp only
   with_reducible and_intros
   omega;iterate 5 rfl
   exact aoC h7;unfold fX;omega;exact h6.2.1;omega;simp only[ag,S.len];omega
 refine⟨?_,?_⟩;intro h9;refine⟨?_,?_⟩;grind;grind;grind[auh]
def awB(y1:O)(y2:M (Int×Int×M (B8×U)))(i:Int):yQ (cR (hX y1 y2).2) (xe (oF y1 y2 i) 7) (ca (TT i 0 (bE y1)) (xe (oF y1 y2 i) 5) (cX y1) (fa (S.leaves y1)) (ca (cR (tj (S.leaves y1) i)) (xe (oF y1 y2 i) (tj (S.leaves y1) i)) (bH 0 i (bE y1)) (Qp (ew y1 i)) (q35 (JO (hX y1 y2).1.1 (hX y1 y2).1.2.1 (hX y1 y2).1.2.2 i (ew y1 i) (oC (S.leaves y1) i)) (oF y1 y2 i)))):=by
 refine ar ?_;refine⟨?_,?_,?_⟩;trivial;grind[nt,df,aEH];intro h2;simp at h2;refine⟨?_,?_⟩;simp_all[V.HF,dt,aui]
 intro h4;refine⟨?_,?_,?_,?_⟩;exact(F6 (uf h2).1).1;exact(F6 (uf h2).1).2.1;grind[nt,df,aeh];grind[aeh]
def awC(y1:O)(y2:M (Int×Int×M (B8×U)))(hp:dD y1 y2=true)(hf:Vg.fS J.lO (y1,y2)):cX y1/\cG (S.len y1) (S.root (S.leaves y1)) (bV y1 y2)/\aeg (S.len y1) (S.root (S.leaves y1)) (bV y1 y2)=tp y1 y2:=by
 have xO:Vg.hlen y1:=hf.1.1;have rY:Vg.hlen y2:=hf.2.1.1;clear hf;refine⟨?_,?_,?_⟩;exact(F6 hp).1;exact vD hp;rfl
def awD(i n:Int)(hp:oe i n):(∃(x1:Int×Int×M Bool),(i=x1.1/\n=x1.2.1/\[]=x1.2.2)/\jX i n x1)/\(∀(x2:Int×Int×M Bool),jX i n x2->dp (decide (1<x2.2.1)) (dV (cm (decide (x2.1<S.split x2.2.1)) (Iv (length x2.2.2+length [false])/\(∃(x3:Int×Int×M Bool),(x2.1=x3.1/\S.split x2.2.1=x3.2.1/\x2.2.2++[false]=x3.2.2)/\jX i n x3/\toNat x3.2.1<toNat x2.2.1)) (Iv (length x2.2.2+length [true])) (cI (x2.1-S.split x2.2.1)/\cI (x2.2.1-S.split x2.2.1)/\(∃(x4:Int×Int×M Bool),(x2.1-S.split x2.2.1=x4.1/\x2.2.1-S.split x2.2.1=x4.2.1/\x2.2.2++[true]=x4.2.2)/\jX i n x4/\toNat x4.2.1<toNat x2.2.1)))) (x2.2.2=cb i n)):=by
 refine ar ?_;refine⟨?_,?_⟩;refine⟨((i),((n),([]))),?_⟩;grind[aLi];intro x1 h2;refine⟨?_,?_⟩
 . intro h3;refine⟨?_,?_,?_⟩;trivial;intro h4;refine⟨?_,?_⟩;grind[PT,lc,ln];refine⟨((x1.1),((S.split (x1.2.1)),(x1.2.2++[Bool.false]))),?_⟩;grind[aLj,PT];intro h5;simp at h5;with_reducible and_intros
   grind[PT,lc,ln];omega;iterate 3 (grind[PT])
   refine⟨((x1.1-S.split (x1.2.1)),((x1.2.1-S.split (x1.2.1)),(x1.2.2++[Bool.true]))),?_⟩;grind[aLk,PT]
 grind[df,S.sd_end]
def awE(d:B8)(i n:Int)(p:O)(hp:fa p)(hf:Vg.fS J.aCx (d,i,n,p)):ca (kI (E8 d) (Iw n 1 (Iw 1099511627776 n (TT i 0 n)))) ([]=jK d i n p/\1=cv d i n p) (oe i n) (lA (oX (bE p) (Aw i n))) (cm (xd (oX (bE p) (Aw i n)) (cJ p)) ([]=jK d i n p/\6=cv d i n p) (∃(x1:Nat),((0:Int)=x1/\d=cD d i n p x1)/\cv d i n p=0/\x1<=S.len p) (∀(x2:Nat),cv d i n p=0/\x2<=S.len p->cm (decide (x2<bE p)) (cI (Aw i n-1)/\mu (Aw i n-1-x2) 0 (Aw i n) (toNat (Aw i n-1-x2)<Aw i n/\((WC i n x2->bH 0 x2 (bE p)/\True)/\(WC i n x2=false->bH 0 x2 (bE p)/\True))/\dh x2 (∃(x3:Nat),((x2:Int)+1=x3/\(bif WC i n x2 then bo (ew p x2) (cD d i n p x2) else bo (cD d i n p x2) (ew p x2))=cD d i n p x3)/\(cv d i n p=0/\x3<=S.len p)/\vR (S.len p) x3 x2))) (cD d i n p x2=jK d i n p) (0=cv d i n p))):=by
 refine ar ?_;have aMI:Vg.hlen p:=hf.2.2.2.1.1;refine⟨?_,?_⟩;grind[aEI];intro h2;simp at h2;with_reducible and_intros
 grind[aei];iterate 2 grind
 grind[auk];intro h6;simp at h6;refine⟨?_,?_⟩;grind[aCc,aEJ];intro x7 h8;refine⟨?_,?_⟩
 . intro h9;simp at h9;with_reducible and_intros
   iterate 7 omega
   iterate 2 grind
   iterate 2 omega
   refine⟨(x7+nat_lit 1),?_⟩;dsimp only;with_reducible and_intros
   omega
   ((exact ZF x! w!))
   omega;iterate 2 (grind[ag,S.len])
 grind[df,S.Œ,aei,mC,aul]
def awF(b:B8)(hp:b.length<=140737488355328):jI b/\dp (cR (af b 0 0).1.2.2) (sU (cy b) (af b 0 0).1.2.2) (cm (decide (1000<(af b 0 0).2)) (sU (cy b) 2) (∃(x1:Nat×Int×Int×Int×U),((0:Int)=x1.1/\-1=x1.2.2.2.1/\[]=x1.2.2.2.2/\(af b 0 0).1.1=b/\(af b 0 0).1.2.1=x1.2.1/\(af b 0 0).1.2.2=x1.2.2.1)/\vK b x1.1 x1.2) (∀(x2:Nat×Int×Int×Int×U),vK b x2.1 x2.2->cm (decide (x2.1<(af b 0 0).2)) (jI b/\ov (cR (tx b x2).1.2.2) (sU (cy b) (tx b x2).1.2.2) (999-x2.2.2.2.1) (cI (999-x2.2.2.2.1-1)/\ov (decide (999-x2.2.2.2.1-1<(tx b x2).2)) (sU (cy b) 2) ((tx b x2).2+1) (cI (x2.2.2.2.1+((tx b x2).2+1))/\AQ x2.2.2.2.2 [x2.2.2.2.1+((tx b x2).2+1)]/\cI (x2.1+1)/\(∃(x3:Nat×Int×Int×Int×U),((x2.1:Int)+1=x3.1/\x2.2.2.2.1+((tx b x2).2+1)=x3.2.2.2.1/\x2.2.2.2.2++[x2.2.2.2.1+((tx b x2).2+1)]=x3.2.2.2.2/\(tx b x2).1.1=b/\(tx b x2).1.2.1=x3.2.1/\(tx b x2).1.2.2=x3.2.2.1)/\vK b x3.1 x3.2/\vR 1000 x3.1 x2.1)))) True (dp (cR (S.done b x2.2.1 x2.2.2.1)) (sU (cy b) (S.done b x2.2.1 x2.2.2.1)) (x2.2.2.2.2=(cy b).1/\0=(cy b).2)))):=by
 refine ar ?_;refine⟨?_,?_,?_⟩;grind;intro h1;simp at h1;refine⟨?_,?_⟩;exact(aeo h1).1;exact(aeo h1).2;intro h2;simp at h2;refine V.dI (λh3=>?_) λh4=>?_;refine⟨?_,?_⟩;exact(ZJ h2 h3).1;exact(ZJ h2 h3).2;refine⟨?_,?_⟩
 . refine⟨(0,(((((af b (0:Int) (0:Int)).1).2).1),(((((af b (0:Int) (0:Int)).1).2).2),(((-1:Int)),([]))))),?_⟩;with_reducible and_intros
   grind;iterate 2 rfl
   grind[DQ];iterate 2 rfl
   exact aLp h2 h4
 intro x5 h6;refine V.dI (λh7=>?_) λjV=>?_
 . refine⟨?_,?_,?_⟩;omega;intro h8;try simp only[nt,df] at h8
   refine⟨?_,?_⟩;exact(aep h6 h7 h8).1;exact(aep h6 h7 h8).2;intro h9;try simp only[nf,dt] at h9
   with_reducible and_intros
   iterate 4
    (have q1:=h6.2.2.2.2.1;have q2:=h6.2.2.2.2.2.1;have q3:=h6.2.2.2.2.2.2;have q4:=h6.2.2.1;have q5:=qJ b x5.2.1 x5.2.2.1;have q6:=h6.1;omega)
   intro ez;try simp only[dt] at ez
   refine⟨?_,?_⟩;exact(aeq h6 h7 h9 w!).1;exact(aeq h6 h7 h9 w!).2;intro iZ;try simp only[df] at iZ
   with_reducible and_intros
   iterate 4
    (have q1:=h6.2.2.2.2.1;have q2:=h6.2.2.2.2.2.1;have q3:=h6.2.2.2.2.2.2;have q4:=h6.2.2.1;have q5:=qJ b x5.2.1 x5.2.2.1;have q6:=h6.1;omega)
   (have q1:=h6.2.2.2.2.1;have q2:=h6.2.2.2.2.2.1;have q3:=h6.2.2.2.2.2.2;have q4:=h6.2.2.1;have q5:=qJ b x5.2.1 x5.2.2.1;have q6:=h6.1;have q7:(oW b).2=(af b 0 0).2:=rfl;rw[J?];omega)
   (have q1:=h6.2.2.2.2.1;have q2:=h6.2.2.2.2.2.1;have q3:=h6.2.2.2.2.2.2;have q4:=h6.2.2.1;have q5:=qJ b x5.2.1 x5.2.2.1;have q6:=h6.1;omega)
   (have q1:=h6.2.2.2.2.1;have q2:=h6.2.2.2.2.2.1;have q3:=h6.2.2.2.2.2.2;have q4:=h6.2.2.1;have q5:=qJ b x5.2.1 x5.2.2.1;have q6:=h6.1;have q7:(oW b).2=(af b 0 0).2:=rfl;omega)
   refine⟨((x5.1+1),(((((af b (x5.2.1) (x5.2.2.1)).1).2).1),(((((af b (x5.2.1) (x5.2.2.1)).1).2).2),((x5.2.2.2.1+((af b (x5.2.1) (x5.2.2.1)).2+(1:Int))),(x5.2.2.2.2++[x5.2.2.2.1+((af b (x5.2.1) (x5.2.2.1)).2+(1:Int))]))))),?_⟩;try dsimp only
   with_reducible and_intros
   (have q1:=h6.2.2.2.2.1;have q2:=h6.2.2.2.2.2.1;have q3:=h6.2.2.2.2.2.2;have q4:=h6.2.2.1;have q5:=qJ b x5.2.1 x5.2.2.1;have q6:=h6.1;have q7:(oW b).2=(af b 0 0).2:=rfl;omega)
   iterate 2 with_reducible rfl
   exact(DQ b _ _).1;iterate 2 with_reducible rfl
   exact aoL h6 h7 h9 w!
   (have q1:=h6.2.2.2.2.1;have q2:=h6.2.2.2.2.2.1;have q3:=h6.2.2.2.2.2.2;have q4:=h6.2.2.1;have q5:=qJ b x5.2.1 x5.2.2.1;have q6:=h6.1;have q7:(oW b).2=(af b 0 0).2:=rfl;simp only[ag];omega)
 refine⟨?_,?_,?_⟩;trivial;intro oq;simp at oq;refine⟨?_,?_⟩;rw[Ir h6 jV,W! oq];rw[Ir h6 jV,W! oq];intro pG;simp at pG;refine⟨?_,?_⟩;rw[Ir h6 jV,Q! pG];rw[Ir h6 jV,Q! pG]
def awG(n:Int)(p q:Bool):om p q=EY p q:=by
 refine ar ?_;grind[EY]
def awH(n:Int)(p q:Bool):kI p q=VS p q:=by
 refine ar ?_;rfl
def awI(n:Int)(p q:Bool):om p (Bool.not q)=EZ p q:=by
 refine ar ?_;grind[EZ]
def awJ(a b:U):dV (gj (∃(x1:U×U×U),aeR x1 a b EY) (∀(x2:U×U×U),mI EY a b x2->dp (kI (gF (cQ x2.1)) (gF (cQ x2.2.1))) (fj (gF (cQ x2.1)) (IF (dA (cQ x2.2.1)) 0 (cQ x2.1) (cQ x2.2.1))/\fj (gF (cQ x2.2.1)) (IF (dA (cQ x2.1)) 0 (cQ x2.2.1) (cQ x2.1))/\fj (Kh x2) (IG 0 (cQ x2.1) 1)/\fj (Ki x2) (IG 0 (cQ x2.2.1) 1)/\yQ (EY (Kh x2) (Ki x2)) (AQ x2.2.2 (ů x2)/\(∃(x3:U×U×U),Z1 x3 (sV (Kh x2) 1 x2.1) (sV (Ki x2) 1 x2.2.1) (x2.2.2++ů x2)/\mI EY a b x3/\iX x3<iX x2)) (∃(x4:U×U×U),Z1 x4 (sV (Kh x2) 1 x2.1) (sV (Ki x2) 1 x2.2.1) x2.2.2/\mI EY a b x4/\iX x4<iX x2)) (x2.2.2=F8 a b))):=by
 refine ar ?_;refine⟨trivial,trivial,⟨(we a,we b,[]),⟨DU a,DU b,rfl⟩,aoH ..⟩,λx h=>⟨λhc=>?_,λhc=>VU rfl h hc⟩⟩;have q:=S.Ŗ rfl h hc;refine⟨⟨λh1=>⟨λ_=>trivial,λh2=>⟨⟨Int.le_refl _,of_decide_eq_true h1⟩,Int.le_refl _,x!⟩⟩,λ_=>trivial⟩,⟨λh1=>⟨λ_=>trivial,λh2=>⟨⟨Int.le_refl _,of_decide_eq_true h1⟩,Int.le_refl _,x!⟩⟩,λ_=>trivial⟩,⟨λhA=>⟨⟨Int.le_refl _,(mq hA).1⟩,by decide,(mq hA).2⟩,λ_=>trivial⟩,⟨λhA=>⟨⟨Int.le_refl _,(mq hA).1⟩,by decide,(mq hA).2⟩,λ_=>trivial⟩,trivial,λhk=>⟨x!,(pF (js x.1 x.2.1) x.1,pF (js x.2.1 x.1) x.2.1,x.2.2++[Ip x.1 x.2.1]),⟨rfl,rfl,rfl⟩,q.2.1 hk,q.2.2.2.1⟩,λhk=>⟨(pF (js x.1 x.2.1) x.1,pF (js x.2.1 x.1) x.2.1,x.2.2),⟨rfl,rfl,rfl⟩,q.2.2.1 hk,q.2.2.2.2⟩⟩
def awK(a b:U):dV (gj (∃(x1:U×U×U),aeR x1 a b VS) (∀(x2:U×U×U),mI VS a b x2->dp (kI (gF (cQ x2.1)) (gF (cQ x2.2.1))) (fj (gF (cQ x2.1)) (IF (dA (cQ x2.2.1)) 0 (cQ x2.1) (cQ x2.2.1))/\fj (gF (cQ x2.2.1)) (IF (dA (cQ x2.1)) 0 (cQ x2.2.1) (cQ x2.1))/\fj (Km x2) (IG 0 (cQ x2.1) 1)/\fj (Kl x2) (IG 0 (cQ x2.2.1) 1)/\yQ (VS (Km x2) (Kl x2)) (AQ x2.2.2 (ű x2)/\(∃(x3:U×U×U),Z1 x3 (sV (Km x2) 1 x2.1) (sV (Kl x2) 1 x2.2.1) (x2.2.2++ű x2)/\mI VS a b x3/\iX x3<iX x2)) (∃(x4:U×U×U),Z1 x4 (sV (Km x2) 1 x2.1) (sV (Kl x2) 1 x2.2.1) x2.2.2/\mI VS a b x4/\iX x4<iX x2)) (x2.2.2=vJ a b))):=by
 refine ar ?_;refine⟨trivial,trivial,⟨(we a,we b,[]),⟨DU a,DU b,rfl⟩,aoH ..⟩,λx h=>⟨λhc=>?_,λhc=>VU rfl h hc⟩⟩;have q:=S.Ŗ rfl h hc;refine⟨⟨λh1=>⟨λ_=>trivial,λh2=>⟨⟨Int.le_refl _,of_decide_eq_true h1⟩,Int.le_refl _,x!⟩⟩,λ_=>trivial⟩,⟨λh1=>⟨λ_=>trivial,λh2=>⟨⟨Int.le_refl _,of_decide_eq_true h1⟩,Int.le_refl _,x!⟩⟩,λ_=>trivial⟩,⟨λhA=>⟨⟨Int.le_refl _,(mq hA).1⟩,by decide,(mq hA).2⟩,λ_=>trivial⟩,⟨λhA=>⟨⟨Int.le_refl _,(mq hA).1⟩,by decide,(mq hA).2⟩,λ_=>trivial⟩,trivial,λhk=>⟨x!,(pF (js x.1 x.2.1) x.1,pF (js x.2.1 x.1) x.2.1,x.2.2++[Ip x.1 x.2.1]),⟨rfl,rfl,rfl⟩,q.2.1 hk,q.2.2.2.1⟩,λhk=>⟨(pF (js x.1 x.2.1) x.1,pF (js x.2.1 x.1) x.2.1,x.2.2),⟨rfl,rfl,rfl⟩,q.2.2.1 hk,q.2.2.2.2⟩⟩
def awL(a b:U):dV (gj (∃(x1:U×U×U),aeR x1 a b EZ) (∀(x2:U×U×U),mI EZ a b x2->dp (kI (gF (cQ x2.1)) (gF (cQ x2.2.1))) (fj (gF (cQ x2.1)) (IF (dA (cQ x2.2.1)) 0 (cQ x2.1) (cQ x2.2.1))/\fj (gF (cQ x2.2.1)) (IF (dA (cQ x2.1)) 0 (cQ x2.2.1) (cQ x2.1))/\fj (Kk x2) (IG 0 (cQ x2.1) 1)/\fj (Kj x2) (IG 0 (cQ x2.2.1) 1)/\yQ (EZ (Kk x2) (Kj x2)) (AQ x2.2.2 (Ű x2)/\(∃(x3:U×U×U),Z1 x3 (sV (Kk x2) 1 x2.1) (sV (Kj x2) 1 x2.2.1) (x2.2.2++Ű x2)/\mI EZ a b x3/\iX x3<iX x2)) (∃(x4:U×U×U),Z1 x4 (sV (Kk x2) 1 x2.1) (sV (Kj x2) 1 x2.2.1) x2.2.2/\mI EZ a b x4/\iX x4<iX x2)) (x2.2.2=PU a b))):=by
 refine ar ?_;refine⟨trivial,trivial,⟨(we a,we b,[]),⟨DU a,DU b,rfl⟩,aoH ..⟩,λx h=>⟨λhc=>?_,λhc=>VU rfl h hc⟩⟩;have q:=S.Ŗ rfl h hc;refine⟨⟨λh1=>⟨λ_=>trivial,λh2=>⟨⟨Int.le_refl _,of_decide_eq_true h1⟩,Int.le_refl _,x!⟩⟩,λ_=>trivial⟩,⟨λh1=>⟨λ_=>trivial,λh2=>⟨⟨Int.le_refl _,of_decide_eq_true h1⟩,Int.le_refl _,x!⟩⟩,λ_=>trivial⟩,⟨λhA=>⟨⟨Int.le_refl _,(mq hA).1⟩,by decide,(mq hA).2⟩,λ_=>trivial⟩,⟨λhA=>⟨⟨Int.le_refl _,(mq hA).1⟩,by decide,(mq hA).2⟩,λ_=>trivial⟩,trivial,λhk=>⟨x!,(pF (js x.1 x.2.1) x.1,pF (js x.2.1 x.1) x.2.1,x.2.2++[Ip x.1 x.2.1]),⟨rfl,rfl,rfl⟩,q.2.1 hk,q.2.2.2.1⟩,λhk=>⟨(pF (js x.1 x.2.1) x.1,pF (js x.2.1 x.1) x.2.1,x.2.2),⟨rfl,rfl,rfl⟩,q.2.2.1 hk,q.2.2.2.2⟩⟩
def awM(a b:U):dV (F8 a b=F8 a b):=by
 refine ar ?_;grind
def awN(a b:U):dV (vJ a b=vJ a b):=by
 refine ar ?_;grind
def awO(a b:U):dV (PU a b=PU a b):=by
 refine ar ?_;grind
def awP(s:B8):Bool.not (decide (s=s))=false:=by
 grind
def awQ(a b:B8):gj (lA false) (Z8 false (Bool.not false) (Op.bytesLess a b)=Op.bytesLess a b):=by
 refine ar ?_;grind
def awR(x:O)(t:B8)(hp:xE x):(∃(x1:Int×Int),mK 0 x1 (bE x)/\rP x t x1.1 x1.2)/\(∀(x2:Int×Int),rP x t x2.1 x2.2->cm (decide (x2.1<x2.2)) (cI (x2.1+x2.2)/\ix 1 64 (mu (C5 x2) 0 (bE x) (gj (fj (Op.bytesLess (ew x (C5 x2)) t) (cI (C5 x2+1))) (∃(x3:Int×Int),mK (bif Op.bytesLess (ew x (C5 x2)) t then C5 x2+1 else x2.1) x3 (bif Op.bytesLess (ew x (C5 x2)) t then x2.2 else C5 x2)/\rP x t x3.1 x3.2/\Z5 (x3.2-x3.1) (x2.2-x2.1))))) (fj (decide (x2.1<bE x)) (bH 0 x2.1 (bE x)/\cm (decide (ew x x2.1=t)) True (bH 0 x2.1 (bE x)) (dV (lA false)))) ((bif decide (x2.1<bE x) then bif decide (ew x x2.1=t) then x2.1 else bif false then x2.1 else x2.1 else x2.1)=pC x t/\om (decide (x2.1<bE x)) (kI (decide (ew x x2.1=t)) (bif false then false else false))=CH x t)):=by
 refine ar ?_;refine⟨?_,?_⟩
 . refine⟨(((0:Int)),((↑(length x):Int))),?_⟩;with_reducible and_intros
   iterate 2 rfl
   exact⟨Int.le_refl _,w!,Int.le_refl _,λk hk=>by omega,λk hk UR=>by omega⟩
 intro x1 h2;refine V.dI (λh3=>?_) λh6=>?_
 . with_reducible and_intros
   iterate 2
    obtain⟨e,q1,q2,q3,q4,q5⟩:=Iq hp h2 h3;omega
   iterate 2 omega
   iterate 3 grind
   obtain⟨e,q1,q2,q3,q4,q5⟩:=Iq hp h2 h3;omega;trivial;intro h4;refine⟨?_,?_⟩;grind;obtain⟨e,q1,q2,q3,q4,q5⟩:=Iq hp h2 h3;omega;grind;refine⟨((bif Op.bytesLess (getD x (toNat ((x1.1+x1.2)%(18446744073709551616:Int)/(2:Int)^toNat (1:Int))) []) t then(x1.1+x1.2)%(18446744073709551616:Int)/(2:Int)^toNat (1:Int)+(1:Int) else Prod.fst x1),(bif Op.bytesLess (getD x (toNat ((x1.1+x1.2)%(18446744073709551616:Int)/(2:Int)^toNat (1:Int))) []) t then Prod.snd x1 else(x1.1+x1.2)%(18446744073709551616:Int)/(2:Int)^toNat (1:Int))),?_⟩;with_reducible and_intros
   iterate 2 rfl
   obtain⟨e,q1,q2,q3,q4,q5⟩:=Iq hp h2 h3;rw[e];exact(aEO hp h2 q2 q3).1;obtain⟨e,q1,q2,q3,q4,q5⟩:=Iq hp h2 h3;grind
 with_reducible and_intros
 . intro h7;simp at h7;with_reducible and_intros
   have q:=h2.1;omega;omega;grind;intro h9;with_reducible and_intros
   have q:=h2.1;omega;omega;trivial;iterate 2 grind
 grind;grind[aun];exact auo hp h2 h6
def awS(s:B8)(t:O)(f:M U)(hp:CI t f):xE t/\ca (Bool.not (CH t s)) ([]=sR t f s) (bH 0 (pC t s) (length f)) (S.small (CS f (toNat (pC t s)))) (CS f (toNat (pC t s))=sR t f s):=by
 refine ar ?_;refine⟨?_,?_,?_⟩;exact hp.1;grind[nt,auq];intro h2;with_reducible and_intros
 omega;have q:=(S.Ř hp (s:=s) x!).1;omega;exact(S.Ř hp x!).2.1;exact(S.Ř hp x!).2.2
def awT(s:B8)(l:M U)(hp:su l):cI (rT l-1)/\LX (rT l-1-1) 0 (rT l) (mu (rT l-1-1) 0 (rT l) (QB l<rT l/\bH 0 (rT l-1) (rT l)/\toNat (rT l-1)<rT l/\gj (AO (QB l+length (ū l))) (take (QB l) l++ū l=tq 1 l))):=by
 refine ar ?_;obtain⟨p1,p2⟩:=hp;have p3:l.length<=1099511627776:=p2;have e1:toNat ((l.length:Int)-1-1)=l.length-2:=by omega
 have e2:toNat ((l.length:Int)-1)=l.length-1:=by omega
 with_reducible and_intros
 iterate 14 omega
 trivial;grind[List.length_singleton];rw[e1,e2];rfl
def awU(s:B8)(l:M U)(hp:su l):cI (rV l-1)/\LX (rV l-1-1) 0 (rV l) (mu (rV l-1-1) 0 (rV l) (QD l<rV l/\bH 0 (rV l-1) (rV l)/\toNat (rV l-1)<rV l/\gj (AO (QD l+length (ŭ l))) (take (QD l) l++ŭ l=tq 2 l))):=by
 refine ar ?_;obtain⟨p1,p2⟩:=hp;have p3:l.length<=1099511627776:=p2;have e1:toNat ((l.length:Int)-1-1)=l.length-2:=by omega
 have e2:toNat ((l.length:Int)-1)=l.length-1:=by omega
 with_reducible and_intros
 iterate 14 omega
 trivial;grind[List.length_singleton];rw[e1,e2];rfl
def awV(s:B8)(l:M U)(hp:su l):cI (rU l-1)/\LX (rU l-1-1) 0 (rU l) (mu (rU l-1-1) 0 (rU l) (QC l<rU l/\bH 0 (rU l-1) (rU l)/\toNat (rU l-1)<rU l/\gj (AO (QC l+length (Ŭ l))) (take (QC l) l++Ŭ l=tq 3 l))):=by
 refine ar ?_;obtain⟨p1,p2⟩:=hp;have p3:l.length<=1099511627776:=p2;have e1:toNat ((l.length:Int)-1-1)=l.length-2:=by omega
 have e2:toNat ((l.length:Int)-1)=l.length-1:=by omega
 with_reducible and_intros
 iterate 14 omega
 trivial;grind[List.length_singleton];rw[e1,e2];rfl
def awW(s:B8)(t:O)(f l:M U)(hp:CI t f/\S.small l):CI t f/\AO (length l+length [sR t f s])/\[t]=[t]/\0=0/\[f]=[f]/\0=0/\l++[sR t f s]=Io l (sR t f s):=by
 refine ar ?_;with_reducible and_intros
 grind;grind[S.small,List.length_singleton];iterate 5 rfl
def awX(l:M (Int×B8))(t:O)(f:M U)(hp:F9 l t f)(hf:Vg.Row.ok (Vg.TA.db [.dJ (.slice [.int .i64,.str]),.agg [.fn (.func 103) [] [.var [.slice [.str]],.var [.slice [.slice [.int .i64]]]],.fn (.func 107) [] [],.fn (.func 108) [] [],.fn (.func 109) [] []]]) (l,t,f)):(∃(x1:Nat),((0:Int)=x1/\[]=lN (sR t f) l x1/\[t]=[t]/\0=0/\[f]=[f]/\0=0)/\pE l (lN (sR t f) l x1) x1)/\(∀(x2:Nat),pE l (rS f l t x2) x2->ca (decide ((x2:Int)<length l)) (bH 0 x2 (length l)/\((qO l x2).1=0->(qO l x2).1=0/\(CI t f/\S.small (rS f l t x2))/\dh x2 (∃(x3:Nat),mv (x2+1) x3 (Io (rS f l t x2) (sR t f (qO l x2).2)=lN (sR t f) l x3/\[t]=[t]/\0=0/\[f]=[f]/\0=0) (pE l (lN (sR t f) l x3) x3) (S.len l) (ag (S.len l) x2)))/\((qO l x2).1=1->(qO l x2).1=1/\su (rS f l t x2)/\dh x2 (∃(x4:Nat),mv (x2+1) x4 (tq 1 (rS f l t x2)=lN (sR t f) l x4/\[t]=[t]/\0=0/\[f]=[f]/\0=0) (pE l (lN (sR t f) l x4) x4) (S.len l) (ag (S.len l) x2)))/\((qO l x2).1=2->(qO l x2).1=2/\su (rS f l t x2)/\dh x2 (∃(x5:Nat),mv (x2+1) x5 (tq 2 (rS f l t x2)=lN (sR t f) l x5/\[t]=[t]/\0=0/\[f]=[f]/\0=0) (pE l (lN (sR t f) l x5) x5) (S.len l) (ag (S.len l) x2)))/\((qO l x2).1=3->(qO l x2).1=3/\su (rS f l t x2)/\dh x2 (∃(x6:Nat),mv (x2+1) x6 (tq 3 (rS f l t x2)=lN (sR t f) l x6/\[t]=[t]/\0=0/\[f]=[f]/\0=0) (pE l (lN (sR t f) l x6) x6) (S.len l) (ag (S.len l) x2)))/\(((qO l x2).1=0->False)/\((qO l x2).1=1->False)/\((qO l x2).1=2->False)/\((qO l x2).1=3->False)/\True->False)) ((0:Int)<=0/\(0:Int)<length (rS f l t x2)) (toNat 0<length (rS f l t x2)) (CS (rS f l t x2) (toNat 0)=PV l t f)):=by
 refine ar ?_;have C7:Vg.hlen l:=hf.1.1;refine⟨?_,?_⟩;grind[aur,aLo];intro x1 h2;refine V.dI (λh3=>?_) λh9=>?_
 . with_reducible and_intros
   iterate 2 omega
   . intro h4;with_reducible and_intros
     omega;exact hp.2.2;exact aj1 hp h2;iterate 2 omega
     refine⟨(x1+1),?_⟩;try dsimp only
     with_reducible and_intros
     omega;exact ZI h3 h4;iterate 4 rfl
     exact aoJ h2 h3 h4;simp only[ag,S.len];omega
   . intro h5;with_reducible and_intros
     omega;exact MZ hp h2 h3 (by rw[show(jT l x1).1=1 from h5];decide);iterate 2 omega
     refine⟨(x1+1),?_⟩;try dsimp only
     with_reducible and_intros
     omega;exact MY h3 h5 (by decide);iterate 4 rfl
     exact PZ hp h2 h3 h5 (by decide);simp only[ag,S.len];omega
   . intro h6;with_reducible and_intros
     omega;exact MZ hp h2 h3 (by rw[show(jT l x1).1=2 from h6];decide);iterate 2 omega
     refine⟨(x1+1),?_⟩;try dsimp only
     with_reducible and_intros
     omega;exact MY h3 h6 (by decide);iterate 4 rfl
     exact PZ hp h2 h3 h6 (by decide);simp only[ag,S.len];omega
   . intro h7;with_reducible and_intros
     omega;exact MZ hp h2 h3 (by rw[show(jT l x1).1=3 from h7];decide);iterate 2 omega
     refine⟨(x1+1),?_⟩;try dsimp only
     with_reducible and_intros
     omega;exact MY h3 h7 (by decide);iterate 4 rfl
     exact PZ hp h2 h3 h7 (by decide);simp only[ag,S.len];omega
   intro h8;have q:0<=(getD l (toNat (x1:Int)) (0,[])).1/\(getD l (toNat (x1:Int)) (0,[])).1<=3:=⟨(VV hp.1 h3).1,(VV hp.1 h3).2.1⟩;grind
 with_reducible and_intros
 omega
 iterate 2
  have:=ael hp h2 h9;omega
 rw[(ael hp h2 h9).2];rfl
def awY(l:M (Int×B8))(f:M U)(hp:fA l)(hf:Vg.fS J.aCE (l,f)):fA l/\cm (Bool.not (bR l)) (sU (oG l f) 1) (S.small l) (cm (oX (length f) (bE (aF l))) (sU (oG l f) 1) (∃(x1:Nat),(0:Int)=x1/\Ga f x1) (∀(x2:Nat),Ga f x2->cm (decide ((x2:Int)<length f)) (bH 0 x2 (length f)/\dV (rj (IA (CS f (toNat x2))) (sU (oG l f) 1) x2 (∃(x3:Nat),oY x2 x3 (Ga f x3) (S.len f)))) (F9 l (aF l) f) (PV l (aF l) f=(oG l f).1/\0=(oG l f).2))):=by
 refine ar ?_;have aMJ:Vg.hlen f:=hf.2.1.1;refine⟨?_,?_,?_⟩;omega;intro h1;refine⟨?_,?_⟩;exact(JT (by simp_all[S.ou,Bool.false_and])).1;exact(JT (by simp_all[S.ou,Bool.false_and])).2;intro h2;simp at h2;refine⟨?_,?_,?_⟩;exact hp.1;intro h3;refine⟨?_,?_⟩;exact(JT (by simp[S.ou,h2,Bool.true_and];grind)).1;exact(JT (by simp[S.ou,h2,Bool.true_and];grind)).2;intro h4;simp at h4;refine⟨?_,?_⟩;refine⟨(nat_lit 0:Nat),?_⟩;dsimp only;refine⟨?_,?_⟩;omega;exact⟨Nat.zero_le _,λx hx=>by grind⟩;intro x5 h6;refine V.dI (λh7=>?_) λez=>?_
 . with_reducible and_intros
   iterate 2 omega
   trivial;intro h8;try simp only[nt] at h8
   refine⟨?_,?_⟩;exact(JT (by simp only[S.ou,aen h7 h8,Bool.and_false])).1;exact(JT (by simp only[S.ou,aen h7 h8,Bool.and_false])).2;intro h9;try simp only[nf] at h9
   with_reducible and_intros
   iterate 2 omega
   refine⟨(x5+nat_lit 1),?_⟩;try dsimp only
   refine⟨?_,?_,?_⟩;omega;exact aoK h6 h7 h9;simp only[ag,S.len];omega
 refine⟨?_,?_,?_⟩;exact⟨h2,hp.1,Tz hp.1,w!,B?.1 (VW h6 (by assumption))⟩;exact(aem (by simp only[S.ou,h2,VW h6 (by assumption),Bool.true_and,Bool.and_true];exact M? w!)).1;exact(aem (by simp only[S.ou,h2,VW h6 (by assumption),Bool.true_and,Bool.and_true];exact M? w!)).2
def awZ(p1:Int)(p2 p3 p4:B8)(p5:O)(p6 t:B8)(e:Int)(hp:ax p6):fj (decide (p2=t)) (fj (dA e) (ax p6))/\om (decide (p2=t)) (Iy (dA e) (lX 2 p6) p4)=LJ t e p2 p4 p6:=by
 refine ar ?_;simp_all[dt,df,LJ]
def aw0(p1:Int)(p2 p3 p4:B8)(p5:O)(p6 t:B8):om (Op.bytesLess p2 t) (bif Bool.not (aeO p3 t) then dA (fB p6) else om (decide (p3=[])) (dA (fB p6)))=LK t p2 p3 p6:=by
 refine ar ?_;grind[aEQ,LK,Op.bytesLess,decide]
def aw1(t:B8)(p1:Int)(p2 p3 p4:B8)(p5:O)(p6:B8)(hp:p6.length<=140737488355328):jI p6/\[t]=[t]/\0=0/\[(cy p6).2]=[(cy p6).2]/\0=0/\(cy p6).1=(cy p6).1/\[t]=[t]/\0=0:=by
 refine ar ?_;grind
def aw2(root:B8)(n:Int)(t:B8)(p1:Int)(p2 p3 p4:B8)(p5:O)(p6:B8)(hp:vL t p5 p6):tJ (E8 root) (tJ (decide (n<1)) (tJ (decide (1099511627776<n)) (S.small t)))/\cm (kI (E8 root) (kI (decide (n<1)) (xd (decide (1099511627776<n)) (S.isTerm t)))) (sU (kn root n t (p1,p2,p3,p4,p5,p6)) 1) True (ca (cR (kD p2 p3 p4)) (sU (kn root n t (p1,p2,p3,p4,p5,p6)) 6) (ax (dK p2 p3 p4)) (fa p5) (ca (xd (cR (cv (S.leaf (dK p2 p3 p4)) p1 n p5)) (decide (jK (S.leaf (dK p2 p3 p4)) p1 n p5=root))) (sU (kn root n t (p1,p2,p3,p4,p5,p6)) 6) (jI p6) (∃(x1:Nat),(0:Int)=x1/\og root n t (p1,p2,p3,p4,p5,p6) x1) (∀(x2:Nat),og root n t (p1,p2,p3,p4,p5,p6) x2->dp (decide ((x2:Int)<((2:Nat):Int))) (((x2:Int)=((0:Nat):Int)->(x2:Int)=((0:Nat):Int)/\ax p6/\rj (LJ t (cy p6).2 p2 p4 p6) ((cy p6).1=(kn root n t (p1,p2,p3,p4,p5,p6)).1/\0=(kn root n t (p1,p2,p3,p4,p5,p6)).2) x2 (∃(x3:Nat),(x2:Int)+1=x3/\og root n t (p1,p2,p3,p4,p5,p6) x3/\ag 2 x3<ag 2 x2))/\(x2=J5->x2=J5/\dV (rj (LK t p2 p3 p6) (sU (kn root n t (p1,p2,p3,p4,p5,p6)) 0) x2 (∃(x4:Nat),(x2:Int)+1=x4/\og root n t (p1,p2,p3,p4,p5,p6) x4/\ag 2 x4<ag 2 x2)))/\(((x2:Int)=((0:Nat):Int)->False)/\(x2=J5->False)/\True->False)) (sU (kn root n t (p1,p2,p3,p4,p5,p6)) 6)))):=by
 refine ar ?_;with_reducible and_intros
 grind;intro h2;refine⟨?_,?_⟩;grind;intro h4;refine⟨?_,?_⟩;grind;intro h6;exact hp.1;intro h7;grind[aus,aut];intro h8;refine⟨?_,?_,?_⟩;trivial;grind[nt,df,aoM,VZ,auu];intro ez;refine⟨?_,?_,?_,?_⟩;grind[S.ř];exact hp.2.1;intro iZ;grind[aoM,VZ,auv];intro jV;refine⟨?_,?_,?_⟩;have:=hp.2.2.2;grind[S.small];grind[aES,VZ,aER];intro x13 pG;refine⟨?_,?_⟩
 . intro KB;try simp only[dt] at KB
   refine⟨?_,?_,?_⟩
   . intro IH;refine⟨?_,?_,?_,?_⟩;exact(by assumption);exact hp.2.2.1;intro QT;refine⟨?_,?_⟩;exact(aer pG QT).1;exact(aer pG QT).2;intro Â;with_reducible and_intros
     iterate 2 omega
     refine⟨(x13+1),?_⟩;try dsimp only
     refine⟨?_,?_,?_⟩;omega;exact aET pG IH Â;simp only[ag];omega
   . intro Ã;refine⟨?_,?_,?_,?_⟩;exact(by assumption);trivial;intro h20;refine⟨?_,?_⟩;exact(aes pG Ã h20).1;exact(aes pG Ã h20).2;intro ui;with_reducible and_intros
     iterate 2 omega
     refine⟨(x13+1),?_⟩;try dsimp only
     refine⟨?_,?_,?_⟩;omega;exact aEU pG Ã ui;simp only[ag];omega
   intro h22;have q:(x13:Int)=((0:Nat):Int)\/(x13:Int)=((1:Nat):Int):=by omega
   exact q.elim h22.1 h22.2.1
 grind[df,auw]
def aw4(h1:Int)(h2:B8)(h3:M (Int×Int×Int×B8))(root:B8):dV (Iy (dA (qI h1 h2 h3).2) (qI h1 h2 h3).1 root=CG h1 h2 h3 root):=by
 refine ar ?_;grind[auj]
def aw5(h1:Int)(h2:B8)(h3:M (Int×Int×Int×B8))(root:B8): [(h1,h2,h3)]=[(h1,h2,h3)]/\0=0/\[root]=[root]/\0=0:=by
 grind
def aw6(a1:Int)(a2:B8)(a3:M (Int×Int×Int×B8))(a4:M (M (Int×B8×B8×B8×O×B8)))(i:Int)(t:O)(hp:0<=i/\i<(S.len a4:Nat)):bH 0 i (length a4)/\decide (length (getD a4 (toNat i) [])=bE t)=pd a4 i t:=by
 refine ar ?_;grind[pd,S.len]
def aw7(p1:Int)(p2:B8)(p3:M (Int×Int×Int×B8))(p4:Int)(p5:B8)(p6:O)(i:Int):decide (p4=i)=decide (p4=i):=by
 rfl
def aw8(l:U)(s1 s2:Int)(hf:Vg.fS J.ape (l,s1,s2)):(∃(x1:Nat),(0:Int)=x1/\xD l s1 s2 x1/\x1<=S.len l)/\(∀(x2:Nat),rk (xD l s1 s2 x2/\x2<=S.len l) (decide (x2<cQ l)) 0 x2 (cQ l) (vU (TT (jk l x2) s1 s2) (w7 l s1 s2) x2 (∃(x3:Nat),oY x2 x3 (xD l s1 s2 x3/\x3<=S.len l) (S.len l))) (true=w7 l s1 s2)):=by
 refine ar ?_;have C7:Vg.hlen l:=hf.1.1;have aHj:Vg.hint s1:=hf.2.1;have aHk:Vg.hint s2:=hf.2.2.1;clear hf;refine⟨?_,?_⟩;grind[xD,z6,DS,Im,ag,S.len];intro x1 h2;refine⟨?_,?_⟩
 . intro h3;try simp only[dt] at h3
   with_reducible and_intros
   iterate 2 omega
   intro h4;try simp only[V.HF,dt,tn] at h4
   grind[xD,z6,DS,Im,ag,S.len];intro h5;try simp only[V.pr,df,tn] at h5
   with_reducible and_intros
   iterate 2 omega
   refine⟨(x1+1),?_⟩;try dsimp only
   with_reducible and_intros
   omega;iterate 3 (grind[xD,z6,DS,Im,ag,S.len])
 grind[df,z6,DS,Im]
def aw9(p1:Int)(p2:B8)(p3:M (Int×Int×Int×B8))(p4:Int)(p5:B8)(p6:O)(i:Int)(hp:fa p6/\ax p5):rl p5 (fa p6/\Iy (dA (cv (S.leaf p5) i p1 p6)) (jK (S.leaf p5) i p1 p6) p2=F7 p1 p2 p5 p6 i):=by
 refine ar ?_;grind[F7]
def axa(root:B8)(i:Int)(b:B8)(hp:b.length<1099511627776):cm (E8 root) (xe (jO root i b) 1) (jI b) (ca (cR (aK b).2) (xe (jO root i b) (aK b).2) True (gj Qq (CG (aK b).1.1 (xK b).1 (xK b).2.1 root->gj Qq (decide ((xK b).2.2.1=i)->(fa (CW b).2/\ax (CW b).1)/\Qq/\(F7 (aK b).1.1 (xK b).1 (CW b).1 (CW b).2 i->True)))) (dp (cR (ũ b i root)) (xe (jO root i b) (ũ b i root)) ((CW b).1=(jO root i b).1/\0=(jO root i b).2))):=by
 refine ar ?_;refine⟨?_,?_⟩;grind[nt,df,aEK];intro h2;refine⟨?_,?_,?_⟩;omega;grind[nt,df,aEL];intro h4;with_reducible and_intros
 iterate 2 trivial
 rfl;simp_all[dt,aoF]
 grind[nt,df,aoG,Tu];grind[aoG,Tu]
def axb(g1 g2 g3:Int)(g4 w:B8)(a1:Int)(a2:B8)(a3:M (Int×Int×Int×B8))(a4:M (M (Int×B8×B8×B8×O×B8)))(i j:Int)(xs:M Value)(q:Nat)(l:U)(hp:P1 w a4 i j/\TD j q xs.length l/\tI (g1,g2,g3,g4) w a4 i j=true):bH 0 i (length a4)/\bH 0 j (length (getD a4 (toNat i) []))/\vL w (Af a4 i j).2.2.2.2.1 (Af a4 i j).2.2.2.2.2/\lA (cR (Kb a4 g3 g4 i j w).2)/\ca (xd (cR (Kb a4 g3 g4 i j w).2) (w7 (Kb a4 g3 g4 i j w).1 g1 g2)) (false/\xs=xs/\q=q/\l=TF l (A6 (g1,g2,g3,g4) w a4 i j).1) (bH 0 j (Vg.aB.BH xs)) (toNat j<Vg.aB.BH xs) (toNat j=q/\AQ l (Kb a4 g3 g4 i j w).1/\bH 0 j (Vg.aB.BH xs)/\toNat j<Vg.aB.BH xs/\toNat j=q/\Qq/\xs=xs/\q=q/\l++(Kb a4 g3 g4 i j w).1=TF l (A6 (g1,g2,g3,g4) w a4 i j).1):=by
 refine ar ?_;obtain⟨⟨p1,p2,p3⟩,⟨p4,p5,p6⟩,p7⟩:=hp;have p8:(A6 (g1,g2,g3,g4) w a4 i j).2=0/\w7 (A6 (g1,g2,g3,g4) w a4 i j).1 g1 g2=true:=by grind[tI]
 have g1':0<=j/\j<(xs.length:Int):=⟨p2.1,w!⟩;have ù:toNat j<xs.length:=by omega
 have g3':(A6 (g1,g2,g3,g4) w a4 i j).1.length<=1000:=TG _ _ _ _;have g4':l.length<=1099511627776:=p6;have g5':l.length+(A6 (g1,g2,g3,g4) w a4 i j).1.length<=17592186044416:=by omega
 refine⟨p1,p2,p3,⟨λ_=>trivial,λ_=>trivial⟩,λh3=>?_,λh4=>⟨g1',ù,p4.symm,g5',g1',ù,p4.symm,rfl,rfl,rfl,rfl⟩⟩;change (bif !decide ((A6 (g1,g2,g3,g4) w a4 i j).2=0) then true else !w7 (A6 (g1,g2,g3,g4) w a4 i j).1 g1 g2)=true at h3;grind
def axc(g1 g2 g3:Int)(g4 w:B8)(a1:Int)(a2:B8)(a3:M (Int×Int×Int×B8))(a4:M (M (Int×B8×B8×B8×O×B8)))(i j:Int)(xs:M Value)(q:Nat)(l:U)(hp:P1 w a4 i j/\TD j q xs.length l/\tI (g1,g2,g3,g4) w a4 i j=false):bH 0 i (length a4)/\bH 0 j (length (getD a4 (toNat i) []))/\vL w (Ae a4 i j).2.2.2.2.1 (Ae a4 i j).2.2.2.2.2/\lA (cR (QA a4 g3 g4 i j w).2)/\ca (xd (cR (QA a4 g3 g4 i j w).2) (w7 (QA a4 g3 g4 i j w).1 g1 g2)) (false=false/\xs=xs/\q=q/\l=l) (bH 0 j (Vg.aB.BH xs)) (toNat j<Vg.aB.BH xs) (toNat j=q/\AQ l (QA a4 g3 g4 i j w).1/\bH 0 j (Vg.aB.BH xs)/\toNat j<Vg.aB.BH xs/\toNat j=q/\true=false/\False/\False):=by
 refine ar ?_;obtain⟨⟨p1,p2,p3⟩,⟨p4,p5,p6⟩,p7⟩:=hp;refine⟨p1,p2,p3,⟨λ_=>trivial,λ_=>trivial⟩,λh3=>⟨rfl,rfl,rfl,rfl⟩,λh4=>?_⟩;change (bif !decide ((A6 (g1,g2,g3,g4) w a4 i j).2=0) then true else !w7 (A6 (g1,g2,g3,g4) w a4 i j).1 g1 g2)=false at h4;change (decide ((A6 (g1,g2,g3,g4) w a4 i j).2=0)&&w7 (A6 (g1,g2,g3,g4) w a4 i j).1 g1 g2)=false at p7;grind
def axd(root:B8)(l:M (Int×B8))(b:B8)(hp:b.length<1099511627776/\fA l):tJ (E8 root) (fA l)/\cm (xd (E8 root) (bR l)) (sU (kJ root l b) 1) (jI b) (ca (cR (aU b).2) (sU (kJ root l b) (aU b).2) (S.small l) (Z9 0 (bE (aF l)) ((24:Nat):Int)) (gj (∃(x1:Nat),((0:Int)=x1/\[λ(x2:Vg.Z)=>(True,Vg.AV.bool (CG (aU b).1.1 (CV b) (tv b) root),x2)]=S.conds 36 3 root (aU b).1.1 (CV b) (tv b) (xJ b) (aF l) x1)/\aeu b x1) (∀(x3:Nat),aeu b x3->cm (decide ((x3:Int)<length (tv b))) (bH 0 x3 (length (tv b))/\Nat.succ (Vg.aB.len (Wm b l root x3))<=17592186044416/\(∃(x4:Nat×Nat),((0:Int)=x4.2/\Vg.aB.cat (Wm b l root x3) [λ(x5:Vg.Z)=>(bH 0 x3 (S.len (xJ b)),Vg.AV.bool (pd (xJ b) x3 (aF l)),x5)]=qK 36 3 root (aU b).1.1 (CV b) (tv b) (xJ b) (aF l) x4.1 x4.2)/\V0 b (aF l) x4.1 x4.2/\(x3:Int)=x4.1)/\(∀(x6:Nat×Nat),V0 b (aF l) x6.1 x6.2/\(x3:Int)=x6.1->rj (decide (x6.2<bE (aF l))) (bH 0 x6.2 (bE (aF l))/\Nat.succ (Vg.aB.len (Wl b l root x6))<=17592186044416/\cI (x6.2+1)/\(∃(x7:Nat×Nat),((x6.2:Int)+1=x7.2/\Vg.aB.cat (Wl b l root x6) [CK 36 3 ((Qz b x3).1,(Qz b x3).2.1,(Qz b x3).2.2.1,(Qz b x3).2.2.2) (ew (aF l) x6.2) (xJ b) x3 x6.2]=qK 36 3 root (aU b).1.1 (CV b) (tv b) (xJ b) (aF l) x7.1 x7.2)/\(V0 b (aF l) x7.1 x7.2/\(x3:Int)=x7.1)/\vR (S.len (aF l)) x7.2 x6.2)) x3 (∃(x8:Nat),iw x3 x8 (Wl b l root x6=S.conds 36 3 root (aU b).1.1 (CV b) (tv b) (xJ b) (aF l) x8) (aeu b x8) (S.len (tv b))))) (Vg.aB.K4 (toNat (bE (aF l)))=Vg.aB.K4 (toNat (bE (aF l)))/\(Ka b l root x3).1) (cm (cR (bif (Ka b l root x3).2.1 then 0 else 6)) (sU (kJ root l b) (bif (Ka b l root x3).2.1 then 0 else 6)) (fA l) ((oG l (Vg.aB.rows (Ka b l root x3).2.2)).1=(kJ root l b).1/\(oG l (Vg.aB.rows (Ka b l root x3).2.2)).2=(kJ root l b).2))))):=by
 refine ar ?_;with_reducible and_intros
 iterate 2 grind
 grind[auA,aEV];intro h4;try simp at h4
 refine⟨?_,?_,?_⟩;omega;grind[nt,df,auB,P6];intro h6;simp at h6;with_reducible and_intros
 exact hp.2.1;iterate 2 omega
 grind[pU];trivial
 . refine⟨0,?_⟩;try dsimp only
   with_reducible and_intros
   omega;rfl;exact⟨R! _,h6⟩
 intro x7 h8;refine V.dI (λh9=>?_) λpG=>?_
 . with_reducible and_intros
   iterate 2 omega
   have q:=aew hp.1 hp.2 h6 h4.2 h8.1;show length _+1<=_;rw[Gc];omega
   . refine⟨((x7),0),?_⟩;try dsimp only
     with_reducible and_intros
     omega;rfl;exact⟨w!,R! _,h6⟩;omega
   intro WD iZ;refine⟨?_,?_⟩
   . intro jV;try simp only[dt] at jV
     with_reducible and_intros
     iterate 2 omega
     have q:=aew hp.1 hp.2 h6 h4.2 (Nat.le_of_lt iZ.1.1);have q2:=iZ.1.2.1;have q3:=pU h4.2;show length _+1<=_;rw[V3];omega;omega;have q:=pU h4.2;omega;refine⟨((x7),(WD.2+1)),?_⟩;try dsimp only
     with_reducible and_intros
     omega;have e:x7=WD.1:=by have:=iZ.2;omega
     rw[<-e];exact RW x7 WD.2;have:=iZ.1.1;exact⟨w!,w!,h6⟩;omega;simp only[ag,S.len];omega
   intro oq;try simp only[df] at oq
   with_reducible and_intros
   omega;have q:=aev hp.1 hp.2 h6;omega;refine⟨(x7+1),?_⟩;try dsimp only
   with_reducible and_intros
   omega;have e:x7=WD.1:=by have:=iZ.2;omega
   have e2:WD.2=(aF l).length:=by have:=iZ.1.2.1;omega
   rw[<-e,e2];rfl;exact⟨w!,h6⟩;simp only[ag,S.len];omega
 with_reducible and_intros
 rfl;exact(Is hp.1 hp.2 h6 (by have:=h8.1;omega)).pre;intro KB;try simp at KB
 refine⟨?_,?_⟩;exact(aoQ (P6 h4) h6 (Is hp.1 hp.2 h6 (by have:=h8.1;omega)) KB).1;exact(aoQ (P6 h4) h6 (Is hp.1 hp.2 h6 (by have:=h8.1;omega)) KB).2;intro IH;try simp at IH
 refine⟨?_,?_,?_⟩;exact hp.2;rw[aex (P6 h4) h6 (Is hp.1 hp.2 h6 (by have:=h8.1;omega)) IH];rw[aex (P6 h4) h6 (Is hp.1 hp.2 h6 (by have:=h8.1;omega)) IH]
def axe(c1 c2:B8)(hp:gh c1 c2):gj (fj (Bool.not (PO c1 c2)) (qM c1 (S.small c2))) (Iy (Bool.not (PO c1 c2)) (S.sum c1) (S.sum c2)=JW c1 c2):=by
 refine ar ?_;grind[nt,JW,gh,nf]
def axf(b:B8)(hp:S.small b):(b=[]->[]=b)/\nD jP b/\[]++b=b:=by
 refine ar ?_;grind[S.small,S.len]
def axg(a b:B8)(hp:gh a b):qM a (qM b (gh a b/\dp (Bool.not (JW a b)) (tK (bt a b)) (Ac a (bt a b) b true))):=by
 refine ar ?_;grind[bt,gy,gh,nt,nf]
def axh(l:O)(hp:S.small l):S.small l/\jS l=jS l:=by
 grind
def axi(a b:B8):dV (bo a b=bo a b):=by
 refine ar ?_;grind
def axj(l:O)(hp:S.small l):gj (0<=S.split (bE l)/\S.split (bE l)<=bE l) (S.small (take (Qy l) l)/\ix (S.split (bE l)) (bE l) (S.small (drop (Qy l) l)/\rl (Ũ l) (bA 1 (Ũ l)=vN l))):=by
 refine ar ?_;with_reducible and_intros
 trivial;exact(DV _).1;exact(DV _).2;grind[TH];exact(DV _).1;exact(DV _).2;simp_all[TH]
 exact aoT;rfl
def axk(a b:B8)(hp:w8 a b):rl a (rl b (gh (bA 2 a) (bA 2 b)/\ţ (bt (bA 2 a) (bA 2 b)) (RX 2 a b))):=by
 refine ar ?_;with_reducible and_intros
 exact hp.1;exact hp.2;grind[V5];iterate 3 rfl
def axl(a b:B8)(hp:w8 a b):rl a (rl b (gh (bA 3 a) (bA 3 b)/\ţ (bt (bA 3 a) (bA 3 b)) (RX 3 a b))):=by
 refine ar ?_;with_reducible and_intros
 exact hp.1;exact hp.2;grind[V5];iterate 3 rfl
def axm(a b:B8)(hp:gh a b):gh a b/\ţ (bt a b) (bt a b):=by
 refine ar ?_;grind
def axn(a b:B8): [a]=[a]/\0=0/\[b]=[b]/\0=0:=by
 grind
def axo(l:O)(i:Int)(f:B8)(p:O)(hp:mJ l f p)(hf:Vg.fS J.aCJ (l,i,f,p)):ca (TT i 0 (bE l)) (tK (jU l i f p)) (ax f) (fa p) (ca (cR (cv (S.leaf f) i (bE l) p)) (tK (jU l i f p)) (cX l) (∃(x1:O×M Bool×O×Int),(S.leaves l=x1.2.2.1/\i=x1.2.2.2/\[]=x1.1/\[]=x1.2.1)/\Ab l i f p x1) (∀(x2:O×M Bool×O×Int),Ab l i f p x2->ov (decide (1<bE x2.2.2.1)) (S.small x2.2.2.1/\AO (length x2.1+length [vN x2.2.2.1])/\gj (Iv (length x2.2.1+length [decide (rR x2<=x2.2.2.2)])) (dp (decide (x2.2.2.2<rR x2)) (0<=rR x2/\rR x2<=bE x2.2.2.1) (ix (rR x2) (bE x2.2.2.1) (cI (x2.2.2.2-rR x2)))/\(∃(x3:O×M Bool×O×Int),((bif decide (x2.2.2.2<rR x2) then take (toNat (rR x2)) x2.2.2.1 else drop (toNat (rR x2)) x2.2.2.1)=x3.2.2.1/\(bif decide (x2.2.2.2<rR x2) then x2.2.2.2 else x2.2.2.2-rR x2)=x3.2.2.2/\x2.1++[vN x2.2.2.1]=x3.1/\x2.2.1++[decide (rR x2<=x2.2.2.2)]=x3.2.1)/\Ab l i f p x3/\S.len x3.2.2.1<S.len x2.2.2.1))) (bE p+1) (Z9 0 (bE p+1) Ad/\rl f ((∃(x4:Nat),((0:Int)=x4/\S.leaf f=cD (S.leaf f) i (S.len l) p x4/\Vg.aB.Jh (toNat (bE p+1))=pV l i f p x4)/\w9 p x4)/\(∀(x5:Nat),vX (w9 p x5) (decide (x5<bE p)) x5 (bE p) (cI (bE p-1)/\mu (bE p-1-x5) 0 (length x2.2.1) (xI p x5<length x2.2.1/\cI (bE p-1)/\cI (bE p-1-x5)/\rl (J8 f i l p x2 x5++J9 f i l p x2 x5) (cI (bE p-1)/\mu (bE p-1-x5) 0 (length x2.1) (xI p x5<length x2.1/\dV (bH 0 (bE p-1-x5) (Vg.aB.len (pV l i f p x5))/\xI p x5<Vg.aB.len (pV l i f p x5)/\dV (dh x5 (∃(x6:Nat),iw x5 x6 (bo (J8 f i l p x2 x5) (J9 f i l p x2 x5)=cD (S.leaf f) i (S.len l) p x6/\Vg.aB.put (pV l i f p x5) (xI p x5) (gh (bA 1 (J8 f i l p x2 x5++J9 f i l p x2 x5)) (qS x2.1 (xI p x5))) (qN (bt (bA 1 (J8 f i l p x2 x5++J9 f i l p x2 x5)) (qS x2.1 (xI p x5))).1 (bt (bA 1 (J8 f i l p x2 x5++J9 f i l p x2 x5)) (qS x2.1 (xI p x5))))=pV l i f p x6) (w9 p x6) (S.len p)))))))) (ax f) (bH 0 i (bE l)/\ax (ew l i)/\dV (bH 0 (bE p) (Vg.aB.len (pV l i f p x5))/\toNat (bE p)<Vg.aB.len (pV l i f p x5)/\(Qx f i l p x5).1/\Ac (Qx f i l p x5).2.1 (jU l i f p) (Qx f i l p x5).2.2.1 (Qx f i l p x5).2.2.2))))))):=by
 refine ar ?_;have aMI:Vg.hlen p:=hf.2.2.2.1.1;clear hf;refine⟨?_,?_⟩;intro h1;try simp at h1
 refine⟨?_,?_,?_⟩
 iterate 2
  rw[aoU w!];rfl
 rw[aoU w!];rfl;intro h2;try simp at h2
 refine⟨?_,?_,?_,?_⟩;exact hp.2.1;exact hp.2.2;intro h3;try simp at h3
 refine⟨?_,?_,?_⟩
 iterate 2
  rw[aez h3];rfl
 rw[aez h3];rfl;intro h4;refine⟨?_,?_,?_⟩;exact hp.1;refine⟨(([]),(([]),((S.leaves l),(i)))),?_⟩;grind[aLs];intro x5 h6;refine V.dI (λh7=>?_) λez=>?_
 . with_reducible and_intros
   grind[xb];grind[xb,lc,ln];trivial;grind[xb,lc,ln];intro h8;try simp only[dt] at h8
   grind[xb]
   . intro h9;try simp only[df] at h9
     with_reducible and_intros
     iterate 2 (grind[xb])
     omega;obtain⟨e,b1,b2,b3,_⟩:=xb h6 h7;have q3:=h6.2.2.1;have q4:=h6.2.2.2.1;grind[S.small]
   refine⟨((Prod.fst x5++[vN (Prod.fst (Prod.snd (Prod.snd x5)))]),((Prod.fst (Prod.snd x5)++[Decidable.decide (S.split (↑(length (Prod.fst (Prod.snd (Prod.snd x5)))):Int)<=Prod.snd (Prod.snd (Prod.snd x5)))]),((bif Decidable.decide (Prod.snd (Prod.snd (Prod.snd x5))<S.split (↑(length (Prod.fst (Prod.snd (Prod.snd x5)))):Int)) then take (toNat (S.split (↑(length (Prod.fst (Prod.snd (Prod.snd x5)))):Int))) (Prod.fst (Prod.snd (Prod.snd x5))) else drop (toNat (S.split (↑(length (Prod.fst (Prod.snd (Prod.snd x5)))):Int))) (Prod.fst (Prod.snd (Prod.snd x5)))),(bif Decidable.decide (Prod.snd (Prod.snd (Prod.snd x5))<S.split (↑(length (Prod.fst (Prod.snd (Prod.snd x5)))):Int)) then Prod.snd (Prod.snd (Prod.snd x5)) else Prod.snd (Prod.snd (Prod.snd x5))-S.split (↑(length (Prod.fst (Prod.snd (Prod.snd x5)))):Int))))),?_⟩;try dsimp only
   with_reducible and_intros
   iterate 4 rfl
   grind[ZO];exact(ZO h6 h7).2
 with_reducible and_intros
 omega
 (have q:p.length<=1099511627776:=hp.2.2;omega)
 iterate 2 omega
 (have q:p.length<=1099511627776:=hp.2.2;omega)
 (exact hp.2.1)
 . refine⟨(nat_lit 0:Nat),?_⟩;try dsimp only
   with_reducible and_intros
   iterate 3 rfl
   exact R! _
 intro Mu jV;refine V.dI (λoq=>?_) λpG=>?_
 . with_reducible and_intros
   iterate 7 omega
   iterate 2
    (have q:p.length<=1099511627776:=hp.2.2;obtain⟨e1,e2,e3,e4,e5,e6,e7,e8⟩:=hY h6 ez;omega)
   iterate 4 omega
   (have q:p.length<=1099511627776:=hp.2.2;obtain⟨e1,e2,e3,e4,e5,e6,e7,e8⟩:=hY h6 ez;exact aEX e5 w! _)
   iterate 5 omega
   iterate 2
    (have q:p.length<=1099511627776:=hp.2.2;obtain⟨e1,e2,e3,e4,e5,e6,e7,e8⟩:=hY h6 ez;omega)
   trivial;omega;iterate 2 (grind[hY,DX])
   trivial;iterate 2 omega
   refine⟨(Mu+nat_lit 1),?_⟩;try dsimp only
   with_reducible and_intros
   rfl;obtain⟨e1,e2,e3,e4,e5,e6⟩:=hY h6 ez;exact aEY e5 w! e2 e4;obtain⟨e1,e2,e3,e4,e5,e6⟩:=hY h6 ez;exact auC w! e2 e1 rfl rfl rfl rfl;iterate 2 (grind[hY,w9,ag,S.len])
 with_reducible and_intros
 (exact hp.2.1)
 iterate 2 omega
 (exact hp.1.2 _ x!)
 trivial;omega;iterate 2 (grind[hY,DX])
 obtain⟨e1,e2,e3,e4,e5,e6⟩:=hY h6 ez;have e:Mu=p.length:=by grind[w9]
 subst e;exact auD e5 hp
 iterate 2
  obtain⟨e1,e2,e3,e4,e5,e6⟩:=hY h6 ez;have e:Mu=p.length:=by grind[w9]
  subst e;rw[M1 e5];rfl
 obtain⟨e1,e2,e3,e4,e5,e6⟩:=hY h6 ez;have e:Mu=p.length:=by grind[w9]
 subst e;rw[M1 e5];rfl
def axp(d:M (B8×U))(t:B8)(p1:Int)(p2 p3 p4:B8)(p5:O)(p6:B8)(hp:P7 d t p5 p6):vV d (ca (cR (dE d)) (tK (iD d t (p1,p2,p3,p4,p5,p6))) (aY d) (vL t p5 p6) (ca (cR (kn (xA d) (bE (bD d)) t (p1,p2,p3,p4,p5,p6)).2) (tK (iD d t (p1,p2,p3,p4,p5,p6))) True (mJ (bD d) (dK p2 p3 p4) p5) (dp (jU (bD d) p1 (dK p2 p3 p4) p5).2 (Ac (jU (bD d) p1 (dK p2 p3 p4) p5).1.1 (iD d t (p1,p2,p3,p4,p5,p6)) (jU (bD d) p1 (dK p2 p3 p4) p5).1.2 true) (cm (LW p2 t) (tK (iD d t (p1,p2,p3,p4,p5,p6))) (aY d) (gj (w8 p6 (l7 (nu d t))) (ţ (RX 2 p6 (l7 (nu d t))) (iD d t (p1,p2,p3,p4,p5,p6)))))))):=by
 refine ar ?_;refine⟨?_,?_,?_⟩;exact hp.1;grind[nt,df,iD,gy];intro h2;refine⟨?_,?_,?_,?_⟩;exact hp.1;exact hp.2;grind[nt,df,iD,gy];intro h4;refine⟨?_,?_,?_,?_⟩;trivial;grind[aEZ];grind[iD,gy];intro h6;refine⟨?_,?_⟩;grind[nt,df,iD,gy];intro h8;with_reducible and_intros
 exact hp.1;trivial;exact⟨hp.2.2.2.1,auF _⟩;iterate 3 (grind[iD,gy])
def axq(p1:Int)(p2:B8)(p3:M (Int×Int×Int×B8))(p4:O)(p5:M (Int×Int×M (B8×U))):dV (dV (gj ((hW p1 p2 p3).1=sS p1 p2 p3) ((hW (hX p4 p5).1.1 (hX p4 p5).1.2.1 (hX p4 p5).1.2.2).1=yO p4 p5))):=by
 refine ar ?_;grind[sS,yO]
def axr(p1:Int)(p2:B8)(p3:M (Int×Int×Int×B8))(p4:O)(p5:M (Int×Int×M (B8×U))):dV (dV (PO (sS p1 p2 p3) (yO p4 p5)=AM p1 p2 p3 p4 p5)):=by
 refine ar ?_;grind[AM]
def axs(p1:Int)(p2:B8)(p3:M (Int×Int×Int×B8))(p4:O)(p5:M (Int×Int×M (B8×U))):gj (w8 (sS p1 p2 p3) (yO p4 p5)) (ţ (RX 3 (sS p1 p2 p3) (yO p4 p5)) (sv p1 p2 p3 p4 p5)):=by
 refine ar ?_;apply QS;trivial;exact⟨M3 ..,M3 ..⟩;iterate 3 rfl
def axt(a1:Int)(a2:B8)(a3:M (Int×Int×Int×B8))(a4:O)(a5:M (Int×Int×M (B8×U)))(a6:O)(a7:M (M (Int×B8×B8×B8×O×B8)))(hp:xa a1 a2 a3 a4 a5 a6 a7)(hf:Vg.fS J.aCL (a1,a2,a3,a4,a5,a6,a7)):dV (cm (Bool.not (AM a1 a2 a3 a4 a5)) (tK (oh a1 a2 a3 a4 a5 a6 a7)) (∃(x1:Nat),(0:Int)=x1/\JX a5 a6 a7 x1) (∀(x2:Nat),vT (JX a5 a6 a7 x2) (decide ((x2:Int)<length a5)) 0 x2 (length a5) (∃(x3:Nat×Nat),(0:Int)=x3.1/\uh a5 a6 a7 x3.2 x3.1/\(x2:Int)=x3.2) (∀(x4:Nat×Nat),uh a5 a6 a7 x4.2 x4.1/\(x2:Int)=x4.2->rj (decide (x4.1<bE a6)) (bH 0 x4.1 (bE a6)/\bH 0 x2 (length a7)/\bH 0 x4.1 (length (getD a7 (toNat x2) []))/\P7 (getD a5 (toNat x2) (0,0,[])).2.2 (qS a6 (toNat x4.1)) (getD (getD a7 (toNat x2) []) (toNat x4.1) (0,[],[],[],[],[])).2.2.2.2.1 (getD (getD a7 (toNat x2) []) (toNat x4.1) (0,[],[],[],[],[])).2.2.2.2.2/\ov (Wk a5 a6 a7 x2 x4).2 (Ac (Wk a5 a6 a7 x2 x4).1.1 (oh a1 a2 a3 a4 a5 a6 a7) (Wk a5 a6 a7 x2 x4).1.2 true) (x4.1+1) (∃(x5:Nat×Nat),(x4.1:Int)+1=x5.1/\(uh a5 a6 a7 x5.2 x5.1/\(x2:Int)=x5.2)/\vR (S.len a6) x5.1 x4.1)) x2 (∃(x6:Nat),oY x2 x6 (JX a5 a6 a7 x6) (S.len a5))) (tK (oh a1 a2 a3 a4 a5 a6 a7)))):=by
 refine ar ?_;have aHp:Vg.hlen a5:=hf.2.2.2.2.1.1;have aHq:Vg.hlen a6:=hf.2.2.2.2.2.1.1;refine⟨?_,?_,?_⟩;trivial;intro h1;refine⟨?_,?_,?_⟩
 iterate 2
  rw[oh,if_neg x!];rfl
 rw[oh,if_neg x!];rfl;intro h2;simp at h2;refine⟨?_,?_⟩;refine⟨(nat_lit 0:Nat),?_⟩;dsimp only;refine⟨?_,?_⟩;omega;exact⟨Nat.zero_le _,hp h2,rfl⟩;intro x3 h4;refine V.dI (λh5=>?_) λjV=>?_
 . with_reducible and_intros
   iterate 2 omega
   refine⟨((nat_lit 0:Nat),(x3)),?_⟩;try dsimp only
   refine⟨?_,?_,?_⟩;omega;exact⟨w!,R! _,h4.2.1,h4.2.2,rfl⟩;rfl;intro x6 h7;refine V.dI (λh8=>?_) λiZ=>?_
   . with_reducible and_intros
     iterate 3 omega
     (obtain⟨h7,q⟩:=h7;obtain rfl :x3=x6.2:=w!;obtain⟨q1,q2,q3⟩:=P8 h7 w!;omega)
     omega
     (obtain⟨h7,q⟩:=h7;obtain rfl :x3=x6.2:=w!;obtain⟨q1,q2,q3⟩:=P8 h7 w!;have q4:x6.1<(a7.getD x6.2 []).length:=q2;exact Int.ofNat_lt.2 q4)
     (obtain⟨h7,q⟩:=h7;obtain rfl :x3=x6.2:=w!;obtain⟨q1,q2,q3⟩:=P8 h7 w!;exact q3)
     intro h9;refine⟨?_,?_,?_⟩
     iterate 2
      obtain⟨h7,q⟩:=h7;obtain rfl :x3=x6.2:=by omega
      rw[<-aeD h2 h7 w! h9];rfl
     obtain⟨h7,q⟩:=h7;obtain rfl :x3=x6.2:=by omega
     rw[<-aeD h2 h7 w! h9];exact h9.symm;intro ez;with_reducible and_intros
     iterate 2 omega
     refine⟨((Prod.fst x6+nat_lit 1),(x3)),?_⟩;try dsimp only
     with_reducible and_intros
     omega;obtain⟨h7,q⟩:=h7;obtain rfl :x3=x6.2:=by omega
     exact aE0 h7 w! ez;with_reducible rfl
     grind[ag,S.len]
   with_reducible and_intros
   iterate 2 omega
   refine⟨(x3+nat_lit 1),?_⟩;try dsimp only
   refine⟨?_,?_,?_⟩;omega;obtain⟨h7,q⟩:=h7;obtain rfl :x3=x6.2:=by omega
   exact aoZ h7 w!;grind[ag,S.len]
 refine⟨?_,?_,?_⟩
 iterate 2
  rw[aeE h2 h4 w!];rfl
 rw[aeE h2 h4 w!];rfl
def axu(a1:Int)(a2:B8)(a3:M (Int×Int×Int×B8))(a4:O)(a5:M (Int×Int×M (B8×U)))(a6:Int)(a7:B8)(a8:O)(hp:mJ a4 a7 a8):dV (cm (Bool.not (AM a1 a2 a3 a4 a5)) (tK (CM a1 a2 a3 a4 a5 a6 a7 a8)) (mJ a4 a7 a8) (ţ (jU a4 a6 a7 a8) (CM a1 a2 a3 a4 a5 a6 a7 a8))):=by
 refine ar ?_;grind[nt,CM,gy,nf]
def axv(y1:O)(y2:M (Int×Int×M (B8×U)))(l:M (Int×B8))(b:B8)(hp:b.length<1099511627776/\fA l):dV (cm (cR (eX y1 y2).2) (tK (me y1 y2 l b)) (length b<1099511627776/\fA l) (cm (cR (kJ (eX y1 y2).1 l b).2) (tK (me y1 y2 l b)) (Iv (length b)) (ca (cR (aU b).2) (tK (me y1 y2 l b)) (S.small l) (Vg.aB.first [λ(x1:Vg.Z)=>(True,qN (Ah b y1 y2).1 (Ah b y1 y2),x1),λ(x2:Vg.Z)=>(xa (iY b).1 (iY b).2.1 (iY b).2.2.1 y1 y2 (aF l) (iY b).2.2.2,qN (Ag b l y1 y2).1 (Ag b l y1 y2),x2)]).1 (Ac (Qn [λ(x3:Vg.Z)=>(True,qN (Ah b y1 y2).1 (Ah b y1 y2),x3),λ(x4:Vg.Z)=>(xa (iY b).1 (iY b).2.1 (iY b).2.2.1 y1 y2 (aF l) (iY b).2.2.2,qN (Ag b l y1 y2).1 (Ag b l y1 y2),x4)]).1 (me y1 y2 l b) (Qn [λ(x5:Vg.Z)=>(True,qN (Ah b y1 y2).1 (Ah b y1 y2),x5),λ(x6:Vg.Z)=>(xa (iY b).1 (iY b).2.1 (iY b).2.2.1 y1 y2 (aF l) (iY b).2.2.2,qN (Ag b l y1 y2).1 (Ag b l y1 y2),x6)]).2.1 (Qn [λ(x7:Vg.Z)=>(True,qN (Ah b y1 y2).1 (Ah b y1 y2),x7),λ(x8:Vg.Z)=>(xa (iY b).1 (iY b).2.1 (iY b).2.2.1 y1 y2 (aF l) (iY b).2.2.2,qN (Ag b l y1 y2).1 (Ag b l y1 y2),x8)]).2.2)))):=by
 refine ar ?_;refine⟨?_,?_,?_⟩;trivial;grind[nt,df,me,gy];intro h2;simp at h2;with_reducible and_intros
 omega;grind;grind[nt,df,me,gy];intro h4;simp at h4;refine⟨?_,?_,?_⟩;omega;grind[nt,df,me,gy];intro h6;simp at h6;apply QS;exact hp.2.1;exact⟨trivial,λ_=>⟨auH hp.1 hp.2 h2 h4 h6,λ_=>trivial⟩⟩
 iterate 2
  rw[aeG h2 h4 h6];rfl
 rw[aeG h2 h4 h6];rfl
def axw(y1:O)(y2:M (Int×Int×M (B8×U)))(i:Int)(b:B8)(hp:b.length<1099511627776):dV (cm (cR (eX y1 y2).2) (tK (dz y1 y2 i b)) (length b<1099511627776) (cm (cR (jO (eX y1 y2).1 i b).2) (tK (dz y1 y2 i b)) (Iv (length b)) (cm (cR (aK b).2) (tK (dz y1 y2 i b)) (Vg.aB.first [λ(x1:Vg.Z)=>(True,qN (Ai b y1 y2).1 (Ai b y1 y2),x1),λ(x2:Vg.Z)=>(mJ y1 (Kg b) (Kf b),qN (Aj b i y1 y2).1 (Aj b i y1 y2),x2)]).1 (Ac (Qn [λ(x3:Vg.Z)=>(True,qN (Ai b y1 y2).1 (Ai b y1 y2),x3),λ(x4:Vg.Z)=>(mJ y1 (Kg b) (Kf b),qN (Aj b i y1 y2).1 (Aj b i y1 y2),x4)]).1 (dz y1 y2 i b) (Qn [λ(x5:Vg.Z)=>(True,qN (Ai b y1 y2).1 (Ai b y1 y2),x5),λ(x6:Vg.Z)=>(mJ y1 (Kg b) (Kf b),qN (Aj b i y1 y2).1 (Aj b i y1 y2),x6)]).2.1 (Qn [λ(x7:Vg.Z)=>(True,qN (Ai b y1 y2).1 (Ai b y1 y2),x7),λ(x8:Vg.Z)=>(mJ y1 (Kg b) (Kf b),qN (Aj b i y1 y2).1 (Aj b i y1 y2),x8)]).2.2)))):=by
 refine ar ?_;refine⟨?_,?_,?_⟩;trivial;grind[nt,df,dz,gy];intro h2;simp at h2;refine⟨?_,?_,?_⟩;omega;grind[nt,df,dz,gy];intro h4;simp at h4;refine⟨?_,?_,?_⟩;omega;grind[nt,df,dz,gy];intro h6;simp at h6;refine⟨?_,?_,?_,?_⟩;exact⟨trivial,λ_=>⟨ao0 hp h2,λ_=>trivial⟩⟩
 iterate 2
  rw[Wb h2 h4 h6];rfl
 rw[Wb h2 h4 h6];rfl
def axx(y1:O)(y2:M (Int×Int×M (B8×U)))(b:B8)(hf:Vg.fS J.apk (y1,y2,b)):dV (Iz (sr y1 y2) 20000 (fB b)=Ge y1 y2 b):=by
 refine ar ?_;have xO:Vg.hlen y1:=hf.1.1;have rY:Vg.hlen y2:=hf.2.1.1;have rh:Vg.hlen b:=hf.2.2.1.1;clear hf;refine⟨?_,?_⟩;trivial;rfl
def axy:0<length ([104,97,121]:B8)/\dV (dV (gj (0<length ([104,97,121]:B8)) ([104,97,121]=zZ/\fA jG/\gj (TU Qv/\fA jG) ((TU Qv/\fA jG)/\TU (oF J3 J2 0).1/\dV (om (pA ŧ.1 [0]) (om (dA ŧ.2) (om (Bool.not (me J3 J2 jG Qv).2) (Bool.not (dz J3 J2 0 (oF J3 J2 0).1).2)))=true))))):=by
 refine ar ?_;with_reducible and_intros
 decide;iterate 3 trivial
 iterate 2 decide
 exact aoD;trivial
 (rw[Wc];exact S.Wd.1)
 exact aoD
 (rw[Wc];exact S.Wd.1)
 exact aoD
 (rw[Wc];exact S.Wd.2)
 trivial
 (rw[Wc];exact auI)
def axz(y1:O)(y2:M (Int×Int×M (B8×U)))(i:Int)(b:B8)(hf:Vg.fS J.TQ (y1,y2,i,b)):gj (tJ (Ge y1 y2 b) (S.small y2/\True)) (ca (xd (Ge y1 y2 b) (dD y1 y2)) (dV Qq) (S.small y2) (dD y1 y2=true) (nD jP b/\TU ([]++b)/\cm (cR (jO (tp y1 y2) i ([]++b)).2) (lA (dA (fB (jO (tp y1 y2) i ([]++b)).1))/\kI (dA (fB (jO (tp y1 y2) i ([]++b)).1)) false) (fj (nE i) (fj (decide (i<bE y1)) (bH 0 i (bE y1)))) (ca (om (nE i) (Iy (decide (i<bE y1)) (jO (tp y1 y2) i ([]++b)).1 (ew y1 i))) (dV Qq) (nD jP b) (TU ([]++b)) (fj (dz y1 y2 i ([]++b)).2 (gh (dz y1 y2 i ([]++b)).1.1 (dz y1 y2 i ([]++b)).1.2/\lA (JW (dz y1 y2 i ([]++b)).1.1 (dz y1 y2 i ([]++b)).1.2))/\om (dz y1 y2 i ([]++b)).2 (kI (JW (dz y1 y2 i ([]++b)).1.1 (dz y1 y2 i ([]++b)).1.2) false))))):=by
 refine ar ?_;have xO:Vg.hlen y1:=hf.1.1;have rY:Vg.hlen y2:=hf.2.1.1;have aCP:Vg.hint i:=hf.2.2.1;have rh:Vg.hlen b:=hf.2.2.2.1.1;clear hf;with_reducible and_intros
 trivial;intro h1;trivial;intro h2;refine⟨?_,?_⟩;exact(P9 h2).2;trivial;intro h3;try simp only[V.HF,nt] at h3
 refine⟨?_,?_⟩;trivial;rfl;intro h4;try simp only[V.pr,nf] at h4
 with_reducible and_intros
 exact(P9 h4.1).2;exact h4.2;have:=(P9 h4.1).1;simp[Vg.pO];omega;have:=(P9 h4.1).1;simp;omega
 . intro h5;try simp only[nt,df] at h5
   with_reducible and_intros
   intro h6;try simp only[dt] at h6
   trivial;intro h7;try simp only[df] at h7
   trivial;rw[auJ h5];rfl
 intro h8;try simp only[nf,dt] at h8
 with_reducible and_intros
 intro h9;try simp only[dt] at h9
 refine⟨?_,?_⟩;intro ez;try simp only[dt] at ez
 refine⟨?_,?_⟩;omega;omega;intro iZ;try simp only[df] at iZ
 trivial;intro jV;try simp only[df] at jV
 trivial;intro oq;try simp only[V.amI,dt] at oq
 refine⟨?_,?_⟩;trivial;rfl;intro pG;try simp only[V.MM,df] at pG
 with_reducible and_intros
 have:=(P9 h4.1).1;simp[Vg.pO];omega;have:=(P9 h4.1).1;simp;omega;intro KB;refine⟨?_,?_,?_⟩;exact(TK h4 h8 pG).2;intro IH;trivial;intro QT;trivial;intro Â;trivial;exact(TK h4 h8 pG).1
end Go
