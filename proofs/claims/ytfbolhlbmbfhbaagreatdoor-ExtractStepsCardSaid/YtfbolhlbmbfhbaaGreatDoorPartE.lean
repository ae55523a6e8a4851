import Derived.Test.YtfbolhlbmbfhbaaGreatDoorPartD
set_option linter.unusedVariables false
set_option linter.unusedSimpArgs false
set_option linter.unusedSectionVars false
set_option linter.defProp false
set_option linter.unusedVariables false
namespace Go
open List (length getD take drop replicate)
open Int (toNat)
open S
variable {p:Prop}{α:Type}{b:Bool}
theorem df[Decidable p]:decide p=false↔¬p:=p?
theorem dt[Decidable p]:(decide p=true)=p:=H!
theorem lc{a:α}{l:M α}:(a::l).length=l.length+1:=M?
theorem ln:([]:M α).length=0:=List.length_nil
theorem tn(n:Nat):(n:Int).toNat=n:=E? n
theorem nf:((!b)=false)=(b=true):=Bool.not_eq_false' b
theorem nt:((!b)=true)=(b=false):=K? b
def aOP: [1116352408,1899447441,3049323471,3921009573,961987163,1508970993,2453635748,2870763221,3624381080,310598401,607225278,1426881987,1925078388,2162078206,2614888103,3248222580,3835390401,4022224774,264347078,604807628,770255983,1249150122,1555081692,1996064986,2554220882,2821834349,2952996808,3210313671,3336571891,3584528711,113926993,338241895,666307205,773529912,1294757372,1396182291,1695183700,1986661051,2177026350,2456956037,2730485921,2820302411,3259730800,3345764771,3516065817,3600352804,4094571909,275423344,430227734,506948616,659060556,883997877,958139571,1322822218,1537002063,1747873779,1955562222,2024104815,2227730452,2361852424,2428436474,2756734187,3204031479,3329325298]=Bo:=by
 rfl
def aOQ(x n:Int)(H:jx n)(h:Vg.jE J.q1p (x,n)):anm n 32 (ô (32-n) 0 32 (fU (anu x n+fU (x*awY 2 (32-n)))=S.right x n)):=by
 refine au ?_;have a:Vg.hint n:=h.2.1;with_reducible and_intros
 iterate 2 (grind[jx])
 omega;iterate 3 (grind[jx])
 rfl
def aOS(b:B8)(f:b.length=64)(h:Vg.jE J.lL b):(∃(a:Nat),((0:Int)=((4*a:Nat):Int)/\[]=S.sched b a)/\cC a 16)/\(∀(X:Nat),cC X 16->jM (decide (((4*X:Nat):Int)<64)) (il 0 ((4*X:Nat):Int) (q91 b)/\aMK (((4*X:Nat):Int)+1) 0 (q91 b) (aMK (((4*X:Nat):Int)+2) 0 (q91 b) (anS (((4*X:Nat):Int)+3) 0 (q91 b) (length (S.sched b X)+length (aTE b X)<=35184372088832) (q78 (((4*X:Nat):Int)+4)/\(∃(c:Nat),(((4*X:Nat):Int)+4=((4*c:Nat):Int)/\S.sched b X++aTE b X=S.sched b c)/\cC c 16/\de 16 c X))))) (∃(d:Nat),((16:Int)=d/\S.sched b X=S.sched b d)/\16<=d/\d<=64) (∀(x:Nat),16<=x/\x<=64->q71 (decide ((x:Int)<64)) (anS (x-15) 0 (arV b x) (aNv x<arV b x) (Jw 7 (anS (x-15) 0 (arV b x) (aNv x<arV b x) (Jw 18 (anS (x-15) 0 (arV b x) (aNv x<arV b x) (anm 3 32 (anS (x-2) 0 (arV b x) (aNn x<arV b x) (Jw 17 (anS (x-2) 0 (arV b x) (aNn x<arV b x) (Jw 19 (anS (x-2) 0 (arV b x) (aNn x<arV b x) (anm 10 32 (anS (x-16) 0 (arV b x) (toNat (x-16)<arV b x) (anS (x-7) 0 (arV b x) (toNat (x-7)<arV b x) (arV b x+length (aTF b x)<=35184372088832/\ajJ x (∃(e:Nat),anE x e (S.sched b x++aTF b x=S.sched b e) (16<=e/\e<=64) 64)))))))))))))))) (S.sched b x=S.sched b 64))):=by
 refine au ?_;have I:Vg.hlen b:=h.1.1;clear h;refine⟨?_,?_⟩;grind[dh,cC,af,lc,ln];intro a g;refine V.dI (λi=>?_) λj=>?_
 . with_reducible and_intros
   iterate 14 omega
   simp only[dh,cC,af,lc,ln] at *;omega;iterate 2 omega
   refine⟨(a+1),?_⟩;try dsimp only
   with_reducible and_intros
   omega;exact akj b a w!;simp only[dh,cC,af,lc,ln] at *;omega;simp only[dh,cC,af,lc,ln] at *;omega
 refine⟨?_,?_⟩
 . refine⟨16,?_⟩;try dsimp only
   with_reducible and_intros
   omega;rw[show a=16 by(simp only[cC] at *;omega)];iterate 2 omega
 intro x k;refine⟨?_,?_⟩
 . intro H;try simp only[dt] at H
   with_reducible and_intros
   iterate 3 omega
   iterate 2
    simp only[dh,cC,af,lc,ln] at *;omega
   simp only[jx];omega;iterate 3 omega
   iterate 2
    simp only[dh,cC,af,lc,ln] at *;omega
   simp only[jx];omega;iterate 3 omega
   iterate 2
    simp only[dh,cC,af,lc,ln] at *;omega
   iterate 5 omega
   iterate 2
    simp only[dh,cC,af,lc,ln] at *;omega
   simp only[jx];omega;iterate 3 omega
   iterate 2
    simp only[dh,cC,af,lc,ln] at *;omega
   simp only[jx];omega;iterate 3 omega
   iterate 2
    simp only[dh,cC,af,lc,ln] at *;omega
   iterate 5 omega
   iterate 2
    simp only[dh,cC,af,lc,ln] at *;omega
   iterate 3 omega
   iterate 3
    simp only[dh,cC,af,lc,ln] at *;omega
   iterate 2 omega
   refine⟨(x+1),?_⟩;try dsimp only
   with_reducible and_intros
   omega;exact akk b x w!;iterate 2 omega
   simp only[dh,cC,af,lc,ln] at *;omega
 grind
def aOT(l:U)(p:B8)(H:Py l p):length p=64/\aj8 (awZ (q96 l)) (aSX 0 1 (q96 l) 2 3 4 5 6 (il 0 7 (q96 l)/\(∃(X:Nat),aFB X (q45 (gz (aFE p) (tw l) X) (anv l) (anL l 1) (anL l 2) (anL l 3) (anL l 4) (anL l 5) (anL l 6) (anL l 7)) 64)/\(∀(x:Nat),cC x 64->jM (decide ((x:Int)<64)) (Jw 6 (Jw 11 (Jw 25 (il 0 x (q96 Bo)/\toNat x<length Bo/\il 0 x (length (aFE p))/\toNat x<length (aFE p)/\jx 2/\Jw 13 (jx 22/\ajJ x (∃(a:Nat),FF x a (fU (aTD l p x+aWk (aMJ (S.right (anO l p x).1 2) (S.right (anO l p x).1 13) (S.right (anO l p x).1 22)) (anO l p x).1 (anO l p x).2.1 (anO l p x).2.2.1)=(gz (aFE p) (tw l) a).1/\(anO l p x).1=(gz (aFE p) (tw l) a).2.1/\(anO l p x).2.1=(gz (aFE p) (tw l) a).2.2.1/\(anO l p x).2.2.1=(gz (aFE p) (tw l) a).2.2.2.1/\q46 (gz (aFE p) (tw l) a).2.2.2.2 (fU ((anO l p x).2.2.2.1+aTD l p x)) (anO l p x).2.2.2.2.1 (aGj l p x).1 (aGj l p x).2.1) 64)))))) (awZ (q96 l)) (aSX 0 1 (q96 l) 2 3 4 5 6 (il 0 7 (q96 l)/\[fU (anv l+(anO l p x).1),fU (anL l 1+(anO l p x).2.1),fU (anL l 2+(anO l p x).2.2.1),fU (anL l 3+(anO l p x).2.2.2.1),fU (anL l 4+(anO l p x).2.2.2.2.1),fU (anL l 5+(aGj l p x).1),fU (anL l 6+(aGj l p x).2.1),fU (anL l 7+(aGj l p x).2.2)]=fb (S.block (tw l) p)))))):=by
 refine au ?_;obtain⟨u,e,c⟩:=H;have G:=auR u;with_reducible and_intros
 omega;trivial;iterate 16 omega
 . refine⟨(nat_lit 0:Nat),?_⟩;dsimp only;with_reducible and_intros
   omega;iterate 8 rfl
   grind[dh,cC,af]
 intro X d;refine V.dI (λf=>?_) λg=>?_
 . with_reducible and_intros
   iterate 3
    simp only[jx];omega
   omega
   iterate 2
    rw[<-J8];simp only[cC] at *;omega
   omega
   iterate 2
    simp only[dh,cC,af] at *;omega
   iterate 3
    simp only[jx];omega
   iterate 2 omega
   refine⟨(X+nat_lit 1),?_⟩;try dsimp only
   with_reducible and_intros
   omega;have h:=CE (S.sched p 64) (tw l) G X;have hx:=S.xor_not (h (gz (S.sched p 64) (tw l) X).2.2.2.2.1 (by simp[fb]));simp only[gz,hx,tn];rfl;iterate 3 rfl
   have h:=CE (S.sched p 64) (tw l) G X;have hx:=S.xor_not (h (gz (S.sched p 64) (tw l) X).2.2.2.2.1 (by simp[fb]));simp only[gz,hx,tn];rfl;iterate 3 rfl
   simp only[dh,cC,af] at *;omega;simp only[dh,cC,af] at *;omega
 with_reducible and_intros
 iterate 16 omega
 simp[cC] at d;rw[show X=64 by omega];simp[S.block,aeH,fb,tw,show toNat 0=0 by rfl,show toNat 1=1 by rfl,show toNat 2=2 by rfl,show toNat 3=3 by rfl,show toNat 4=4 by rfl,show toNat 5=5 by rfl,show toNat 6=6 by rfl,show toNat 7=7 by rfl]
def aOU(b:B8)(h:S.small b):UU anG (length b)/\aua ([]++b) [128]/\(∃(a:Nat),[]++b++[128]=gB b a/\cI b a)/\(∀(X:Nat),cI b X->(0:Int)<=length (gB b X)/\(0:Int)<64/\jM (oD (length (gB b X)%64) 56) (aQG (length (gB b X)) [0]/\(∃(c:Nat),gB b X++[0]=gB b c/\cI b c/\de (ij (S.len b)) c X)) (∃(d:Nat),aFB d (aPv (aPv (length b)*8)=mR b d/\[]=lC b d) 8) (∀(x:Nat),cC x 8->jM (decide ((x:Int)<8)) ((0:Int)<256/\UU [US (mR b x%256)] (length (lC b x))/\(0:Int)<256/\ajJ x (∃(e:Nat),FF x e (mR b x/256=mR b e/\[US (mR b x%256)]++lC b x=lC b e) 8)) (q66 (length (gB b X)+length (lC b x))) (gB b X++lC b x=S.tail b (pW b)))):=by
 refine au ?_;simp[S.small] at h;refine⟨?_,?_,?_,?_⟩;iterate 2 grind
 refine⟨0,?_⟩;refine⟨?_,?_⟩;exact Zl _;simp only[di,cI,ij,cC,af,S.len,lc,ln,J!] at *;omega;intro a f;refine⟨?_,?_,?_,?_⟩;iterate 2 omega
 intro g;simp at g;refine⟨?_,?_⟩;simp[di,cI,ij,cC,af,S.len,lc,ln,List.length_append] at *;omega;refine⟨(a+1),?_⟩;refine⟨?_,?_,?_⟩;grind[Ma];grind[PB];simp[di,cI,ij,cC,af,S.len,lc,ln,List.length_append] at *;omega;intro H;simp at H;refine⟨?_,?_⟩
 . refine⟨(nat_lit 0:Nat),?_⟩;dsimp only;with_reducible and_intros
   omega;exact akl b h;rfl;simp only[di,cI,ij,cC,af,S.len,lc,ln,J!] at *;omega
 intro x i;refine V.dI (λj=>?_) λk=>?_
 . with_reducible and_intros
   omega;have hx:x<=8:=by(simp only[cC] at *;omega)
   simp only[Iz _ _ hx,di,cI,lc,ln] at *;have:=PA b.length;omega;iterate 3 omega
   refine⟨(x+nat_lit 1),?_⟩;try dsimp only
   with_reducible and_intros
   omega;exact We b x;exact SL b x w!;simp only[di,cI,ij,cC,af,S.len,lc,ln,J!] at *;omega;simp only[di,cI,ij,cC,af,S.len,lc,ln,J!] at *;omega
 refine⟨?_,?_⟩;have hx:x<=8:=by(simp[cC] at *;omega)
 simp[Iz _ _ hx,di,cI,lc,ln] at *;have:=PA b.length;omega;rw[TR f H,show x=8 by(simp[cC] at *;omega),S.Ő];rfl
def aOV(b:B8)(h:S.small b):Rj b ((∃(a:Nat),((0:Int)=((64*a:Nat):Int)/\[1779033703,3144134277,1013904242,2773480762,1359893119,2600822924,528734635,1541459225]=fb (S.proc H0 (aFr b) a))/\a<=S.blocks (aFr b))/\(∀(x:Nat),x<=S.blocks (aFr b)->jM (decide (((64*x:Nat):Int)<q91 (aFr b))) (q78 (((64*x:Nat):Int)+64)/\tm 0 ((64*x:Nat):Int) (((64*x:Nat):Int)+64) (q91 (aFr b))/\Py (aMk b x) (aTB b x)/\q78 (((64*x:Nat):Int)+64)/\(∃(c:Nat),(((64*x:Nat):Int)+64=((64*c:Nat):Int)/\fb (S.block (tw (aMk b x)) (aTB b x))=fb (S.proc H0 (aFr b) c))/\c<=S.blocks (aFr b)/\de (S.blocks (aFr b)) c x)) (∃(d:Nat),aFB d ([]=oQ (aQl b) d) 8) (∀(X:Nat),cC X 8->q71 (decide ((X:Int)<8)) (il 0 X (aGi b x)/\toNat X<aGi b x/\(0:Int)<16777216/\il 0 X (aGi b x)/\toNat X<aGi b x/\(0:Int)<65536/\(0:Int)<256/\il 0 X (aGi b x)/\toNat X<aGi b x/\(0:Int)<256/\(0:Int)<256/\il 0 X (aGi b x)/\toNat X<aGi b x/\(0:Int)<256/\aua (oQ (aQl b) X) (aTC b x X)/\ajJ X (∃(e:Nat),FF X e (oQ (aQl b) X++aTC b x X=oQ (aQl b) e) 8)) (oQ (aQl b) X=S.sum b)))):=by
 refine au ?_;have H:=h;simp[S.small] at h;have i:=aoC b (pW b);have f:=TT b (pW b);have g:=PA b.length;refine⟨?_,?_,?_⟩;omega
 . refine⟨0,?_⟩;with_reducible and_intros
   omega;rfl;omega
 intro a j;refine V.dI (λk=>?_) λl=>?_
 . with_reducible and_intros
   iterate 5 omega
   exact⟨Pz _ _ S.Ŏ _,rfl,by rw[aoD,C?,N?];omega⟩;iterate 2 omega
   refine⟨(a+1),?_⟩;try dsimp only
   with_reducible and_intros
   omega;rw[aoD];rfl;omega;simp only[cC,af] at *;omega
 refine⟨?_,?_⟩
 . refine⟨(nat_lit 0:Nat),?_⟩;dsimp only;with_reducible and_intros
   omega;rfl;simp only[cC,af] at *;omega
 intro X m;refine V.dI (λn=>?_) λo=>?_
 . with_reducible and_intros
   omega
   iterate 2
    simp only[fb,lc,ln];omega
   iterate 2 omega
   iterate 2
    simp only[fb,lc,ln];omega
   iterate 3 omega
   iterate 2
    simp only[fb,lc,ln];omega
   iterate 3 omega
   iterate 2
    simp only[fb,lc,ln];omega
   omega;rw[TS _ _ (by simp only[cC] at *;omega)];simp;omega;iterate 2 omega
   refine⟨(X+nat_lit 1),?_⟩;try dsimp only
   with_reducible and_intros
   omega;rw[show a=S.blocks (S.tail b (pW b)) by omega];exact auS _ X w!;simp only[cC,af] at *;omega;simp only[cC,af] at *;omega
 rw[show X=8 by(simp[cC] at *;omega)];rfl
def aOW(x k:Int)(h:ux x k):anm (aRo k) 32 (anm (aPv (32-aRo k)) 32 (Vg.cv (fU (x*awY 2 (aRo k))) (anu x (aPv (32-aRo k)))=S.rotl x k)):=by
 refine au ?_;grind[auO,ux,auN]
def aOX:aRV 1779033703 3144134277 (aRV 1013904242 2773480762 (aRV 1359893119 2600822924 (aRV 528734635 1541459225 auG))):=by
 refine au ?_;omega
def aOY(S a c d e g h i:Int)(s:B8)(f:Int):ti (aut f) (ti (decide (f<=1099511627776)) (0<=f/\(0:Int)<64))/\q81 (aut f) (q81 (decide (f<=1099511627776)) (decide (q91 s=f%64)))=qI s f:=by
 refine au ?_;grind[qI]
def aOZ(u U a c d e f g:Int)(p:B8)(q:Wd (u,U,a,c,d,e,f,g) p)(H:Vg.jE J.q5p (u,U,a,c,d,e,f,g,p)):(∃(j:Nat),aFB j (aSW 0 (aSW 0 (aSW 0 (aSW 0 [])))=bf p j) 16)/\(∀(h:Nat),cC h 16->jM (decide ((h:Int)<16)) (anS (4*h) 0 (q91 p) (an7 24 32) (q78 (4*h)/\anS (4*h+1) 0 (q91 p) (an7 16 32) (q78 (4*h)/\anS (4*h+2) 0 (q91 p) (an7 8 32) (q78 (4*h)/\aMK (4*h+3) 0 (q91 p) (il 0 h aL4/\0+toNat h*1<length (bf p h)/\ajJ h (∃(m:Nat),FF h m (List.set (bf p h) (0+toNat h*1) (Vg.cv (Vg.cv (Vg.cv (fU (ank p (4*h)*awY 2 24)) (fU (ank p (4*h+1)*awY 2 16))) (fU (ank p (4*h+2)*awY 2 8))) (ank p (4*h+3)))=bf p m) 16)))))) (∃(k:Nat),((16:Int)=k/\bf p h=bf p k)/\16<=k/\k<=64) (∀(x:Nat),16<=x/\x<=64->jM (decide ((x:Int)<64)) (anS (x-15) 0 aL4 (0+toNat (x-15)*1<aNT p x) (anS (x-2) 0 aL4 (0+toNat (x-2)*1<aNT p x) (Dp (aQq p x) 7/\Dp (aQq p x) 18/\anm 3 32 (Dp (aQr p x) 17/\Dp (aQr p x) 19/\anm 10 32 (anS (x-16) 0 aL4 (0+toNat (x-16)*1<aNT p x) (anS (x-7) 0 aL4 (0+toNat (x-7)*1<aNT p x) (il 0 x aL4/\0+toNat x*1<aNT p x/\ajJ x (∃(l:Nat),anE x l (List.set (bf p x) (0+toNat x*1) (fU (fU (fU (getD (bf p x) (0+toNat (x-16)*1) 0+aMJ (aLH (aQq p x) 7) (aLH (aQq p x) 18) (anu (aQq p x) 3))+getD (bf p x) (0+toNat (x-7)*1) 0)+aMJ (aLH (aQr p x) 17) (aLH (aQr p x) 19) (anu (aQr p x) 10)))=bf p l) (16<=l/\l<=64) 64)))))))) (awZ aFC) (aSX 0 1 aFC 2 3 4 5 6 (il 0 7 aFC/\(∃(n:Nat),aFB n (q45 (gz (S.sched p 64) (u,U,a,c,d,e,f,g) n) u U a c d e f g) 64)/\(∀(X:Nat),cC X 64->jM (decide ((X:Int)<64)) (Dp (ajR p u U a c d e f g X).2.2.2.2.1 6/\Dp (ajR p u U a c d e f g X).2.2.2.2.1 11/\Dp (ajR p u U a c d e f g X).2.2.2.2.1 25/\64=length Bo/\il 0 X (q96 Bo)/\il 0 X aL4/\0+toNat X*1<aNT p x/\Dp (ajR p u U a c d e f g X).1 2/\Dp (ajR p u U a c d e f g X).1 13/\Dp (ajR p u U a c d e f g X).1 22/\ajJ X (∃(i:Nat),FF X i (fU (aTM p u U a c d e f g x X+aWk (aMJ (aLH (ajR p u U a c d e f g X).1 2) (aLH (ajR p u U a c d e f g X).1 13) (aLH (ajR p u U a c d e f g X).1 22)) (ajR p u U a c d e f g X).1 (ajR p u U a c d e f g X).2.1 (ajR p u U a c d e f g X).2.2.1)=(gz (S.sched p 64) (u,U,a,c,d,e,f,g) i).1/\(ajR p u U a c d e f g X).1=(gz (S.sched p 64) (u,U,a,c,d,e,f,g) i).2.1/\(ajR p u U a c d e f g X).2.1=(gz (S.sched p 64) (u,U,a,c,d,e,f,g) i).2.2.1/\(ajR p u U a c d e f g X).2.2.1=(gz (S.sched p 64) (u,U,a,c,d,e,f,g) i).2.2.2.1/\q46 (gz (S.sched p 64) (u,U,a,c,d,e,f,g) i).2.2.2.2 (fU ((ajR p u U a c d e f g X).2.2.2.1+aTM p u U a c d e f g x X)) (ajR p u U a c d e f g X).2.2.2.2.1 (ajR p u U a c d e f g X).2.2.2.2.2.1 (ajR p u U a c d e f g X).2.2.2.2.2.2.1) 64)) (awZ aFC) (aSX 0 1 aFC 2 3 4 5 6 (il 0 7 aFC/\q45 (S.block (u,U,a,c,d,e,f,g) p) (fU (u+(ajR p u U a c d e f g X).1)) (fU (U+(ajR p u U a c d e f g X).2.1)) (fU (a+(ajR p u U a c d e f g X).2.2.1)) (fU (c+(ajR p u U a c d e f g X).2.2.2.1)) (fU (d+(ajR p u U a c d e f g X).2.2.2.2.1)) (fU (e+(ajR p u U a c d e f g X).2.2.2.2.2.1)) (fU (f+(ajR p u U a c d e f g X).2.2.2.2.2.2.1)) (fU (g+(ajR p u U a c d e f g X).2.2.2.2.2.2.2))))))))):=by
 refine au ?_;have A:0<=u/\u<=4294967295:=H.1;have r:0<=U/\U<=4294967295:=H.2.1;have s:0<=a/\a<=4294967295:=H.2.2.1;have t:0<=c/\c<=4294967295:=H.2.2.2.1;have v:0<=d/\d<=4294967295:=H.2.2.2.2.1;have w:0<=e/\e<=4294967295:=H.2.2.2.2.2.1;have y:0<=f/\f<=4294967295:=H.2.2.2.2.2.2.1;have z:0<=g/\g<=4294967295:=H.2.2.2.2.2.2.2.1;clear H;obtain⟨o,C⟩:=q;refine⟨?_,?_⟩
 . refine⟨0,?_⟩;try dsimp only
   with_reducible and_intros
   omega;rfl;grind[cC,af]
 intro j B;refine V.dI (λD=>?_) λE=>?_
 . with_reducible and_intros
   iterate 30 omega
   rw[vR _ _ w!];omega;iterate 2 omega
   refine⟨(j+1),?_⟩;try dsimp only
   with_reducible and_intros
   omega;exact auK _ _ w!;simp only[cC,af] at *;omega;simp only[cC,af] at *;omega
 refine⟨?_,?_⟩
 . refine⟨16,?_⟩;try dsimp only
   with_reducible and_intros
   omega;simp only[cC] at B;rw[show j=16 by omega];iterate 2 omega
 intro x F;refine V.dI (λG=>?_) λK=>?_
 . with_reducible and_intros
   iterate 4 omega
   rw[vR _ _ w!];omega;iterate 4 omega
   rw[vR _ _ w!];omega;iterate 2 (with_reducible exact Zj _ _ _ _ w!)
   iterate 2 omega
   iterate 2 (with_reducible exact Zj _ _ _ _ w!)
   iterate 6 omega
   rw[vR _ _ w!];omega;iterate 4 omega
   rw[vR _ _ w!];omega;iterate 2 omega
   rw[vR _ _ w!];omega;iterate 2 omega
   refine⟨(x+1),?_⟩;try dsimp only
   with_reducible and_intros
   omega;exact auL _ _ w! w!;iterate 2 omega
   simp only[cC,af] at *;omega
 with_reducible and_intros
 iterate 16 omega
 . refine⟨0,?_⟩;try dsimp only
   with_reducible and_intros
   omega;iterate 8 rfl
   simp only[cC,af] at *;omega
 intro i L;refine⟨?_,?_⟩
 . intro I;try simp only[dt] at I
   with_reducible and_intros
   iterate 3 (with_reducible exact aGl (CE _ _ o _) _ w!)
   with_reducible exact J8
   omega;rw[<-J8];simp only[cC] at *;omega;iterate 2 omega
   rw[vR _ _ w!];omega;iterate 3 (with_reducible exact aGk (CE _ _ o _) _ w!)
   iterate 2 omega
   refine⟨(i+1),?_⟩;try dsimp only
   with_reducible and_intros
   omega;rw[show x=64 by omega,aeI];simp only[gz,tn,n?,x?];rfl;iterate 3 rfl
   rw[show x=64 by omega,aeI];simp only[gz,tn,n?,x?];rfl;iterate 3 rfl
   simp only[cC,af] at *;omega;simp only[cC,af] at *;omega
 grind[df,cC,S.block,aeH]
def aIq(u U a c d e f g:Int)(b:B8)(H:yg (u,U,a,c,d,e,f,g)):(∃(X:Nat),(b=ka b X/\q45 (S.proc (u,U,a,c,d,e,f,g) b X) u U a c d e f g)/\64*X<=length b)/\(∀(x:Nat),64*x<=length b->q71 (decide (64<=q91 (ka b x))) (anm 64 (q91 (ka b x)) (Wd (aTN b u U a c d e f g x) (take (toNat 64) (ka b x))/\anm 64 (q91 (ka b x)) (∃(h:Nat),(drop (toNat 64) (ka b x)=ka b h/\q54 (S.block (aTN b u U a c d e f g x) (take (toNat 64) (ka b x))) (S.proc (u,U,a,c,d,e,f,g) b h))/\64*h<=length b/\de (S.blocks b) h x))) (q53 (S.proc (u,U,a,c,d,e,f,g) b x) (cb (u,U,a,c,d,e,f,g) b) (ka b x=kY b))):=by
 refine au ?_;refine⟨?_,?_⟩
 . refine⟨0,?_⟩;try dsimp only
   with_reducible and_intros
   iterate 9 rfl
   omega
 intro X i;refine V.dI (λj=>?_) λk=>?_
 . with_reducible and_intros
   iterate 2 omega
   exact⟨Pz _ _ H _,x!⟩;iterate 2 omega
   refine⟨(X+1),?_⟩;grind[ka,List.drop_drop,auQ,List.length_drop,af,S.blocks]
 with_reducible and_intros
 iterate 8
  rw[show X=S.blocks b by grind[ka,List.length_drop,S.blocks]];rfl
 rw[show X=S.blocks b by grind[ka,List.length_drop,S.blocks]];rfl
def aIr(a c d e g h i j:Int)(s:B8)(f:Int)(b:B8)(H:Wc (a,c,d,e,g,h,i,j) s f b):aj8 (nC (Bool.not (qI s f)) (q78 (1099511627776-f))) (an5 (aNS b f s)/\q78 (length (aMn b f s)+length b)/\((0:Int)<=0/\an7 (length (aMn b f s)+length b) (aST aQa))/\UU (aRj 0 0) (length (aMn b f s))/\UU (aRj 0 0++aMn b f s) (length b)/\yg (aS2 (aNS b f s) a c d e g h i j)/\bG (kY (aRj 0 0++aMn b f s++b))/\q78 ((bif aNS b f s then 0 else f)+length b)/\q53 (cb (aS2 (aNS b f s) a c d e g h i j) (aRj 0 0++aMn b f s++b)) (cb (a,c,d,e,g,h,i,j) b) (kY (aRj 0 0++aMn b f s++b)=kY b/\(bif aNS b f s then(0:Int) else f)+length b=pW b)):=by
 refine au ?_;obtain⟨G,rfl,rfl,k⟩:=H;simp[S.small] at k;have l:qI [] 0=true:=by decide
 have hd:decide ((1099511627776:Int)-0<(b.length:Int))=false:=by grind
 simp only[l,hd,Bool.not_true,N!,K!,ln,Int.toNat_zero];with_reducible and_intros
 trivial;grind;omega;iterate 2 grind
 iterate 5 omega
 iterate 2 grind
 omega;simp[List.replicate_zero,o?,B?,xn,pW,ln,J!] at *;omega;iterate 2 omega
 iterate 9 rfl
 simp only[List.replicate_zero,o?,B?,xn,pW,ln,J!] at *;omega
def aIs(a c d e g h i j:Int)(s:B8)(f:Int)(q:Nw (a,c,d,e,g,h,i,j) s f):aj8 (an5 (aMo f s)) (q66 (length (bif aMo f s then [] else s))/\aQG (length (bif aMo f s then [] else s)) [128]/\(∃(r:Nat),(bif aMo f s then([]:B8) else s)++[128]=gB s r/\cI s r)/\(∀(k:Nat),cI s k->(0:Int)<=length (gB s k)/\(0:Int)<64/\jM (oD (length (gB s k)%64) 56) (aQG (length (gB s k)) [0]/\(∃(m:Nat),gB s k++[0]=gB s m/\cI s m/\de (ij (S.len s)) m k)) (∃(t:Nat),aFB t (gB s k=pA s f t) 8) (∀(x:Nat),cC x 8->Lf (decide ((x:Int)<8)) (q78 (8*x)/\ô (56-8*x) 0 64 (aua (pA s f x) (aTJ f s x)/\ajJ x (∃(u:Nat),FF x u (pA s f x++aTJ f s x=pA s f u) 8))) (yg (aS2 (aMo f s) a c d e g h i j)) ((0:Int)<=0/\an7 32 (aST aQa)) ((∃(l:Nat),aFB l (aRj 0 0=oQ (cb (a,c,d,e,g,h,i,j) (S.tail s f)) l) 8)/\(∀(X:Nat),aFx (cC X 8) (decide ((X:Int)<8)) 0 X aFC (an7 24 32) (anm 16 32 (anm 8 32 (aua (oQ (cb (a,c,d,e,g,h,i,j) (S.tail s f)) X) (aTK f a c d e g h i j s x X)/\ajJ X (∃(v:Nat),FF X v (oQ (cb (a,c,d,e,g,h,i,j) (S.tail s f)) X++aTK f a c d e g h i j s x X=oQ (cb (a,c,d,e,g,h,i,j) (S.tail s f)) v) 8)))) (oQ (cb (a,c,d,e,g,h,i,j) (S.tail s f)) X=dig (cb (a,c,d,e,g,h,i,j) (S.tail s f)))))))):=by
 refine au ?_;have w:=akh q;obtain⟨G,H,n,y⟩:=q;simp only[w,Bool.not_true,N!];with_reducible and_intros
 trivial;iterate 2 grind
 omega;grind;refine⟨0,?_⟩;refine⟨?_,?_⟩;exact Zl _;simp only[di,jF,cI,ij,cC,af,S.len,lc,ln] at *;omega;intro m A;refine⟨?_,?_,?_,?_⟩;iterate 2 omega
 intro z;try simp at z
 refine⟨?_,?_⟩;simp[di,jF,cI,ij,cC,af,S.len,lc,ln] at *;omega;refine⟨(m+1),?_⟩;refine⟨?_,?_,?_⟩;grind[Ma];grind[PB];simp only[di,jF,cI,ij,cC,af,S.len,lc,ln] at *;omega;intro B;refine⟨?_,?_⟩
 . refine⟨0,?_⟩;try dsimp only
   with_reducible and_intros
   omega;grind[aoA,TR];simp only[di,jF,cI,ij,cC,af,S.len,lc,ln] at *;omega
 intro l C;refine V.dI (λD=>?_) λF=>?_
 . with_reducible and_intros
   iterate 6 omega
   simp only[di,jF,cI,ij,cC,af,S.len,lc,ln] at *;omega;iterate 2 omega
   refine⟨(l+1),?_⟩;try dsimp only
   with_reducible and_intros
   omega;exact Zm s f l H n w!;simp only[di,jF,cI,ij,cC,af,S.len,lc,ln] at *;omega;simp only[di,jF,cI,ij,cC,af,S.len,lc,ln] at *;omega
 with_reducible and_intros
 iterate 4 omega
 . refine⟨0,?_⟩;try dsimp only
   with_reducible and_intros
   omega;rfl;simp only[di,jF,cI,ij,cC,af,S.len,lc,ln] at *;omega
 intro o K;refine V.dI (λO=>?_) λR=>?_
 . with_reducible and_intros
   iterate 8 omega
   rw[TS _ _ (by simp only[cC] at *;omega)];simp;omega;iterate 2 omega
   refine⟨(o+1),?_⟩;try dsimp only
   with_reducible and_intros
   omega;rw[show l=8 by(simp only[cC] at *;omega)];exact auP _ o w!;simp only[di,jF,cI,ij,cC,af,S.len,lc,ln] at *;omega;simp only[di,jF,cI,ij,cC,af,S.len,lc,ln] at *;omega
 rw[show o=8 by(simp only[cC] at *;omega)];rfl
def aIt(b:B8)(h:S.small b):aj8 (Wc aMV anG 0 b) (Nw (aTL b) (kY b) (pW b)/\dig (cb (aTL b) (S.tail (kY b) (pW b)))=S.sum b):=by
 refine au ?_;refine⟨?_,?_,?_,?_⟩;trivial;exact⟨S.Ŏ,rfl,rfl,h⟩;simp[S.small] at h;exact⟨Pz _ _ S.Ŏ _,by grind[pW],by grind[pW],by grind[xn,pW]⟩;exact congrArg dig (S.ŏ b _)
def aIu(m:Nat)(v:Int)(H:v.toNat<m+1)(c:0<=v)(h:Vg.jE J.EJ v):q71 (aRX v) ([US v]=S.num v) (0<=v/\(0:Int)<128/\q78 (v%128+128)/\0<=v/\(0:Int)<128/\(toNat (v/128)<m/\0<=v/128)/\aua [US (v%128+128)] (S.num (v/128))/\[US (v%128+128)]++S.num (v/128)=S.num v):=by
 refine au ?_;have a:Vg.hint v:=h.1;refine⟨?_,?_⟩;grind[IC];grind[df,cU,aeJ,List.singleton_append]
def aIv(s:B8)(h:S.small s):(0:Int)<=length s/\UU (S.num (length s)) (length s)/\S.num (length s)++s=S.text s:=by
 refine au ?_;refine⟨?_,?_,?_⟩;omega;grind[cU,S.small];rfl
def aIw(b:B8)(h:b.length<=140737488355328):bG b/\b=b:=by
 refine au ?_;grind
def aIx(v:Int)(l:B8)(H:IA l v)(c:Vg.aEo J.q9p v):(∃(X:B8×Int),(v=X.2/\l=X.1)/\uy l v X.1 X.2)/\(∀(x:B8×Int),uy l v x.1 x.2->jM (decide (127<x.2)) (0<=x.2/\(0:Int)<=127/\aQG (length x.1) [fL (Vg.cv (Vg.aT x.2 127%256) 128)]/\anm 7 64 (∃(a:B8×Int),(anu x.2 7=a.2/\x.1++[fL (Vg.cv (Vg.aT x.2 127%256) 128)]=a.1)/\uy l v a.1 a.2/\aQF a.2 x.2)) (aQG (length x.1) [US x.2]) (x.1++[US x.2]=l++S.num v)):=by
 refine au ?_;have A:Vg.hint v:=c.1;obtain⟨u,e⟩:=H;refine⟨?_,?_⟩
 . refine⟨((l),(v)),?_⟩;with_reducible and_intros
   omega;rfl;exact⟨u,Int.le_refl _,rfl⟩
 intro X h;refine V.dI (λf=>?_) λg=>?_
 . with_reducible and_intros
   iterate 2 omega
   (have d:=ID h;grind)
   iterate 2 omega
   refine⟨((X.1++[UInt8.ofNat (toNat (Vg.cv (Vg.aT (X.2) (127:Int)%(256:Int)) (128:Int)))]),(X.2/(2:Int)^toNat (7:Int))),?_⟩;grind[ID,aeM,ako]
 refine⟨?_,?_⟩
 (have d:=ID h;grind)
 grind[ID,aeM,aoK]
def aIy(s l:B8)(h:oR l s):IA l (length s)/\UU (l++S.num (length s)) (length s)/\l++S.num (length s)++s=l++S.text s:=by
 refine au ?_;obtain⟨u,a⟩:=h;grind[cU,IA,List.length_append,S.text]
def aIz(b:B8)(v:Int)(H:b.length<=35184372088832):Lf (mZ v 0 4611686018427387904) (1=yW v/\[]=mq b v) (bG b) (IA b v) (0=yW v/\b++S.num v=mq b v):=by
 refine au ?_;refine⟨?_,?_⟩;simp_all[V.Nb,dt,mq,yW,gi]
 intro h;simp at h;refine⟨?_,?_,?_,?_⟩;omega;exact⟨w!,w!⟩;iterate 2 (grind[mq,yW,gi])
def aIA(b s:B8)(h:oR b s):bG b/\oR b s/\b++S.text s=b++S.text s:=by
 refine au ?_;grind[oR]
def aIB(r:B8)(R a:Int):ku 0 R (q91 r)=S.inside r R:=by
 refine au ?_;grind[S.inside,decide]
def aIC(r:B8)(R a:Int)(h:r.length<=140737488355328):bG r/\an5 (aaT a)/\r=r/\(bif q81 (aaT a) (Bool.not (S.inside r R)) then R else R)=R/\(bif q81 (aaT a) (Bool.not (S.inside r R)) then(1:Int) else a)=bV r R a:=by
 refine au ?_;grind[bV,S.inside]
def aID(b:B8)(p:Int)(a:dK b p)(g:Vg.jE J.é (b,p)):(∃(X:Nat),(0=gP b p X/\(0:Int)=X)/\ke b p X)/\(∀(x:Nat),ke b p x->dg (decide ((x:Int)=9)) (0=(aQ b p).1/\0=(aQ b p).2.1/\2=(aQ b p).2.2) (q91 b-p) (dg (decide (x=q91 b-p)) (0=(aQ b p).1/\0=(aQ b p).2.1/\4=(aQ b p).2.2) (p+x) (il 0 (p+x) (q91 b)/\ô (7*x) 0 64 (q78 (abn b p x)/\0<=gP b p x/\0<=abn b p x/\ajJ x (q71 (aRX (ank b (p+x))) (ti (decide ((1:Int)<x+1)) (q78 (p+(x+1))/\q78 (p+(x+1)-1)/\il 0 (p+(x+1)-1) (q91 b))/\dg (aSZ (decide ((1:Int)<x+1)) (aaT (ank b (p+(x+1)-1))) (decide (4611686018427387904<Vg.cv (gP b p x) (abn b p x)))) (0=(aQ b p).1/\0=(aQ b p).2.1/\2=(aQ b p).2.2) (p+(x+1)) (Vg.cv (gP b p x) (abn b p x)=(aQ b p).1/\p+(x+1)=(aQ b p).2.1/\0=(aQ b p).2.2)) (∃(d:Nat),(Vg.cv (gP b p x) (abn b p x)=gP b p d/\(x:Int)+1=d)/\ke b p d/\de 9 d x)))))):=by
 refine au ?_;have I:Vg.hlen b:=g.1.1;clear g;have G:=a;simp only[dK] at G;refine⟨?_,?_⟩
 . refine⟨0,?_⟩;try dsimp only
   with_reducible and_intros
   exact(aM3 b p).symm;omega;exact aM2 a
 intro X h;refine V.dI (λn=>?_) λo=>?_;refine⟨?_,?_,?_⟩;iterate 3 (grind[aoH,Zo])
 with_reducible and_intros
 iterate 2 omega
 intro q;refine⟨?_,?_,?_⟩;iterate 3 (grind[aoH,Zo])
 intro k;try simp at k
 with_reducible and_intros
 omega
 (have H:=hU h;omega)
 omega
 (have H:=hU h;omega)
 omega
 (have H:=hU h;omega)
 omega
 (have H:=hU h;omega)
 iterate 2
  have H:=hU h;have c:=at3 ((b.getD (p+(X:Int)).toNat 0).toNat:Int) w!;have j:=aeL (Vg.aT ((b.getD (p+(X:Int)).toNat 0).toNat:Int) 127) X w! w! w!;try clear e
  try clear f
  clear c;omega
 (have H:=hU h;have l:=auT (b:=b) (p:=p) H.1;exact l.1)
 (have H:=hU h;have c:=at3 ((b.getD (p+(X:Int)).toNat 0).toNat:Int) w!;have j:=aeL (Vg.aT ((b.getD (p+(X:Int)).toNat 0).toNat:Int) 127) X w! w! w!;exact j.1)
 omega
 (have H:=hU h;omega)
 . intro m;try simp only[dt] at m
   with_reducible and_intros
   . intro e;with_reducible and_intros
     omega;have H:=hU h;have c:=at3 ((b.getD (p+(X:Int)).toNat 0).toNat:Int) w!;try clear e
     try clear f
     clear c;omega;omega;have H:=hU h;have c:=at3 ((b.getD (p+(X:Int)).toNat 0).toNat:Int) w!;try clear e
     try clear f
     clear c;omega;omega;have H:=hU h;have c:=at3 ((b.getD (p+(X:Int)).toNat 0).toNat:Int) w!;try clear e
     try clear f
     clear c;omega
   intro f;trivial;intro F;refine⟨?_,?_,?_⟩;exact(Kd a h (by have H:=hU h;omega) w! w! F).1;exact(Kd a h (by have H:=hU h;omega) w! w! F).2.1;exact(Kd a h (by have H:=hU h;omega) w! w! F).2.2;intro i;with_reducible and_intros
   omega;clear i;have H:=hU h;omega;exact(Ke a h (by have H:=hU h;omega) w! w! i).1;exact(Ke a h (by have H:=hU h;omega) w! w! i).2.1;exact(Ke a h (by have H:=hU h;omega) w! w! i).2.2
 intro K;try simp only[df] at K
 refine⟨(X+1),?_⟩;try dsimp only
 with_reducible and_intros
 (have H:=hU h;exact aeK a h w!)
 omega
 (have H:=hU h;exact akn a h w! w! w!)
 (have H:=hU h;simp only[af];omega)
def aIE(b:B8)(p g:Int)(h:dK b p)(H:Vg.jE J.aEM (b,p,g)):dK b p/\q71 (ajD (aQ b p).2.2) (aMW (akd b p g) (aQ b p).2.2) (dg (decide (g<(aQ b p).1)) (aMW (akd b p g) 2) (q91 b-(aQ b p).2.1) (dg (decide (q91 b-(aQ b p).2.1<(aQ b p).1)) (aMW (akd b p g) 4) (RJ b p) (tm 0 (aQ b p).2.1 (RJ b p) (q91 b)/\q78 (RJ b p)/\drop (toNat (aQ b p).2.1) (take (toNat (RJ b p)) b)=(akd b p g).1/\aqJ (RJ b p) (akd b p g).2 0))):=by
 refine au ?_;have I:Vg.hlen b:=H.1.1;have a:=PJ h;refine⟨?_,?_,?_⟩;omega;grind[nt,df,akd];intro c;refine⟨?_,?_⟩;simp_all[dt,akd]
 intro d;with_reducible and_intros
 iterate 2 omega
 grind[akd];grind[df,akd]
def aIF(r:B8)(R a g:Int)(h:r.length<=140737488355328):bG r/\jM (ajD (bV r R a)) (q18 (ao r R a g) r R (bV r R a) []) (dK r R) (q71 (ajD (akd r R g).2.2) (q18 (ao r R a g) r R (akd r R g).2.2 []) (q18 (ao r R a g) r (akd r R g).2.1 (bV r R a) (akd r R g).1)):=by
 refine au ?_;refine⟨?_,?_,?_⟩;omega;grind[nt,df,ao,dK,bV,S.inside];intro H;refine⟨?_,?_,?_⟩;grind[ao,dK,bV,S.inside];grind[nt,df,ao,dK,bV,S.inside];simp_all[nf,dt,ao,dK,bV,S.inside]
def aIG(r:B8)(R a:Int)(h:r.length<=140737488355328):bG r/\jM (ajD (bV r R a)) (r=(ag r R a).1.1/\R=(ag r R a).1.2.1/\bV r R a=(ag r R a).1.2.2/\0=(ag r R a).2) (dK r R) (q71 (ajD (aQ r R).2.2) (r=(ag r R a).1.1/\R=(ag r R a).1.2.1/\(aQ r R).2.2=(ag r R a).1.2.2/\0=(ag r R a).2) (r=(ag r R a).1.1/\(aQ r R).2.1=(ag r R a).1.2.1/\bV r R a=(ag r R a).1.2.2/\(aQ r R).1=(ag r R a).2)):=by
 refine au ?_;refine⟨?_,?_,?_⟩;omega;grind[nt,df,ag,dK,bV,S.inside];intro H;refine⟨?_,?_,?_⟩;grind[ag,dK,bV,S.inside];grind[nt,df,ag,dK,bV,S.inside];simp_all[nf,dt,ag,dK,bV,S.inside]
def aIH(R:B8)(r a:Int)(H:R.length<=140737488355328)(h:Vg.jE J.UN (R,r,a)):q66 (length R)/\dg (ajD (bV R r a)) (q18 (aF R r a) R r (bV R r a) []) (length R-r) (dg (decide (length R-r<32)) (q18 (aF R r a) R r 4 []) (r+32) (tm 0 r (r+32) (length R)/\q78 (r+32)/\q18 (aF R r a) R (r+32) (bV R r a) (drop (toNat r) (take (toNat (r+32)) R)))):=by
 refine au ?_;have A:Vg.hint r:=h.2.1;refine⟨?_,?_,?_⟩;omega;grind[nt,df,aF,dK,bV,S.inside];intro c;with_reducible and_intros
 omega;grind[aF,dK,bV,S.inside];simp_all[dt,aF,dK,bV,S.inside]
 grind[df,aF,dK,bV,S.inside,akp,List.drop_take]
def aII(r:B8)(R a:Int):jM (ajD a) (a=S.done r R a) True (q71 (Bool.not (S.inside r R)) (1=S.done r R a) (q71 (aL2 R r) (2=S.done r R a) (0=S.done r R a))):=by
 refine au ?_;simp_all[nt,df,S.done,nf,dt]
def aIJ(k:Int)(b:B8)(c:az b)(h:Vg.jE J.aq6 (k,b)):(∃(X:Nat),((0:Int)=X/\[US k]=kZ k (take X b))/\gU b X)/\(∀(x:Nat),aFx (gU b x) (decide (x<q91 b)) 0 x (q91 b) (aua (kZ k (take x b)) [fL (ank b x)]) (ajJ x (∃(a:Nat),anE x a (kZ k (take x b)++[fL (ank b x)]=kZ k (take a b)) (gU b a) (S.len b))) (kZ k (take x b)=kZ k b)):=by
 refine au ?_;have A:Vg.hint k:=h.1;have I:Vg.hlen b:=h.2.1.1;clear h;refine⟨?_,?_⟩
 . refine⟨0,?_⟩;try dsimp only
   with_reducible and_intros
   omega;rfl;simp only[gU,af,S.len,az,kZ,lc,C?,ln] at *;omega
 intro X d;refine⟨?_,?_⟩
 . intro H;try simp only[dt] at H
   with_reducible and_intros
   iterate 2 omega
   simp only[gU,af,S.len,az,kZ,lc,C?,ln] at *;omega;iterate 2 omega
   refine⟨(X+1),?_⟩;try dsimp only
   with_reducible and_intros
   omega;simp only[kZ,k?,aow b X w!];simp only[gU,af,S.len,az,kZ,lc,C?,ln] at *;omega;simp only[gU,af,S.len,az,kZ,lc,C?,ln] at *;omega
 grind[df,kZ,gU,List.take_add_one]
def aIK(k:Int)(b:B8)(h:az b):aug b (aRn (kZ k b) (pB k b)):=by
 refine au ?_;refine⟨?_,?_,?_⟩;omega;exact h;rfl
def aIL(b:B8)(h:az b):aug b (pB 0 b=pB 0 b):=by
 refine au ?_;grind
def aIM(l r:B8)(h:az (l++r)):((length l+length r:Nat):Int)<=9223372036854775807/\aug (l++r) (pB 1 (l++r)=pB 1 (l++r)):=by
 refine au ?_;grind[az,List.length_append]
def aIN(k:UInt8)(p:O)(H:oS p)(h:Vg.jE J.aEN (k,p)):(∃(X:Nat),((0:Int)=X/\[fL (UInt8.toNat k)]=nY k p X)/\gU p X)/\(∀(x:Nat),aFx (gU p x) (decide (x<oh p)) 0 x (oh p) (aua (nY k p x) (yb p x)) (ajJ x (∃(a:Nat),anE x a (nY k p x++yb p x=nY k p a) (gU p a) (S.len p))) (nY k p x=gQ k p)):=by
 refine au ?_;have A:Vg.hlen p:=h.2.1.1;clear h;refine⟨?_,?_⟩;grind[akr,gU,af,S.len];intro X d;refine⟨?_,?_⟩
 . intro c;try simp only[dt] at c
   with_reducible and_intros
   iterate 2 omega
   exact S.Ŕ k H w!;iterate 2 omega
   refine⟨(X+1),?_⟩;try dsimp only
   with_reducible and_intros
   omega;exact Wf _ _ _ w!;simp only[gU,af,S.len] at *;omega;simp only[gU,af,S.len] at *;omega
 grind[df,Zq]
def aIO(b:B8)(h:az b):aS1 [b] 0 0 b:=by
 refine au ?_;grind[oS,az,gQ,bB]
def aIP(l r:B8)(h:az (l++r)):aS1 [l,r] 1 1 (l++r):=by
 refine au ?_;grind[oS,az,List.length_append,gQ,bB]
def aIQ(b:B8)(h:az b):aS1 [b] 2 2 b:=by
 refine au ?_;grind[oS,az,gQ,bB]
def aIR(b:B8)(h:az b):aS1 [b] 3 3 b:=by
 refine au ?_;grind[oS,az,gQ,bB]
def aIS(b:B8)(h:az b):aug b (aRn (bB 0 b) (S.leaf b)):=by
 refine au ?_;refine⟨?_,?_,?_⟩;omega;exact h;rfl
def aIT(l r:B8):Lf (ct (aFN l) (aFN r)) ([]=bz l r/\1=vT l r) (az (l++r)) (S.small (bB 1 (l++r))) (S.sum (bB 1 (l++r))=bz l r/\0=vT l r):=by
 refine au ?_;refine⟨?_,?_⟩;grind[bz,vT,Mc,S.œ,l7];intro h;refine⟨?_,?_,?_,?_⟩;iterate 2 (grind[S.small,bB,az,lc,List.length_append])
 iterate 2 (grind[bz,vT,Mc,S.œ,l7])
def aIU(b:B8)(h:az b):aug b (aRn (bB 2 b) (l7 2 b)):=by
 refine au ?_;refine⟨?_,?_,?_⟩;omega;exact h;rfl
def aIV(b:B8)(h:az b):aug b (aRn (bB 3 b) (l7 3 b)):=by
 refine au ?_;refine⟨?_,?_,?_⟩;omega;exact h;rfl
def aIW(c:Int):aMG 0 c (aMG c 1114111 (mZ c 55296 57343))=cA c:=by
 refine au ?_;grind[cA]
def aIX(c:Int):q71 (aRX c) (1=akc c) (q71 (decide (c<2048)) (2=akc c) (q71 (decide (c<65536)) (3=akc c) (4=akc c))):=by
 refine au ?_;refine⟨?_,?_⟩;simp_all[dt,akc]
 intro h;refine⟨?_,?_⟩;simp_all[dt,akc]
 intro H;refine⟨?_,?_⟩;grind[akc];grind[df,akc]
def aIY(c:Int)(h:0<=c):0<=c/\(0:Int)<=63/\Vg.cv 128 (Vg.aT c 63%256)=aQH c:=by
 refine au ?_;have e:Vg.aT c 63%256=c%64:=by grind[Pw]
 grind[CD,auV]
def aIZ(c:Int):q85 (jM (aQI c) (1=Bp c/\[]=im c) True (q71 (aP9 (akc c)) (0=Bp c/\[US c]=im c) (q71 (decide (akc c=2)) (anm 6 64 (0<=c/\0=Bp c/\[aUr 192 (anu c 6),fL (aQH c)]=im c)) (Lf (decide (akc c=3)) (anm 12 64 (anm 6 64 (0<=anu c 6/\0<=c/\0=Bp c/\[aUr 224 (anu c 12),fL (aQH (anu c 6)),fL (aQH c)]=im c))) (an7 18 64) (an7 12 64) (0<=anu c 12/\anm 6 64 (0<=anu c 6/\0<=c/\0=Bp c/\[aUr 240 (anu c 18),fL (aQH (anu c 12)),fL (aQH (anu c 6)),fL (aQH c)]=im c)))))):=by
 refine au ?_;refine⟨?_,?_,?_⟩;trivial;grind[nt,Bp,im];intro h;simp at h;refine⟨?_,?_,?_⟩;trivial;intro a;refine⟨?_,?_⟩;grind[eV,Bp]
 (have H:=eV h;(simp[im,h,if_true];grind[aeN,akc]))
 intro d;refine V.dI (λe=>?_) λf=>?_
 . with_reducible and_intros
   iterate 2 omega
   simp_all[eV]
   grind[eV,Bp]
   (have H:=eV h;(simp only[im,h,if_true];grind[auZ,akc]))
 refine V.dI (λg=>?_) λi=>?_
 . with_reducible and_intros
   iterate 4 omega
   (have H:=eV h;grind)
   simp_all[eV]
   grind[eV,Bp]
   (have H:=eV h;(simp only[im,h,if_true];grind[au0,akc]))
 with_reducible and_intros
 iterate 4 omega
 (have H:=eV h;grind)
 iterate 2 omega
 (have H:=eV h;grind)
 simp_all[eV]
 grind[eV,Bp]
 (have H:=eV h;(simp only[im,h,if_true];grind[au1,akc]))
def aI0(b:B8)(hp:0<b.length)(N:Vg.jE J.lL b):((0:Int)<=0/\0<q91 b)/\jM (aRX (ank b 0)) (aqJ (ank b 0) (bh b) 1) (an7 5 64) (jM (decide (anu (ank b 0) 5=6)) (0<=ank b 0/\(0:Int)<=31/\Lf (decide (q91 b<2)) (aIj (bh b) 1) (tm 0 1 2 (q91 b)) (∃(n:Nat),((0:Int)=n/\Vg.aT (ank b 0) 31=bW b n)/\pY b n) (∀(X:Nat),pY b X->Lf (decide (X<q91 (aQu b))) (il 0 X (q91 (aQu b))/\an7 6 8/\jM (oD (anu (ank (aQu b) X) 6) 2) (aIj (bh b) 1) (an7 6 64) (q78 (bW b X*awY 2 6)/\0<=bW b X*awY 2 6/\0<=Vg.aT (ank (aQu b) X) 63/\ajJ X (∃(o:Nat),anE X o (Vg.cv (bW b X*awY 2 6) (Vg.aT (ank (aQu b) X) 63)=bW b o) (pY b o) 4))) True (an5 (aQI (bW b X))) (q71 (ct (aQI (bW b X)) (oD (akc (bW b X)) 2)) (aIj (bh b) 1) (aqJ (bW b X) (bh b) 2)))) (an7 4 64) (jM (decide (anu (ank b 0) 4=14)) (0<=ank b 0/\(0:Int)<=15/\Lf (decide (q91 b<3)) (aIj (bh b) 1) (tm 0 1 3 (q91 b)) (∃(q:Nat),((0:Int)=q/\Vg.aT (ank b 0) 15=bW b q)/\pY b q) (∀(d:Nat),pY b d->Lf (decide (d<q91 (aQv b))) (il 0 d (q91 (aQv b))/\an7 6 8/\jM (oD (anu (ank (aQv b) d) 6) 2) (aIj (bh b) 1) (an7 6 64) (q78 (bW b d*awY 2 6)/\0<=bW b d*awY 2 6/\0<=Vg.aT (ank (aQv b) d) 63/\ajJ d (∃(x:Nat),anE d x (Vg.cv (bW b d*awY 2 6) (Vg.aT (ank (aQv b) d) 63)=bW b x) (pY b x) 4))) True (an5 (aQI (bW b d))) (q71 (ct (aQI (bW b d)) (oD (akc (bW b d)) 3)) (aIj (bh b) 1) (aqJ (bW b d) (bh b) 3)))) (an7 3 64) (q71 (decide (anu (ank b 0) 3=30)) (0<=ank b 0/\(0:Int)<=7/\Lf (decide (q91 b<4)) (aIj (bh b) 1) (tm 0 1 4 (q91 b)) (∃(r:Nat),((0:Int)=r/\Vg.aT (ank b 0) 7=bW b r)/\pY b r) (∀(f:Nat),pY b f->Lf (decide (f<q91 (aQt b))) (il 0 f (q91 (aQt b))/\an7 6 8/\jM (oD (anu (ank (aQt b) f) 6) 2) (aIj (bh b) 1) (an7 6 64) (q78 (bW b f*awY 2 6)/\0<=bW b f*awY 2 6/\0<=Vg.aT (ank (aQt b) f) 63/\ajJ f (∃(s:Nat),anE f s (Vg.cv (bW b f*awY 2 6) (Vg.aT (ank (aQt b) f) 63)=bW b s) (pY b s) 4))) True (an5 (aQI (bW b f))) (q71 (ct (aQI (bW b f)) (oD (akc (bW b f)) 4)) (aIj (bh b) 1) (aqJ (bW b f) (bh b) 4)))) (aIj (bh b) 1)))):=by
 refine au ?_;have I6:Vg.hlen b:=N.1.1;clear N;have Gg:(0:Int)<b.length:=by omega
 with_reducible and_intros
 iterate 2 omega
 simp_all[dt,uf1]
 intro O;try simp only[df] at O
 with_reducible and_intros
 iterate 2 omega
 . intro P;try simp only[dt] at P
   refine⟨?_,?_,?_,?_⟩;iterate 2 omega
   intro Q;try simp only[dt] at Q
   refine⟨?_,?_⟩
   (have h:=vU (b:=b) w! w!;simp_all[uW])
   (have h:=vU (b:=b) w! w!;simp_all[uW])
   intro T;try simp only[df] at T
   with_reducible and_intros
   iterate 3 omega
   . refine⟨0,?_⟩;try dsimp only
     with_reducible and_intros
     omega;grind[vU,aM4]
     (have h:=vU (b:=b) w! w!;simp_all[S.ŕ])
   intro x c;refine V.dI (λh8=>?_) λI=>?_
   . with_reducible and_intros
     iterate 4 omega
     intro U;try simp only[nt,df,tn] at U
     refine⟨?_,?_⟩;have h:=vU (b:=b) v! v!;have a:=bP c;have hx:(x:Int)+1<2:=by(have H:=cx b 2 w! w!;simp only[H,show toNat 2=2 by rfl] at *;omega)
     simp only[mr b 2 x hx,n0 b 2 x hx] at *;rw[yX h c w! v!];have h:=vU (b:=b) v! v!;have a:=bP c;have hx:(x:Int)+1<2:=by(have H:=cx b 2 w! w!;simp only[H,show toNat 2=2 by rfl] at *;omega)
     simp only[mr b 2 x hx,n0 b 2 x hx] at *;rw[yX h c w! v!];intro W;try simp only[nf,dt,tn] at W
     with_reducible and_intros
     iterate 2 omega
     iterate 3
      (have h:=vU (b:=b) v! v!;(have a:=bP c;(try simp only[cx b 2 w! w!,show toNat 2=2 by rfl] at *);simp only[show toNat 6=6 by rfl,af] at *;omega))
     exact Int.natCast_nonneg _;omega
     (have h:=vU (b:=b) v! v!;(have a:=bP c;(try simp only[cx b 2 w! w!,show toNat 2=2 by rfl] at *);omega))
     refine⟨(x+1),?_⟩;try dsimp only
     with_reducible and_intros
     omega;have h:=vU (b:=b) v! v!;have a:=bP c;have hx:(x:Int)+1<2:=by(have H:=cx b 2 w! w!;simp only[H,show toNat 2=2 by rfl] at *;omega)
     rw[mr b 2 x hx];exact S.ŗ c w!;have h:=vU (b:=b) v! v!;have a:=bP c;have hx:(x:Int)+1<2:=by(have H:=cx b 2 w! w!;simp only[H,show toNat 2=2 by rfl] at *;omega)
     simp only[mr b 2 x hx,n0 b 2 x hx] at *;exact Wh c v! w!
     (have h:=vU (b:=b) v! v!;(have a:=bP c;(try simp only[cx b 2 w! w!,show toNat 2=2 by rfl] at *);simp only[show toNat 6=6 by rfl,af] at *;omega))
   with_reducible and_intros
   trivial;intro Y;try simp only[nt] at Y
   trivial;intro Z;try simp only[nf] at Z
   trivial;intro R;try simp only[V.Nb,nt,df] at R
   refine⟨?_,?_⟩;have h:=vU (b:=b) v! v!;have a:=bP c;have H:=cx b 2 w! w!;rw[H] at I;have hx:x+1=2:=by omega
   rw[yY h c hx R rfl];have h:=vU (b:=b) v! v!;have a:=bP c;have H:=cx b 2 w! w!;rw[H] at I;have hx:x+1=2:=by omega
   rw[yY h c hx R rfl];intro G;try simp only[V.qF,nf,dt] at G
   refine⟨?_,?_⟩;have h:=vU (b:=b) v! v!;have a:=bP c;have H:=cx b 2 w! w!;rw[H] at I;have hx:x+1=2:=by omega
   rw[yZ h c hx G rfl];have h:=vU (b:=b) v! v!;have a:=bP c;have H:=cx b 2 w! w!;rw[H] at I;have hx:x+1=2:=by omega
   rw[yZ h c hx G rfl]
 intro p;try simp only[df] at p
 with_reducible and_intros
 iterate 2 omega
 . intro RQ;try simp only[dt] at RQ
   refine⟨?_,?_,?_,?_⟩;iterate 2 omega
   intro þ;try simp only[dt] at þ
   refine⟨?_,?_⟩
   (have h:=xo (b:=b) v! v! v!;rw[uW h w! w!])
   (have h:=xo (b:=b) v! v! v!;rw[uW h w! w!])
   intro ÿ;try simp only[df] at ÿ
   with_reducible and_intros
   iterate 3 omega
   . refine⟨0,?_⟩;try dsimp only
     with_reducible and_intros
     omega
     (exact aM5 v! v!)
     (have h:=xo (b:=b) v! v! v!;exact S.ŕ h w! w!)
   intro E u;refine V.dI (λh22=>?_) λg=>?_
   . with_reducible and_intros
     iterate 4 omega
     intro t;try simp only[nt,df,tn] at t
     refine⟨?_,?_⟩;have h:=xo (b:=b) v! v! v!;have a:=bP u;have hx:(E:Int)+1<3:=by(have H:=cx b 3 w! w!;simp only[H,show toNat 3=3 by rfl] at *;omega)
     simp only[mr b 3 E hx,n0 b 3 E hx] at *;rw[yX h u w! v!];have h:=xo (b:=b) v! v! v!;have a:=bP u;have hx:(E:Int)+1<3:=by(have H:=cx b 3 w! w!;simp only[H,show toNat 3=3 by rfl] at *;omega)
     simp only[mr b 3 E hx,n0 b 3 E hx] at *;rw[yX h u w! v!];intro v;try simp only[nf,dt,tn] at v
     with_reducible and_intros
     iterate 2 omega
     iterate 3
      (have h:=xo (b:=b) v! v! v!;(have a:=bP u;(try simp only[cx b 3 w! w!,show toNat 3=3 by rfl] at *);simp only[show toNat 6=6 by rfl,af] at *;omega))
     exact Int.natCast_nonneg _;omega
     (have h:=xo (b:=b) v! v! v!;(have a:=bP u;(try simp only[cx b 3 w! w!,show toNat 3=3 by rfl] at *);omega))
     refine⟨(E+1),?_⟩;try dsimp only
     with_reducible and_intros
     omega;have h:=xo (b:=b) v! v! v!;have a:=bP u;have hx:(E:Int)+1<3:=by(have H:=cx b 3 w! w!;simp only[H,show toNat 3=3 by rfl] at *;omega)
     rw[mr b 3 E hx];exact S.ŗ u w!;have h:=xo (b:=b) v! v! v!;have a:=bP u;have hx:(E:Int)+1<3:=by(have H:=cx b 3 w! w!;simp only[H,show toNat 3=3 by rfl] at *;omega)
     simp only[mr b 3 E hx,n0 b 3 E hx] at *;exact Wh u v! w!
     (have h:=xo (b:=b) v! v! v!;(have a:=bP u;(try simp only[cx b 3 w! w!,show toNat 3=3 by rfl] at *);simp only[show toNat 6=6 by rfl,af] at *;omega))
   with_reducible and_intros
   trivial;intro w;try simp only[nt] at w
   trivial;intro y;try simp only[nf] at y
   trivial;intro j;try simp only[V.Nb,nt,df] at j
   refine⟨?_,?_⟩;have h:=xo (b:=b) v! v! v!;have a:=bP u;have H:=cx b 3 w! w!;rw[H] at g;have hx:E+1=3:=by omega
   rw[yY h u hx j rfl];have h:=xo (b:=b) v! v! v!;have a:=bP u;have H:=cx b 3 w! w!;rw[H] at g;have hx:E+1=3:=by omega
   rw[yY h u hx j rfl];intro k;try simp only[V.qF,nf,dt] at k
   refine⟨?_,?_⟩;have h:=xo (b:=b) v! v! v!;have a:=bP u;have H:=cx b 3 w! w!;rw[H] at g;have hx:E+1=3:=by omega
   rw[yZ h u hx k rfl];have h:=xo (b:=b) v! v! v!;have a:=bP u;have H:=cx b 3 w! w!;rw[H] at g;have hx:E+1=3:=by omega
   rw[yZ h u hx k rfl]
 intro z;try simp only[df] at z
 with_reducible and_intros
 iterate 2 omega
 . intro A;try simp only[dt] at A
   refine⟨?_,?_,?_,?_⟩;iterate 2 omega
   intro C;try simp only[dt] at C
   refine⟨?_,?_⟩
   (have h:=xp (b:=b) v! v! v! v!;rw[uW h w! w!])
   (have h:=xp (b:=b) v! v! v! v!;rw[uW h w! w!])
   intro D;try simp only[df] at D
   with_reducible and_intros
   iterate 3 omega
   . refine⟨0,?_⟩;try dsimp only
     with_reducible and_intros
     omega
     (exact aM6 v! v!)
     (have h:=xp (b:=b) v! v! v! v!;exact S.ŕ h w! w!)
   intro e B;refine V.dI (λh36=>?_) λi=>?_
   . with_reducible and_intros
     iterate 4 omega
     intro F;try simp only[nt,df,tn] at F
     refine⟨?_,?_⟩;have h:=xp (b:=b) v! v! v! v!;have a:=bP B;have hx:(e:Int)+1<4:=by(have H:=cx b 4 w! w!;simp only[H,show toNat 4=4 by rfl] at *;omega)
     simp only[mr b 4 e hx,n0 b 4 e hx] at *;rw[yX h B w! v!];have h:=xp (b:=b) v! v! v! v!;have a:=bP B;have hx:(e:Int)+1<4:=by(have H:=cx b 4 w! w!;simp only[H,show toNat 4=4 by rfl] at *;omega)
     simp only[mr b 4 e hx,n0 b 4 e hx] at *;rw[yX h B w! v!];intro K;try simp only[nf,dt,tn] at K
     with_reducible and_intros
     iterate 2 omega
     iterate 3
      (have h:=xp (b:=b) v! v! v! v!;(have a:=bP B;(try simp only[cx b 4 w! w!,show toNat 4=4 by rfl] at *);simp only[show toNat 6=6 by rfl,af] at *;omega))
     exact Int.natCast_nonneg _;omega
     (have h:=xp (b:=b) v! v! v! v!;(have a:=bP B;(try simp only[cx b 4 w! w!,show toNat 4=4 by rfl] at *);omega))
     refine⟨(e+1),?_⟩;try dsimp only
     with_reducible and_intros
     omega;have h:=xp (b:=b) v! v! v! v!;have a:=bP B;have hx:(e:Int)+1<4:=by(have H:=cx b 4 w! w!;simp only[H,show toNat 4=4 by rfl] at *;omega)
     rw[mr b 4 e hx];exact S.ŗ B w!;have h:=xp (b:=b) v! v! v! v!;have a:=bP B;have hx:(e:Int)+1<4:=by(have H:=cx b 4 w! w!;simp only[H,show toNat 4=4 by rfl] at *;omega)
     simp only[mr b 4 e hx,n0 b 4 e hx] at *;exact Wh B v! w!
     (have h:=xp (b:=b) v! v! v! v!;(have a:=bP B;(try simp only[cx b 4 w! w!,show toNat 4=4 by rfl] at *);simp only[show toNat 6=6 by rfl,af] at *;omega))
   with_reducible and_intros
   trivial;intro L;try simp only[nt] at L
   trivial;intro M;try simp only[nf] at M
   trivial;intro l;try simp only[V.Nb,nt,df] at l
   refine⟨?_,?_⟩;have h:=xp (b:=b) v! v! v! v!;have a:=bP B;have H:=cx b 4 w! w!;rw[H] at i;have hx:e+1=4:=by omega
   rw[yY h B hx l rfl];have h:=xp (b:=b) v! v! v! v!;have a:=bP B;have H:=cx b 4 w! w!;rw[H] at i;have hx:e+1=4:=by omega
   rw[yY h B hx l rfl];intro m;try simp only[V.qF,nf,dt] at m
   refine⟨?_,?_⟩;have h:=xp (b:=b) v! v! v! v!;have a:=bP B;have H:=cx b 4 w! w!;rw[H] at i;have hx:e+1=4:=by omega
   rw[yZ h B hx m rfl];have h:=xp (b:=b) v! v! v! v!;have a:=bP B;have H:=cx b 4 w! w!;rw[H] at i;have hx:e+1=4:=by omega
   rw[yZ h B hx m rfl]
 grind[df,uf0]
def aI6(b:B8)(c:S.small b):(∃(X:B8×U),(b=X.1/\[]=X.2)/\an9 b X.1 X.2)/\(∀(x:B8×U),an9 b x.1 x.2->q71 (alC (length x.1)) (0<length x.1/\aHJ x.2 [(bh x.1).1]/\anm (bh x.1).2 (length x.1) (∃(a:B8×U),(drop (toNat (bh x.1).2) x.1=a.1/\x.2++[(bh x.1).1]=a.2)/\an9 b a.1 a.2/\S.len a.1<S.len x.1)) (x.2=S.decode b)):=by
 refine au ?_;simp[S.small] at c;refine⟨?_,?_⟩;refine⟨((b),([])),?_⟩;grind[aGn];intro X h;refine⟨?_,?_⟩
 . intro d;simp at d;with_reducible and_intros
   omega
   (have H:=Wi h w!;grind)
   iterate 2
    (have H:=Wi h w!;omega)
   refine⟨((drop (toNat ((bh (X.1)).2)) (X.1)),(X.2++[(bh (X.1)).1])),?_⟩;dsimp only;with_reducible and_intros
   iterate 2 rfl
   grind[TZ]
   (have H:=Wi h w!;grind[S.len,List.length_drop,lc,ln])
 grind[df,Zu]
def aI7(c:Int):(∃(a:Nat),(0:Int)=a/\pX c a)/\(∀(X:Nat),pX c X->q71 (decide ((X:Int)<9)) (il 0 X ((9:Nat):Int)/\anF (ku (getD [65,97,192,216,248,913,931,945,1024] (toNat X) 0) c (getD [90,122,214,246,255,929,937,969,1119] (toNat X) 0)) (true=S.letter c) X (∃(d:Nat),aub X d (pX c d) 9)) (false=S.letter c)):=by
 refine au ?_;refine⟨?_,?_⟩;refine⟨(nat_lit 0:Nat),?_⟩;grind[pX];intro a e;refine⟨?_,?_⟩
 . intro f;simp at f;with_reducible and_intros
   iterate 2 omega
   intro h;simp at h;exact S.ř (x:=a) w! (S.Ŝ h);intro H;simp only[V.V3,df,tn] at H;with_reducible and_intros
   iterate 2 omega
   refine⟨(a+nat_lit 1),?_⟩;dsimp only;refine⟨?_,?_,?_⟩;omega;exact S.Ś (x:=a) e w! (aoL H);simp[af];omega
 grind[df,S.ś]
def aI8(c:Int):ku 48 c 57=S.digit c:=by
 refine au ?_;grind[S.digit]
def aI9(c:Int):(∃(a:Nat),(0:Int)=a/\qK c a)/\(∀(X:Nat),qK c X->q71 (decide ((X:Int)<7)) (il 0 X ((7:Nat):Int)/\anF (ku (getD [65,192,216,913,931,1024,1040] (toNat X) 0) c (getD [90,214,222,929,937,1039,1071] (toNat X) 0)) (q78 (c+aou [32,32,32,32,32,80,32] (toNat X))/\c+aou [32,32,32,32,32,80,32] (toNat X)=aX c) X (∃(d:Nat),aub X d (qK c d) 7)) (c=aX c)):=by
 refine au ?_;refine⟨?_,?_⟩;refine⟨(nat_lit 0:Nat),?_⟩;grind[qK];intro a h;refine⟨?_,?_⟩
 . intro e;simp at e;with_reducible and_intros
   iterate 2 omega
   . intro H;simp at H;with_reducible and_intros
     iterate 2
      have g:=(T1 (c:=c) (x:=a) h e (S.Ŝ H)).2;omega
     exact(T1 (x:=a) h w! (S.Ŝ H)).1
   intro f;simp only[V.V3,df,tn] at f;with_reducible and_intros
   iterate 2 omega
   refine⟨(a+nat_lit 1),?_⟩;dsimp only;refine⟨?_,?_,?_⟩;omega;exact akt (x:=a) h w! (aoL f);simp[af];omega
 grind[df,aku]
def aJa(c a b:Int):ku a c b=dM c a b:=by
 refine au ?_;grind[dM]
def aJb(c:Int):(bif aut c then Jn c 55296 (aTH c) else aTH c)=pe c:=by
 refine au ?_;grind[pe]
def aJc(c:Int)(h:0<=c/\c<=1114111):q71 (aRX c) ([US c]=S.enc c) (q71 (decide (c<2048)) (0<=c/\(0:Int)<64/\q78 (192+c/64)/\0<=c/\(0:Int)<64/\q78 (128+c%64)/\[US (192+c/64),US (128+c%64)]=S.enc c) (q71 (decide (c<65536)) (0<=c/\(0:Int)<4096/\q78 (224+c/4096)/\0<=c/\(0:Int)<64/\0<=c/64/\(0:Int)<64/\q78 (128+c/64%64)/\0<=c/\(0:Int)<64/\q78 (128+c%64)/\[US (224+c/4096),US (128+c/64%64),US (128+c%64)]=S.enc c) (0<=c/\(0:Int)<262144/\q78 (240+c/262144)/\0<=c/\(0:Int)<4096/\0<=c/4096/\(0:Int)<64/\q78 (128+c/4096%64)/\0<=c/\(0:Int)<64/\0<=c/64/\(0:Int)<64/\q78 (128+c/64%64)/\0<=c/\(0:Int)<64/\q78 (128+c%64)/\[US (240+c/262144),US (128+c/4096%64),US (128+c/64%64),US (128+c%64)]=S.enc c))):=by
 refine au ?_;refine⟨?_,?_⟩;simp_all[dt,au2]
 intro H;refine V.dI (λa=>?_) λd=>?_;grind[au3];refine⟨?_,?_⟩;grind[au4];grind[df,au5]
def aJd(a b:Int):q71 (decide (a<b)) (a=qL a b) (b=qL a b):=by
 refine au ?_;refine⟨?_,?_⟩;simp_all[dt,qL]
 grind[df,qL]
def aJe(c:Int):aj8 (aQ9 (dM c 65 90) (dM c 97 122) (aQ9 (dM c 192 214) (dM c 216 246) (aQ9 (dM c 248 255) (dM c 913 929) (nC (dM c 931 937) (q85 (an5 (dM c 945 969))))))) (aLI (dM c 65 90) (dM c 97 122) (aLI (dM c 192 214) (dM c 216 246) (aLI (dM c 248 255) (dM c 913 929) (aLI (dM c 931 937) (dM c 945 969) (dM c 1024 1119))))=S.letter c):=by
 refine au ?_;grind[PO]
def aJf(c:Int):q85 (Lf (dM c 1024 1039) (q78 (c+80)/\c+80=aX c) True (aQ9 (dM c 65 90) (dM c 192 214) (aQ9 (dM c 216 222) (dM c 913 929) (an5 (dM c 931 937)))) (q71 (aLI (dM c 65 90) (dM c 192 214) (aLI (dM c 216 222) (dM c 913 929) (ct (dM c 931 937) (dM c 1040 1071)))) (q78 (c+32)/\c+32=aX c) (c=aX c))):=by
 refine au ?_;refine⟨?_,?_,?_⟩;trivial;grind[Ea];intro h;with_reducible and_intros
 trivial;iterate 2 grind
 grind[Eb];grind[CH]
def aJg(b:B8)(n:Int)(h:D9 b n)(H:Vg.jE J.é (b,n)):jM (decide (q91 b<n)) (-(1:Int)=cg b n) (awZ (q91 b)) (il (0:Int) n (q96 [(0:Int),(0:Int),(192:Int),(224:Int),(240:Int)])/\toNat n<length [(0:Int),(0:Int),(192:Int),(224:Int),(240:Int)]/\q78 (ank b (0:Int)-aou [(0:Int),(0:Int),(192:Int),(224:Int),(240:Int)] (toNat n))/\(∃(a:Nat),((1:Int)=(a:Int)/\ank b (0:Int)-aou [(0:Int),(0:Int),(192:Int),(224:Int),(240:Int)] (toNat n)=p0 b n (a-(1:Nat)))/\sy b n a)/\(∀(x:Nat),sy b n x->q71 (decide ((x:Int)<n)) (q78 (p0 b n (x-(1:Nat))*(64:Int))/\il (0:Int) (x:Int) (q91 b)/\q78 (p0 b n (x-(1:Nat))*(64:Int)+ank b (x:Int))/\q78 (p0 b n (x-(1:Nat))*(64:Int)+ank b (x:Int)-(128:Int))/\ajJ (x:Int) (∃(X:Nat),anE x X (p0 b n (x-(1:Nat))*(64:Int)+ank b (x:Int)-(128:Int)=p0 b n (X-(1:Nat))) (sy b n X) (toNat n))) (p0 b n (x-(1:Nat))=cg b n))):=by
 refine au ?_;have I:Vg.hlen b:=H.1.1;have A:Vg.hint n:=H.2.1;clear H;have i:=h;simp only[D9] at i;refine⟨?_,?_⟩;intro c;try simp only[dt] at c
 grind[Zw];intro d;try simp only[df] at d
 with_reducible and_intros
 iterate 3 omega
 iterate 3 grind
 have c:=PQ b n 0 w!;grind[T3];grind[T3,sy,af];intro X g;refine⟨?_,?_⟩
 . intro e;try simp only[dt] at e
   with_reducible and_intros
   iterate 2
    have f:=aeP v! h;have:=(getD b (toNat (X:Int)) 0).toNat_lt;omega
   iterate 2 omega
   iterate 4
    have f:=aeP v! h;have:=(getD b (toNat (X:Int)) 0).toNat_lt;omega
   iterate 2 omega
   refine⟨(X+1),?_⟩;try dsimp only
   with_reducible and_intros
   omega;exact aky v!;simp only[sy,af] at *;omega;simp only[sy,af] at *;omega
 grind[df,aoR]
def aJh(b:B8)(j:S.small b):(∃(a:Nat×U),((0:Int)=a.1/\[]=a.2)/\an9 b (drop a.1 b) a.2/\a.1<=aHb b)/\(∀(X:Nat×U),an9 b (drop X.1 b) X.2/\X.1<=aHb b->q71 (decide ((X.1:Int)<aHb b)) ((∃(g:Nat×Nat),((1:Int)=((g.1+1:Nat):Int)/\aIj (iq (drop g.2 b) g.1) 1)/\g.1<=4/\(X.1:Int)=g.2)/\(∀(x:Nat×Nat),x.1<=4/\(X.1:Int)=x.2->jM (decide (((x.1+1:Nat):Int)<=4)) (anm X.1 (aHb b) (D9 (drop (toNat X.1) b) ((x.1+1:Nat):Int)/\aj8 (ti (pe (aQm b X x)) (anm (aQm b X x) 1114111 (q78 (X.1+((x.1+1:Nat):Int))/\q85 (tm 0 X.1 (qL (X.1+((x.1+1:Nat):Int)) (aHb b)) (aHb b))))) (q78 (((x.1+1:Nat):Int)+1)/\(∃(c:Nat×Nat),(((x.1+1:Nat):Int)+1=((c.1+1:Nat):Int)/\aqJ (bif aTG b X x then aQm b X x else(aNK b x).1) (iq (drop c.2 b) c.1) (bif aTG b X x then((x.1+1:Nat):Int) else(aNK b x).2))/\(c.1<=4/\(X.1:Int)=c.2)/\de 4 c.1 x.1)))) (aHJ X.2 [(aNK b x).1]) (q78 (X.1+(aNK b x).2)/\(∃(d:Nat×U),(X.1+(aNK b x).2=d.1/\X.2++[(aNK b x).1]=d.2)/\(an9 b (drop d.1 b) d.2/\d.1<=aHb b)/\de (S.len b) d.1 X.1)))) (X.2=S.decode b)):=by
 refine au ?_;have I:b.length<=1099511627776:=by grind[S.small]
 refine⟨?_,?_⟩;refine⟨(0,([])),?_⟩;grind[au6];intro a H;refine⟨?_,?_⟩
 . intro h;try simp only[dt] at h
   refine⟨?_,?_⟩
   . refine⟨(0,a.1),?_⟩;with_reducible and_intros
     omega;iterate 2 rfl
     iterate 2 omega
   intro x e;refine V.dI (λk=>?_) λf=>?_
   . with_reducible and_intros
     iterate 2 omega
     grind[D9,List.length_drop];trivial
     . intro l;with_reducible and_intros
       iterate 2 (simp_all[S.ş])
       iterate 2 omega
       trivial;omega;iterate 2 (grind[qL])
     grind;iterate 2 omega
     refine⟨(x.1+1,a.1),?_⟩;try dsimp only
     with_reducible and_intros
     omega;simp_all[T4,akA]
     simp_all[T4,akB]
     iterate 2 omega
     grind[af]
   with_reducible and_intros
   have i:=rX H h e f;grind
   iterate 2
    have i:=rX H h e f;omega
   refine⟨((toNat ((↑(a.1):Int)+(iq (drop (x.2) b) (x.1)).2)),(a.2++[(iq (drop (x.2) b) (x.1)).1])),?_⟩;with_reducible and_intros
   have i:=rX H h e f;omega;rfl;have i:=rX H h e f;grind;have i:=rX H h e f;omega;have i:=rX H h e f;grind[af,S.len]
 grind[df,Zu,List.length_drop]
def aJi(u:U)(h:SM u):(∃(X:Nat×B8),((0:Int)=X.1/\[]=X.2)/\lE u X.1 X.2)/\(∀(x:Nat×B8),MJ (lE u x.1 x.2) (decide (x.1<q96 u)) 0 x.1 (q96 u) (q85 (q85 (q78 (length x.2+length (aRF u x))/\jM (aMU (length x.2+length (aRF u x))) (x.2=fe u) (q66 (length x.2+length (aRF u x))) (q78 (x.1+1)/\(∃(a:Nat×B8),((x.1:Int)+1=a.1/\x.2++aRF u x=a.2)/\lE u a.1 a.2/\de (S.len u) a.1 x.1))))) (x.2=fe u)):=by
 refine au ?_;have d:=h.1;refine⟨?_,?_⟩;refine⟨(0,([])),?_⟩;grind[Aq];intro X H;refine⟨?_,?_⟩
 . intro c;simp at c;with_reducible and_intros
   iterate 2 omega
   iterate 2 trivial
   omega;have:=H.2.2;grind[akC];grind[pF];intro e;with_reducible and_intros
   grind;iterate 2 omega
   refine⟨((X.1+1),(X.2++im (aX (getD u (toNat (↑(X.1):Int)) (0:Int))))),?_⟩;grind[pE,af,S.len]
 grind[df,rY]
def aJj(b:B8)(e:S.small b):Rj b ((∃(X:Nat×O×U),((0:Int)=X.1/\[]=X.2.1/\[]=X.2.2)/\aoa (S.decode b) X.1 X.2.1 X.2.2)/\(∀(x:Nat×O×U),aoa (S.decode b) x.1 x.2.1 x.2.2->q71 (decide ((x.1:Int)<length (S.decode b))) (il 0 x.1 (length (S.decode b))/\toNat x.1<length (S.decode b)/\aj8 (an5 (S.letter (aQs b x))) (q71 (ct (S.letter (aQs b x)) (S.digit (aQs b x))) (length x.2.2+length [aQs b x]<=17592186044416/\q78 (x.1+1)/\(∃(a:Nat×O×U),anI (x.1+1) a.1 (x.2.1=a.2.1/\x.2.2++[aQs b x]=a.2.2) (aoa (S.decode b) a.1 a.2.1 a.2.2) (S.len (S.decode b)) (af (S.len (S.decode b)) x.1))) (dg (alC (length x.2.2)) (SM x.2.2/\aHA x.2.1 [fe x.2.2]/\q78 (x.1+1)/\(∃(c:Nat×O×U),anI (x.1+1) c.1 (x.2.1++[fe x.2.2]=c.2.1/\[]=c.2.2) (aoa (S.decode b) c.1 c.2.1 c.2.2) (S.len (S.decode b)) (af (S.len (S.decode b)) x.1))) (x.1+1) (∃(d:Nat×O×U),anI (x.1+1) d.1 (x.2.1=d.2.1/\x.2.2=d.2.2) (aoa (S.decode b) d.1 d.2.1 d.2.2) (S.len (S.decode b)) (af (S.len (S.decode b)) x.1))))) (q71 (alC (length x.2.2)) (SM x.2.2/\aHA x.2.1 [fe x.2.2]/\x.2.1++[fe x.2.2]=aS b) (x.2.1=aS b)))):=by
 refine au ?_;have i:b.length<=1099511627776:=e;refine⟨?_,?_,?_⟩;omega;refine⟨(0,(([]),([]))),?_⟩;grind[aGv];intro X h;refine V.dI (λj=>?_) λF=>?_
 . with_reducible and_intros
   iterate 3 omega
   trivial;iterate 2 grind
   . intro f;try simp only[V.Nb] at f
     with_reducible and_intros
     (have H:=sA h i;grind)
     omega
     (have H:=sA h i;omega)
     refine⟨((X.1+1),((X.2.1),(X.2.2++[getD (S.decode b) (toNat (↑(X.1):Int)) (0:Int)]))),?_⟩;grind[akD,aoT,sA,af,S.len]
   intro g;try simp only[V.qF] at g
   refine V.dI (λk=>?_) λl=>?_
   . with_reducible and_intros
     iterate 2
      (have H:=sA h i;grind)
     omega
     (have H:=sA h i;omega)
     refine⟨((X.1+1),((X.2.1++[fe (X.2.2)]),([]))),?_⟩;grind[aoS,Zy,sA,af,S.len]
   with_reducible and_intros
   omega
   (have H:=sA h i;omega)
   refine⟨((X.1+1),((X.2.1),(X.2.2))),?_⟩;grind[akE,Zy,sA,af,S.len]
 refine⟨?_,?_⟩;intro I;refine⟨?_,?_,?_⟩
 (have H:=sA h i;grind)
 (have H:=sA h i;simp;omega)
 grind[akF];grind[df,akG]
def aJk(s:B8)(h:S.small s):Rj s (ti (aP9 (aRE s)) (((0:Int)<=0/\(0:Int)<aRE s)/\toNat 0<aRE s)/\Ri (aP9 (aRE s)) (yb (aS s) 0) s=S.isTerm s):=by
 refine au ?_;grind[akJ]
def aJl(c:Int):q85 (ct (S.letter c) (ku 48 c 57)=fB c):=by
 refine au ?_;grind[akK]
def aJm(u:U)(c:SM u):(∃(X:Nat×B8),((0:Int)=X.1/\[]=X.2)/\lE u X.1 X.2)/\(∀(x:Nat×B8),MJ (lE u x.1 x.2) (decide (x.1<q96 u)) 0 x.1 (q96 u) (aj8 (an7 (aX (anL u x.1)) 1114111) (q78 (length x.2+aSx u x)/\jM (aMU (length x.2+aSx u x)) (x.2=fe u) (((length x.2+aSx u x:Nat):Int)<=9223372036854775807) (q78 (x.1+1)/\(∃(a:Nat×B8),((x.1:Int)+1=a.1/\x.2++S.enc (aX (anL u x.1))=a.2)/\lE u a.1 a.2/\de (S.len u) a.1 x.1)))) (x.2=fe u)):=by
 refine au ?_;have d:=c.1;refine⟨?_,?_⟩;refine⟨((nat_lit 0:Nat),([])),?_⟩;grind[Aq,rY,y6,y5,pF,pE]
 . intro X h;refine⟨?_,?_⟩
   . intro H;try simp at H
     with_reducible and_intros
     omega;omega;trivial;grind[Aq,rY,y6,y5,pF,pE];grind[Aq,rY,y6,y5,pF,pE];omega;first|omega|rfl|exact Aq u|exact rY h (by assumption)|(first|exact he.2.1|exact he.2.2|(have:=h.2.2;grind[y5])|(rw[<-he.1] at *)|(omega))
     grind[y6,tn,pF]
     . intro e;with_reducible and_intros
       grind;omega;omega
       . refine⟨((Prod.fst X+nat_lit 1),(Prod.snd X++S.enc (aX (getD u (toNat (↑(Prod.fst X):Int)) (0:Int))))),?_⟩;with_reducible and_intros
         rfl;rfl;grind[y6,tn,pE];first|omega|rfl|exact Aq u|exact rY h (by assumption)|(first|exact he.2.1|exact he.2.2|(omega)|(first|exact pF h H (by assumption)|exact pE h H (by assumption))|grind[af,S.len])
   grind[Aq,rY,y6,y5,pF,pE]
def aJn(b:B8)(d:S.small b):Rj b ((∃(a:Nat×O),((0:Int)=a.1/\[]=a.2)/\nr (S.decode b) a.1 a.2)/\(∀(X:Nat×O),nr (S.decode b) X.1 X.2->q71 (decide ((X.1:Int)<aNL b)) ((∃(e:Nat×Nat),(X.1:Int)=e.1/\uz (S.decode b) e.2 e.1/\(X.1:Int)=e.2)/\(∀(x:Nat×Nat),uz (S.decode b) x.2 x.1/\(X.1:Int)=x.2->ti (decide ((x.1:Int)<aNL b)) (il 0 x.1 (aNL b)/\toNat x.1<aNL b/\True)/\q71 (q81 (decide ((x.1:Int)<aNL b)) (fB (aou (S.decode b) (toNat x.1)))) (q78 (x.1+1)/\(∃(c:Nat×Nat),(x.1:Int)+1=c.1/\(uz (S.decode b) c.2 c.1/\(X.1:Int)=c.2)/\de (S.len (S.decode b)) c.1 x.1)) (dg (decide ((X.1:Int)<x.1)) (tm 0 X.1 x.1 (aNL b)/\SM (aSy b X x)/\aHA X.2 [fe (aSy b X x)]/\q78 (x.1+1)/\(∃(f:Nat×O),anI (x.1+1) f.1 (X.2++[fe (aSy b X x)]=f.2) (nr (S.decode b) f.1 f.2) (S.len (S.decode b)+1) (af (S.len (S.decode b)+1) X.1))) (x.1+1) (∃(g:Nat×O),anI (x.1+1) g.1 (X.2=g.2) (nr (S.decode b) g.1 g.2) (S.len (S.decode b)+1) (af (S.len (S.decode b)+1) X.1))))) (X.2=aS b))):=by
 refine au ?_;have I:b.length<=1099511627776:=d;have l:=pZ b;refine⟨?_,?_,?_⟩;omega;refine⟨((nat_lit 0:Nat),([])),?_⟩;grind[Ar,Gn,As,rZ,lc,ln]
 . intro a h;refine⟨?_,?_⟩
   . intro i;try simp only[dt] at i
     refine⟨?_,?_⟩;refine⟨((Prod.fst a),(Prod.fst a)),?_⟩;grind[Ar,Gn,As,rZ,lc,ln]
     . intro x H;with_reducible and_intros
       iterate 2 grind
       . intro m;try simp only[V.aEl,dt] at m
         with_reducible and_intros
         omega;omega
         . refine⟨((Prod.fst x+nat_lit 1),(Prod.fst a)),?_⟩;try dsimp only
           with_reducible and_intros
           rfl;grind[akH];rfl;first|omega|with_reducible rfl|exact d|exact Ar _|exact Gn i|exact As I|exact rZ h v!|grind[lc,ln,af,S.len]
       . intro o;refine⟨?_,?_⟩
         . intro F;try simp only[dt] at F
           with_reducible and_intros
           omega;omega;have k:=H.1.1;have j:=H.1.2.1;omega;grind[Ar,Gn,As,rZ,lc,ln];first|omega|with_reducible rfl|exact d|exact Ar _|exact Gn i|exact As I|exact rZ h v!|(have:=h.2.1;have:=h.2.2;grind)
           omega;have k:=H.1.1;have j:=H.1.2.1;omega
           . refine⟨((Prod.fst x+nat_lit 1),(Prod.snd a++[fe (take (toNat (↑(Prod.fst x):Int)-toNat (↑(Prod.fst a):Int)) (drop (toNat (↑(Prod.fst a):Int)) (S.decode b)))])),?_⟩;try dsimp only
             with_reducible and_intros
             rfl;rfl;grind[akI];first|omega|with_reducible rfl|exact d|exact Ar _|exact Gn i|exact As I|exact rZ h v!|grind[lc,ln,af,S.len]
         . intro n;try simp only[df] at n
           with_reducible and_intros
           omega;omega
           . refine⟨((Prod.fst x+nat_lit 1),(Prod.snd a)),?_⟩;try dsimp only
             with_reducible and_intros
             rfl;rfl;grind[S.Š];have k:=H.1.1;grind[af,S.len]
   intro K;grind[Ar,Gn,As,rZ,lc,ln]
def aJo(l:O)(h:Vg.jE J.Dj l):(∃(X:Nat),((1:Int)=X/\(0:Int)=eJ l X)/\uX l X)/\(∀(x:Nat),uX l x->q71 (decide (x<oh l)) (il 0 x (oh l)/\il 0 (eJ l x) (oh l)/\ajJ x (∃(a:Nat),anE x a ((bif Op.bytesLess (yb l x) (yb l (eJ l x)) then(x:Int) else(eJ l x:Int))=eJ l a) (uX l a) (S.len l))) ((eJ l x:Int)=eo l)):=by
 refine au ?_;have B:Vg.hlen l:=h.1.1;clear h;refine⟨?_,?_⟩
 . refine⟨1,?_⟩;try dsimp only
   with_reducible and_intros
   omega;grind[Zx];exact⟨Nat.le_refl _,.inr rfl⟩
 intro X H;refine⟨?_,?_⟩
 . intro c;try simp only[dt] at c
   with_reducible and_intros
   iterate 3 omega
   have:=CI (l:=l) X w! (by have:=H.2;omega);omega;iterate 2 omega
   refine⟨(X+1),?_⟩;try dsimp only
   with_reducible and_intros
   omega;exact Zz l X;simp only[uX] at *;omega;simp only[af,S.len];omega
 grind[df,S.š]
def aJp(l:O)(m:S.small l):(∃(a:O×O),(l=a.1/\[]=a.2)/\sX l a.1 a.2)/\(∀(X:O×O),sX l X.1 X.2->q71 (alC (aHi X)) (q85 (il 0 (eo X.1) (aHi X)/\toNat (eo X.1)<aHi X/\aHA X.2 [aMl X]/\(∃(f:Nat×O×O×B8),((0:Int)=f.1/\[]=f.2.1)/\kg f.2.2.1 f.2.2.2 f.1 f.2.1/\X.1=f.2.2.1/\aMl X=f.2.2.2)/\(∀(x:Nat×O×O×B8),kg x.2.2.1 x.2.2.2 x.1 x.2.1/\X.1=x.2.2.1/\aMl X=x.2.2.2->q71 (decide ((x.1:Int)<aHi X)) (il 0 x.1 (aHi X)/\toNat x.1<aHi X/\dg (aI5 (EK X.1 (toNat x.1)) (aMl X)) (il 0 x.1 (aHi X)/\toNat x.1<aHi X/\aHA x.2.1 [EK X.1 (toNat x.1)]/\q78 (x.1+1)/\(∃(c:Nat×O×O×B8),anI (x.1+1) c.1 (x.2.1++[EK X.1 (toNat x.1)]=c.2.1) (kg c.2.2.1 c.2.2.2 c.1 c.2.1/\X.1=c.2.2.1/\aMl X=c.2.2.2) (S.len c.2.2.1) (af (S.len x.2.2.1) x.1))) (x.1+1) (∃(d:Nat×O×O×B8),anI (x.1+1) d.1 (x.2.1=d.2.1) (kg d.2.2.1 d.2.2.2 d.1 d.2.1/\X.1=d.2.2.1/\aMl X=d.2.2.2) (S.len d.2.2.1) (af (S.len x.2.2.1) x.1))) (∃(g:O×O),(x.2.1=g.1/\X.2++[aMl X]=g.2)/\sX l g.1 g.2/\S.len g.1<S.len X.1)))) (X.2=S.sorted l)):=by
 refine au ?_;have I:l.length<=1099511627776:=m;refine⟨?_,?_⟩;refine⟨((l),([])),?_⟩;grind[au7];intro a H;refine⟨?_,?_⟩
 . intro i;simp only[dt] at i;with_reducible and_intros
   trivial;omega
   iterate 2
    have:=CK (l:=a.1) w!;omega
   have:=H.2;simp;omega
   . refine⟨(0,(([]),((a.1),(getD (a.1) (toNat (↑(eo (a.1)):Int)) [])))),?_⟩;dsimp only;with_reducible and_intros
     omega;rfl;exact au8 _ _;iterate 2 rfl
   intro x h;refine V.dI (λj=>?_) λk=>?_
   . with_reducible and_intros
     iterate 3 omega
     . intro n;with_reducible and_intros
       iterate 3 omega
       have q:=akM h.1;have:=H.2;simp;omega
       omega;have:=H.2;omega;refine⟨((x.1+1),((x.2.1++[getD (a.1) (toNat (↑(x.1):Int)) []]),((a.1),(getD (a.1) (toNat (↑(eo (a.1)):Int)) [])))),?_⟩;try dsimp only
       with_reducible and_intros
       omega;with_reducible rfl
       exact S.Ţ (IG h) j (by simpa using n);iterate 2 with_reducible rfl
       have e:a.1=x.2.2.1:=h.2.1;simp only[af,S.len,<-e];omega
     intro o;with_reducible and_intros
     omega;have:=H.2;omega;refine⟨((x.1+1),((x.2.1),((a.1),(getD (a.1) (toNat (↑(eo (a.1)):Int)) [])))),?_⟩;try dsimp only
     with_reducible and_intros
     omega;with_reducible rfl
     exact S.ţ (IG h) j (by simpa using o);iterate 2 with_reducible rfl
     have e:a.1=x.2.2.1:=h.2.1;simp only[af,S.len,<-e];omega
   refine⟨((x.2.1),(a.2++[getD (a.1) (toNat (↑(eo (a.1)):Int)) []])),?_⟩;with_reducible and_intros
   iterate 2 rfl
   exact(PT H i (IG h) k).1;exact(PT H i (IG h) k).2
 grind[df,akL]
def aJq(b:B8)(h:S.small b):Rj b (S.small (aS b)/\S.sorted (aS b)=S.sorted (aS b)):=by
 refine au ?_;grind[Au,S.small]
def aJr(b t:B8)(a:S.small b):Rj b ((∃(X:Nat×U),((0:Int)=(X.1:Int)/\([]:U)=X.2)/\lF (aS b) t X.1 X.2)/\(∀(x:Nat×U),lF (aS b) t x.1 x.2->q71 (decide ((x.1:Int)<(length (aS b):Int))) (il (0:Int) (x.1:Int) (length (aS b):Int)/\toNat (x.1:Int)<length (aS b)/\dg (decide (EK (aS b) (toNat (x.1:Int))=t)) (aHJ x.2 [(x.1:Int)]/\q78 ((x.1:Int)+(1:Int))/\(∃(c:Nat×U),anI ((x.1:Int)+(1:Int)) c.1 (x.2++[(x.1:Int)]=c.2) (lF (aS b) t c.1 c.2) (S.len (aS b)) (af (S.len (aS b)) x.1))) ((x.1:Int)+(1:Int)) (∃(d:Nat×U),anI ((x.1:Int)+(1:Int)) d.1 (x.2=d.2) (lF (aS b) t d.1 d.2) (S.len (aS b)) (af (S.len (aS b)) x.1))) (x.2=S.places b t))):=by
 refine au ?_;have g:=Au b;have i:b.length<=1099511627776:=a;refine⟨?_,?_,?_⟩;omega;refine⟨((nat_lit 0:Nat),([])),?_⟩;grind[r6,l9,ma,at4,lc,ln]
 . intro X h;refine⟨?_,?_⟩
   . intro H;try simp at H
     with_reducible and_intros
     omega;omega;omega
     . intro e;with_reducible and_intros
       first|omega|with_reducible rfl|exact a|exact r6 _ _|exact l9 h H e|exact ma h H f|exact at4 h v!|(have:=h.2.2;grind)
       omega;omega
       . refine⟨((Prod.fst X+nat_lit 1),(Prod.snd X++[(↑(Prod.fst X):Int)])),?_⟩;with_reducible and_intros
         rfl;rfl;grind[r6,l9,ma,at4,lc,ln];first|omega|with_reducible rfl|exact a|exact r6 _ _|exact l9 h H e|exact ma h H f|exact at4 h (by assumption)|grind[lc,ln,af,S.len]
     . intro f;with_reducible and_intros
       omega;omega
       . refine⟨((Prod.fst X+nat_lit 1),(Prod.snd X)),?_⟩;with_reducible and_intros
         rfl;rfl;grind[r6,l9,ma,at4,lc,ln];first|omega|with_reducible rfl|exact a|exact r6 _ _|exact l9 h H e|exact ma h H f|exact at4 h v!|grind[lc,ln,af,S.len]
   intro j;grind[r6,l9,ma,at4,lc,ln]
def aJt(s:B8):Bool.not (decide (s=s))=false:=by
 grind
def aJu(a b:B8):q85 (aFy false (q71 false (0=lS a b) (-1=lS a b)) (q71 false (1=lS a b) (q71 (Op.bytesLess a b) (-1=lS a b) (q71 (Bool.not (Op.bytesLess a b||decide (a=b))) (1=lS a b) (0=lS a b))))):=by
 refine au ?_;grind[lS,cJ,pg,y8,nt,nf]
def aJv(a b:B8):q85 (aaT (lS a b)=decide (a=b)):=by
 refine au ?_;grind[avc]
def aJw(l:O)(m:S.small l):jM (decide ((aFu l:Int)<2)) (l=bU l) (∃(j:Nat),(1:Int)=j/\n4 l j) (∀(d:Nat),n4 l d->q71 (decide ((d:Int)<aFu l)) (il 0 d (aFu l)/\avb d<aFu l/\anS (d-1) 0 (aFu l) (toNat (d-1)<aFu l) (q85 (anF (decide (EK l (avb d)=EK l (toNat (d-1)))) (anm d (aFu l) ((∃(a:Nat×Nat×O×Nat),((d:Int)=a.1/\(1:Int)=a.2.1/\l=a.2.2.1)/\jG l a.2.2.2 a.1 a.2.1 a.2.2.1/\(d:Int)=a.2.2.2)/\(∀(x:Nat×Nat×O×Nat),jG l x.2.2.2 x.1 x.2.1 x.2.2.1/\(d:Int)=x.2.2.2->Lf (decide ((x.2.1:Int)<((aFu l-avb d:Nat):Int))) (il 0 x.2.1 ((aFu l-avb d:Nat):Int)/\avb d+toNat x.2.1<aFG x/\anS (x.2.1-1) 0 ((aFu l-avb d:Nat):Int) (avb d+toNat (x.2.1-1)<aFG x) (aj8 (ti (aSC d x) (il 0 x.2.1 ((aFu l-avb d:Nat):Int)/\avb d+toNat x.2.1<aFG x/\il 0 x.1 (aFG x)/\aFX x<aFG x/\q78 (x.1+1))) (q78 (x.2.1+1)/\(∃(e:Nat×Nat×O×Nat),((bif aSC d x then(x.1:Int)+1 else(x.1:Int))=e.1/\(x.2.1:Int)+1=e.2.1/\(bif aSC d x then List.set x.2.2.1 (aFX x) (EK x.2.2.1 (avb d+toNat x.2.1)) else x.2.2.1)=e.2.2.1)/\(jG l e.2.2.2 e.1 e.2.1 e.2.2.1/\(d:Int)=e.2.2.2)/\de (S.len l) e.2.1 x.2.1)))) (an7 x.1 (aFG x)) (aFX x+(aFG x-aFX x)<=aFG x) (anm x.1 (oh (aTO x)) (take (aFX x) (aTO x)=bU l))))) d (∃(k:Nat),aub d k (n4 l k) (S.len l))))) (l=bU l)):=by
 refine au ?_;have I:l.length<=1099511627776:=m;refine V.dI (λn=>?_) λy=>?_;exact PY n;refine⟨?_,?_⟩;grind[aoV];intro a o;refine⟨?_,?_⟩
 . intro r;try simp only[dt] at r
   with_reducible and_intros
   iterate 5 omega
   have:=o.1;omega;iterate 2 omega
   trivial
   . intro s;try simp only[dt,tn] at s
     with_reducible and_intros
     iterate 2 omega
     refine⟨((a),(1,((l),(a)))),?_⟩;grind[aeQ];intro X h;refine⟨?_,?_⟩
     . intro t;try simp at t
       with_reducible and_intros
       iterate 2 omega
       have q:=h.1.1;have Q:=h.1.2.1;have f:=h.1.2.2.2.1;have g:=h.1.2.2.2.2.1;have i:=h.2;omega
       iterate 2 omega
       have q:=h.1.1;have Q:=h.1.2.1;have f:=h.1.2.2.2.1;have g:=h.1.2.2.2.2.1;have i:=h.2;omega
       omega;have q:=h.1.1;have Q:=h.1.2.1;have f:=h.1.2.2.2.1;have g:=h.1.2.2.2.2.1;have i:=h.2;omega
       trivial
       . intro F;with_reducible and_intros
         iterate 2 omega
         have q:=h.1.1;have Q:=h.1.2.1;have f:=h.1.2.2.2.1;have g:=h.1.2.2.2.2.1;have i:=h.2;omega
         omega
         iterate 2
          have q:=h.1.1;have Q:=h.1.2.1;have f:=h.1.2.2.2.1;have g:=h.1.2.2.2.2.1;have i:=h.2;omega
         omega;have q:=h.1.1;have Q:=h.1.2.1;have f:=h.1.2.2.2.1;have g:=h.1.2.2.2.2.1;have i:=h.2;omega
       intro z;trivial;iterate 2 omega
       refine⟨((toNat (bif !Decidable.decide (getD (X.2.2.1) (toNat (↑a:Int)+toNat (↑(X.2.1):Int)) []=getD (X.2.2.1) (toNat (↑a:Int)+toNat ((↑(X.2.1):Int)-(1:Int))) []) then(↑(X.1):Int)+(1:Int) else(↑(X.1):Int))),((X.2.1+1),((bif !Decidable.decide (getD (X.2.2.1) (toNat (↑a:Int)+toNat (↑(X.2.1):Int)) []=getD (X.2.2.1) (toNat (↑a:Int)+toNat ((↑(X.2.1):Int)-(1:Int))) []) then List.set (X.2.2.1) (toNat (↑(X.1):Int)) (getD (X.2.2.1) (toNat (↑a:Int)+toNat (↑(X.2.1):Int)) []) else Prod.fst (X.2.2)),(a)))),?_⟩;try dsimp only
       with_reducible and_intros
       generalize (!decide (getD X.2.2.1 (toNat (a:Int)+toNat (X.2.1:Int)) []=getD X.2.2.1 (toNat (a:Int)+toNat ((X.2.1:Int)-1)) []))=c;cases c<;>simp only[K!,N!]<;>omega;omega;trivial;have q:=h.1.1;have E:X.2.2.2=a:=by have:=h.2;omega
       have H:=h.1;rw[E] at H;have u:toNat (a:Int)+toNat (X.2.1:Int)=a+X.2.1:=by omega
       have v:toNat (a:Int)+toNat ((X.2.1:Int)-1)=a+X.2.1-1:=by omega
       rw[u,v];by_cases hd:getD X.2.2.1 (a+X.2.1) []=getD X.2.2.1 (a+X.2.1-1) [];rw[L? hd];exact PZ H w! hd;rw[e? hd];exact T8 H w! hd;omega;simp only[af,S.len];omega
     intro K;with_reducible and_intros
     omega
     iterate 2
      have q:=h.1.2.1;have Q:=h.1.2.2.2.1;have f:=h.1.2.2.2.2.1;omega
     omega;have q:=h.1.2.1;have Q:=h.1.2.2.2.1;have f:=h.1.2.2.2.2.1;simp;omega;have q:=h.1.2.1;have Q:=h.1.2.2.2.1;have f:=h.1.2.2.2.2.1;grind[toNat,Mn,T9]
   intro w;try simp only[df,tn] at w
   with_reducible and_intros
   iterate 2 omega
   refine⟨(a+1),?_⟩;grind[T6,af,S.len]
 grind[df,ZC]
def aJx(l:O)(h:S.small l):S.small l/\S.small l/\S.small (fp l)/\bU (fp l)=bU (fp l):=by
 grind[Wq]
def aJy(b:B8)(h:S.small b):Rj b (S.small (aS b)/\bU (fp (aS b))=S.sorted (aS b)):=by
 refine au ?_;grind[Wo,P0]
def aJz(l:O)(d:Vg.jE J.Dj l):(∃(X:Nat),(0:Int)=X/\sZ l X)/\(∀(x:Nat),sZ l x->q71 (decide (x<oh l)) (il 0 x (oh l)/\anF (aFN (yb l x)) (false=cP l) x (∃(a:Nat),aub x a (sZ l a) (S.len l))) (true=cP l)):=by
 refine au ?_;have B:Vg.hlen l:=d.1.1;refine⟨?_,?_⟩;grind[avg];intro X e;refine⟨?_,?_⟩
 . intro h;simp only[dt] at h;with_reducible and_intros
   iterate 2 omega
   intro H;simp at H;exact akS h H;intro c;simp at c;with_reducible and_intros
   iterate 2 omega
   refine⟨(X+nat_lit 1),?_⟩;dsimp only;refine⟨?_,?_,?_⟩;omega;exact S.ũ e h c;simp[af,S.len];omega
 grind[df,akT]
def aJA(a b:B8):q85 (bz a b=bz a b):=by
 refine au ?_;grind
def aJB(s:O)(h:y9 s):anS (ato s-2) 0 (ato s) (toNat (ato s-2)<ato s) (anS (ato s-2+1) 0 (ato s) (toNat (ato s-2+1)<ato s) (q85 (il 0 (ato s-2) (ato s)/\toNat (ato s-2)<ato s/\ô (ato s-2+1) 0 (oh (aTQ s)) (take (toNat (ato s-2+1)) (aTQ s)=S.comb s)))):=by
 refine au ?_;have H:=h.1;have a:=h.2;with_reducible and_intros
 iterate 10 omega
 trivial;iterate 6 omega
 grind;exact avf h
def aJC(l:O)(h:dj l)(H:Vg.jE J.af6 l):(∃(X:Nat),((0:Int)=X/\[]=fg l X)/\gU l X)/\(∀(x:Nat),aFx (gU l x) (decide (x<oh l)) 0 x (oh l) (az (yb l x)) (aHA (fg l x) [S.leaf (yb l x)]/\ajJ x (∃(a:Nat),anE x a (fg l x++[S.leaf (yb l x)]=fg l a) (gU l a) (S.len l))) (fg l x=S.leaves l)):=by
 refine au ?_;have B:Vg.hlen l:=H.1.1;clear H;have d:=h.1;refine⟨?_,?_⟩
 . refine⟨0,?_⟩;try dsimp only
   with_reducible and_intros
   omega;rfl;grind[gU,af,S.len]
 intro X e;refine⟨?_,?_⟩
 . intro c;try simp only[dt] at c
   with_reducible and_intros
   iterate 2 omega
   exact ga h v!;have:=Fk l X;simp only[lc,ln];omega;iterate 2 omega
   refine⟨(X+1),?_⟩;try dsimp only
   with_reducible and_intros
   omega;exact fh v!;simp only[gU,af,S.len] at *;omega;simp only[gU,af,S.len] at *;omega
 grind[df,fZ]
def aJD(l:O)(j:eW l):jM (aaT (oh l)) (aRn anG (S.root l)) (∃(f:Nat×O),((0:Int)=f.1/\[]=f.2)/\qN l f.1 f.2) (∀(x:Nat×O),qN l x.1 x.2->jM (decide (x.1<oh l)) (il 0 x.1 (oh l)/\aHA x.2 [yb l x.1]/\(∃(X:Nat×Nat×O×Nat),((x.1:Int)=X.2.1/\x.2++[yb l x.1]=X.2.2.1)/\ph l X.2.2.2 X.1 X.2.1 X.2.2.1/\(x.1:Int)=X.2.2.2)/\(∀(a:Nat×Nat×O×Nat),ph l a.2.2.2 a.1 a.2.1 a.2.2.1/\(x.1:Int)=a.2.2.2->(0:Int)<=a.2.1/\(0:Int)<=1/\dg (decide (Vg.aT a.2.1 1=1)) (y9 a.2.2.1/\anm 1 64 (∃(d:Nat×Nat×O×Nat),(anu a.2.1 1=d.2.1/\S.comb a.2.2.1=d.2.2.1)/\(ph l d.2.2.2 d.1 d.2.1 d.2.2.1/\(x.1:Int)=d.2.2.2)/\d.2.1<a.2.1)) (x.1+1) (∃(c:Nat×O),((x.1:Int)+1=c.1/\a.2.2.1=c.2)/\qN l c.1 c.2/\de (S.len l) c.1 x.1))) (∃(m:O),x.2=m/\qO l m) (∀(e:O),qO l e->Lf (decide ((1:Int)<length e)) (y9 e/\(∃(g:O),S.comb e=g/\qO l g/\S.len g<S.len e)) (awZ (length e)) (toNat 0<length e) (yb e 0=S.root l))):=by
 refine au ?_;have I:=j.2;refine V.dI (λq=>?_) λr=>?_;refine⟨?_,?_⟩;exact Nat.zero_le _;exact Ud q;refine⟨?_,?_⟩;refine⟨(0,([])),?_⟩;grind[avd];intro X i;refine V.dI (λs=>?_) λF=>?_
 . with_reducible and_intros
   iterate 2 omega
   have:=ZE i;simp;omega
   . refine⟨(0,X.1,X.2++[getD l (toNat (X.1:Int)) []],X.1),?_⟩;try dsimp only
     with_reducible and_intros
     omega;with_reducible rfl
     exact aGx i s;omega
   intro c h;refine⟨?_,?_,?_,?_⟩;iterate 2 omega
   . intro H;try simp at H
     with_reducible and_intros
     exact ao2 (Nx h) H j;iterate 2 omega
     refine⟨(c.1+1,c.2.1/2,S.comb c.2.2.1,X.1),?_⟩;try dsimp only
     with_reducible and_intros
     simp only[show toNat 1=1 by rfl];omega;with_reducible rfl
     exact(Kj (Nx h) H).1;omega;exact(Kj (Nx h) H).2.1
   intro n;try simp at n
   with_reducible and_intros
   iterate 2 omega
   refine⟨((X.1+1),(c.2.2.1)),?_⟩;try dsimp only
   with_reducible and_intros
   omega;with_reducible rfl
   exact aoX (Nx h) n;simp only[af,S.len];omega
 refine⟨?_,?_⟩;refine⟨(X.2),?_⟩;refine⟨?_,?_⟩;rfl;exact aGy i F r;intro t k;refine⟨?_,?_⟩;intro o;simp at o;refine⟨?_,?_⟩;have:=ao1 k;exact⟨w!,w!⟩;refine⟨(S.comb t),?_⟩;refine⟨?_,?_,?_⟩;rfl;exact(Uc k o).1;exact(Uc k o).2;grind[df,ao0]
def aJE(l:O)(h:S.small l):q85 (Lf (Bool.not (cP l)) ([]=kI l/\1=yk l) (eW l) (S.root l=kI l) (0=yk l)):=by
 refine au ?_;have i:l.length<=1099511627776:=h;grind[nt,kI,yk,eW,nf]
def aJF(n:Int):jM (mZ n 2 1099511627776) (0=S.split n) (∃(a:Nat×Int),1=a.2/\jy n a.2 a.1) (∀(x:Nat×Int),jy n x.2 x.1->q78 (2*x.2)/\q71 (decide (2*x.2<n)) (q78 (2*x.2)/\(∃(X:Nat×Int),2*x.2=X.2/\jy n X.2 X.1/\aQF (n-X.2) (n-x.2))) (x.2=S.split n)):=by
 refine au ?_;refine⟨?_,?_⟩;grind[ZD];intro H;simp at H;refine⟨?_,?_⟩;refine⟨(0,1),?_⟩;grind[Mf];intro X h;with_reducible and_intros
 iterate 2
  (have:=kh h;omega)
 . intro c;simp at c;with_reducible and_intros
   (have:=kh h;omega)
   omega;refine⟨(X.1+1,2*X.2),?_⟩;grind[kh,CR]
 grind[df,kh,Fj]
def aJG(m:Nat)(l:O)(d:S.len l<m+1)(h:eW l)(e:Vg.jE J.Dj l):q71 (aaT (oh l)) (aRn anG (S.root l)) (Lf (aP9 (oh l)) (((0:Int)<=0/\0<oh l)/\yb l 0=S.root l) True (an7 (S.split (oh l)) (oh l)) ((S.len (aRs l)<m/\eW (aRs l))/\anm (S.split (oh l)) (oh l) ((S.len (aRt l)<m/\eW (aRt l))/\aug (S.root (aRs l)++S.root (aRt l)) (pB 1 (S.root (aRs l)++S.root (aRt l))=S.root l)))):=by
 refine au ?_;refine⟨?_,?_⟩;intro f;refine⟨?_,?_⟩;exact Nat.zero_le _;grind[Ud]
 . intro a;simp only[df] at a;refine⟨?_,?_⟩;grind[iu,Ed]
   . intro c;simp at c;with_reducible and_intros
     trivial;first|omega|(have H:=iu h w!;omega)
     first|omega|(have H:=iu h w!;omega)
     first|omega|(have H:=iu h w!;grind[S.len])
     first|omega|(have H:=iu h w!;grind)
     first|omega|(have H:=iu h w!;omega)
     first|omega|(have H:=iu h w!;omega)
     first|omega|(have H:=iu h w!;grind[S.len])
     first|omega|(have H:=iu h w!;grind)
     first|omega|(have H:=iu h w!;grind)
     first|omega|(have H:=iu h w!;grind)
def aJH(l:O)(h:dj l):(∃(X:Nat),((0:Int)=X/\[]=fg l X)/\gU l X)/\(∀(x:Nat),aFx (gU l x) (decide (x<oh l)) 0 x (oh l) (az (yb l x)) (aHA (fg l x) [pB 0 (yb l x)]/\ajJ x (∃(a:Nat),anE x a (fg l x++[pB 0 (yb l x)]=fg l a) (gU l a) (S.len l))) (fg l x=S.leaves l)):=by
 refine au ?_;have d:=h.1;refine⟨?_,?_⟩
 . refine⟨(nat_lit 0:Nat),?_⟩;with_reducible and_intros
   rfl;rfl;first|omega|rfl|exact ga h (by assumption)|exact fh (by assumption)|exact fZ (by assumption)|grind[gU,af,S.len]|(omega)
 . intro X e;refine⟨?_,?_⟩
   . intro H;simp only[dt] at H;with_reducible and_intros
     first|omega|rfl|exact ga h (by assumption)|exact fh (by assumption)|exact fZ (by assumption)|(omega)|(omega)
     first|omega|rfl|exact ga h (by assumption)|exact fh (by assumption)|exact fZ (by assumption)|(omega)|(omega)
     first|omega|rfl|exact ga h (by assumption)|exact fh (by assumption)|exact fZ (by assumption)|(omega)|(omega)
     first|omega|rfl|exact ga h (by assumption)|exact fh (by assumption)|exact fZ (by assumption)|(omega)|(have:=Fk l X;simp;omega)
     first|omega|rfl|exact ga h (by assumption)|exact fh (by assumption)|exact fZ (by assumption)|(omega)|(omega)
     first|omega|rfl|exact ga h (by assumption)|exact fh (by assumption)|exact fZ (by assumption)|(omega)|(omega)
     . refine⟨(X+nat_lit 1),?_⟩;with_reducible and_intros
       first|omega|rfl|exact ga h (by assumption)|exact fh (by assumption)|exact fZ (by assumption)|(omega)|(omega)
       first|omega|rfl|exact ga h (by assumption)|exact fh (by assumption)|exact fZ (by assumption)|(omega)|(omega)
       first|omega|rfl|exact ga h (by assumption)|exact fh (by assumption)|exact fZ (by assumption)|(simp[gU,af,S.len] at *;omega)|(omega)
       first|omega|rfl|exact ga h (by assumption)|exact fh (by assumption)|exact fZ (by assumption)|(simp[gU,af,S.len] at *;omega)|(omega)
   intro c;simp only[df] at c;first|omega|rfl|exact ga h (by assumption)|exact fh (by assumption)|exact fZ (by assumption)|(omega)|(omega)
def aJI(n:Int):jM (mZ n 2 1099511627776) (0=S.split n) (∃(a:Nat×Int),1=a.2/\jy n a.2 a.1) (∀(x:Nat×Int),jy n x.2 x.1->q78 (2*x.2)/\q71 (decide (2*x.2<n)) (q78 (x.2*2)/\(∃(X:Nat×Int),x.2*2=X.2/\jy n X.2 X.1/\aQF (n-X.2) (n-x.2))) (x.2=S.split n)):=by
 refine au ?_;refine⟨?_,?_⟩;grind[ZD];intro H;simp at H;refine⟨?_,?_⟩;refine⟨(0,1),?_⟩;grind[Mf];intro X h;with_reducible and_intros
 iterate 2
  (have:=kh h;omega)
 . intro c;simp at c;with_reducible and_intros
   (have:=kh h;omega)
   omega;refine⟨(X.1+1,2*X.2),?_⟩;grind[kh,CR]
 grind[df,kh,Fj]
def aJJ(l:O)(i:Int)(e:eX l):q85 (jM (ct (Bool.not (cP l)) (oZ i 0 (oh l))) ([]=oz l i/\1=tF l i) (∃(c:O×Int×O),(l=c.1/\i=c.2.1/\[]=c.2.2)/\gD l i c) (∀(x:O×Int×O),gD l i x->Lf (decide (1<oh x.1)) (q85 (Lf (decide (x.2.1<aFZ x)) (anm (aFZ x) (oh x.1) (eW (aRH x)/\length x.2.2+length [S.root (aRH x)]<=8796093022208/\anm (aFZ x) (oh x.1) (∃(X:O×Int×O),(aRG x=X.1/\x.2.1=X.2.1/\x.2.2++[S.root (aRH x)]=X.2.2)/\gD l i X/\S.len X.1<S.len x.1))) (an7 (aFZ x) (oh x.1)) (eW (aRG x)) (length x.2.2+length [S.root (aRG x)]<=8796093022208/\anm (aFZ x) (oh x.1) (q78 (x.2.1-aFZ x)/\(∃(a:O×Int×O),(aRH x=a.1/\x.2.1-aFZ x=a.2.1/\x.2.2++[S.root (aRG x)]=a.2.2)/\gD l i a/\S.len a.1<S.len x.1))))) (S.small x.2.2) (Qq x.2.2=oz l i) (0=tF l i))):=by
 refine au ?_;have I:l.length<=1099511627776:=e;refine⟨?_,?_,?_⟩;trivial;intro f;grind[aGL];intro g;refine⟨?_,?_⟩;refine⟨((l),((i),([]))),?_⟩;grind[aly];intro X H;refine⟨?_,?_⟩
 . intro h;try simp only[dt] at h
   refine⟨?_,?_,?_⟩;trivial
   . intro j;with_reducible and_intros
     iterate 2
      (have q:=I1 I H h;omega)
     iterate 2
      (have q:=I1 I H h;grind)
     iterate 2
      (have q:=I1 I H h;omega)
     refine⟨((take (toNat (S.split (↑(length (X.1)):Int))) (X.1)),((X.2.1),(X.2.2++[S.root (drop (toNat (S.split (↑(length (X.1)):Int))) (X.1))]))),?_⟩;try dsimp only
     with_reducible and_intros
     iterate 3 rfl
     grind[aGM]
     (have q:=I1 I H h;omega)
   intro d;try simp only[df] at d
   with_reducible and_intros
   iterate 2
    (have q:=I1 I H h;omega)
   (have q:=I1 I H h;grind)
   (have q:=I1 I H h;exact q.2.2.2.1 _)
   iterate 4
    (have q:=I1 I H h;omega)
   refine⟨((drop (toNat (S.split (↑(length (X.1)):Int))) (X.1)),((X.2.1-S.split (↑(length (X.1)):Int)),(X.2.2++[S.root (take (toNat (S.split (↑(length (X.1)):Int))) (X.1))]))),?_⟩;try dsimp only
   with_reducible and_intros
   iterate 3 with_reducible rfl
   exact aGN I H h d
   (have q:=I1 I H h;omega)
 grind[df,aGO,avQ]
def aJK(l:U)(d:Vg.jE J.Di l):(∃(X:Nat),((0:Int)=X/\-1=cD l X)/\mu l X)/\(∀(x:Nat),mu l x->q71 (decide (x<q96 l)) (il 0 x (q96 l)/\anF (ct (decide (anL l x<=cD l x)) (decide (1000<=anL l x))) (false=aV l) x (∃(a:Nat),anE x a (anL l x=cD l a) (mu l a) (S.len l))) (true=aV l)):=by
 refine au ?_;have B:Vg.hlen l:=d.1.1;refine⟨?_,?_⟩;grind[vZ,avh];intro X e;refine⟨?_,?_⟩
 . intro h;simp only[dt] at h;with_reducible and_intros
   iterate 2 omega
   intro H;simp at H;exact akU h H;intro c;simp only[V.qF,df,tn] at c;with_reducible and_intros
   iterate 2 omega
   refine⟨(X+nat_lit 1),?_⟩;dsimp only;with_reducible and_intros
   omega;rw[lT,tn];exact S.Ū e h c;simp[af,S.len];omega
 grind[df,akV]
def aJL(l:U)(c:Vg.jE J.Di l):q85 (Lf (aF4 l) (1=qP l/\[]=jH l) (at7 anG) (∃(a:Nat),aPR a (-1=cD l a/\mq anG (length l)=b6 l a) (length l)) (∀(x:Nat),x<=length l->jM (decide ((x:Int)<length l)) (il 0 x (length l)/\q78 (anL l x-cD l x)/\q78 (anL l x-cD l x-1)/\at7 anG/\aua (b6 l x) (mq anG (anL l x-cD l x-1))/\ajJ x (∃(X:Nat),anE x X (anL l x=cD l X/\b6 l x++mq anG (anL l x-cD l x-1)=b6 l X) (X<=length l) (S.len l))) (0=qP l) (b6 l x=jH l))):=by
 refine au ?_;have B:Vg.hlen l:=c.1.1;clear c;refine⟨?_,?_,?_⟩;trivial;grind[nt,qP,jH];intro h;try simp only[nf] at h
 refine⟨?_,?_,?_⟩;grind;grind[vZ,mz,Uf,Kl];intro X d;refine⟨?_,?_⟩
 . intro H;try simp only[dt] at H
   with_reducible and_intros
   iterate 2 omega
   iterate 4
    have:=Ee h H;omega
   exact S! _;have:=(ym h H (getD l (toNat (X:Int)) 0-cD l X-1)).1;omega;iterate 2 omega
   refine⟨(X+1),?_⟩;try dsimp only
   with_reducible and_intros
   omega;rw[lT,tn];exact P4 h H;omega;simp only[af,S.len];omega
 grind[df,qP,akW]
def aJM(l:U):q85 (Lf (ajD (qP l)) ([]=vY l/\qP l=qP l) (az (jH l)) (l7 2 (jH l)=vY l) (0=qP l)):=by
 refine au ?_;refine⟨?_,?_,?_⟩;trivial;grind[nt,df,aV,absurd,qP,vY];intro H;simp at H;refine⟨?_,?_,?_⟩
 have h:aV l=true:=by
  grind[aV,qP,absurd]
 have a:=Ax h;simp[jH,vY,h,Q?,az];omega
 have h:aV l=true:=by
  grind[aV,qP,absurd]
 simp_all[Ax,jH,vY,Q?,az]
 omega
def aJN(n:Int)(p q:Bool)(s S:Int):aMG s n (decide (n<S))=yl n s S/\s=s/\S=S:=by
 refine au ?_;grind[yl]
def aw1(a b:U)(s c:Int)(f:b.length=0):q85 (aj8 (∃(e:U×U),((bif aF4 a then([]:U) else a)=e.1/\(bif aF4 b then([]:U) else b)=sF/\[]=e.2/\s=s/\c=c)/\nv a s c e.1 e.2) (∀(x:U×U),nv a s c x.1 x.2->Lf (aPz (alC (q96 x.1)) 0 aPM) (ti (alC (q96 x.1)) (aPQ (aaT aPM) 0 (q96 x.1) aPM)/\ti (alC aPM) (aPQ (aaT (q96 x.1)) 0 aPM (q96 x.1))/\ti (aRr x) (aMO 0 (q96 x.1) 1)/\ti (aRq x) (aMO 0 aPM 1)/\aFy (yl (aSt x) s c) (aHJ x.2 [aSt x]/\(∃(X:U×U),(Dm (aRr x) 1 x.1=X.1/\Dm (aRq x) 1 sF=sF/\x.2++[aSt x]=X.2/\s=s/\c=c)/\nv a s c X.1 X.2/\S.len X.1<S.len x.1)) (∃(d:U×U),(Dm (aRr x) 1 x.1=d.1/\Dm (aRq x) 1 sF=sF/\x.2=d.2/\s=s/\c=c)/\nv a s c d.1 d.2/\S.len d.1<S.len x.1)) (s=s) (c=c) (x.2=P2 a s c))):=by
 refine au ?_;have g:b=[]:=List.eq_nil_of_length_eq_zero f;subst g;refine⟨trivial,trivial,?_,?_⟩;refine⟨(tA a,[]),⟨?_,?_,rfl,rfl,rfl⟩,avi a s c⟩;grind[tA,aV];rfl;rintro⟨r,o⟩ h;have i:=h.2;cases r with
 |nil=>grind[sF,akY]
 |cons n r=>
  simp[sF];refine⟨w!,λH=>⟨?_,?_⟩,λH=>?_⟩;grind;exact⟨r,o++[n],⟨rfl,rfl⟩,akX h H,by simp[S.len]⟩;exact⟨r,o,⟨rfl,rfl⟩,ao4 h H,by simp[S.len]⟩
def aw2(l:U)(s S:Int):length (Vg.pV Int)=0/\P2 l s S=P2 l s S:=by
 grind
def aw3(l:U)(H:aV l=true)(f:Vg.jE J.Di l):(0:Int)<=aFF l/\(∃(X:Nat),aPR X (S.num (aFF l)=b6 l X) (aFF l))/\(∀(x:Nat),x<=aFF l->q71 (decide ((x:Int)<aFF l)) (jM (aaT x) (((0:Int)<=0/\(0:Int)<aFF l)/\0<=anv l/\aQG (length (b6 l x)) (S.num (anv l))/\ajJ x (∃(a:Nat),anI (x+1) a (b6 l x++S.num (anv l)=b6 l a) (a<=aFF l) (S.len l) (af (S.len l) x))) (il 0 x (aFF l)) (aMK (x-1) 0 (aFF l) (q78 (aQn l x)/\q78 (aQn l x-1)/\0<=aQn l x-1/\aQG (length (b6 l x)) (S.num (aQn l x-1))/\ajJ x (∃(c:Nat),anI (x+1) c (b6 l x++S.num (aQn l x-1)=b6 l c) (c<=aFF l) (S.len l) (af (S.len l) x))))) (b6 l x=iH l)):=by
 refine au ?_;have B:Vg.hlen l:=f.1.1;refine⟨?_,?_,?_⟩;omega;grind[Kl]
 . intro X i;refine⟨?_,?_⟩
   . intro h;simp only[dt] at h;refine⟨?_,?_⟩
     . intro d;simp only[dt] at d;with_reducible and_intros
       omega;omega;have:=Ee H h;rw[show(X:Int)=0 by omega] at this;exact this.2.2;have:=(ym H h (getD l (toNat 0) 0)).2;omega;omega;omega
       . refine⟨(X+nat_lit 1),?_⟩;dsimp only;with_reducible and_intros
         omega;exact Wm d;omega;simp[af,S.len];omega
     . intro e;simp only[df] at e;with_reducible and_intros
       omega;omega;omega;omega;omega;omega
       iterate 5
        have:=Ee H h;rw[P3 w!];omega
       have:=(ym H h (getD l (toNat (X:Int)) 0-getD l (toNat ((X:Int)-1)) 0-1)).2;omega;omega;omega
       . refine⟨(X+nat_lit 1),?_⟩;dsimp only;with_reducible and_intros
         omega;exact ZF e;omega;simp[af,S.len];omega
   intro g;simp at g;rw[show X=l.length by omega];rfl
def aw4(l:U)(h:aV l=true):aV l/\aug (iH l) (pB 2 (iH l)=kl l):=by
 refine au ?_;refine⟨?_,?_,?_⟩;omega;grind[Ax,az];rfl
def aw5(a b:U)(e:Vg.jE J.Ra (a,b)):aMN (oD (q96 a) (q96 b)) (lG a b) (∃(c:Nat),(0:Int)=c/\xr a b c) (∀(x:Nat),MJ (xr a b x) (decide (x<q96 a)) 0 x (q96 a) (il 0 x (q96 b)/\anF (oD (getD a (toNat x) 0) (getD b (toNat x) 0)) (false=lG a b) x (∃(X:Nat),aub x X (xr a b X) (S.len a))) (true=lG a b)):=by
 refine au ?_;have A:Vg.hlen a:=e.1.1;refine⟨?_,?_⟩;grind[nt,df,ak0];intro f;simp at f;refine⟨?_,?_⟩;grind[avj];intro X g;refine⟨?_,?_⟩
 . intro h;simp only[dt] at h;with_reducible and_intros
   iterate 4 omega
   intro H;simp at H;exact akZ H;intro d;simp at d;with_reducible and_intros
   iterate 2 omega
   refine⟨(X+nat_lit 1),?_⟩;dsimp only;refine⟨?_,?_,?_⟩;omega;exact S.ū g h d;simp[af,S.len];omega
 grind[df,ak1]
def aw6(d:M (B8×U))(c:aW d):(∃(X:Nat),(0:Int)=X/\Mg d X)/\(∀(x:Nat),aFx (Mg d x) (decide (x<nD d)) 0 x (nD d) (ti (alC x) (q78 (x-1)/\il 0 (x-1) (nD d))) (ot (q81 (alC x) (aUn (aoh d x).1 (aoh d (x-1)).1)) (false=aK d) (nC (aaT (q96 (aoh d x).2)) (q85 (nC (aF4 (aoh d x).2) (S.small (aoh d x).1)))) (ct (aaT (q96 (aoh d x).2)) (xO (aF4 (aoh d x).2) (S.isTerm (aoh d x).1))) (q78 (x+1)) (∃(f:Nat),aub x f (Mg d f) (S.len d))) (true=aK d)):=by
 refine au ?_;have I:=c.1;refine⟨?_,?_⟩;grind[aM8];intro X i;refine⟨?_,?_⟩
 . intro a;simp only[dt] at a;with_reducible and_intros
   iterate 2 omega
   iterate 2 grind
   intro g;simp only[V.aEl,dt] at g;refine aeS a ((P5 _ _).2 (.inl ⟨w!,?_⟩));have e:toNat ((X:Int)-1)=X-1:=by omega
   have H:=g.2;rw[e] at H;exact H;intro h;simp only[V.V3,df] at h;with_reducible and_intros
   grind;intro j;refine⟨?_,?_,?_⟩;trivial;grind;intro l;exact ak2 c;intro k;simp only[V.Nb,dt,tn,nt] at k;exact aeS a ((P5 _ _).2 (.inr (k.imp (λq=>by grind[iD]) id)));intro o;simp at o;with_reducible and_intros
   iterate 2 omega
   refine⟨(X+nat_lit 1),?_⟩;dsimp only;refine⟨?_,?_,?_⟩;omega
   . refine ao5 i a ((qR _ _).2 ⟨?_,?_,o.2.1,o.2.2⟩);rotate_left;grind[iD];rcases h with h|h;omega;right;have e:toNat ((X:Int)-1)=X-1:=by omega
     rw[e] at h;exact h
   grind[af,S.len]
 grind[df,avk]
def aw7(l L a:B8):Lf (Jn 64 (q91 l) (Jn 64 (q91 L) (oD (length a) 32))) ([]=dw l L a/\1=kJ l L a) (oR anG l) (oR ([]++S.text l) L) (UU ([]++S.text l++S.text L) (length a)/\[]++S.text l++S.text L++a=dw l L a/\0=kJ l L a):=by
 refine au ?_;refine⟨?_,?_⟩;simp_all[V.Nb,dt,nt,df,S.ű,dw,kJ]
 intro h;simp only[V.qF,df,nf,dt] at h;apply SU;exact Mi (Nat.zero_le _) w!;have t:=zd (s:=l);exact Mi (by rw[List.nil_append];omega) w!;grind[CX,ta,zd,List.length_append,ln];have H:=CX h;simp only[dw,H,if_true];rfl;simp_all[CX,ta,zd,kJ,if_true]
def aw8(b:B8)(H:b.length<=140737488355328):bG b/\bG (ao b 0 0 64).1.1/\bG (abp b).1.1/\aFy (ajD (S.done (aL6 b).1.1 (aL6 b).1.2.1 (aL6 b).1.2.2)) ([]=(bg b).1.1/\[]=(bg b).1.2.1/\[]=(bg b).1.2.2/\S.done (aL6 b).1.1 (aL6 b).1.2.1 (aL6 b).1.2.2=(bg b).2) ((ao b 0 0 64).2=(bg b).1.1/\(abp b).2=(bg b).1.2.1/\(aL6 b).2=(bg b).1.2.2/\0=(bg b).2):=by
 refine au ?_;refine⟨H,?_,?_,trivial,λh=>?_,λh=>?_⟩;grind[CV];grind[CV];have a:(!decide (S.done (v7 b).1.1 (v7 b).1.2.1 (v7 b).1.2.2=0))=true:=h
 have e:bg b=(([],[],[]),S.done (v7 b).1.1 (v7 b).1.2.1 (v7 b).1.2.2):=by
  simp_all[bg,R!,L?]
 rw[e];exact⟨rfl,rfl,rfl,rfl⟩;have a:(!decide (S.done (v7 b).1.1 (v7 b).1.2.1 (v7 b).1.2.2=0))=false:=h
 have e:bg b=(((S.Ŭ b).2,(Wn b).2,(v7 b).2),0):=by
  grind[bg]
 rw[e];exact⟨rfl,rfl,rfl,rfl⟩
def aw9(d:M (B8×U))(H:aW d):aFA d (dg (Bool.not (aK d)) (1=dE d/\[]=bn d) (Li d+1) ((∃(a:Nat),aPR a ([]=eM d a) (Li d+1))/\(∀(x:Nat),x<=Li d+1->jM (decide ((x:Int)<Li d+1)) (ti (alC x) (aMK (x-1) 0 (Li d) (q78 (x-1)/\il 0 (x-1) (Li d)))/\ti (decide ((x:Int)<Li d)) (il 0 x (Li d))/\q85 (aj8 (aHz (length (eM d x)+length (Lh d x))) (ajJ x (∃(X:Nat),anE x X (eM d x++Lh d x=eM d X) (X<=Li d+1) (S.len d+1))))) (0=dE d) (eM d x=bn d)))):=by
 refine au ?_;have i:=H.1;refine⟨?_,?_,?_⟩;omega;grind[nt,dE,bn];intro h;simp at h;with_reducible and_intros
 iterate 2 omega
 . refine⟨(nat_lit 0:Nat),?_⟩;dsimp only;with_reducible and_intros
   omega;rfl;omega
 intro X f;refine V.dI (λg=>?_) λF=>?_
 . with_reducible and_intros
   . intro c;simp at c;with_reducible and_intros
     iterate 8 omega
   intro j;trivial;intro e;try simp at e
   refine⟨?_,?_⟩;omega;omega;intro k;trivial;iterate 2 trivial
   rw[Gq];simp;omega;iterate 2 omega
   refine⟨(X+nat_lit 1),?_⟩;try dsimp only
   with_reducible and_intros
   omega;rw[avn h w!,Mh];omega;simp[af,S.len];omega
 refine⟨?_,?_⟩;simp only[dE,h];rfl;simp[bn,h,Q?];rw[show X=d.length+1 by omega];rfl
def axa(d:M (B8×U))(c:aW d):aFA d (Lf (ajD (dE d)) ([]=pG d/\dE d=dE d) (dj (bn d)) (S.small (S.leaves (bn d))) (kI (S.leaves (bn d))=pG d/\yk (S.leaves (bn d))=dE d)):=by
 refine au ?_;refine⟨?_,?_,?_⟩;omega;grind[nt,df,pG,aM9];intro a;simp at a;refine⟨?_,?_,?_,?_⟩;have h:=IM a;have H:=kK c h;simp_all[bn,dW,if_true]
 have h:=IM a;have H:=kK c h;have e:bn d=dW d:=by simp_all[bn,Q?]
 rw[e];exact H.2.2;have h:=IM a;have H:=kK c h;have e:bn d=dW d:=by simp_all[bn,Q?]
 rw[e];simp[pG,kI,h,H.2.1,Q?];rfl;have h:=IM a;have H:=kK c h;have e:bn d=dW d:=by simp_all[bn,Q?]
 rw[e];simp[dE,yk,h,H.2.1,Q?]
def axb(d:M (B8×U))(t:B8)(c:aW d):aFA d (jM (Bool.not (aK d)) (-1=bo d t/\false=fE d t) (∃(a:Nat),aPR a (-1=dB d t a) (length d)) (∀(x:Nat),x<=length d->jM (decide ((x:Int)<length d)) (il 0 x (length d)/\ajJ x (∃(X:Nat),anE x X ((bif aUn (aoh d x).1 t then(x:Int) else dB d t x)=dB d t X) (X<=length d) (S.len d))) (ti (aut (dB d t x)) (il 0 (dB d t x) (length d))) ((bif aut (dB d t x) then dB d t x else dB d t x)=bo d t/\Ri (aut (dB d t x)) (aoh d (dB d t x)).1 t=fE d t))):=by
 refine au ?_;have i:=c.1;refine⟨?_,?_,?_⟩;omega;intro h;simp at h;refine⟨?_,?_⟩;exact(Ui h).1;exact(Ui h).2;intro H;simp at H;refine⟨?_,?_⟩
 . refine⟨(nat_lit 0:Nat),?_⟩;dsimp only;with_reducible and_intros
   omega;rfl;omega
 intro X f;refine V.dI (λg=>?_) λj=>?_
 . with_reducible and_intros
   iterate 4 omega
   refine⟨(X+nat_lit 1),?_⟩;dsimp only;with_reducible and_intros
   omega;exact avo d t X;omega;simp[af,S.len];omega
 with_reducible and_intros
 intro e;simp at e;refine⟨?_,?_⟩;omega;have:=(IL (d:=d) (t:=t) X).2;omega;intro k;trivial;rw[show X=d.length by omega,ao6 H];cases decide (0<=bo d t)<;>rfl;rw[show X=d.length by omega];exact ao7 H
def axc(d:M (B8×U))(t:B8)(h:aW d):aFA d (Lf (Bool.not (fE d t)) ([]=dN d t) (il 0 (bo d t) (nD d)) (S.small (aoh d (bo d t)).2) ((aoh d (bo d t)).2=dN d t)):=by
 refine au ?_;grind[nt,aeU,nf,Ef,avt]
def axd(d:O)(s a:Int)(g:Vg.jE J.Rc (d,s,a)):(∃(X:Nat),(0:Int)=X/\qQ d X)/\(∀(x:Nat),qQ d x->q71 (decide (x<oh d)) (il 0 x (oh d)/\anF (aL2 2000 (yb d x)) (false=dm d s a) x (∃(c:Nat),aub x c (qQ d c) (S.len d))) (aMG (oh d) 1000 (aMG 0 s (ku s a (oh d)))=dm d s a)):=by
 refine au ?_;have A:Vg.hlen d:=g.1.1;refine⟨?_,?_⟩;grind[xt]
 . intro X H;refine⟨?_,?_⟩
   . intro h;simp only[dt] at h;with_reducible and_intros
     first|omega|exact xt d|(omega)
     first|omega|exact xt d|(omega)
     intro e;simp at e;exact Ug h e
     . intro i;simp only[df,tn] at i;with_reducible and_intros
       first|omega|exact xt d|(omega)
       first|omega|exact xt d|(omega)
       refine⟨(X+nat_lit 1),?_⟩;dsimp only;refine⟨?_,?_,?_⟩;first|omega|exact xt d|(omega)
       exact P7 H h w!;first|omega|exact xt d|(simp[af,S.len];omega)
   intro f;simp only[df] at f;have q:=Uh H f;simp[dm,q,Bool.true_and,vV]
def axe(b t:B8)(h:S.small b):Rj b (decide (0<q96 (S.places b t))=ub b t):=by
 refine au ?_;refine⟨?_,?_⟩;omega;rfl
def axf(l L a:B8)(h:eR l L a=true):Rj l (Rj L (aua (S.text l) (S.text L)/\aua (S.text l++S.text L) a/\S.text l++S.text L++a=mc l L a)):=by
 refine au ?_;have q:=(ta _ _ _).1 h;have t:=zd (s:=l);have T:=zd (s:=L);apply SU;iterate 2 (grind[S.small])
 omega;grind;rfl
def axg(d:M (B8×U))(h:aW d/\aK d=true):(∃(X:Nat),(-(1:Int)=X-1/\[]=eM d X)/\X<=aFs d+1)/\(∀(x:Nat),x<=aFs d+1->q71 (decide ((x:Int)-1<aFs d)) (aV (Vg.pV Int)/\ti (aut (x-1)) (il 0 (x-1) (aFs d)/\il 0 (x-1) (aFs d)/\aV (aoh d (x-1)).2)/\q78 (x-1+1)/\ti (decide ((x:Int)-1+1<aFs d)) (q78 (x-1+1)/\il 0 (x-1+1) (aFs d))/\eR (aSA d x) (aSB d x) (aSz d x)/\aHz (length (eM d x)+length [mc (aSA d x) (aSB d x) (aSz d x)])/\q78 (x-1+1)/\(∃(a:Nat),((x:Int)-1+1=a-1/\eM d x++[mc (aSA d x) (aSB d x) (aSz d x)]=eM d a)/\a<=aFs d+1/\de (S.len d+1) a x)) (eM d x=dW d)):=by
 refine au ?_;have I:=h.1.1;refine⟨?_,?_⟩
 . refine⟨0,?_⟩;with_reducible and_intros
   rfl;rfl;omega
 . intro X m;refine⟨?_,?_⟩
   . intro H;simp at H;with_reducible and_intros
     rfl
     . intro g;simp at g;with_reducible and_intros
       first|omega|exact h.1|(omega)
       first|omega|exact h.1|(omega)
       first|omega|exact h.1|(omega)
       first|omega|exact h.1|(omega)
       have e:toNat ((X:Int)-1)=X-1:=by omega
       rw[e];exact(v8 h.2 (i:=X-1) w!).2
     intro n;trivial;first|omega|exact h.1|(omega)
     first|omega|exact h.1|(omega)
     . intro j;simp at j;with_reducible and_intros
       first|omega|exact h.1|(omega)
       first|omega|exact h.1|(omega)
       first|omega|exact h.1|(omega)
       first|omega|exact h.1|(omega)
     intro o;trivial;obtain⟨E,c,f⟩:=aeT d X;rw[E,c,f];rcases wa h.2 (k:=X) with q|q;exact q;omega;rw[Gq];simp;omega;first|omega|exact h.1|(omega)
     first|omega|exact h.1|(omega)
     . refine⟨X+1,?_⟩;with_reducible and_intros
       first|omega|exact h.1|(omega)
       obtain⟨E,c,f⟩:=aeT d X;rw[E,c,f];exact Mh d X;first|omega|exact h.1|(omega)
       first|omega|exact h.1|(simp[af,S.len];omega)
   intro l;simp at l;rw[show X=d.length+1 by omega];rfl
def axh(d:M (B8×U))(h:aW d/\aK d=true):aFA d (aK d=true)/\dj (dW d)/\eW (S.leaves (dW d))/\S.root (S.leaves (dW d))=oa d:=by
 refine au ?_;with_reducible and_intros
 grind;grind;grind[kK];grind[kK];rfl
def axi(a b:M (B8×U))(f:Vg.jE J.arf (a,b)):aMN (oD (nD a) (nD b)) (iZ a b) (∃(g:Nat),(0:Int)=g/\mv a b g) (∀(x:Nat),MJ (mv a b x) (decide (x<nD a)) 0 x (nD a) (il 0 x (nD b)/\jM (aI5 (getD a (toNat x) ([],[])).1 (getD b (toNat x) ([],[])).1) True (il 0 x (nD a)) (il 0 x (nD b)/\True)/\anF (xO (aI5 (getD a (toNat x) ([],[])).1 (getD b (toNat x) ([],[])).1) (lG (getD a (toNat x) ([],[])).2 (getD b (toNat x) ([],[])).2)) (false=iZ a b) x (∃(X:Nat),aub x X (mv a b X) (S.len a))) (true=iZ a b)):=by
 refine au ?_;have A:Vg.hlen a:=f.1.1;clear f;refine⟨?_,?_⟩;grind[nt,df,km,gC]
 . intro h;refine⟨?_,?_⟩;grind[km,gC]
   . intro X H;refine⟨?_,?_⟩
     . intro i;try simp only[dt] at i
       with_reducible and_intros
       first|omega|exact km h|exact gC h1|(omega)|(omega)
       first|omega|exact km h|exact gC h1|(omega)|(omega)
       first|omega|exact km h|exact gC h1|(omega)|(omega)
       first|omega|exact km h|exact gC h1|(omega)|(have:=H.1;omega)
       intro j;trivial
       . intro l;with_reducible and_intros
         first|omega|exact km h|exact gC h1|(omega)|(have:=H.1;omega)
         first|omega|exact km h|exact gC h1|(omega)|(omega)
         first|omega|exact km h|exact gC h1|(omega)|(omega)
         first|omega|exact km h|exact gC h1|(omega)|(have:=H.1;omega)
         trivial
       intro c;try simp only[V.Nb,nt,df,tn] at c
       refine S.ů (k:=X) λe=>?_;rw[e] at c;rcases c with q|q;exact q rfl;simp[lG] at q
       . intro d;try simp at d
         with_reducible and_intros
         first|omega|exact km h|exact gC h1|(omega)|(omega)
         first|omega|exact km h|exact gC h1|(omega)|(have:=H.1;omega)
         refine⟨(X+nat_lit 1),?_⟩;refine⟨?_,?_,?_⟩;first|omega|exact km h|exact gC h1|(simp only[af,S.len];omega)|(have:=H.1;omega)
         exact ZG H i (Prod.ext d.1 (by simpa[lG] using d.2));first|omega|exact km h|exact gC h1|(simp only[af,S.len];omega)|(have:=H.1;omega)
     grind[df,S.Ű]
def aXm(a b:O)(e:Vg.jE J.aOa (a,b)):aMN (oD (oh a) (oh b)) (auD a b) (∃(c:Nat),(0:Int)=c/\awX a b c) (∀(x:Nat),MJ (awX a b x) (decide (x<oh a)) 0 x (oh a) (il 0 x (oh b)/\anF (aI5 (EK a (toNat x)) (EK b (toNat x))) (false=auD a b) x (∃(X:Nat),aub x X (awX a b X) (S.len a))) (true=auD a b)):=by
 refine au ?_;have A:Vg.hlen a:=e.1.1;refine⟨?_,?_⟩;grind[nt,df,aS6];intro f;simp at f;refine⟨?_,?_⟩;grind[aVQ];intro X g;refine⟨?_,?_⟩
 . intro h;simp only[dt] at h;with_reducible and_intros
   iterate 4 omega
   intro H;simp at H;exact aS5 H;intro d;simp at d;with_reducible and_intros
   iterate 2 omega
   refine⟨(X+nat_lit 1),?_⟩;dsimp only;refine⟨?_,?_,?_⟩;omega;exact aSG g h d;simp[af,S.len];omega
 grind[df,aS7]
def axj(d:O)(s f:Int)(h:gb d s f):(∃(x:Nat),(s=s+x/\[]=b7 d s x)/\gf s f x)/\(∀(g:Nat),gf s f g->Lf (decide (s+g<f)) (il 0 (s+g) (oh d)/\S.small (yb d (s+g))/\aHA (b7 d s g) (S.sorted (aS (yb d (s+g))))/\q78 (s+g+1)/\(∃(r:Nat),(s+g+1=s+r/\b7 d s g++S.sorted (aS (yb d (s+g)))=b7 d s r)/\gf s f r/\de (toNat (f-s)) r g)) (S.small (b7 d s g)) (∃(u:Nat),((0:Int)=u/\[]=mS d s f u)/\gU (b8 d s f) u) (∀(i:Nat),gU (b8 d s f) i->q71 (decide ((i:Int)<aQo d s g)) (il 0 i (aQo d s g)/\toNat i<aQo d s g/\(∃(l:Nat×B8),(s=s+l.1/\aNN d s g i=l.2/\[]=bA d s l.2 l.1)/\gf s f l.1/\aNN d s g i=l.2)/\(∀(X:Nat×B8),gf s f X.1/\aNN d s g i=X.2->jM (decide (s+X.1<f)) (il 0 (s+X.1) (oh d)/\il 0 i (aQo d s g)/\toNat i<aQo d s g/\Rj (yb d (s+X.1)) (dg (ub (yb d (s+X.1)) (aNN d s g i)) (aHJ (bA d s X.2 X.1) [s+X.1]/\q78 (s+X.1+1)/\(∃(j:Nat×B8),(s+X.1+1=s+j.1/\X.2=j.2/\bA d s X.2 X.1++[s+X.1]=bA d s j.2 j.1)/\(gf s f j.1/\aNN d s g i=j.2)/\af (toNat (f-s)) j.1<af (toNat (f-s)) X.1)) (s+X.1+1) (∃(k:Nat×B8),(s+X.1+1=s+k.1/\X.2=k.2/\bA d s X.2 X.1=bA d s k.2 k.1)/\(gf s f k.1/\aNN d s g i=k.2)/\af (toNat (f-s)) k.1<af (toNat (f-s)) X.1))) (FE (length (mS d s f i)+length [(X.2,bA d s X.2 X.1)])) (ajJ i (∃(v:Nat),anE i v (mS d s f i++[(X.2,bA d s X.2 X.1)]=mS d s f v) (gU (b8 d s f) v) (S.len (b8 d s f)))))) (mS d s f i=S.make d s f))):=by
 refine au ?_;have P:=h.1;have p:=h.2.1;have z:=h.2.2.1;have A:=h.2.2.2.1;refine⟨?_,?_⟩;grind[bp,eh,b7,cK,ao8,gf]
 . intro x H;refine⟨?_,?_⟩
   . intro y;try simp only[dt] at y
     with_reducible and_intros
     first|omega|rfl|(have Q:=bp h x;have a:=eh (b7 d s x);have c:=cK H p;omega)
     first|omega|rfl|(have Q:=bp h x;have a:=eh (b7 d s x);have c:=cK H p;omega)
     exact P8 h _;have Q:=bp h x;have a:=CY h (toNat (s+(x:Int)));simp only[gf] at H;omega;first|omega|rfl|(have Q:=bp h x;have a:=eh (b7 d s x);have c:=cK H p;omega)
     first|omega|rfl|(have Q:=bp h x;have a:=eh (b7 d s x);have c:=cK H p;omega)
     . refine⟨x+1,?_⟩;try dsimp only
       with_reducible and_intros
       first|omega|rfl|(have Q:=bp h x;have a:=eh (b7 d s x);have c:=cK H p;omega)
       exact xu d s x;simp only[gf];omega;simp only[af];omega
   . intro n;try simp only[df] at n
     refine⟨?_,?_,?_⟩;have Q:=bp h x;simp only[gf] at H;simp only[S.small];omega
     . refine⟨(nat_lit 0:Nat),?_⟩;try dsimp only
       with_reducible and_intros
       first|omega|rfl|(have Q:=bp h x;have a:=eh (b7 d s x);have c:=cK H p;omega)
       first|omega|rfl|(have Q:=bp h x;have a:=eh (b7 d s x);have c:=cK H p;omega)
       exact S! _
     . intro i B;refine⟨?_,?_⟩
       . intro t;try simp only[dt] at t
         with_reducible and_intros
         first|omega|rfl|(have Q:=bp h x;have a:=eh (b7 d s x);have c:=cK H p;omega)
         first|omega|rfl|(have Q:=bp h x;have a:=eh (b7 d s x);have c:=cK H p;omega)
         first|omega|rfl|(have Q:=bp h x;have a:=eh (b7 d s x);have c:=cK H p;omega)
         . refine⟨(0,getD (S.sorted (b7 d s x)) (toNat (i:Int)) []),?_⟩;try dsimp only
           with_reducible and_intros
           first|omega|rfl|(have Q:=bp h x;have a:=eh (b7 d s x);have c:=cK H p;omega)
           first|omega|rfl|(have Q:=bp h x;have a:=eh (b7 d s x);have c:=cK H p;omega)
           exact ak4 _ _ _;simp only[gf];omega;first|omega|rfl|(have Q:=bp h x;have a:=eh (b7 d s x);have c:=cK H p;omega)
         . intro j m;refine⟨?_,?_⟩
           . intro F;try simp only[dt] at F
             with_reducible and_intros
             first|omega|rfl|(have Q:=bp h x;have a:=eh (b7 d s x);have c:=cK H p;omega)
             first|omega|rfl|(have Q:=bp h x;have a:=eh (b7 d s x);have c:=cK H p;omega)
             first|omega|rfl|(have Q:=bp h x;have a:=eh (b7 d s x);have c:=cK H p;omega)
             first|omega|rfl|(have Q:=bp h x;have a:=eh (b7 d s x);have c:=cK H p;omega)
             first|omega|rfl|(have Q:=bp h x;have a:=eh (b7 d s x);have c:=cK H p;omega)
             exact P8 h _
             . intro I;with_reducible and_intros
               have q:=Mj d s j.2 j.1;simp only[lc,ln];omega;first|omega|rfl|(have Q:=bp h x;have a:=eh (b7 d s x);have c:=cK H p;omega)
               first|omega|rfl|(have Q:=bp h x;have a:=eh (b7 d s x);have c:=cK H p;omega)
               . refine⟨(j.1+1,j.2),?_⟩;try dsimp only
                 with_reducible and_intros
                 first|omega|rfl|(have Q:=bp h x;have a:=eh (b7 d s x);have c:=cK H p;omega)
                 first|omega|rfl|(have Q:=bp h x;have a:=eh (b7 d s x);have c:=cK H p;omega)
                 rw[m.2] at I;exact CZ I;simp only[gf];omega;exact m.2;simp only[af];omega
             . intro K;with_reducible and_intros
               first|omega|rfl|(have Q:=bp h x;have a:=eh (b7 d s x);have c:=cK H p;omega)
               first|omega|rfl|(have Q:=bp h x;have a:=eh (b7 d s x);have c:=cK H p;omega)
               . refine⟨(j.1+1,j.2),?_⟩;try dsimp only
                 with_reducible and_intros
                 first|omega|rfl|(have Q:=bp h x;have a:=eh (b7 d s x);have c:=cK H p;omega)
                 first|omega|rfl|(have Q:=bp h x;have a:=eh (b7 d s x);have c:=cK H p;omega)
                 rw[m.2] at K;exact Gr K;simp only[gf];omega;exact m.2;simp only[af];omega
           . intro w;try simp only[df] at w
             with_reducible and_intros
             have q:=ZI d s f i;have Q:=bp h x;have a:=eh (b7 d s x);have c:=cK H p;simp only[lc,ln];omega;first|omega|rfl|(have Q:=bp h x;have a:=eh (b7 d s x);have c:=cK H p;omega)
             first|omega|rfl|(have Q:=bp h x;have a:=eh (b7 d s x);have c:=cK H p;omega)
             . refine⟨(i+nat_lit 1),?_⟩;try dsimp only
               with_reducible and_intros
               first|omega|rfl|(have Q:=bp h x;have a:=eh (b7 d s x);have c:=cK H p;omega)
               have e:=ze (docs:=d) H n;have o:=m.2;rw[e.1] at t o;exact IN w! (ze (docs:=d) m.1 w).2 o;have e:=ze (docs:=d) H n;rw[e.1] at t;simp only[gU,af,S.len];omega;have e:=ze (docs:=d) H n;rw[e.1] at t;simp only[gU,af,S.len];omega
       intro R;try simp only[df] at R
       have e:=ze (docs:=d) H n;rw[e.1] at R;exact Mk w!
def aPJ(d:M (B8×U))(H:Vg.jE J.Rb d):(∃(X:Nat),(0:Int)=X/\aGB d X)/\(∀(x:Nat),aFx (aGB d x) (decide (x<nD d)) 0 x (nD d) (nC (aL2 200 (aoh d x).1) (il 0 x (nD d))) (anF (aPz (aL2 200 (aoh d x).1) 200 (q96 (aoh d x).2)) (true=xw d) x (∃(a:Nat),aub x a (aGB d a) (S.len d))) (decide (100<nD d)=xw d)):=by
 refine au ?_;have A:Vg.hlen d:=H.1.1;clear H;refine⟨?_,?_⟩;refine⟨(nat_lit 0:Nat),?_⟩;try dsimp only
 refine⟨?_,?_⟩;omega;exact aNZ d;intro X c;refine⟨?_,?_⟩
 . intro h;try simp only[dt] at h
   with_reducible and_intros
   iterate 2 omega
   intro i;try simp only[dt,tn] at i
   trivial;intro j;try simp only[df,tn] at j
   refine⟨?_,?_⟩;omega;omega;intro e;try simp only[V.Nb,dt,tn] at e
   refine aw0 h ?_;simp only[aeV,Y?,dt];exact e;intro f;try simp only[V.qF,df,tn] at f
   with_reducible and_intros
   iterate 2 omega
   refine⟨(X+nat_lit 1),?_⟩;try dsimp only
   refine⟨?_,?_,?_⟩;omega;refine aq3 c h ?_;simp only[aeV,a?,df];exact f;simp only[af,S.len];omega
 intro g;try simp only[df] at g
 exact azc c g
def aPK(d:O)(H:Vg.jE J.af6 d):(∃(X:Nat),(0:Int)=X/\aGC d X)/\(∀(x:Nat),aGC d x->q71 (decide (x<oh d)) (il 0 x (oh d)/\anF (aL2 2500 (yb d x)) (true=Ny d) x (∃(a:Nat),aub x a (aGC d a) (S.len d))) (decide (40<oh d)=Ny d)):=by
 refine au ?_;have A:Vg.hlen d:=H.1.1;clear H;refine⟨?_,?_⟩;refine⟨(nat_lit 0:Nat),?_⟩;try dsimp only
 refine⟨?_,?_⟩;omega;exact aOg d;intro X c;refine⟨?_,?_⟩
 . intro h;try simp only[dt] at h
   with_reducible and_intros
   iterate 2 omega
   intro e;try simp only[dt,tn] at e
   exact aDH h e;intro f;try simp only[df,tn] at f
   with_reducible and_intros
   iterate 2 omega
   refine⟨(X+nat_lit 1),?_⟩;try dsimp only
   refine⟨?_,?_,?_⟩;omega;exact arM c h f;simp only[af,S.len];omega
 intro g;try simp only[df] at g
 exact aDI c g
def axk(s S:Int):aMG 0 s (q81 (decide (s<S)) (decide (S<=1000)))=me s S:=by
 refine au ?_;grind[me,vV]
def axl(a c:Int)(s:M (B8×U))(k:aW s)(g:Vg.jE J.aOb (a,c,s)):aj8 (nC (Bool.not (me a c)) (aW s)) (aMN (xO (Bool.not (me a c)) (aK s)) (eS a c s) (∃(X:Nat),(0:Int)=X/\xv a c s X) (∀(x:Nat),MJ (xv a c s x) (decide (x<nD s)) 0 x (nD s) (q85 (anF (oD (q96 (P2 (aoh s x).2 a c)) (q96 (aoh s x).2)) (false=eS a c s) x (∃(d:Nat),aub x d (xv a c s d) (S.len s)))) (true=eS a c s))):=by
 refine au ?_;have A:Vg.hlen s:=g.2.2.1.1;with_reducible and_intros
 trivial;iterate 2 grind
 intro H;simp at H;exact avq H;intro l;refine⟨?_,?_⟩;grind[aGA];intro i j;refine⟨?_,?_⟩
 . intro h;simp only[dt] at h;with_reducible and_intros
   iterate 2 omega
   trivial;intro e;simp at e;exact apc h (e? e);intro f;simp at f;with_reducible and_intros
   iterate 2 omega
   refine⟨(i+nat_lit 1),?_⟩;dsimp only;refine⟨?_,?_,?_⟩;omega;exact ak8 j h (decide_eq_true f);simp[af,S.len];omega
 grind[df,apd]
def axm(a c:Int)(s:M (B8×U))(h:aW s):aFA s (ot (Bool.not (eS a c s)) (0=(tB a c s).1.1/\0=(tB a c s).1.2.1/\0=(tB a c s).1.2.2.1/\[]=(tB a c s).1.2.2.2/\1=(tB a c s).2) (aW s) (ajD (dE s)) (q78 (nD s+1)) (a=(tB a c s).1.1/\c=(tB a c s).1.2.1/\nD s+1=(tB a c s).1.2.2.1/\pG s=(tB a c s).1.2.2.2/\0=(tB a c s).2)):=by
 refine au ?_;have i:=h.1;refine⟨?_,?_,?_⟩;omega;grind[nt,S.ų];intro H;refine⟨?_,?_,?_⟩;omega;grind[nt,df,Mm];grind[Mm]
def axn(S a s:Int)(c:B8):q85 (q81 (me S a) (aMG 1 s (aMG s 1099511627776 (decide (q91 c=32))))=ow S a s c):=by
 refine au ?_;grind[ow,vV]
def axo(d:O)(s S:Int):aFy (ajD (lH d s S).2) (0=(dp d s S).1.1/\0=(dp d s S).1.2.1/\[]=(dp d s S).1.2.2/\(lH d s S).2=(dp d s S).2) (q71 (decide (s=S)) (0=(dp d s S).1.1/\0=(dp d s S).1.2.1/\[]=(dp d s S).1.2.2/\1=(dp d s S).2) (s=(dp d s S).1.1/\S=(dp d s S).1.2.1/\(lH d s S).1=(dp d s S).1.2.2/\0=(dp d s S).2)):=by
 refine au ?_;simp_all[nt,df,ape,nf,dt,apg,aph]
def axp(l:M (Int×Int×Int×B8))(n:Int):aMN (aMU (length l)) (rE l n) (∃(a:Nat),((0:Int)=a/\0=S.rowAt l a)/\S.yU l a) (∀(x:Nat),aFx (S.yU l x) (decide ((x:Int)<length l)) 0 x (length l) (an5 (Bool.not (Bool.rec false (Bool.rec false (decide ((aov l x).2.2.2=(aov l x).2.2.2)) (decide ((aov l x).2.2.1=(aov l x).2.2.1))) (Bool.rec false (decide ((aov l x).2.1=(aov l x).2.1)) (decide ((aov l x).1=S.rowAt l x)))))) (anF (xO (Bool.not (Bool.rec false (Bool.rec false (decide ((aov l x).2.2.2=(aov l x).2.2.2)) (decide ((aov l x).2.2.1=(aov l x).2.2.1))) (Bool.rec false (decide ((aov l x).2.1=(aov l x).2.1)) (decide ((aov l x).1=S.rowAt l x))))) (ow (aov l x).1 (aov l x).2.1 (aov l x).2.2.1 (aov l x).2.2.2)) (false=rE l n) x (∃(X:Nat),anE x X ((aov l x).2.1=S.rowAt l X) (S.yU l X) (S.len l))) (decide (S.rowAt l x=n)=rE l n)):=by
 refine au ?_;refine V.dI (λc=>?_) λf=>?_;exact api c;refine⟨?_,?_⟩;grind[Qc,avr];intro X H;refine⟨?_,?_⟩
 . intro h;simp only[dt] at h;with_reducible and_intros
   iterate 2 omega
   intro g;trivial;intro i;trivial;intro d;refine alb H h (ZL ?_);simpa[Qb,sg] using d;intro e;with_reducible and_intros
   iterate 2 omega
   refine⟨(X+nat_lit 1),?_⟩;dsimp only;with_reducible and_intros
   omega;exact(ZK l X).symm;refine S.Ŵ H h (S.ŵ ?_);simpa[Qb,sg] using e;simp[af,S.len];omega
 grind[df,alc]
def axq(d:O)(s S:Int):q85 (q81 (dm d s S) (decide (s<S))=ajQ d s S):=by
 refine au ?_;grind[ajQ,vV]
def axr(d:O)(s a:Int)(h:gb d s a):gb d s a/\s=s/\a=a/\S.make d s a=S.make d s a:=by
 grind
def axs(S a:Int)(s:M (B8×U))(h:aW s/\aK s=true):aFA s (aK s=true)/\aFA s (aK s=true)/\S=(SO S a s).1/\a=(SO S a s).2.1/\oh (dW s)=(SO S a s).2.2.1/\oa s=(SO S a s).2.2.2:=by
 refine au ?_;with_reducible and_intros
 grind;grind;grind;grind;rfl;rfl;rfl;rfl
def axt(a A:Int)(c:M (B8×U))(b B:Int)(d:M (B8×U)):an5 (Bool.rec false (decide (A=B)) (decide (a=b)))/\q81 (Bool.rec false (decide (A=B)) (decide (a=b))) (iZ c d)=Az a A c b B d:=by
 refine au ?_;grind[Qb,Az,iZ,vV,Bool.and_assoc]
def aPL(S a:Int)(s:M (B8×U))(h:Vg.jE J.aOb (S,a,s)):aRV S a (s=s):=by
 refine au ?_;have A:Vg.hint S:=h.1;have c:Vg.hint a:=h.2.1;have d:Vg.hlen s:=h.2.2.1.1;clear h;refine⟨?_,?_,?_⟩;iterate 3 rfl
def axu(l:B8)(h:S.small l):(l=[]->[]=l)/\aua anG l/\[]++l=l:=by
 refine au ?_;refine⟨?_,?_,?_⟩;grind;simp[S.small,Vg.pV,ln] at *;omega;rfl
def axv(l:M (B8×U))(h:S.small l):(l=[]->[]=l)/\FE (length (Vg.pV (Prod B8 U))+length l)/\[]++l=l:=by
 refine au ?_;refine⟨?_,?_,?_⟩;grind;simp[S.small,Vg.pV,ln] at *;omega;rfl
def axw(a b:U)(g:Vg.jE J.Ra (a,b)):aMN (oD (q96 a) (q96 b)) (Kr a b) (∃(c:Nat),(0:Int)=c/\IY a b c) (∀(x:Nat),MJ (IY a b x) (decide (x<q96 a)) 0 x (q96 a) (il 0 x (q96 b)/\anF (oD (getD a (toNat x) 0) (getD b (toNat x) 0)) (false=Kr a b) x (∃(X:Nat),aub x X (IY a b X) (S.len a))) (true=Kr a b)):=by
 refine au ?_;have A:Vg.hlen a:=g.1.1;refine⟨?_,?_⟩;intro h;simp at h;exact(decide_eq_false (ZY h)).symm;intro H;simp at H;refine⟨?_,?_⟩;refine⟨(nat_lit 0:Nat),?_⟩;dsimp only;refine⟨?_,?_⟩;omega;exact apy H;intro X d;refine V.dI (λi=>?_) λj=>?_
 . with_reducible and_intros
   iterate 4 omega
   intro e;simp at e;exact(e? (ZZ 0 e)).symm;intro f;simp at f;with_reducible and_intros
   iterate 2 omega
   refine⟨(X+nat_lit 1),?_⟩;dsimp only;refine⟨?_,?_,?_⟩;omega;exact Uo 0 d i f;simp[af,S.len,dX,oU] at *;omega
 exact(L? (ZX d j)).symm
def axx(a:B8)(A:U)(b:B8)(B:U):an5 (decide (a=b))/\q81 (decide (a=b)) (Kr A B)=C6 a A b B:=by
 refine au ?_;simp_all[dt,df,C6,Kr,decide]
def axy(a b:M (B8×U))(g:Vg.Row.ok (Vg.TA.du [.dV (.slice [.str,.slice [.int .i64]]),.dV (.slice [.str,.slice [.int .i64]]),.fn (.func 214) [] []]) (a,b)):aMN (oD (nD a) (nD b)) (iZ a b) (∃(c:Nat),(0:Int)=c/\mv a b c) (∀(x:Nat),MJ (mv a b x) (decide (x<nD a)) 0 x (nD a) (il 0 x (nD b)/\q85 (anF (Bool.not (C6 (getD a (toNat x) ([],[])).1 (getD a (toNat x) ([],[])).2 (getD b (toNat x) ([],[])).1 (getD b (toNat x) ([],[])).2)) (false=iZ a b) x (∃(X:Nat),aub x X (mv a b X) (S.len a)))) (true=iZ a b)):=by
 refine au ?_;have A:Vg.hlen a:=g.1.1;refine⟨?_,?_⟩;intro h;simp at h;exact(decide_eq_false (ZY h)).symm;intro H;simp at H;refine⟨?_,?_⟩;refine⟨(nat_lit 0:Nat),?_⟩;dsimp only;refine⟨?_,?_⟩;omega;exact apy H;intro X d;refine V.dI (λi=>?_) λj=>?_
 . with_reducible and_intros
   iterate 4 omega
   trivial;intro e;simp at e;exact(e? (ZZ ([],[]) (avx e))).symm;intro f;simp at f;with_reducible and_intros
   iterate 2 omega
   refine⟨(X+nat_lit 1),?_⟩;dsimp only;refine⟨?_,?_,?_⟩;omega;exact Uo ([],[]) d i (avw f);simp[af,S.len,dX,oU] at *;omega
 exact(L? (ZX d j)).symm
def axz(a b:M (B8×U)):q85 (iZ a b=iZ a b):=by
 refine au ?_;grind
def axA(Y:O)(y:M (Int×Int×M (B8×U))):aMN (Jn 1000 (oh Y) (aMU (length y))) (aY Y y) (∃(e:Nat),(0:Int)=e/\Ql Y y e) (∀(X:Nat),Ql Y y X->jM (decide (X<oh Y)) (il 0 X (oh Y)/\anF (aL2 2000 (yb Y X)) (false=aY Y y) X (∃(a:Nat),aub X a (Ql Y y a) (S.len Y))) (∃(c:Nat),((0:Int)=c/\0=eu y c)/\wg Y y c) (∀(x:Nat),MJ (wg Y y x) (decide ((x:Int)<length y)) 0 x (length y) (Lf (ct (oD (alf y x 0).1 (eu y x)) (aPz (decide ((alf y x 0).2.1<=eu y x)) (oh Y) (alf y x 0).2.1)) (false=aY Y y) True (an5 (ajD (dp Y (alf y x 0).1 (alf y x 0).2.1).2)) (anF (xO (ajD (dp Y (alf y x 0).1 (alf y x 0).2.1).2) (iZ (dp Y (alf y x 0).1 (alf y x 0).2.1).1.2.2 (alf y x 0).2.2)) (false=aY Y y) x (∃(d:Nat),anE x d ((alf y x 0).2.1=eu y d) (wg Y y d) (S.len y)))) (true=aY Y y))):=by
 refine au ?_;refine⟨?_,?_⟩;intro H;simp at H;exact aNb H;intro m;simp at m;refine⟨?_,?_⟩;refine⟨(nat_lit 0:Nat),?_⟩;dsimp only;refine⟨?_,?_⟩;omega;exact⟨w!,w!,xt _⟩;intro a h;refine V.dI (λg=>?_) λn=>?_
 . with_reducible and_intros
   iterate 2 omega
   intro j;try simp only[dt,tn] at j
   exact aNc g j;intro q;try simp only[df,tn] at q
   with_reducible and_intros
   iterate 2 omega
   refine⟨(a+nat_lit 1),?_⟩;try dsimp only
   refine⟨?_,?_,?_⟩;omega;exact⟨h.1,h.2.1,P7 h.2.2 g w!⟩;simp only[af,S.len,dX,oU] at *;omega
 refine⟨?_,?_⟩
 . refine⟨(nat_lit 0:Nat),?_⟩;dsimp only;with_reducible and_intros
   omega;rfl;exact apz h n
 intro r f;refine⟨?_,?_⟩
 . intro i;simp only[dt] at i;with_reducible and_intros
   iterate 2 omega
   intro k;simp at k;exact NB i (aNd k);intro o;simp only[V.qF,nf,dt,tn,df] at o;with_reducible and_intros
   trivial;intro s;trivial;intro G;trivial;intro l;simp at l;exact NB i (aNe f o l);intro R;simp at R;with_reducible and_intros
   iterate 2 omega
   refine⟨(r+nat_lit 1),?_⟩;try dsimp only
   with_reducible and_intros
   omega;exact Up _ _;exact Z0 f i (aNf f o R);simp[af,S.len,dX,oU] at *;omega
 grind[df,ae1]
def axB(y:O)(Y:M (Int×Int×M (B8×U))):aFy (Bool.not (aY y Y)) ([]=(ak y Y).1/\[]=(ak y Y).2) (y=(ak y Y).1/\Y=(ak y Y).2):=by
 refine au ?_;grind[nt,Z1,nf,iK]
def axC(Y:O)(y:M (Int×Int×M (B8×U)))(h:Vg.jE J.arj (Y,y)):dg (aaT (length y)) (0=dD y) (length y-1) (il 0 (length y-1) (length y)/\(alf y (length y-1) 0).2.1=dD y):=by
 refine au ?_;have w:Vg.hlen y:=h.2.1.1;refine V.dI (λH=>?_) λa=>?_;exact aGF H;with_reducible and_intros
 iterate 4 omega
 exact aGG a
def axD(Y:O)(y:M (Int×Int×M (B8×U)))(H:xC Y y)(j:Vg.jE J.arj (Y,y)):aRm 0 (oh Y) ((24:Nat):Int)/\aRm 0 (length y) ((40:Nat):Int)/\(∃(g:Nat),((0:Int)=g/\replicate (toNat (oh Y)) anG=eA anG Y g)/\dX Y g)/\(∀(c:Nat),dX Y c->jM (decide (c<oh Y)) (il 0 c (oh Y)/\S.small (EK Y (toNat c))/\il 0 c (length (eA anG Y c))/\toNat c<length (eA anG Y c)/\ajJ c (∃(k:Nat),anE c k (List.set (eA anG Y c) (toNat c) (EK Y (toNat c))=eA anG Y k) (dX Y k) (S.len Y))) (∃(l:Nat),((0:Int)=l/\replicate (toNat (length y)) (0,0,[])=eA (0,0,[]) y l)/\dX y l) (∀(x:Nat),dX y x->jM (decide ((x:Int)<length y)) (il 0 x (length y)/\S.small (aGh y x).2.2/\il 0 x (length (eA (0,0,[]) y x))/\toNat x<length (eA (0,0,[]) y x)/\(∃(d:Nat×Nat×M aB),((0:Int)=d.1/\List.set (eA (0,0,[]) y x) (toNat x) ((aGh y x).1,(aGh y x).2.1,[])=d.2.2/\toNat x=d.2.1/\(aGh y x).2.2=(aD y d.2.1).2.2)/\xD y d.2.2 d.2.1 d.1/\(x:Int)=d.2.1)/\(∀(X:Nat×Nat×M aB),xD y X.2.2 X.2.1 X.1/\(x:Int)=X.2.1->jM (decide (X.1<nD (aGh y x).2.2)) (il 0 X.1 (nD (aGh y x).2.2)/\il 0 x (length X.2.2)/\toNat x<length X.2.2/\toNat x=X.2.1/\S.small (getD (aGh y x).2.2 (toNat X.1) ([],[])).2/\il 0 X.1 (length (aD y X.2.1).2.2)/\toNat X.1<length (aD y X.2.1).2.2/\q78 (X.1+1)/\(∃(a:Nat×Nat×M aB),anI (X.1+1) a.1 (X.2.2=a.2.2/\X.2.1=a.2.1/\List.set (aD y X.2.1).2.2 (toNat X.1) ((getD (aD y X.2.1).2.2 (toNat X.1) ([],[])).1,(getD (aGh y x).2.2 (toNat X.1) ([],[])).2)=(aD y a.2.1).2.2) (xD y a.2.2 a.2.1 a.1/\(x:Int)=a.2.1) (oU y a.2.1) (af (oU y X.2.1) X.1))) (X.2.1<length X.2.2) (ajJ x (∃(m:Nat),anE x m (List.set X.2.2 X.2.1 ((getD X.2.2 X.2.1 (0,0,[])).1,(getD X.2.2 X.2.1 (0,0,[])).2.1,(aD y X.2.1).2.2)=eA (0,0,[]) y m) (dX y m) (S.len y))))) (eA anG Y c=Y) (eA (0,0,[]) y x=y))):=by
 refine au ?_;have D:Vg.hlen Y:=j.1.1;have w:Vg.hlen y:=j.2.1.1;clear j;with_reducible and_intros
 iterate 2 omega
 have:=H.1;omega;iterate 2 omega
 have:=H.2.1;omega;grind[ae2,af,S.len,dX,oU];intro g o;refine V.dI (λn=>?_) λr=>?_
 . with_reducible and_intros
   iterate 2 omega
   exact Z3 H _;omega;exact(Ej _ n).1;exact(Ej _ n).2;iterate 2 omega
   refine⟨(g+1),?_⟩;try dsimp only
   with_reducible and_intros
   omega;exact Z2 _ n;simp only[af,S.len,dX,oU] at *;omega;simp only[af,S.len,dX,oU] at *;omega
 refine⟨?_,?_⟩
 . refine⟨0,?_⟩;try dsimp only
   with_reducible and_intros
   omega;exact ae2 _ _;simp only[af,S.len,dX,oU] at *;omega
 intro x s;refine⟨?_,?_⟩
 . intro i;try simp only[dt] at i
   with_reducible and_intros
   iterate 2 omega
   exact(Gx H _).1;omega;exact(Ej _ i).1;exact(Ej _ i).2
   . refine⟨(0,((toNat (↑x:Int)),(List.set (eA ((0:Int),(0:Int),[]) y x) (toNat (↑x:Int)) ((getD y (toNat (↑x:Int)) ((0:Int),(0:Int),[])).1,((getD y (toNat (↑x:Int)) ((0:Int),(0:Int),[])).2).1,[])))),?_⟩;try dsimp only
     with_reducible and_intros
     omega;rfl;omega;rfl;exact aGH i;omega
   intro a h;refine⟨?_,?_⟩
   . intro f;try simp only[dt,tn] at f
     with_reducible and_intros
     omega;trivial;omega;have q:=h.1.2.2.1;have Q:=h.2;omega
     have q:=h.1.2.2.1;have t:=h.1.1;have Q:=h.2;omega
     omega;exact(Gx H _).2 _;omega
     iterate 2
      have e:x=a.2.1:=w!;subst e;first|exact f|exact Int.ofNat_lt.1 f
     omega;have q:=(Gx H x).1;exact alm q f;refine⟨((a.1+1),((a.2.1),(a.2.2))),?_⟩;try dsimp only
     with_reducible and_intros
     omega;rfl;omega;have e:x=a.2.1:=w!;subst e;exact S.DT _ _ _;have e:x=a.2.1:=w!;subst e;exact aln h.1 f;omega;have e:x=a.2.1:=w!;subst e;exact alo f
   intro I;with_reducible and_intros
   have q:=h.1.2.2.1;have Q:=h.2;omega
   iterate 2 omega
   refine⟨(x+1),?_⟩;try dsimp only
   with_reducible and_intros
   omega;have e:x=a.2.1:=w!;subst e;exact apA h.1;simp only[af,S.len,dX,oU] at *;omega;simp only[af,S.len,dX,oU] at *;omega
 grind[df,alk]
def axE(y:O)(Y:M (Int×Int×M (B8×U))):q85 (q85 (dD (ak y Y).2=iJ y Y)):=by
 refine au ?_;refine⟨?_,?_,?_⟩;iterate 2 trivial
 rfl
def axF(y:O)(Y:M (Int×Int×M (B8×U)))(d:B8):aFy (aL2 2000 d) ((ak y Y).1=(dF y Y d).1.1/\(ak y Y).2=(dF y Y d).1.2/\1=(dF y Y d).2) (Lf (decide ((1000:Int)<=length (ak y Y).1)) ((ak y Y).1=(dF y Y d).1.1/\(ak y Y).2=(dF y Y d).1.2/\3=(dF y Y d).2) (xC (ak y Y).1 (ak y Y).2) (S.small d) (aHz (length (ak y Y).1+length [d])/\(ak y Y).1++[d]=(dF y Y d).1.1/\(ak y Y).2=(dF y Y d).1.2/\0=(dF y Y d).2)):=by
 refine au ?_;refine⟨?_,?_,?_⟩;trivial;simp_all[dt,aNg]
 intro h;refine⟨?_,?_⟩;simp_all[dt,aNh]
 grind[df,Mr,S.small,tg,List.length_singleton,aEr]
def axG(y:O)(Y:M (Int×Int×M (B8×U))):q85 (aFy (decide (dD (ak y Y).2=oh (ak y Y).1)) ((ak y Y).1=(bS y Y).1.1/\(ak y Y).2=(bS y Y).1.2/\5=(bS y Y).2) (jM (decide ((64:Int)<=length (ak y Y).2)) ((ak y Y).1=(bS y Y).1.1/\(ak y Y).2=(bS y Y).1.2/\3=(bS y Y).2) True (Lf (ajD (aGd y Y).2) ((ak y Y).1=(bS y Y).1.1/\(ak y Y).2=(bS y Y).1.2/\(aGd y Y).2=(bS y Y).2) (xC (ak y Y).1 (ak y Y).2) (FE (length (ak y Y).2+length [((aGd y Y).1.1,(aGd y Y).1.2.1,(aGd y Y).1.2.2)])) ((ak y Y).1=(bS y Y).1.1/\(ak y Y).2++[((aGd y Y).1.1,(aGd y Y).1.2.1,(aGd y Y).1.2.2)]=(bS y Y).1.2/\0=(bS y Y).2)))):=by
 refine au ?_;refine⟨?_,?_,?_,?_⟩;iterate 2 trivial
 simp_all[dt,aNi]
 intro h;refine⟨?_,?_⟩;simp_all[dt,aNj]
 intro H;refine⟨?_,?_,?_⟩;trivial;grind[nt,df,aEs];grind[Mr,tg,List.length_singleton,aNk]
def axH(y:O)(Y:M (Int×Int×M (B8×U)))(h:Vg.jE J.arj (y,Y)):aj8 ((0:Int)<=0/\an7 (length (ak y Y).2) (aST ((40:Nat):Int))) ((∃(X:Nat),aPR X (replicate (toNat 0) (0,0,0,[])=fC y Y X) (gL y Y))/\(∀(x:Nat),aFx (x<=gL y Y) (decide ((x:Int)<length (ak y Y).2)) 0 x (length (ak y Y).2) (aW (aRp y Y x).2.2) (FE (length (fC y Y x)+length [((aGg y Y x).1,(aGg y Y x).2.1,(aGg y Y x).2.2.1,(aGg y Y x).2.2.2)])/\ajJ x (∃(a:Nat),anE x a (fC y Y x++[((aGg y Y x).1,(aGg y Y x).2.1,(aGg y Y x).2.2.1,(aGg y Y x).2.2.2)]=fC y Y a) (a<=gL y Y) (gL y Y))) (fC y Y x=ya y Y))):=by
 refine au ?_;have D:Vg.hlen y:=h.1.1;have w:Vg.hlen Y:=h.2.1.1;clear h;with_reducible and_intros
 trivial;iterate 2 omega
 grind[tg]
 . refine⟨0,?_⟩;try dsimp only
   with_reducible and_intros
   omega;rfl;omega
 intro X c;refine⟨?_,?_⟩
 . intro H;try simp only[dt] at H
   with_reducible and_intros
   iterate 2 omega
   exact(zl y Y (k:=X) w!).2;have:=IZ y Y X;simp only[List.length_singleton];omega;omega;have:=(tg y Y).2.1;omega;refine⟨(X+1),?_⟩;try dsimp only
   with_reducible and_intros
   omega;exact Z4 H;simp only[gL,af] at *;omega;simp only[gL,af] at *;omega
 grind[df,ae3]
def axI(Y:O)(y:M (Int×Int×M (B8×U))):q85 (aMN (aPz (Bool.not (dm Y 0 0)) 64 (length y)) (aY Y y) (∃(a:Nat),(0:Int)=a/\wg Y y a) (∀(x:Nat),aFx (wg Y y x) (decide ((x:Int)<length y)) 0 x (length y) (q71 (aaT x) (nC (ajD (alf y x 0).1) (ti (alC x) (aMK (x-1) 0 (length y) (an5 (oD (alf y x 0).1 (alf y (x-1) 0).2.1))))) (ti (alC x) (aMK (x-1) 0 (length y) (an5 (oD (alf y x 0).1 (alf y (x-1) 0).2.1))))) (Lf (aSZ (aaT x) (ajD (alf y x 0).1) (aSZ (alC x) (oD (alf y x 0).1 (alf y (x-1) 0).2.1) (Bool.not (ajQ Y (alf y x 0).1 (alf y x 0).2.1)))) (false=aY Y y) (il 0 x (length y)) (gb Y (alf y x 0).1 (alf y x 0).2.1) (q85 (anF (Bool.not (Az (alf y x 0).1 (alf y x 0).2.1 (alf y x 0).2.2 (alf y x 0).1 (alf y x 0).2.1 (S.make Y (alf y x 0).1 (alf y x 0).2.1))) (false=aY Y y) x (∃(X:Nat),aub x X (wg Y y X) (S.len y))))) (true=aY Y y))):=by
 refine au ?_;refine⟨?_,?_,?_⟩;trivial;intro c;simp at c;exact aNl c;intro d;simp at d;refine⟨?_,?_⟩;refine⟨(nat_lit 0:Nat),?_⟩;dsimp only;refine⟨?_,?_⟩;omega;exact⟨d.1,w!,λi f=>absurd f (Nat.not_lt_zero i),Nat.zero_le _⟩;intro X g;refine⟨?_,?_⟩
 . intro H;simp only[dt] at H;with_reducible and_intros
   iterate 2 omega
   . intro k;refine⟨?_,?_⟩;intro l;trivial;intro m;refine V.dI (λn=>?_) λK=>?_
     . with_reducible and_intros
       iterate 4 omega
       intro F;trivial;intro I;trivial
     trivial
   . intro o;refine V.dI (λr=>?_) λR=>?_
     . with_reducible and_intros
       iterate 4 omega
       intro G;trivial;intro q;trivial
     trivial
   intro j;exact NB H (avy (S.apC.symm.trans j));intro e;with_reducible and_intros
   iterate 2 omega
   exact r7 (aEt (S.apC.symm.trans e)).2;trivial;intro h;simp at h;exact NB H (aGI h);intro u;simp at u;with_reducible and_intros
   iterate 2 omega
   refine⟨(X+nat_lit 1),?_⟩;dsimp only;refine⟨?_,?_,?_⟩;omega;exact Z0 g H (avz (aEt (S.apC.symm.trans e)) u);simp[af,S.len,dX,oU,gL] at *;omega
 grind[df,ae1]
def axJ(y:O)(Y:M (Int×Int×M (B8×U))):aFy (aY y Y) (y=(ak y Y).1/\Y=(ak y Y).2) ([]=(ak y Y).1/\[]=(ak y Y).2):=by
 refine au ?_;grind[iK,Z1]
def axK(y:O)(Y:M (Int×Int×M (B8×U)))(h:Vg.jE J.arj (y,Y)):aj8 (∃(X:Nat),aPR X (0=eu (ak y Y).2 X) (gL y Y)) (∀(x:Nat),MJ (x<=gL y Y) (decide ((x:Int)<length (ak y Y).2)) 0 x (length (ak y Y).2) (ajJ x (∃(a:Nat),anE x a ((getD (ak y Y).2 (toNat x) (0,0,[])).2.1=eu (ak y Y).2 a) (a<=gL y Y) (gL y Y))) (eu (ak y Y).2 x=iJ y Y)):=by
 refine au ?_;have D:Vg.hlen y:=h.1.1;have w:Vg.hlen Y:=h.2.1.1;clear h;refine⟨?_,?_,?_⟩;trivial
 . refine⟨(nat_lit 0:Nat),?_⟩;try dsimp only
   with_reducible and_intros
   omega;rfl;omega
 intro X c;refine⟨?_,?_⟩
 . intro H;try simp only[dt] at H
   with_reducible and_intros
   iterate 3 omega
   have:=(tg y Y).2.1;omega;refine⟨(X+nat_lit 1),?_⟩;try dsimp only
   with_reducible and_intros
   omega;exact Up _ _;simp only[af,S.len,dX,oU,gL] at *;omega;simp only[af,S.len,dX,oU,gL] at *;omega
 grind[df,alq]
def axL(y:O)(Y:M (Int×Int×M (B8×U)))(h:Vg.jE J.arj (y,Y)):aj8 (∃(X:Nat),aPR X ([]=fC y Y X) (gL y Y)) (∀(x:Nat),aFx (x<=gL y Y) (decide ((x:Int)<length (ak y Y).2)) 0 x (length (ak y Y).2) (aW (aQp y Y x).2.2/\aK (aQp y Y x).2.2) (FE (length (fC y Y x)+length [((aHr y Y x).1,(aHr y Y x).2.1,(aHr y Y x).2.2.1,(aHr y Y x).2.2.2)])/\ajJ x (∃(a:Nat),anE x a (fC y Y x++[((aHr y Y x).1,(aHr y Y x).2.1,(aHr y Y x).2.2.1,(aHr y Y x).2.2.2)]=fC y Y a) (a<=gL y Y) (gL y Y))) (fC y Y x=ya y Y)):=by
 refine au ?_;have D:Vg.hlen y:=h.1.1;have w:Vg.hlen Y:=h.2.1.1;clear h;refine⟨?_,?_,?_⟩;trivial
 . refine⟨(nat_lit 0:Nat),?_⟩;try dsimp only
   with_reducible and_intros
   omega;rfl;omega
 intro X c;refine⟨?_,?_⟩
 . intro H;try simp only[dt] at H
   with_reducible and_intros
   iterate 2 omega
   exact(zl y Y (k:=X) w!).2;exact Qm (zl y Y (k:=X) w!).1;have:=IZ y Y X;simp only[List.length_singleton];omega;omega;have:=(tg y Y).2.1;omega;refine⟨(X+nat_lit 1),?_⟩;try dsimp only
   with_reducible and_intros
   omega;exact alr H;simp only[af,S.len,dX,oU,gL] at *;omega;simp only[af,S.len,dX,oU,gL] at *;omega
 grind[df,ae3]
def axM(Y:O)(y:M (Int×Int×M (B8×U)))(H:Gy y)(h:Vg.jE J.arj (Y,y)):(∃(X:Nat),((0:Int)=X/\Y=Y/\[]=take X y)/\dX y X)/\(∀(x:Nat),dX y x->jM (decide ((x:Int)<length y)) (il 0 x (length y)/\aj8 (FE (length (take x y)+length [((alf y x 0).1,(alf y x 0).2.1,(alf y x 0).2.2)])) (ajJ x (∃(a:Nat),anE x a (Y=Y/\take x y++[((alf y x 0).1,(alf y x 0).2.1,(alf y x 0).2.2)]=take a y) (dX y a) (S.len y)))) (Y=Y) (take x y=y)):=by
 refine au ?_;have w:Vg.hlen y:=h.2.1.1;refine⟨?_,?_⟩
 . refine⟨(nat_lit 0:Nat),?_⟩;dsimp only;with_reducible and_intros
   omega;iterate 2 rfl
   simp only[af,S.len,dX,gL,pL,pD] at *;omega
 intro X c;refine V.dI (λd=>?_) λe=>?_
 . with_reducible and_intros
   iterate 2 omega
   trivial;simp[C?,J?,Gy] at *;omega;iterate 2 omega
   refine⟨(X+nat_lit 1),?_⟩;dsimp only;with_reducible and_intros
   omega;rfl;exact(S.an y X (0,0,[]) w!).symm;simp[af,S.len,dX,gL,pL,pD] at *;omega;simp[af,S.len,dX,gL,pL,pD] at *;omega
 refine⟨?_,?_⟩;rfl;exact d? w!
def axN(Y:O)(y:M (Int×Int×M (B8×U)))(h:Vg.jE J.arj (Y,y)):(∃(X:Nat),(0:Int)=X/\C7 y X)/\(∀(x:Nat),C7 y x->jM (decide ((x:Int)<length y)) (il 0 x (length y)/\q85 (anF (xw (alf y x 0).2.2) (true=sG Y y) x (∃(a:Nat),aub x a (C7 y a) (S.len y)))) True (aPz (Ny Y) 100 (length y)=sG Y y)):=by
 refine au ?_;have D:Vg.hlen Y:=h.1.1;have w:Vg.hlen y:=h.2.1.1;clear h;refine⟨?_,?_⟩;refine⟨(nat_lit 0:Nat),?_⟩;try dsimp only
 refine⟨?_,?_⟩;omega;exact aNm _;intro X c;refine⟨?_,?_⟩
 . intro H;try simp only[dt] at H
   with_reducible and_intros
   iterate 2 omega
   trivial;intro e;exact avA H e;intro f;with_reducible and_intros
   iterate 2 omega
   refine⟨(X+nat_lit 1),?_⟩;try dsimp only
   refine⟨?_,?_,?_⟩;omega;exact apD c H f;simp only[af,S.len,dX,gL,pL,pD] at *;omega
 intro d;try simp only[df] at d
 refine⟨?_,?_⟩;trivial;exact avB c d
def axO(y:Int)(Y:B8)(a:M (Int×Int×Int×B8)):ti (aut y) (ti (decide (y<=1000)) (an5 (decide (q91 Y=32))))/\q81 (aut y) (q81 (decide (y<=1000)) (q81 (decide (q91 Y=32)) (rE a y)))=cO y Y a:=by
 refine au ?_;grind[avI]
def axP(y:O)(Y:M (Int×Int×M (B8×U))):aj8 (an5 (Bool.not (aY y Y))) (Lf (ct (Bool.not (aY y Y)) (oD (iJ y Y) (oh y))) (aRW (gI y Y) 0 7) (dj y) (S.small (S.leaves y)) (jM (ajD (yk (S.leaves y))) (aRW (gI y Y) 0 (yk (S.leaves y))) True (oh y=(gI y Y).1.1/\kI (S.leaves y)=(gI y Y).1.2.1/\ya y Y=(gI y Y).1.2.2/\0=(gI y Y).2))):=by
 refine au ?_;with_reducible and_intros
 trivial;iterate 2 grind
 simp_all[V.Nb,nt,df,avJ]
 intro h;simp at h;refine⟨?_,?_,?_,?_⟩;grind[GF];exact(GF h.1).2;grind[nt,df,S.À];simp_all[nf,dt,Z9,S.À]
def axQ(v q:Int)(h:gi v=false/\q=0):jM (aaT q) (at7 anG/\yW v=0/\mq anG v=S.num v) (q=0) ([]=S.num v):=by
 refine au ?_;refine⟨?_,?_⟩;grind[aEu];grind
def axR(v q:Int)(l:B8)(h:gi v=false/\q=0/\l.length<=35184372088832):jM (aaT q) (at7 l/\yW v=0/\mq l v=l++S.num v) (q=0) (l=l++S.num v):=by
 refine au ?_;refine⟨?_,?_⟩;grind[aEu];grind
def axS(d l:B8)(h:l.length<=35184372088832/\d.length<=35184372088832):aua l d/\l++d=l++d:=by
 refine au ?_;grind
def axT(Y:Int)(a:B8)(y:M (Int×Int×Int×B8))(d:Vg.jE J.af7 (Y,a,y)):q85 (Lf (Bool.not (cO Y a y)) (1=(hW Y a y).2/\[]=(hW Y a y).1) (gi Y=false/\auG) (at7 (S.num Y)/\at7 a) ((gi (length y)=false/\(0:Int)=0/\at7 (S.num Y++a))/\(∃(c:Nat),((0:Int)=c/\S.num Y++a++S.num (length y)=tE Y a y c/\auG)/\Fp Y a y c)/\(∀(x:Nat),aFx (Fp Y a y x) (decide ((x:Int)<length y)) 0 x (length y) (gi (aFV y x).1=false/\(0:Int)=0/\at7 (tE Y a y x)) ((gi (aFV y x).2.1=false/\(0:Int)=0/\at7 (tE Y a y x++S.num (aFV y x).1))/\(at7 (tE Y a y x++S.num (aFV y x).1++S.num (aFV y x).2.1)/\at7 (aFV y x).2.2)/\ajJ x (∃(X:Nat),anE x X (tE Y a y x++S.num (aFV y x).1++S.num (aFV y x).2.1++(aFV y x).2.2=tE Y a y X/\auG) (Fp Y a y X) (S.len y))) (q71 (MH 0) (0=(hW Y a y).2/\[]=(hW Y a y).1) (0=(hW Y a y).2/\tE Y a y x=(hW Y a y).1))))):=by
 refine au ?_;have A:Vg.hlen y:=d.2.2.1.1;clear d;refine⟨?_,?_,?_⟩;trivial;grind[nt,aai];intro e;try simp at e
 with_reducible and_intros
 grind[jq,Qo];rfl;grind[cU];grind[jq];grind[sb,jq,Qo];rfl;grind[cU,jq,List.length_append]
 . refine⟨0,?_⟩;try dsimp only
   with_reducible and_intros
   omega;grind[aEv];rfl;exact⟨e,Nat.zero_le _⟩
 intro X h;refine⟨?_,?_⟩
 . intro H;try simp only[dt] at H
   with_reducible and_intros
   iterate 2 omega
   exact(GG h H).1;rfl;have:=Em h;omega;exact(GG h H).2.1;rfl;have q:=Em h;have Q:=cU (y.getD (toNat (X:Int)) (0,0,0,[])).2.1;simp only[J!];omega
   have q:=Em h;have Q:=cU (y.getD (toNat (X:Int)) (0,0,0,[])).2.1;have f:=cU (y.getD (toNat (X:Int)) (0,0,0,[])).2.2.1;simp only[J!];omega
   exact b? (Nat.le_of_eq (GG h H).2.2) (by decide);iterate 2 omega
   refine⟨(X+1),?_⟩;try dsimp only
   with_reducible and_intros
   omega;exact S.Á H;rfl;exact⟨h.1,w!⟩;simp only[af,S.len];omega
 simp_all[df,nt,nf,dt,NC,WB]
def axU(r:B8)(R a:Int)(h:r.length<=140737488355328):bG r/\(ag r R a).2=(ag r R a).2/\(ag r R a).1.1=r/\aqJ (ag r R a).1.2.1 (ag r R a).1.2 (ag r R a).1.2.2:=by
 refine au ?_;grind[Ek]
def axV(r:B8)(R a:Int)(h:r.length<=140737488355328):bG r/\(aF r R a).2=(aF r R a).2/\(aF r R a).1.1=r/\aqJ (aF r R a).1.2.1 (aF r R a).1.2 (aF r R a).1.2.2:=by
 refine au ?_;simp_all[Ek]
def axW(a:Int)(r:B8)(R c:Int)(h:r.length<=140737488355328):bG r/\bG r/\bG r/\a=a/\(ag r R c).2=(wj r R c a).2.2.1/\(Lm r R c).2=(wj r R c a).2.2.2.1/\(Ln r R c).2=(wj r R c a).2.2.2.2/\(ag r R c).2=(wj r R c a).2.2.1/\0=0/\0=0/\r=r/\aqJ (Ln r R c).1.2.1 (wj r R c a).1 (Ln r R c).1.2.2:=by
 refine au ?_;with_reducible and_intros
 iterate 3 omega
 iterate 10 rfl
def axX(b:B8)(j:b.length<=140737488355328):bG b/\bG b/\bG b/\jM (aMU (abu b).2) (aRW (hR b) 0 2) (∃(a:Nat),((0:Int)=a/\b=b/\(abu b).1.2.1=(jP b a).1.1/\(abu b).1.2.2=(jP b a).1.2/\0=(jP b a).2.1/\0=0/\0=0/\(ag b 0 0).2=(Ll b).1/\(mi b).2=(Ll b).2.1/\[]=(jP b a).2.2)/\a<=pN b/\(Ll b).2.2<=64) (∀(x:Nat),x<=pN b/\(Ll b).2.2<=64->jM (decide (x<(abu b).2)) (bG b/\FE (length (jP b x).2.2+length (aTs b x))/\ajJ x (∃(X:Nat),anE x X (b=b/\(aM7 b x).1.1=(jP b X).1.1/\(aM7 b x).1.2=(jP b X).1.2/\(aM7 b x).2.2.1=(jP b X).2.1/\0=0/\0=0/\(Ll b).1=(Ll b).1/\(Ll b).2.1=(Ll b).2.1/\(jP b x).2.2++aTs b x=(jP b X).2.2) (X<=pN b/\(Ll b).2.2<=64) (pN b))) True (jM (ajD (S.done b (jP b x).1.1 (jP b x).1.2)) (aRW (hR b) 0 (S.done b (jP b x).1.1 (jP b x).1.2)) True (q71 (Bool.not (cO (Ll b).1 (Ll b).2.1 (jP b x).2.2)) (aRW (hR b) 0 2) ((Ll b).1=(hR b).1.1/\(Ll b).2.1=(hR b).1.2.1/\(jP b x).2.2=(hR b).1.2.2/\0=(hR b).2)))):=by
 refine au ?_;apply SU;iterate 3 omega
 intro h1;simp at h1;refine⟨?_,?_,?_,?_⟩;iterate 3 (rw[Z8 h1])
 rw[Z8 h1];intro h;simp only[df] at h;refine⟨?_,?_⟩
 . refine⟨(nat_lit 0:Nat),?_⟩;dsimp only;with_reducible and_intros
   omega;iterate 9 rfl
   omega;exact Int.not_lt.1 h
 intro X H;refine V.dI (λe=>?_) λc=>?_
 . with_reducible and_intros
   omega;have q:=aGJ b X;have Q:=H.2;have i:(X:Int)<(iA b).1.2.2:=e;simp only[J?];omega
   omega;have Q:=H.2;have i:(X:Int)<(iA b).1.2.2:=e;omega
   refine⟨(X+nat_lit 1),?_⟩;try dsimp only
   with_reducible and_intros
   omega;iterate 9 rfl
   exact apJ e;omega;have q:=apJ e;simp only[af];omega
 refine⟨?_,?_,?_⟩;trivial;intro f;simp at f;refine⟨?_,?_,?_,?_⟩;iterate 3 (rw[aEw h H.1 c f])
 rw[aEw h H.1 c f];intro d;simp at d;refine⟨?_,?_,?_⟩;trivial;intro g;simp at g;refine⟨?_,?_,?_,?_⟩;iterate 3 (rw[aEx h H.1 c d g])
 rw[aEx h H.1 c d g];intro F;simp at F;refine⟨?_,?_,?_,?_⟩;iterate 3 (rw[aEy h H.1 c d F])
 rw[aEy h H.1 c d F]
def axY(y:O)(Y:M (Int×Int×M (B8×U))):aj8 (an5 (aY y Y)) (q81 (aY y Y) (decide (iJ y Y=oh y))=cy y Y):=by
 refine au ?_;grind[alu]
def axZ(y:O)(Y:M (Int×Int×M (B8×U)))(h:dj y):dj y/\eW (S.leaves y)/\q85 (oh y=S.len y/\S.root (S.leaves y)=S.root (S.leaves y)/\ya y Y=ya y Y):=by
 refine au ?_;apply cj6;omega;exact WA h;trivial;iterate 3 rfl
def ax0(d:M (B8×U))(t:B8)(h:aW d/\S.small t):aFA d (nC (ajD (dE d)) (S.small t)/\jM (xO (ajD (dE d)) (S.isTerm t)) (q55 (wv d t) 0 [] [] [] [] [] 1) (aW d) (anS (bo d t+1) 0 (length (bn d)) (toNat (bo d t+1)<length (bn d)) (bG (aMq d t)/\dj (bn d)/\eX (S.leaves (bn d))/\q71 (fE d t) (aFA d (q85 (q55 (wv d t) (bo d t+1) (bg (aMq d t)).1.1 (bg (aMq d t)).1.2.1 (bg (aMq d t)).1.2.2 (oz (S.leaves (bn d)) (bo d t+1)) (jH (dN d t)) 0))) (q55 (wv d t) (bo d t+1) (bg (aMq d t)).1.1 (bg (aMq d t)).1.2.1 (bg (aMq d t)).1.2.2 (oz (S.leaves (bn d)) (bo d t+1)) [] 0)))):=by
 refine au ?_;have i:=h.1;with_reducible and_intros
 omega;iterate 2 grind
 . intro H;simp at H;with_reducible and_intros
   iterate 6
    rw[afa w!];rfl
   grind[afa]
 intro a;simp at a;with_reducible and_intros
 omega
 iterate 2
  (have q:=S.Æ i (IM (And.left (by assumption))) t;omega)
 iterate 3 (simp_all[S.Æ,IM,And.left])
 (have q:=S.Æ i (IM (And.left (by assumption))) t;omega)
 iterate 2
  (have q:=S.Æ i (IM (And.left (by assumption))) t;grind)
 iterate 2 (simp_all[dE,S.isTerm,Qs,IM,aGP,Q!,R!])
def ax1(l:O)(m:S.small l):jM (decide ((aFv l:Int)<2)) (l=bU l) (∃(i:Nat),(1:Int)=i/\n4 l i) (∀(d:Nat),n4 l d->q71 (decide ((d:Int)<aFv l)) (il 0 d (aFv l)/\avD d<aFv l/\anS (d-1) 0 (aFv l) (toNat (d-1)<aFv l) (anF (decide (EK l (avD d)=EK l (toNat (d-1)))) (anm d (aFv l) ((∃(a:Nat×Nat×O×Nat),((d:Int)=a.1/\(1:Int)=a.2.1/\l=a.2.2.1)/\jG l a.2.2.2 a.1 a.2.1 a.2.2.1/\(d:Int)=a.2.2.2)/\(∀(x:Nat×Nat×O×Nat),jG l x.2.2.2 x.1 x.2.1 x.2.2.1/\(d:Int)=x.2.2.2->Lf (decide ((x.2.1:Int)<((aFv l-avD d:Nat):Int))) (il 0 x.2.1 ((aFv l-avD d:Nat):Int)/\avD d+toNat x.2.1<aFH x/\anS (x.2.1-1) 0 ((aFv l-avD d:Nat):Int) (avD d+toNat (x.2.1-1)<aFH x) (ti (aSD d x) (il 0 x.2.1 ((aFv l-avD d:Nat):Int)/\avD d+toNat x.2.1<aFH x/\il 0 x.1 (aFH x)/\aFY x<aFH x/\q78 (x.1+1))/\q78 (x.2.1+1)/\(∃(e:Nat×Nat×O×Nat),((bif aSD d x then(x.1:Int)+1 else(x.1:Int))=e.1/\(x.2.1:Int)+1=e.2.1/\(bif aSD d x then List.set x.2.2.1 (aFY x) (EK x.2.2.1 (avD d+toNat x.2.1)) else x.2.2.1)=e.2.2.1)/\(jG l e.2.2.2 e.1 e.2.1 e.2.2.1/\(d:Int)=e.2.2.2)/\de (S.len l) e.2.1 x.2.1))) (an7 x.1 (aFH x)) (aFY x+(aFH x-aFY x)<=aFH x) (anm x.1 (oh (aTP x)) (take (aFY x) (aTP x)=bU l))))) d (∃(j:Nat),aub d j (n4 l j) (S.len l)))) (l=bU l)):=by
 refine au ?_;have I:l.length<=1099511627776:=m;refine V.dI (λn=>?_) λy=>?_;exact PY n;refine⟨?_,?_⟩;grind[aoV];intro a o;refine⟨?_,?_⟩
 . intro r;try simp only[dt] at r
   with_reducible and_intros
   iterate 5 omega
   have:=o.1;omega;iterate 2 omega
   . intro s;try simp only[dt,tn] at s
     with_reducible and_intros
     iterate 2 omega
     refine⟨((a),(1,((l),(a)))),?_⟩;grind[aeQ];intro X h;refine⟨?_,?_⟩
     . intro t;try simp at t
       with_reducible and_intros
       iterate 2 omega
       have q:=h.1.1;have Q:=h.1.2.1;have f:=h.1.2.2.2.1;have g:=h.1.2.2.2.2.1;omega
       iterate 2 omega
       have q:=h.1.1;omega;omega;have q:=h.1.1;have Q:=h.1.2.1;have f:=h.1.2.2.2.1;have g:=h.1.2.2.2.2.1;omega
       . intro F;with_reducible and_intros
         iterate 2 omega
         have q:=h.1.1;have Q:=h.1.2.1;have f:=h.1.2.2.2.1;have g:=h.1.2.2.2.2.1;have k:=h.2;omega
         omega
         iterate 2
          have q:=h.1.1;have Q:=h.1.2.1;have f:=h.1.2.2.2.1;have g:=h.1.2.2.2.2.1;have k:=h.2;omega
         omega;have q:=h.1.1;have Q:=h.1.2.1;have f:=h.1.2.2.2.1;have g:=h.1.2.2.2.2.1;have k:=h.2;omega
       intro z;trivial;iterate 2 omega
       refine⟨((toNat (bif !Decidable.decide (getD (X.2.2.1) (toNat (↑a:Int)+toNat (↑(X.2.1):Int)) []=getD (X.2.2.1) (toNat (↑a:Int)+toNat ((↑(X.2.1):Int)-(1:Int))) []) then(↑(X.1):Int)+(1:Int) else(↑(X.1):Int))),((X.2.1+1),((bif !Decidable.decide (getD (X.2.2.1) (toNat (↑a:Int)+toNat (↑(X.2.1):Int)) []=getD (X.2.2.1) (toNat (↑a:Int)+toNat ((↑(X.2.1):Int)-(1:Int))) []) then List.set (X.2.2.1) (toNat (↑(X.1):Int)) (getD (X.2.2.1) (toNat (↑a:Int)+toNat (↑(X.2.1):Int)) []) else Prod.fst (X.2.2)),(a)))),?_⟩;try dsimp only
       with_reducible and_intros
       generalize (!decide (getD X.2.2.1 (toNat (a:Int)+toNat (X.2.1:Int)) []=getD X.2.2.1 (toNat (a:Int)+toNat ((X.2.1:Int)-1)) []))=c;cases c<;>simp<;>omega;omega;trivial;have q:=h.1.1;have E:X.2.2.2=a:=by have:=h.2;omega
       have H:=h.1;rw[E] at H;have u:toNat (a:Int)+toNat (X.2.1:Int)=a+X.2.1:=by omega
       have v:toNat (a:Int)+toNat ((X.2.1:Int)-1)=a+X.2.1-1:=by omega
       rw[u,v];by_cases hd:getD X.2.2.1 (a+X.2.1) []=getD X.2.2.1 (a+X.2.1-1) [];rw[L? hd];exact PZ H w! hd;rw[e? hd];exact T8 H w! hd;omega;simp only[af,S.len];omega
     intro K;with_reducible and_intros
     omega
     iterate 2
      have q:=h.1.2.1;have Q:=h.1.2.2.2.1;have f:=h.1.2.2.2.2.1;omega
     omega;have q:=h.1.2.1;have Q:=h.1.2.2.2.1;have f:=h.1.2.2.2.2.1;simp;omega;have q:=h.1.2.1;have Q:=h.1.2.2.2.1;have f:=h.1.2.2.2.2.1;grind[toNat,Mn,T9]
   intro w;try simp only[df,tn] at w
   with_reducible and_intros
   iterate 2 omega
   refine⟨(a+1),?_⟩;grind[T6,af,S.len]
 grind[df,ZC]
def ax2(l:M (Int×B8))(c:dq l):(∃(x:Nat),((0:Int)=(↑x:Int)/\(0:Int)=c9 l x/\(0:Int)=nW l x)/\ja l x)/\∀(x:Nat),ja l x->(decide ((↑x:Int)<(↑(length l):Int))=true->((0:Int)<=(↑x:Int)/\(↑x:Int)<(↑(length l):Int))/\(decide ((getD l (toNat (↑x:Int)) ((0:Int),[])).1=(0:Int))=true->S.small ((getD l (toNat (↑x:Int)) ((0:Int),[])).2)/\((!S.isTerm ((getD l (toNat (↑x:Int)) ((0:Int),[])).2))=true->false=aZ l)/\((!S.isTerm ((getD l (toNat (↑x:Int)) ((0:Int),[])).2))=false->((-9223372036854775808:Int)<=c9 l x+(1:Int)/\c9 l x+(1:Int)<=(9223372036854775807:Int))/\((-9223372036854775808:Int)<=nW l x+(1:Int)/\nW l x+(1:Int)<=(9223372036854775807:Int))/\((-9223372036854775808:Int)<=(↑x:Int)+(1:Int)/\(↑x:Int)+(1:Int)<=(9223372036854775807:Int))/\∃(o:Nat),((↑x:Int)+(1:Int)=(↑o:Int)/\c9 l x+(1:Int)=c9 l o/\nW l x+(1:Int)=nW l o)/\ja l o/\af (S.len l) o<af (S.len l) x))/\(decide ((getD l (toNat (↑x:Int)) ((0:Int),[])).1=(0:Int))=false->(decide ((getD l (toNat (↑x:Int)) ((0:Int),[])).1=(1:Int))=true->((bif !decide ((getD l (toNat (↑x:Int)) ((0:Int),[])).2=[]) then true else decide (c9 l x<(2:Int)))=true->false=aZ l)/\((bif !decide ((getD l (toNat (↑x:Int)) ((0:Int),[])).2=[]) then true else decide (c9 l x<(2:Int)))=false->((-9223372036854775808:Int)<=c9 l x-(1:Int)/\c9 l x-(1:Int)<=(9223372036854775807:Int))/\((-9223372036854775808:Int)<=(↑x:Int)+(1:Int)/\(↑x:Int)+(1:Int)<=(9223372036854775807:Int))/\∃(o:Nat),((↑x:Int)+(1:Int)=(↑o:Int)/\c9 l x-(1:Int)=c9 l o/\nW l x=nW l o)/\ja l o/\af (S.len l) o<af (S.len l) x))/\(decide ((getD l (toNat (↑x:Int)) ((0:Int),[])).1=(1:Int))=false->(decide ((getD l (toNat (↑x:Int)) ((0:Int),[])).1=(2:Int))=true->((bif !decide ((getD l (toNat (↑x:Int)) ((0:Int),[])).2=[]) then true else decide (c9 l x<(2:Int)))=true->false=aZ l)/\((bif !decide ((getD l (toNat (↑x:Int)) ((0:Int),[])).2=[]) then true else decide (c9 l x<(2:Int)))=false->((-9223372036854775808:Int)<=c9 l x-(1:Int)/\c9 l x-(1:Int)<=(9223372036854775807:Int))/\((-9223372036854775808:Int)<=(↑x:Int)+(1:Int)/\(↑x:Int)+(1:Int)<=(9223372036854775807:Int))/\∃(o:Nat),((↑x:Int)+(1:Int)=(↑o:Int)/\c9 l x-(1:Int)=c9 l o/\nW l x=nW l o)/\ja l o/\af (S.len l) o<af (S.len l) x))/\(decide ((getD l (toNat (↑x:Int)) ((0:Int),[])).1=(2:Int))=false->(decide ((getD l (toNat (↑x:Int)) ((0:Int),[])).1=(3:Int))=true->((bif !decide ((getD l (toNat (↑x:Int)) ((0:Int),[])).2=[]) then true else decide (c9 l x<(2:Int)))=true->false=aZ l)/\((bif !decide ((getD l (toNat (↑x:Int)) ((0:Int),[])).2=[]) then true else decide (c9 l x<(2:Int)))=false->((-9223372036854775808:Int)<=c9 l x-(1:Int)/\c9 l x-(1:Int)<=(9223372036854775807:Int))/\((-9223372036854775808:Int)<=(↑x:Int)+(1:Int)/\(↑x:Int)+(1:Int)<=(9223372036854775807:Int))/\∃(o:Nat),((↑x:Int)+(1:Int)=(↑o:Int)/\c9 l x-(1:Int)=c9 l o/\nW l x=nW l o)/\ja l o/\af (S.len l) o<af (S.len l) x))/\(decide ((getD l (toNat (↑x:Int)) ((0:Int),[])).1=(3:Int))=false->false=aZ l)))))/\(decide ((↑x:Int)<(↑(length l):Int))=false->(bif decide (c9 l x=(1:Int)) then decide (nW l x<=(16:Int)) else false)=aZ l):=by
 have I:l.length<=1099511627776:=c.1;have e:=c;clear c;refine⟨?_,?_⟩
 . refine⟨0,?_⟩;try dsimp only
   with_reducible and_intros
   iterate 3 rfl
   exact aEz e.1
 intro X a;refine⟨?_,?_⟩
 . intro h;try simp only[dt] at h
   with_reducible and_intros
   iterate 2 omega
   . intro d;try simp only[dt,tn] at d
     refine⟨?_,?_,?_⟩;exact ap1 e _;intro f;try simp only[nt] at f
     exact S.Ê h d f;intro g;try simp only[nf] at g
     with_reducible and_intros
     iterate 6
      have q:=gR l X;have Q:c9 l X=2*nW l X-X:=rfl;omega
     refine⟨(X+1),?_⟩;try dsimp only
     with_reducible and_intros
     have q:=gR l X;have Q:c9 l X=2*nW l X-X:=rfl;omega
     exact(zq (by assumption)).symm;exact(ND (by assumption)).symm;exact S.É a h d g;grind[af,S.len]
   intro H;try simp only[df,tn] at H
   refine⟨?_,?_⟩
   . intro i;try simp only[dt,tn] at i
     refine⟨?_,?_⟩;intro j;try simp at j
     exact Da h H (.inr (by assumption));intro F;try simp only[V.qF,nf,dt,tn,df] at F
     with_reducible and_intros
     iterate 4
      have q:=gR l X;have Q:c9 l X=2*nW l X-X:=rfl;omega
     refine⟨(X+1),?_⟩;try dsimp only
     with_reducible and_intros
     have q:=gR l X;have Q:c9 l X=2*nW l X-X:=rfl;omega
     exact(uH (by assumption)).symm;exact(Kv (by assumption)).symm;exact I2 a h H w! (by assumption);grind[af,S.len]
   intro s;refine⟨?_,?_⟩
   . intro k;try simp only[dt,tn] at k
     refine⟨?_,?_⟩;intro O;try simp at O
     exact Da h H (.inr (by assumption));intro r;try simp only[V.qF,nf,dt,tn,df] at r
     with_reducible and_intros
     iterate 4
      have q:=gR l X;have Q:c9 l X=2*nW l X-X:=rfl;omega
     refine⟨(X+1),?_⟩;try dsimp only
     with_reducible and_intros
     have q:=gR l X;have Q:c9 l X=2*nW l X-X:=rfl;omega
     exact(uH (by assumption)).symm;exact(Kv (by assumption)).symm;exact I2 a h H w! (by assumption);grind[af,S.len]
   intro G;refine⟨?_,?_⟩
   . intro m;try simp only[dt,tn] at m
     refine⟨?_,?_⟩;intro R;try simp at R
     exact Da h H (.inr (by assumption));intro n;try simp only[V.qF,nf,dt,tn,df] at n
     with_reducible and_intros
     iterate 4
      have q:=gR l X;have Q:c9 l X=2*nW l X-X:=rfl;omega
     refine⟨(X+1),?_⟩;try dsimp only
     with_reducible and_intros
     have q:=gR l X;have Q:c9 l X=2*nW l X-X:=rfl;omega
     exact(uH (by assumption)).symm;exact(Kv (by assumption)).symm;exact I2 a h H w! (by assumption);grind[af,S.len]
   grind[df,tn,Da]
 grind[df,afd]
def ax3(l:M (Int×B8))(f:S.small l):(∃(X:Nat),((0:Int)=X/\[]=bL l X)/\dX l X)/\(∀(x:Nat),dX l x->Lf (decide ((x:Int)<length l)) (il 0 x (length l)/\anF (aaT (getD l (toNat x) (0,[])).1) (aHA (bL l x) [(getD l (toNat x) (0,[])).2]/\ajJ x (∃(a:Nat),anI (x+1) a (bL l x++[(getD l (toNat x) (0,[])).2]=bL l a) (dX l a) (S.len l) (af (S.len l) x))) x (∃(c:Nat),anI (x+1) c (bL l x=bL l c) (dX l c) (S.len l) (af (S.len l) x))) (S.small (bL l x)) (S.small (fp (bL l x))) (bU (fp (bL l x))=al l)):=by
 refine au ?_;have i:l.length<=1099511627776:=f;refine⟨?_,?_⟩;grind[af,S.len,dX,aNu];intro X h;refine V.dI (λH=>?_) λg=>?_
 . with_reducible and_intros
   iterate 2 (grind[af,S.len,dX])
   . intro d;try simp only[dt,tn] at d
     with_reducible and_intros
     (have q:=apZ i h [];exact q.1)
     iterate 2 (grind[af,S.len,dX])
     refine⟨(X+1),?_⟩;try dsimp only
     with_reducible and_intros
     grind[af,S.len,dX];exact apY H d;iterate 2 (grind[af,S.len,dX])
   intro e;try simp only[df,tn] at e
   with_reducible and_intros
   iterate 2 (grind[af,S.len,dX])
   refine⟨(X+1),?_⟩;try dsimp only
   with_reducible and_intros
   grind[af,S.len,dX];exact apU H e;iterate 2 (grind[af,S.len,dX])
 refine⟨?_,?_,?_⟩
 (have q:=apZ i h [];exact q.2.1)
 (have q:=apZ i h [];exact q.2.2.1)
 grind[avW]
def ax4(b:B8)(a:S.small b):Rj b (Lf (aaT (length (aS b))) ([]=hdT (aS b)) (awZ (length (aS b))) (toNat 0<length (aS b)) (yb (aS b) 0=hdT (aS b))):=by
 refine au ?_;refine⟨?_,?_,?_⟩;omega;intro h;simp only[dt] at h;rw[show aS b=[] from P?.1 w!];rfl;intro H;simp only[df] at H;with_reducible and_intros
 iterate 3 omega
 rfl
def ax5(s:Int)(b:B8)(a:Int)(h:s=0/\b=yo/\a=3):Lf (aut s) (tm 0 s a (q91 b)/\Rj (aSu a b s) (length ([(-1,s,hdT (aS (aSu a b s)))]:M (Int×Int×B8))<=4398046511104/\-(1:Int)=-1/\b=b/\a=a/\[(-1,s,hdT (aS (aSu a b s)))]=S.Ë)) (s=-1) (b=b) (a=a/\[]=S.Ë):=by
 refine au ?_;obtain⟨q,Q,c⟩:=h;subst q;subst Q;subst c;refine⟨?_,?_⟩
 . intro H;with_reducible and_intros
   iterate 2 omega
   decide;exact(show(drop 0 (take 3 yo)).length<=1099511627776 by decide);decide;iterate 4 rfl
 grind
def ax6(b:B8)(g:b=yo):Rj b ((∃(X:Nat),aFB X (b=b/\(0:Int)=(X:Int)/\-(1:Int)=uI X) (3:Nat))/\(∀(x:Nat),cC x (3:Nat)->Lf (decide ((x:Int)<(length (S.decode b):Int))) (il (0:Int) (x:Int) (length (S.decode b):Int)/\toNat (x:Int)<length (S.decode b)/\aj8 (an5 (S.letter (aud b x))) (jM (ct (S.letter (aud b x)) (S.digit (aud b x))) (q85 (q78 ((x:Int)+q91 (im (aud b x)))/\ajJ (x:Int) (∃(a:Nat),anI ((x:Int)+(1:Int)) a (b=b/\(x:Int)+q91 (im (aud b x))=(a:Int)/\(bif decide (uI x<(0:Int)) then(x:Int) else uI x)=uI a) (cC a (3:Nat)) (3:Nat) (af (3:Nat) x)))) (uI x=(0:Int)/\b=yo/\(x:Int)=(3:Int)) (q71 (decide (aud b x=(32:Int))) (ajJ (x:Int) (ajJ (x:Int) (∃(c:Nat),anI ((x:Int)+(1:Int)) c (b=b/\False/\(x:Int)+(1:Int)=(c:Int)/\-(1:Int)=uI c) (cC c (3:Nat)) (3:Nat) (af (3:Nat) x)))) (jM (bif decide (aud b x=(40:Int)) then decide (aud b x=(40:Int)) else bif decide (aud b x=(41:Int)) then decide (aud b x=(41:Int)) else bif decide (aud b x=(124:Int)) then decide (aud b x=(124:Int)) else bif decide (aud b x=(38:Int)) then decide (aud b x=(38:Int)) else decide (aud b x=(33:Int))) (aUq [(aud b x,(x:Int),([]:B8))]/\ajJ (x:Int) (ajJ (x:Int) (∃(d:Nat),anI ((x:Int)+(1:Int)) d (b=b/\False/\(x:Int)+(1:Int)=(d:Int)/\-(1:Int)=uI d) (cC d (3:Nat)) (3:Nat) (af (3:Nat) x)))) (aUq [(-(3:Int),(x:Int),([]:B8))]) (S.Ë++[(-(3:Int),(x:Int),([]:B8))]=kE))))) (uI x=(0:Int)/\b=yo/\(x:Int)=(3:Int)) (aUq [(-(2:Int),q91 b,([]:B8))]) (S.Ë++[(-(2:Int),q91 b,([]:B8))]=kE))):=by
 refine au ?_;subst g;refine⟨?_,?_,?_⟩;exact(show S.yo.length<=1099511627776 by decide)
 . refine⟨0,?_⟩;with_reducible and_intros
   decide;rfl;iterate 2 decide
   exact S! _
 intro X f;refine V.dI (λh=>?_) λk=>?_
 . with_reducible and_intros
   iterate 3 omega
   trivial;intro i;trivial;intro j;trivial
   . intro l;with_reducible and_intros
     trivial;omega;rcases zr h with rfl|rfl|rfl<;>first|exact absurd H.1 (by decide)|decide
     omega;rcases zr h with rfl|rfl|rfl<;>first|exact absurd H.1 (by decide)|decide
     refine⟨(X+1),?_⟩;try dsimp only
     with_reducible and_intros
     omega;rfl
     iterate 2
      rcases zr h with rfl|rfl|rfl<;>first|exact absurd H.1 (by decide)|decide
     unfold cC;have :X<3:=by have:=zr h;omega
     omega;rcases zr h with rfl|rfl|rfl<;>first|exact absurd H.1 (by decide)|decide
   intro H;try simp only[V.qF] at H
   with_reducible and_intros
   rcases zr h with rfl|rfl|rfl<;>first|exact absurd H.1 (by decide)|decide
   with_reducible rfl
   rcases zr h with rfl|rfl|rfl<;>first|exact absurd H.1 (by decide)|decide
   . intro m;with_reducible and_intros
     omega;rcases zr h with rfl|rfl|rfl<;>first|exact absurd H.1 (by decide)|decide
     omega;rcases zr h with rfl|rfl|rfl<;>first|exact absurd H.1 (by decide)|decide
     refine⟨(X+1),?_⟩;try dsimp only
     with_reducible and_intros
     omega;rfl;rcases zr h with rfl|rfl|rfl<;>first|exact absurd H.1 (by decide)|decide
     omega
     iterate 2
      rcases zr h with rfl|rfl|rfl<;>first|exact absurd H.1 (by decide)|decide
     rcases zr h with rfl|rfl|rfl<;>first|exact absurd H.1 (by decide)|decide
   intro n;refine⟨?_,?_⟩
   . intro F;with_reducible and_intros
     rcases zr h with rfl|rfl|rfl<;>first|exact absurd H.1 (by decide)|decide
     omega;rcases zr h with rfl|rfl|rfl<;>first|exact absurd H.1 (by decide)|decide
     omega;rcases zr h with rfl|rfl|rfl<;>first|exact absurd H.1 (by decide)|decide
     refine⟨(X+1),?_⟩;try dsimp only
     with_reducible and_intros
     omega;rfl;rcases zr h with rfl|rfl|rfl<;>first|exact absurd H.1 (by decide)|decide
     omega
     iterate 2
      rcases zr h with rfl|rfl|rfl<;>first|exact absurd H.1 (by decide)|decide
     rcases zr h with rfl|rfl|rfl<;>first|exact absurd H.1 (by decide)|decide
   intro I;refine⟨?_,?_⟩;rcases zr h with rfl|rfl|rfl<;>first|exact absurd H.1 (by decide)|decide
   rcases zr h with rfl|rfl|rfl<;>first|exact absurd H.1 (by decide)|decide
 with_reducible and_intros
 (have e:=ge3 f k;subst e;decide)
 rfl
 (have e:=ge3 f k;subst e;decide)
 iterate 2 decide
def ax7(e:M (Int×Int×B8))(n w:Int)(h:0<=n/\n<e.length):il 0 n (length e)/\q0 (getD e (toNat n) (0,0,[])) (BK e n) (e=e/\n=n/\w=w):=by
 refine au ?_;with_reducible and_intros
 iterate 2 omega
 iterate 6 rfl
def ax8(e:M (Int×Int×B8))(n w:Int)(l:M (Int×B8))(h:0<=n/\n<e.length):il 0 n (length e)/\q0 (getD e (toNat n) (0,0,[])) (BK e n) (e=e/\n=n/\w=w/\l=l):=by
 refine au ?_;with_reducible and_intros
 iterate 2 omega
 iterate 7 rfl
def ax9(d:Int)(e:M (Int×Int×B8))(n w:Int)(H:e=kE/\n=0/\w=0):il (0:Int) n (length e:Int)/\q71 (decide ((BK e n).1=-(1:Int))) (anF (decide ((16:Int)<=w)) ((8:Int)=(0:Int)/\e=e/\n=(1:Int)/\w=(1:Int)/\aRi) w (ajJ n (aHz (length [((0:Int),(BK e n).2.2)])/\(0:Int)=(0:Int)/\e=e/\n+(1:Int)=(1:Int)/\w+(1:Int)=(1:Int)/\[((0:Int),(BK e n).2.2)]=jK))) (q71 (decide ((BK e n).1=(40:Int))) (anF (decide ((8:Int)<=d)) ((8:Int)=(0:Int)/\e=e/\n=(1:Int)/\w=(1:Int)/\aRi) n False) (Lf (decide ((BK e n).1=(33:Int))) ((9:Int)=(0:Int)/\e=e/\n=(1:Int)/\w=(1:Int)/\aRi) ((2:Int)=(0:Int)) (e=e) (n=(1:Int)/\w=(1:Int)/\aRi))):=by
 refine au ?_;obtain⟨q,Q,a⟩:=H;subst q;subst Q;refine⟨⟨?_,?_⟩,⟨?_,?_⟩⟩;omega;decide
 . intro c;refine⟨?_,?_⟩;grind;intro f;with_reducible and_intros
   iterate 4 omega
   decide;iterate 2 rfl
   iterate 2 omega
   decide
 intro h;simp at h;refine V.dI (λg=>?_) λi=>?_
 . refine V.dI (λj=>?_) λk=>?_;apply SU;exact absurd rfl h;rfl;iterate 3 exact absurd rfl h
   with_reducible and_intros
   iterate 2 omega
   exact absurd rfl h
 refine V.dI (λl=>?_) λF=>?_;apply SU;exact absurd rfl h;rfl;iterate 3 exact absurd rfl h
 apply SU;exact absurd rfl h;rfl;iterate 3 exact absurd rfl h
def aya(d:Int)(e:M (Int×Int×B8))(n w:Int)(h:e=kE/\n=0/\w=0):(e=kE/\n=0/\w=0)/\jM (MH 0) ((0:Int)=0/\e=e/\(1:Int)=1/\aRl 1) (∃(x:Nat),(e=e/\(1:Int)=1/\aRl 1)/\x=0) (∀(X:Nat),X=0->il 0 1 (length e)/\q71 (decide ((BK e 1).1=38)) (ajJ 1 False) (Lf (decide ((BK e 1).1=33)) (ajJ 1 False) auG (e=e) ((1:Int)=1/\aRl 1))):=by
 refine au ?_;obtain⟨q,Q,a⟩:=h;subst q;subst Q;subst a;with_reducible and_intros
 iterate 3 rfl
 grind;intro f;refine⟨?_,?_⟩;grind;intro g i;with_reducible and_intros
 omega;decide
 . intro H;with_reducible and_intros
   iterate 2 omega
   exact absurd H (by decide)
 intro j;refine⟨?_,?_⟩
 . intro c;with_reducible and_intros
   iterate 2 omega
   exact absurd c (by decide)
 grind
def ayb(d:Int)(e:M (Int×Int×B8))(n w:Int)(h:e=kE/\n=0/\w=0):(e=kE/\n=0/\w=0)/\jM (MH 0) ((0:Int)=0/\e=e/\(1:Int)=1/\aRl 1) (∃(x:Nat),(e=e/\(1:Int)=1/\aRl 1)/\x=0) (∀(X:Nat),X=0->il 0 1 (length e)/\Lf (decide ((BK e 1).1=124)) (ajJ 1 False) auG (e=e) ((1:Int)=1/\aRl 1)):=by
 refine au ?_;obtain⟨q,Q,a⟩:=h;subst q;subst Q;subst a;with_reducible and_intros
 iterate 3 rfl
 grind;intro c;refine⟨?_,?_⟩;grind;intro f g;with_reducible and_intros
 omega;decide
 . intro H;with_reducible and_intros
   iterate 2 omega
   exact absurd H (by decide)
 grind
def ayc(b:B8)(a:b=yo):Lf (aL2 2000 b) (aRi/\(0:Int)=0/\(8:Int)=0) (b=yo) (kE=kE/\(0:Int)=0/\auG) (ti (aaT 0) (il 0 1 (length kE))/\jM (ajD (aTp 0 1 2)) (il 0 (bif aaT 0 then 1 else 1) (length (bif aaT 0 then kE else kE))/\aRi/\(BK (bif aaT 0 then kE else kE) (bif aaT 0 then 1 else 1)).2.1=0/\aTp 0 1 2=0) ((bif aaT 0 then jK else jK)=jK) ((0:Int)=0/\auG)):=by
 refine au ?_;subst a;refine V.dI (λh=>?_) λc=>?_;refine⟨?_,?_,?_⟩;exact absurd h (by decide);rfl;exact absurd h (by decide);with_reducible and_intros
 iterate 4 rfl
 intro d;refine⟨?_,?_⟩;omega;decide;grind
 . intro H;simp at H;with_reducible and_intros
   iterate 2 decide
   iterate 2 (exact absurd (by decide) H)
   decide
 grind
def ayg(v:Int)(d:Bool)(l:B8)(h:l.length<=35184372088832):at7 anG/\aua l (mq anG v)/\ct (ajD (yW v)) d=oA d (jL v)/\l++mq anG v=ant l (jL v):=by
 refine au ?_;refine⟨?_,?_,?_,?_⟩;grind;grind[av1];grind[aNz];rw[aNy v];rfl
def ayh(b:B8)(m:Int)(d:Bool)(l:B8)(H:l.length<=35184372088832/\b.length<=1099511627776):Lf (aL2 m b) (true=oA d (gn b m)/\l=ant l (gn b m)) (oR anG b) (aua l ([]++S.text b)) (d=oA d (gn b m)/\l++([]++S.text b)=ant l (gn b m)):=by
 refine au ?_;refine V.dI (λh1=>?_) λh=>?_;refine⟨?_,?_⟩;rw[afn h1];exact(Bool.or_true d).symm;rw[afn h1];exact(B? l).symm;refine⟨?_,?_,?_,?_⟩;exact⟨S! _,w!⟩;have:=ap3 b;simp;omega;rw[ap8 h];exact(Bool.or_false d).symm;rw[ap8 h];rfl
def ayi(y:Int)(Y:B8)(a:M (Int×Int×Int×B8))(d:Bool)(l:B8)(h:l.length<=35184372088832):q85 (Lf (ajD (hW y Y a).2) (true=oA d (kL y Y a)/\l=ant l (kL y Y a)) (at7 l/\aQ8 (hW y Y a).1) (oA d (gn (hW y Y a).1 10000)=oA d (kL y Y a)) (ant l (gn (hW y Y a).1 10000)=ant l (kL y Y a))):=by
 refine au ?_;refine⟨?_,?_,?_⟩;trivial;intro h1;simp at h1;refine⟨?_,?_⟩;rw[ap9 h1];exact(Bool.or_true d).symm;rw[ap9 h1];exact(List.append_nil l).symm;grind[av3]
def ayj(p:O)(d:Bool)(l:B8)(i:l.length<=17592186044416):Lf (aMU (oh p)) (true=oA d (jb p)/\l=ant l (jb p)) (at7 l) (∃(a:Nat),((0:Int)=a/\oA d (jL (oh p))=d/\ant l (jL (oh p))=l++iv p a)/\aqZ p a) (∀(x:Nat),aqZ p x->jM (decide (x<oh p)) (il 0 x (oh p)/\jM (oD (length (yb p x)) 32) (true=oA d (jb p)/\l++iv p x=ant l (jb p)) (UU (l++iv p x) (length (yb p x))) (ajJ x (∃(X:Nat),anE x X (d=d/\l++iv p x++yb p x=l++iv p X) (aqZ p X) (S.len p)))) (d=oA d (jb p)) (l++iv p x=ant l (jb p))):=by
 refine au ?_;refine V.dI (λh1=>?_) λg=>?_;refine⟨?_,?_⟩;rw[ap4 h1];exact(Bool.or_true d).symm;rw[ap4 h1];exact(B? l).symm;refine⟨?_,?_,?_⟩;omega
 . refine⟨(nat_lit 0:Nat),?_⟩;dsimp only;with_reducible and_intros
   omega;rw[WJ w!];exact Bool.or_false d;grind[WJ,iv,S.bytesOf];exact aNw g
 intro X h;refine V.dI (λH=>?_) λf=>?_
 . with_reducible and_intros
   iterate 2 omega
   intro c;simp at c;refine⟨?_,?_⟩;rw[afh h H c];exact(Bool.or_true d).symm;rw[afh h H c];rfl;intro e;simp only[nf,dt,tn] at e;with_reducible and_intros
   have q:=avZ h;rw[J!,tn];omega;iterate 2 omega
   refine⟨(X+nat_lit 1),?_⟩;dsimp only;with_reducible and_intros
   omega;rfl;rw[tn,X!,(S.Ï h H e).2];exact(S.Ï h H e).1;simp[af,S.len];omega
 refine⟨?_,?_⟩;rw[afi h f];exact(Bool.or_false d).symm;rw[afi h f];rfl
def ayk(c:Int)(p P a:B8)(e:O)(f:B8)(d:Bool)(l:B8)(h:l.length<=8796093022208/\f.length<=1099511627776):at7 l/\q85 (Lf (ajD (kJ p P a)) (true=oA d (aof (c,p,P,a,e,f))/\ant l (jL c)=ant l (aof (c,p,P,a,e,f))) (at7 (ant l (jL c))/\aQ8 (dw p P a)) (length (ant (ant l (jL c)) (gn (dw p P a) 200))<=17592186044416) ((at7 (ant (ant (ant l (jL c)) (gn (dw p P a) 200)) (jb e))/\aQ8 f)/\oA (oA (oA (oA d (jL c)) (gn (dw p P a) 200)) (jb e)) (gn f 4000)=oA d (aof (c,p,P,a,e,f))/\ant (ant (ant (ant l (jL c)) (gn (dw p P a) 200)) (jb e)) (gn f 4000)=ant l (aof (c,p,P,a,e,f)))):=by
 refine au ?_;have A:=Qv c;have g:=zu (dw p P a) (m:=200) (by decide);have i:=Qw e;have j:=av4 p P a;refine⟨?_,?_,?_,?_⟩;omega;trivial;intro h1;simp at h1;refine⟨?_,?_⟩;rw[afo h1];exact(Bool.or_true d).symm;rw[afo h1];rfl;grind[S.bytesOf,List.length_append,aqa,oA,S.cat,Bool.or_assoc,List.append_assoc]
def ayl(d:Bool)(l:B8):q71 d ([]=Fv (l,d)/\1=Fw (l,d)) (jM (aL2 1048576 l) ([]=Fv (l,d)/\3=Fw (l,d)) (l=Fv (l,d)) (0=Fw (l,d))):=by
 refine au ?_;simp_all[dt,Fv,R!,Q!,Fw,df]
def aym(c:Int)(d:B8)(A:M (Int×Int×Int×B8))(a:M (M (Int×B8×B8×B8×O×B8)))(v:zt a)(s:Vg.jE J.aOu (c,d,A,a)):at7 [1]/\jM (oD (length a) (length A)) (aFM (xF c d A a) 1) (∃(j:Nat),((0:Int)=j/\oA false (kL c d A)=mU (gj c d A a j)/\ant [1] (kL c d A)=S.bytesOf (gj c d A a j))/\oV A a j) (∀(x:Nat),oV A a x->jM (decide ((x:Int)<length a)) (il 0 x (length a)/\Lf (decide (16<aQk a x)) (aFM (xF c d A a) 1) (at7 (S.bytesOf (gj c d A a x))) (∃(f:Nat×Nat),((0:Int)=f.1/\oA (mU (gj c d A a x)) (jL (aQk a x))=mU (gE c d A a f.2 f.1)/\ant (S.bytesOf (gj c d A a x)) (jL (aQk a x))=S.bytesOf (gE c d A a f.2 f.1))/\arN A a f.2 f.1/\(x:Int)=f.2) (∀(X:Nat×Nat),arN A a X.2 X.1/\(x:Int)=X.2->anF (decide (X.1<aQk a x)) (il 0 X.1 (aQk a x)/\(length (S.bytesOf (gE c d A a X.2 X.1))<=8796093022208/\aQ8 (aMh a x X).2.2.2.2.2)/\q78 (X.1+1)/\(∃(h:Nat×Nat),anI (X.1+1) h.1 (oA (mU (gE c d A a X.2 X.1)) (aTz a x X)=mU (gE c d A a h.2 h.1)/\ant (S.bytesOf (gE c d A a X.2 X.1)) (aTz a x X)=S.bytesOf (gE c d A a h.2 h.1)) (arN A a h.2 h.1/\(x:Int)=h.2) (S.len (aks a h.2)) (af (S.len (aks a X.2)) X.1))) x (∃(k:Nat),anE x k (mU (gE c d A a X.2 X.1)=mU (gj c d A a k)/\S.bytesOf (gE c d A a X.2 X.1)=S.bytesOf (gj c d A a k)) (oV A a k) (S.len a)))) True (Fv (S.bytesOf (gj c d A a x),mU (gj c d A a x))=(xF c d A a).1/\Fw (S.bytesOf (gj c d A a x),mU (gj c d A a x))=(xF c d A a).2)):=by
 refine au ?_;have t:Vg.hlen A:=s.2.2.1.1;refine⟨?_,?_,?_⟩;decide;grind[nt,df,aGR];intro u;simp at u;refine⟨?_,?_⟩
 . refine⟨(nat_lit 0:Nat),?_⟩;dsimp only;with_reducible and_intros
   omega;iterate 2 rfl
   grind[aNx]
 intro f l;refine V.dI (λm=>?_) λK=>?_
 . with_reducible and_intros
   iterate 2 omega
   intro o;try simp at o
   refine⟨?_,?_⟩;rw[afk m o];rw[afk m o];intro r;try simp only[df,tn] at r
   refine⟨?_,?_,?_⟩;exact b? (afm (n:=c) (g:=d) l) (by decide)
   . refine⟨((nat_lit 0:Nat),(f)),?_⟩;try dsimp only
     with_reducible and_intros
     omega
     iterate 2
      rw[tn,WJ w!];rfl
     exact aGQ l m r;with_reducible rfl
   intro i H;refine⟨?_,?_⟩
   . intro F;try simp only[dt,tn] at F
     with_reducible and_intros
     omega;assumption;exact b? (ap7 (n:=c) (g:=d) H.1) (by decide);obtain⟨q,e⟩:=H;have E:i.2=f:=by omega
     rw[E] at q;exact ap6 q F;iterate 2 omega
     refine⟨((Prod.fst i+nat_lit 1),(f)),?_⟩;try dsimp only
     with_reducible and_intros
     omega;obtain⟨q,e⟩:=H;have E:i.2=f:=by omega
     rw[E,tn,tn];exact(aEB _ rfl _ _ rfl rfl).1;obtain⟨q,e⟩:=H;have E:i.2=f:=by omega
     rw[E,tn,tn];exact(aEB _ rfl _ _ rfl rfl).2;obtain⟨q,e⟩:=H;have E:i.2=f:=by omega
     rw[E] at q;exact ap5 q F;with_reducible rfl
     obtain⟨q,e⟩:=H;have E:i.2=f:=by omega
     rw[E];have w:(i.1:Int)<((aks a f).length:Int):=F;simp only[af,S.len];omega
   intro I;try simp only[df,tn] at I
   with_reducible and_intros
   iterate 2 omega
   refine⟨(f+nat_lit 1),?_⟩;try dsimp only
   with_reducible and_intros
   omega
   iterate 2
    obtain⟨q,e⟩:=H;have E:i.2=f:=by omega
    rw[E] at q |-;rw[(afj (n:=c) (g:=d) q I).2]
   obtain⟨q,e⟩:=H;have E:i.2=f:=by omega
   rw[E] at q;exact(afj (n:=c) (g:=d) q I).1;simp only[af,S.len];omega
 refine⟨?_,?_,?_⟩;trivial;rw[afl l K];rfl;rw[afl l K];rfl
def ayn(p:Int)(P:B8)(a:M (Int×Int×Int×B8))(d:Int)(c:B8)(e:O)(h:c.length<=1099511627776):at7 [2]/\at7 (ant [2] (kL p P a))/\(at7 (ant (ant [2] (kL p P a)) (jL d))/\aQ8 c)/\length (ant (ant (ant [2] (kL p P a)) (jL d)) (gn c 2000))<=17592186044416/\q85 (Fv (aTA p P a d c e)=(Kw p P a d c e).1/\Fw (aTA p P a d c e)=(Kw p P a d c e).2):=by
 refine au ?_;have A:=Uu p P a;have f:=Qv d;have g:=zu c (m:=2000) (by decide);with_reducible and_intros
 grind;iterate 2 (grind[S.bytesOf,List.length_append,List.length_singleton])
 omega;grind[S.bytesOf,List.length_append,List.length_singleton];trivial;iterate 2 rfl
def ayo(b:B8)(c:UInt8)(h:jd b c=0):q71 (decide (1048576<q91 b)) (False/\(3:Int)=0/\False) (jM (aaT (q91 b)) (False/\(4:Int)=0/\False) (awZ (q91 b)) (Lf (oD (ank b 0) (UInt8.toNat c)) (False/\(2:Int)=0/\False) (0=0) auG (b=b/\(1:Int)=1/\auG))):=by
 refine au ?_;refine⟨?_,?_⟩;intro H;simp_all[dt,afp]
 intro a;refine⟨?_,?_⟩;intro d;simp_all[dt,afq]
 grind[df,nt,aqb]
def ayp(b:B8)(c:UInt8)(H:¬jd b c=0):q71 (decide (1048576<q91 b)) (3=jd b c) (jM (aaT (q91 b)) (4=jd b c) (awZ (q91 b)) (jM (oD (ank b 0) (UInt8.toNat c)) (2=jd b c) False (0=jd b c))):=by
 refine au ?_;refine⟨?_,?_⟩;simp_all[dt,afp]
 intro a;refine⟨?_,?_⟩;simp_all[dt,afq]
 intro h;simp only[df] at h;with_reducible and_intros
 iterate 2 omega
 grind[nt,df,aqb];intro d;simp_all[nf,dt,aGT]
def ayq(r:B8)(R a:Int)(h:r.length<=140737488355328):bG r/\(ag r R a).2=(ag r R a).2/\(ag r R a).1.1=r/\aqJ (ag r R a).1.2.1 (ag r R a).1.2 (ag r R a).1.2.2:=by
 refine au ?_;grind[Ek]
def ayr(m:Int)(r:B8)(R a:Int)(h:r.length<=140737488355328):bG r/\(ao r R a m).2=(ao r R a m).2/\(ao r R a m).1.1=r/\aqJ (ao r R a m).1.2.1 (ao r R a m).1.2 (ao r R a m).1.2.2:=by
 refine au ?_;grind[CV]
def ays(m:Int)(r:B8)(R a:Int)(h:r.length<=140737488355328):bG r/\Lf (decide (m<(ag r R a).2)) (0=(fj r R a m).2/\r=r/\(ag r R a).1.2.1=(fj r R a m).1.1/\2=(fj r R a m).1.2) ((ag r R a).2=(fj r R a m).2) (r=r) (q2 (ag r R a).1.2 (fj r R a m).1):=by
 refine au ?_;simp_all[dt,av6,df,aGU]
def ayt(r:B8)(R a:Int)(h:r.length<=140737488355328):bG r/\jM (ajD (ao r R a 10000).1.2.2) (0=(ajM r R a).2.1/\[]=(ajM r R a).2.2.1/\[]=(ajM r R a).2.2.2/\r=r/\q2 (ao r R a 10000).1.2 (ajM r R a).1) (bG (ao r R a 10000).2) (q4 (hR (ao r R a 10000).2).1 (ajM r R a).2 (r=r/\(ao r R a 10000).1.2.1=(ajM r R a).1.1/\(hR (ao r R a 10000).2).2=(ajM r R a).1.2)):=by
 refine au ?_;refine⟨?_,?_,?_⟩;omega;grind[nt,df,aGV];grind[I5,av7]
def ayu(r:B8)(R a:Int)(h:r.length<=140737488355328):bG r/\jM (ajD (ao r R a 200).1.2.2) ([]=(lI r R a).2.1/\[]=(lI r R a).2.2.1/\[]=(lI r R a).2.2.2/\r=r/\q2 (ao r R a 200).1.2 (lI r R a).1) (bG (ao r R a 200).2) ((bg (ao r R a 200).2).1.1=(lI r R a).2.1/\(bg (ao r R a 200).2).1.2.1=(lI r R a).2.2.1/\(bg (ao r R a 200).2).1.2.2=(lI r R a).2.2.2/\r=r/\(ao r R a 200).1.2.1=(lI r R a).1.1/\(bg (ao r R a 200).2).2=(lI r R a).1.2):=by
 refine au ?_;refine⟨?_,?_,?_⟩;omega;grind[nt,df,aGW];grind[I5,av8]
def ayv(r:B8)(R a:Int)(f:r.length<=140737488355328):bG r/\(∃(X:Nat),aFB X ([]=(iw r R a X).2/\r=r/\(fj r R a 64).1.1=(iw r R a X).1.1/\(fj r R a 64).1.2=(iw r R a X).1.2) (qT r R a))/\(∀(x:Nat),cC x (qT r R a)->Lf (decide (x<(fj r R a 64).2)) (bG r/\aHA (iw r R a x).2 [(A5 r R a x).2]/\ajJ x (∃(c:Nat),FF x c ((iw r R a x).2++[(A5 r R a x).2]=(iw r R a c).2/\(A5 r R a x).1.1=r/\q2 (A5 r R a x).1.2 (iw r R a c).1) (qT r R a))) ((iw r R a x).2=(aur r R a).2) (r=r) ((iw r R a x).1.1=(aur r R a).1.1/\(iw r R a x).1.2=(aur r R a).1.2)):=by
 refine au ?_;refine⟨?_,?_,?_⟩;omega
 . refine⟨(nat_lit 0:Nat),?_⟩;dsimp only;with_reducible and_intros
   omega;iterate 4 rfl
   exact S! _
 intro X h;refine V.dI (λd=>?_) λH=>?_
 . with_reducible and_intros
   omega;have:=WK r R a X;have:=WL r R a;have q:X<=qT r R a:=h
   rw[J?];omega;omega;have:=WL r R a;have q:X<=qT r R a:=h
   omega;refine⟨(X+nat_lit 1),?_⟩;dsimp only;with_reducible and_intros
   omega;exact rfl;exact(Ek _ _ _).2;iterate 2 exact rfl
   exact aao d;have e:qT r R a=(fj r R a 64).2.toNat:=rfl;simp[af];omega
 refine⟨?_,?_,?_,?_⟩;have e:=Qx h H;rw[e];rfl;rfl;have e:=Qx h H;rw[e];rfl;have e:=Qx h H;rw[e];rfl
def ayw(r:B8)(R a:Int)(h:r.length<=140737488355328):bG r/\bG r/\bG r/\bG r/\(ag r R a).2=(jc r R a).2.1/\(jN r R a).2.1=(jc r R a).2.2.1/\(jN r R a).2.2.1=(jc r R a).2.2.2.1/\(jN r R a).2.2.2=(jc r R a).2.2.2.2.1/\(abe r R a).2=(jc r R a).2.2.2.2.2.1/\(ao r (abe r R a).1.1 (abe r R a).1.2 4000).2=(jc r R a).2.2.2.2.2.2/\r=r/\q2 (ao r (abe r R a).1.1 (abe r R a).1.2 4000).1.2 (jc r R a).1:=by
 refine au ?_;with_reducible and_intros
 iterate 4 omega
 iterate 9 rfl
def ayx(b:B8)(i:b.length<=140737488355328/\jd b 1=0):jd b 1=0/\Lf (MH 0) (q41 (aI b) 0 [] [] [] 0) (bG b) (∃(f:Nat),aFB f (b=b/\q42 (ajM b 1 0).1 (kp b f).1 (q4 (ajM b 1 0).2 (aH b).2 ([]=(kp b f).2))) (aN b)) (∀(c:Nat),cC c (aN b)->jM (decide ((c:Int)<length (ajM b 1 0).2.2.2)) (bG b/\(∃(x:Nat×Nat),((0:Int)=x.1/\[]=(I4 b x.2 x.1).2/\b=b/\q42 (fj b (kp b c).1.1 (kp b c).1.2 16).1 (I4 b x.2 x.1).1 (q4 (aH b).2 (aH b).2 ((kp b c).2=(kp b x.2).2)))/\(cC x.1 (qU b x.2)/\x.2+1<=aN b)/\(c:Int)=x.2)/\(∀(X:Nat×Nat),(cC X.1 (qU b X.2)/\X.2+1<=aN b)/\(c:Int)=X.2->jM (decide (X.1<(fj b (kp b c).1.1 (kp b c).1.2 16).2)) (bG b/\length (aMb b X).2+length (aTy b X)<=1353245080339/\q78 (X.1+1)/\(∃(d:Nat×Nat),anI (X.1+1) d.1 ((aMb b X).2++aTy b X=(I4 b d.2 d.1).2/\b=b/\q42 (aMc b X).1 (I4 b d.2 d.1).1 (q4 (aH b).2 (aH b).2 ((kp b X.2).2=(kp b d.2).2))) ((cC d.1 (qU b d.2)/\d.2+1<=aN b)/\(c:Int)=d.2) (qU b d.2) (af (qU b X.2) X.1))) (aHz (length (kp b X.2).2+length [(aMb b X).2])) (ajJ c (∃(a:Nat),FF c a (b=b/\q42 (aMb b X).1 (kp b a).1 (q4 (aH b).2 (aH b).2 ((kp b X.2).2++[(aMb b X).2]=(kp b a).2))) (aN b))))) True (q71 (ajD (S.done b (kp b c).1.1 (kp b c).1.2)) (q41 (aI b) 0 [] [] [] (S.done b (kp b c).1.1 (kp b c).1.2)) (q41 (aI b) (aH b).2.1 (aH b).2.2.1 (aH b).2.2.2 (kp b c).2 0))):=by
 refine au ?_;have u:=i.2;refine⟨?_,?_,?_⟩;omega;grind;intro j;refine⟨?_,?_,?_⟩;omega
 . refine⟨(nat_lit 0:Nat),?_⟩;dsimp only;with_reducible and_intros
   omega;iterate 7 rfl
   exact S! _
 intro x g;refine V.dI (λH=>?_) λF=>?_
 . refine⟨?_,?_,?_⟩;omega
   . refine⟨((nat_lit 0:Nat),(x)),?_⟩;try dsimp only
     with_reducible and_intros
     omega;exact rfl;rfl;iterate 2 exact rfl
     iterate 3 rfl
     with_reducible rfl
     exact S! _;exact WM H;with_reducible rfl
   intro a h;refine V.dI (λk=>?_) λl=>?_
   . with_reducible and_intros
     omega;rw[av9,J?];have:=aqd b a.2;have :a.1<=qU b a.2:=h.1.1
     omega;omega;have:=aqd b a.2;have :a.1<=qU b a.2:=h.1.1
     omega;refine⟨((Prod.fst a+nat_lit 1),(x)),?_⟩;try dsimp only
     with_reducible and_intros
     omega;have e:a.2=x:=by have:=h.2;omega
     rw[e];exact rfl;rfl
     iterate 2
      have e:a.2=x:=by have:=h.2;omega
      rw[e];exact rfl
     iterate 3 rfl
     have e:a.2=x:=by have:=h.2;omega
     rw[e];exact aao (by assumption);omega;with_reducible rfl
     have e:a.2=x:=by have:=h.2;omega
     rw[e];have q:=aao (by assumption);have w:qU b x=(fj b (kp b x).1.1 (kp b x).1.2 16).2.toNat:=rfl
     simp only[af];omega
   with_reducible and_intros
   rw[awa,J?];have:=aap b;have:=h.1.2;omega
   omega;have:=aap b;have:=WM H;omega
   refine⟨(x+nat_lit 1),?_⟩;try dsimp only
   with_reducible and_intros
   omega;rfl
   iterate 2
    have e:a.2=x:=by have:=h.2;omega
    rw[e];have q:a.1=qU b x:=Qx (e▸h.1.1) (by assumption)
    rw[q];exact rfl
   iterate 3 rfl
   have e:a.2=x:=by have:=h.2;omega
   rw[e];have q:a.1=qU b x:=Qx (e▸h.1.1) (by assumption)
   rw[q];exact rfl;exact WM H;have:=WM H;simp only[af];omega
 refine⟨?_,?_,?_⟩;trivial;intro I;simp at I;apply SU;iterate 4 (rw[aqe u (aaq g (by assumption)) (by assumption)])
 rw[aqe u (aaq g (by assumption)) (by assumption)];grind[aED,aaq]
def ayy(b:B8)(h:¬jd b 1=0):aML (jd b 1=0) (q71 (ajD (jd b 1)) (q41 (aI b) 0 [] [] [] (jd b 1)) False):=by
 refine au ?_;simp_all[nt,df,aEC,nf,dt]
def ayz(b:B8)(a:b.length<=140737488355328/\jd b 2=0):jd b 2=0/\jM (MH 0) (q43 (bx b) 0 [] [] 0 [] [] 0) (bG b) (bG b/\bG b/\bG b/\aFy (ajD (S.done b (aQh b).1.1 (aQh b).1.2)) (q43 (bx b) 0 [] [] 0 [] [] (S.done b (aQh b).1.1 (aQh b).1.2)) (q43 (bx b) (ajM b 1 0).2.1 (ajM b 1 0).2.2.1 (ajM b 1 0).2.2.2 (aSv b).2 (aSw b).2 (aQh b).2 0)):=by
 refine au ?_;have u:=a.2;refine⟨?_,?_,?_⟩;omega;grind;intro c;with_reducible and_intros
 iterate 4 omega
 trivial
 . intro h;simp at h;with_reducible and_intros
   iterate 6 (rw[aqf u h])
   rw[aqf u h];rfl
 intro H;simp at H;with_reducible and_intros
 iterate 6
  rw[aqg u H];rfl
 rw[aqg u H]
def ayA(b:B8)(h:¬jd b 2=0):aML (jd b 2=0) (q71 (ajD (jd b 2)) (q43 (bx b) 0 [] [] 0 [] [] (jd b 2)) False):=by
 refine au ?_;simp_all[nt,df,aGX,nf,dt]
def aXn(b:B8)(a:b.length<=140737488355328/\jd b 3=0):jd b 3=0/\jM (MH 0) (q44 (S.Ě b) 0 [] [] 0 [] [] [] 0) (bG b) (bG b/\bG b/\aFy (ajD (S.done b (aQj b).1.1 (aQj b).1.2)) (q44 (S.Ě b) 0 [] [] 0 [] [] [] (S.done b (aQj b).1.1 (aQj b).1.2)) (q44 (S.Ě b) (ajM b 1 0).2.1 (ajM b 1 0).2.2.1 (ajM b 1 0).2.2.2 (aQi b).2.1 (aQi b).2.2.1 (aQi b).2.2.2 (aQj b).2 0)):=by
 refine au ?_;have u:=a.2;refine⟨?_,?_,?_⟩;omega;grind;intro c;apply cj6;iterate 3 omega
 trivial
 . intro h;simp at h;with_reducible and_intros
   iterate 7 (rw[S.str_1 u h])
   rw[S.str_1 u h];rfl
 intro H;simp at H;with_reducible and_intros
 iterate 7
  rw[aVS u H];rfl
 rw[aVS u H]
def aXo(b:B8)(h:¬jd b 3=0):aML (jd b 3=0) (q71 (ajD (jd b 3)) (q44 (S.Ě b) 0 [] [] 0 [] [] [] (jd b 3)) False):=by
 refine au ?_;simp_all[nt,df,aYY,nf,dt]
def ayB(Y:Int)(a:B8)(y:M (Int×Int×Int×B8))(d:cO Y a y=true)(c:Vg.jE J.af7 (Y,a,y)):0<=Y/\aua (S.num Y) a/\(0:Int)<=length y/\aua (S.num Y++a) (S.num (length y))/\(∃(X:Nat),((0:Int)=X/\S.num Y++a++S.num (length y)=tE Y a y X)/\Fp Y a y X)/\(∀(x:Nat),MJ (Fp Y a y x) (decide ((x:Int)<length y)) 0 x (length y) (0<=(aFt y x).1/\aua (tE Y a y x) (S.num (aFt y x).1)/\0<=(aFt y x).2.1/\aua (tE Y a y x++S.num (aFt y x).1) (S.num (aFt y x).2.1)/\aua (tE Y a y x++S.num (aFt y x).1++S.num (aFt y x).2.1) (aFt y x).2.2/\ajJ x (∃(e:Nat),anE x e (tE Y a y x++S.num (aFt y x).1++S.num (aFt y x).2.1++(aFt y x).2.2=tE Y a y e) (Fp Y a y e) (S.len y))) (tE Y a y x=hB Y a y)):=by
 refine au ?_;have D:Vg.hint Y:=c.1;have W:Vg.hlen a:=c.2.1;have A:Vg.hlen y:=c.2.2.1.1;clear c;have j:=I6 d;have n:=cU Y;have N:=cU (y.length:Int);apply cj6;iterate 3 omega
 grind
 . refine⟨0,?_⟩;try dsimp only
   with_reducible and_intros
   omega;grind[aEv];exact⟨d,Nat.zero_le _⟩
 intro X h;refine⟨?_,?_⟩
 . intro H;try simp only[dt] at H
   with_reducible and_intros
   iterate 2 omega
   have q:=GG h H;rw[tn];have:=NF q.1;have:=NF q.2.1;unfold sg at *;omega
   have q:=Em h;have w:=GG h H;have f:=cU (y.getD (toNat (X:Int)) (0,0,0,[])).2.1;have g:=cU (y.getD (toNat (X:Int)) (0,0,0,[])).2.2.1;have i:(y.getD (toNat (X:Int)) (0,0,0,[])).2.2.2.length=32:=w.2.2
   omega;have q:=GG h H;rw[tn];have:=NF q.1;have:=NF q.2.1;unfold sg at *;omega
   iterate 2
    have q:=Em h;have w:=GG h H;have f:=cU (y.getD (toNat (X:Int)) (0,0,0,[])).2.1;have g:=cU (y.getD (toNat (X:Int)) (0,0,0,[])).2.2.1;have i:(y.getD (toNat (X:Int)) (0,0,0,[])).2.2.2.length=32:=w.2.2
    simp only[J!];omega
   iterate 2 omega
   refine⟨(X+1),?_⟩;try dsimp only
   with_reducible and_intros
   omega;rw[tn];exact S.Á H;exact⟨d,w!⟩;simp only[af,S.len];omega
 grind[df,WB]
def ayC(y:Int)(Y:B8)(a:M (Int×Int×Int×B8))(h:cO y Y a=true):cO y Y a/\aug (hB y Y a) (pB 3 (hB y Y a)=afu y Y a):=by
 refine au ?_;refine⟨?_,?_,?_⟩;omega;grind[WN];rfl
def ayD(y:Int)(Y:B8)(a:M (Int×Int×Int×B8)):q85 (jM (ajD (hW y Y a).2) (aFM (qV y Y a) (hW y Y a).2) (az (hW y Y a).1) (l7 3 (hW y Y a).1=(qV y Y a).1/\0=(qV y Y a).2)):=by
 refine au ?_;simp_all[nt,df,aGZ,nf,dt,awc]
def ayE(a b:B8):decide (a=b)=Qy a b:=by
 rfl
def ayF(y:O)(Y:M (Int×Int×M (B8×U))):q85 (jM (ajD (gI y Y).2) (aFM (fk y Y) 7) True (q40 (qV (gI y Y).1.1 (gI y Y).1.2.1 (gI y Y).1.2.2) (fk y Y))):=by
 refine au ?_;simp_all[nt,df,aG0,nf,dt,awd]
def ayG(t:B8)(d:M (B8×U))(e:Int)(h:aW d/\aK d=true/\S.isTerm t=true/\e=0):aFA d (S.small t)/\length (aTw d t)<=1353245080339/\d=d/\(bif aaT e then(wv d t).2 else e)=0/\aTw d t=[aod d t]:=by
 refine au ?_;grind[Mv,List.length_singleton,Qs]
def ayH(t:B8)(d:M (B8×U))(e:Int)(l:M (Int×B8×B8×B8×O×B8))(h:aW d/\aK d=true/\S.isTerm t=true/\e=0/\l.length<=100000):aFA d (S.small t)/\length l+length (aTx d t)<=1353245080339/\d=d/\(bif aaT e then(wv d t).2 else e)=0/\l++aTx d t=l++[aod d t]:=by
 refine au ?_;grind[Mv,List.length_singleton,Qs]
def ayI(d:M (B8×U))(e:Int)(t:O)(f:Qz d t/\e=0)(c:Vg.aEo J.aEY d)(h:Vg.fD.ok J.aEX (e,(t,()))):(∃(X:Nat),((0:Int)=X/\d=d/\[]=sd d t X/\e=0/\t=t)/\dX t X)/\(∀(x:Nat),dX t x->Lf (decide (x<oh t)) (il 0 x (oh t)/\aFA d (aK d/\S.isTerm (yb t x)/\(0:Int)=0/\length (sd d t x)<=100000)/\ajJ x (∃(a:Nat),anE x a (d=d/\sd d t x++[aod d (yb t x)]=sd d t a/\(0:Int)=0/\t=t) (dX t a) (S.len t))) (sd d t x=SQ d t) auG (t=t)):=by
 refine au ?_;have A:Vg.hlen d:=c.1.1;have g:Vg.hint e:=h.1.1;have i:Vg.hlen t:=h.2.1.1.1;clear c h;obtain⟨u,q⟩:=f;subst q;refine⟨?_,?_⟩
 . refine⟨0,?_⟩;try dsimp only
   with_reducible and_intros
   omega;iterate 4 rfl
   exact S! _
 intro X j;refine⟨?_,?_⟩
 . intro H;try simp only[dt] at H
   with_reducible and_intros
   iterate 2 omega
   exact u.1;exact u.2.1;exact aG1 u H;rfl;have:=awe d t X;have:=u.2.2.1;omega
   iterate 2 omega
   refine⟨(X+1),?_⟩;try dsimp only
   with_reducible and_intros
   omega;rfl;exact aql H;iterate 2 rfl
   unfold dX;omega;simp only[af,S.len];omega
 grind[df,awf]
def ayJ(Y:O)(y:M (Int×Int×M (B8×U)))(l:M (Int×B8))(e:dq l)(f:Vg.jE J.aOv (Y,y,l)):q85 (jM (ajD (gI Y y).2) (aFM (rF Y y l) 7) (dq l) (Lf (Bool.not (aZ l)) (aFM (rF Y y l) 1) (S.small l) (∃(X:Nat),((0:Int)=X/\(gI Y y).2=0/\al l=al l/\(gI Y y).1.1=S.len Y/\(gI Y y).1.2.1=S.root (S.leaves Y)/\(gI Y y).1.2.2=ya Y y/\[]=oB y (al l) X)/\dX y X/\cy Y y/\aZ l) (∀(x:Nat),aFx (dX y x/\cy Y y/\aZ l) (decide ((x:Int)<length y)) 0 x (length y) (Qz (alf y x 0).2.2 (al l)/\auG) (aHz (length (oB y (al l) x)+length [SQ (alf y x 0).2.2 (al l)])/\ajJ x (∃(a:Nat),anE x a ((0:Int)=0/\al l=al l/\(S.len Y:Int)=S.len Y/\S.root (S.leaves Y)=S.root (S.leaves Y)/\ya Y y=ya Y y/\oB y (al l) x++[SQ (alf y x 0).2.2 (al l)]=oB y (al l) a) (dX y a/\cy Y y/\aZ l) (S.len y))) (jM (MH 0) (aFM (rF Y y l) 0) (zt (oB y (al l) x)) (q40 (xF (S.len Y) (S.root (S.leaves Y)) (ya Y y) (oB y (al l) x)) (rF Y y l)))))):=by
 refine au ?_;have w:Vg.hlen y:=f.2.1.1;refine⟨?_,?_,?_⟩;trivial;grind[nt,df,aG2];intro H;simp at H;refine⟨?_,?_,?_⟩;omega;grind[nt,awj];intro g;simp at g;refine⟨?_,?_,?_⟩;exact e.1
 . refine⟨(nat_lit 0:Nat),?_⟩;dsimp only;with_reducible and_intros
   iterate 2 omega
   rfl;exact(uJ H).2.1;iterate 2 (simp_all[uJ])
   rfl;exact Nat.zero_le _;grind[uJ];omega
 intro c h;refine V.dI (λd=>?_) λi=>?_
 . with_reducible and_intros
   iterate 2 omega
   exact awi h.2.1 h.2.2 d;rfl;have:=awg y (al l) c;have:=Ux h.2.1;rw[J?];omega
   iterate 2 omega
   refine⟨(c+nat_lit 1),?_⟩;try dsimp only
   with_reducible and_intros
   omega;iterate 5 rfl
   exact aqm d;unfold dX;omega;exact h.2.1;omega;simp only[af,S.len];omega
 refine⟨?_,?_⟩;intro j;refine⟨?_,?_⟩;grind;grind;grind[awk]
def ayK(y:O)(Y:M (Int×Int×M (B8×U)))(i:Int):aFy (ajD (gI y Y).2) (aFM (oC y Y i) 7) (Lf (oZ i 0 (oh y)) (aFM (oC y Y i) 5) (dj y) (eX (S.leaves y)) (Lf (ajD (tF (S.leaves y) i)) (aFM (oC y Y i) (tF (S.leaves y) i)) (il 0 i (oh y)) (aQ8 (yb y i)) (q40 (Kw (gI y Y).1.1 (gI y Y).1.2.1 (gI y Y).1.2.2 i (yb y i) (oz (S.leaves y) i)) (oC y Y i)))):=by
 refine au ?_;refine⟨?_,?_,?_⟩;trivial;grind[nt,df,aG3];intro h;simp at h;refine⟨?_,?_⟩;simp_all[V.Nb,dt,awl]
 intro H;refine⟨?_,?_,?_,?_⟩;exact(GI (uJ h).1).1;exact(GI (uJ h).1).2.1;grind[nt,df,afv];grind[afv]
def ayL(y:O)(Y:M (Int×Int×M (B8×U)))(H:cy y Y=true)(h:Vg.jE J.arj (y,Y)):dj y/\cO (S.len y) (S.root (S.leaves y)) (ya y Y)/\afu (S.len y) (S.root (S.leaves y)) (ya y Y)=tH y Y:=by
 have D:Vg.hlen y:=h.1.1;have w:Vg.hlen Y:=h.2.1.1;clear h;refine⟨?_,?_,?_⟩;exact(GI H).1;exact wk H;rfl
def aXp(a b:O)(h:Vg.jE J.aOa (a,b)):ti (decide (oh a<=oh b)) (anm (oh a) (oh b) True)/\q81 (decide (oh a<=oh b)) (auD a (take (toNat (oh a)) b))=aNW a b:=by
 refine au ?_;have A:Vg.hlen a:=h.1.1;have I:Vg.hlen b:=h.2.1.1;clear h;with_reducible and_intros
 . intro H;try simp only[dt] at H
   with_reducible and_intros
   iterate 2 omega
   trivial
 intro c;try simp only[df] at c
 trivial;exact aYZ a b
def ayM(i n:Int)(H:ob i n):(∃(X:Int×Int×M Bool),(i=X.1/\n=X.2.1/\[]=X.2.2)/\j4 i n X)/\(∀(x:Int×Int×M Bool),j4 i n x->q71 (decide (1<x.2.1)) (q85 (jM (decide (x.1<S.split x.2.1)) (q66 (length x.2.2+length [false])/\(∃(a:Int×Int×M Bool),(x.1=a.1/\S.split x.2.1=a.2.1/\x.2.2++[false]=a.2.2)/\j4 i n a/\toNat a.2.1<toNat x.2.1)) (q66 (length x.2.2+length [true])) (q78 (x.1-S.split x.2.1)/\q78 (x.2.1-S.split x.2.1)/\(∃(c:Int×Int×M Bool),(x.1-S.split x.2.1=c.1/\x.2.1-S.split x.2.1=c.2.1/\x.2.2++[true]=c.2.2)/\j4 i n c/\toNat c.2.1<toNat x.2.1)))) (x.2.2=cq i n)):=by
 refine au ?_;refine⟨?_,?_⟩;refine⟨((i),((n),([]))),?_⟩;grind[aNA];intro X d;refine⟨?_,?_⟩
 . intro e;refine⟨?_,?_,?_⟩;trivial;intro f;refine⟨?_,?_⟩;grind[QA,lc,ln];refine⟨((X.1),((S.split (X.2.1)),(X.2.2++[Bool.false]))),?_⟩;grind[aNB,QA];intro h;simp at h;with_reducible and_intros
   grind[QA,lc,ln];omega;iterate 3 (grind[QA])
   refine⟨((X.1-S.split (X.2.1)),((X.2.1-S.split (X.2.1)),(X.2.2++[Bool.true]))),?_⟩;grind[aNC,QA]
 grind[df,S.sd_end]
def ayN(d:B8)(i n:Int)(p:O)(g:eX p)(h:Vg.jE J.arw (d,i,n,p)):Lf (ct (aFN d) (Jn n 1 (Jn 1099511627776 n (oZ i 0 n)))) ([]=jO d i n p/\1=cB d i n p) (ob i n) (an5 (oD (oh p) (aHw i n))) (jM (xO (oD (oh p) (aHw i n)) (cP p)) ([]=jO d i n p/\6=cB d i n p) (∃(a:Nat),((0:Int)=a/\d=cL d i n p a)/\cB d i n p=0/\a<=S.len p) (∀(x:Nat),cB d i n p=0/\x<=S.len p->jM (decide (x<oh p)) (q78 (aHw i n-1)/\anS (aHw i n-1-x) 0 (aHw i n) (toNat (aHw i n-1-x)<aHw i n) (((aSE i n x->il 0 x (oh p)/\True)/\(aSE i n x=false->il 0 x (oh p)/\True))/\ajJ x (∃(X:Nat),((x:Int)+1=X/\(bif aSE i n x then bz (yb p x) (cL d i n p x) else bz (cL d i n p x) (yb p x))=cL d i n p X)/\(cB d i n p=0/\X<=S.len p)/\de (S.len p) X x))) (cL d i n p x=jO d i n p) (0=cB d i n p))):=by
 refine au ?_;have A:Vg.hlen p:=h.2.2.2.1.1;refine⟨?_,?_⟩;grind[aG4];intro H;simp at H;with_reducible and_intros
 grind[afw];iterate 2 grind
 grind[awn];intro c;simp at c;refine⟨?_,?_⟩;grind[aND,aG5];intro e j;refine⟨?_,?_⟩
 . intro f;simp at f;with_reducible and_intros
   iterate 7 omega
   iterate 2 grind
   iterate 2 omega
   refine⟨(e+nat_lit 1),?_⟩;dsimp only;with_reducible and_intros
   omega
   ((exact S.Ð x! w!))
   omega;iterate 2 (grind[af,S.len])
 grind[df,aau,afw,auv,awo]
def ayO(b:B8)(u:b.length<=140737488355328):bG b/\q71 (ajD (ag b 0 0).1.2.2) (ME (cu b) (ag b 0 0).1.2.2) (jM (decide (1000<(ag b 0 0).2)) (ME (cu b) 2) (∃(c:Nat×Int×Int×Int×U),((0:Int)=c.1/\-1=c.2.2.2.1/\[]=c.2.2.2.2/\(ag b 0 0).1.1=b/\(ag b 0 0).1.2.1=c.2.1/\(ag b 0 0).1.2.2=c.2.2.1)/\wA b c.1 c.2) (∀(x:Nat×Int×Int×Int×U),wA b x.1 x.2->jM (decide (x.1<(ag b 0 0).2)) (bG b/\dg (ajD (aFp b x).1.2.2) (ME (cu b) (aFp b x).1.2.2) (999-x.2.2.2.1) (q78 (999-x.2.2.2.1-1)/\dg (decide (999-x.2.2.2.1-1<(aFp b x).2)) (ME (cu b) 2) ((aFp b x).2+1) (q78 (x.2.2.2.1+((aFp b x).2+1))/\aHJ x.2.2.2.2 [x.2.2.2.1+((aFp b x).2+1)]/\q78 (x.1+1)/\(∃(a:Nat×Int×Int×Int×U),((x.1:Int)+1=a.1/\x.2.2.2.1+((aFp b x).2+1)=a.2.2.2.1/\x.2.2.2.2++[x.2.2.2.1+((aFp b x).2+1)]=a.2.2.2.2/\(aFp b x).1.1=b/\(aFp b x).1.2.1=a.2.1/\(aFp b x).1.2.2=a.2.2.1)/\wA b a.1 a.2/\de 1000 a.1 x.1)))) True (q71 (ajD (S.done b x.2.1 x.2.2.1)) (ME (cu b) (S.done b x.2.1 x.2.2.1)) (x.2.2.2.2=(cu b).1/\0=(cu b).2)))):=by
 refine au ?_;refine⟨?_,?_,?_⟩;grind;intro l;simp at l;refine⟨?_,?_⟩;exact(afE l).1;exact(afE l).2;intro i;simp at i;refine V.dI (λs=>?_) λt=>?_;refine⟨?_,?_⟩;exact(S.Ó i s).1;exact(S.Ó i s).2;refine⟨?_,?_⟩
 . refine⟨(0,(((((ag b (0:Int) (0:Int)).1).2).1),(((((ag b (0:Int) (0:Int)).1).2).2),(((-1:Int)),([]))))),?_⟩;with_reducible and_intros
   grind;iterate 2 rfl
   grind[Ek];iterate 2 rfl
   exact aNH i t
 intro X h;refine V.dI (λH=>?_) λk=>?_
 . refine⟨?_,?_,?_⟩;omega;intro m;try simp only[nt,df] at m
   refine⟨?_,?_⟩;exact(afF h H m).1;exact(afF h H m).2;intro j;try simp only[nf,dt] at j
   with_reducible and_intros
   iterate 4
    (have q:=h.2.2.2.2.1;have Q:=h.2.2.2.2.2.1;have d:=h.2.2.2.2.2.2;have e:=h.2.2.1;have f:=qZ b X.2.1 X.2.2.1;have g:=h.1;omega)
   intro F;try simp only[dt] at F
   refine⟨?_,?_⟩;exact(afG h H j w!).1;exact(afG h H j w!).2;intro I;try simp only[df] at I
   with_reducible and_intros
   iterate 4
    (have q:=h.2.2.2.2.1;have Q:=h.2.2.2.2.2.1;have d:=h.2.2.2.2.2.2;have e:=h.2.2.1;have f:=qZ b X.2.1 X.2.2.1;have g:=h.1;omega)
   (have q:=h.2.2.2.2.1;have Q:=h.2.2.2.2.2.1;have d:=h.2.2.2.2.2.2;have e:=h.2.2.1;have f:=qZ b X.2.1 X.2.2.1;have g:=h.1;have n:(oe b).2=(ag b 0 0).2:=rfl;rw[J?];omega)
   (have q:=h.2.2.2.2.1;have Q:=h.2.2.2.2.2.1;have d:=h.2.2.2.2.2.2;have e:=h.2.2.1;have f:=qZ b X.2.1 X.2.2.1;have g:=h.1;omega)
   (have q:=h.2.2.2.2.1;have Q:=h.2.2.2.2.2.1;have d:=h.2.2.2.2.2.2;have e:=h.2.2.1;have f:=qZ b X.2.1 X.2.2.1;have g:=h.1;have n:(oe b).2=(ag b 0 0).2:=rfl;omega)
   refine⟨((X.1+1),(((((ag b (X.2.1) (X.2.2.1)).1).2).1),(((((ag b (X.2.1) (X.2.2.1)).1).2).2),((X.2.2.2.1+((ag b (X.2.1) (X.2.2.1)).2+(1:Int))),(X.2.2.2.2++[X.2.2.2.1+((ag b (X.2.1) (X.2.2.1)).2+(1:Int))]))))),?_⟩;try dsimp only
   with_reducible and_intros
   (have q:=h.2.2.2.2.1;have Q:=h.2.2.2.2.2.1;have d:=h.2.2.2.2.2.2;have e:=h.2.2.1;have f:=qZ b X.2.1 X.2.2.1;have g:=h.1;have n:(oe b).2=(ag b 0 0).2:=rfl;omega)
   iterate 2 with_reducible rfl
   exact(Ek b _ _).1;iterate 2 with_reducible rfl
   exact aqv h H j w!
   (have q:=h.2.2.2.2.1;have Q:=h.2.2.2.2.2.1;have d:=h.2.2.2.2.2.2;have e:=h.2.2.1;have f:=qZ b X.2.1 X.2.2.1;have g:=h.1;have n:(oe b).2=(ag b 0 0).2:=rfl;simp only[af];omega)
 refine⟨?_,?_,?_⟩;trivial;intro o;simp at o;refine⟨?_,?_⟩;rw[Jg h k,R! o];rw[Jg h k,R! o];intro r;simp at r;refine⟨?_,?_⟩;rw[Jg h k,Q! r];rw[Jg h k,Q! r]
def ayP(n:Int)(p q:Bool):q81 p q=Br p q:=by
 refine au ?_;grind[Br]
def ayQ(n:Int)(p q:Bool):ct p q=QB p q:=by
 refine au ?_;rfl
def ayR(n:Int)(p q:Bool):q81 p (Bool.not q)=Bs p q:=by
 refine au ?_;grind[Bs]
def ayS(a b:U):q85 (aj8 (∃(i:U×U×U),q39 i (bif aF4 a then [] else a) (bif aF4 b then [] else b) []/\mG Br a b i) (∀(X:U×U×U),mG Br a b X->q71 (ct (alC (q96 X.1)) (alC (q96 X.2.1))) (ti (alC (q96 X.1)) (aPQ (aaT (q96 X.2.1)) 0 (q96 X.1) (q96 X.2.1))/\ti (alC (q96 X.2.1)) (aPQ (aaT (q96 X.1)) 0 (q96 X.2.1) (q96 X.1))/\ti (aQc X) (aMO 0 (q96 X.1) 1)/\ti (aQb X) (aMO 0 (q96 X.2.1) 1)/\aFy (Br (aQc X) (aQb X)) (aHJ X.2.2 (aTt X)/\(∃(c:U×U×U),q39 c (Dm (aQc X) 1 X.1) (Dm (aQb X) 1 X.2.1) (X.2.2++aTt X)/\mG Br a b c/\je c<je X)) (∃(d:U×U×U),q39 d (Dm (aQc X) 1 X.1) (Dm (aQb X) 1 X.2.1) X.2.2/\mG Br a b d/\je d<je X)) (X.2.2=AK a b))):=by
 refine au ?_;refine⟨trivial,trivial,⟨(tA a,tA b,[]),⟨Er a,Er b,rfl⟩,aqr ..⟩,λx h=>⟨λe=>?_,λe=>WQ rfl h e⟩⟩;have q:=aaz rfl h e;refine⟨⟨λf=>⟨λ_=>trivial,λj=>⟨⟨Int.le_refl _,of_decide_eq_true f⟩,Int.le_refl _,x!⟩⟩,λ_=>trivial⟩,⟨λf=>⟨λ_=>trivial,λj=>⟨⟨Int.le_refl _,of_decide_eq_true f⟩,Int.le_refl _,x!⟩⟩,λ_=>trivial⟩,⟨λH=>⟨⟨Int.le_refl _,(mw H).1⟩,by decide,(mw H).2⟩,λ_=>trivial⟩,⟨λH=>⟨⟨Int.le_refl _,(mw H).1⟩,by decide,(mw H).2⟩,λ_=>trivial⟩,trivial,λg=>⟨x!,(pK (jQ x.1 x.2.1) x.1,pK (jQ x.2.1 x.1) x.2.1,x.2.2++[Jd x.1 x.2.1]),⟨rfl,rfl,rfl⟩,q.2.1 g,q.2.2.2.1⟩,λg=>⟨(pK (jQ x.1 x.2.1) x.1,pK (jQ x.2.1 x.1) x.2.1,x.2.2),⟨rfl,rfl,rfl⟩,q.2.2.1 g,q.2.2.2.2⟩⟩
def ayT(a b:U):q85 (aj8 (∃(i:U×U×U),q39 i (bif aF4 a then [] else a) (bif aF4 b then [] else b) []/\mG QB a b i) (∀(X:U×U×U),mG QB a b X->q71 (ct (alC (q96 X.1)) (alC (q96 X.2.1))) (ti (alC (q96 X.1)) (aPQ (aaT (q96 X.2.1)) 0 (q96 X.1) (q96 X.2.1))/\ti (alC (q96 X.2.1)) (aPQ (aaT (q96 X.1)) 0 (q96 X.2.1) (q96 X.1))/\ti (aQf X) (aMO 0 (q96 X.1) 1)/\ti (aQg X) (aMO 0 (q96 X.2.1) 1)/\aFy (QB (aQf X) (aQg X)) (aHJ X.2.2 (aTv X)/\(∃(c:U×U×U),q39 c (Dm (aQf X) 1 X.1) (Dm (aQg X) 1 X.2.1) (X.2.2++aTv X)/\mG QB a b c/\je c<je X)) (∃(d:U×U×U),q39 d (Dm (aQf X) 1 X.1) (Dm (aQg X) 1 X.2.1) X.2.2/\mG QB a b d/\je d<je X)) (X.2.2=qX a b))):=by
 refine au ?_;refine⟨trivial,trivial,⟨(tA a,tA b,[]),⟨Er a,Er b,rfl⟩,aqr ..⟩,λx h=>⟨λe=>?_,λe=>WQ rfl h e⟩⟩;have q:=aaz rfl h e;refine⟨⟨λf=>⟨λ_=>trivial,λj=>⟨⟨Int.le_refl _,of_decide_eq_true f⟩,Int.le_refl _,x!⟩⟩,λ_=>trivial⟩,⟨λf=>⟨λ_=>trivial,λj=>⟨⟨Int.le_refl _,of_decide_eq_true f⟩,Int.le_refl _,x!⟩⟩,λ_=>trivial⟩,⟨λH=>⟨⟨Int.le_refl _,(mw H).1⟩,by decide,(mw H).2⟩,λ_=>trivial⟩,⟨λH=>⟨⟨Int.le_refl _,(mw H).1⟩,by decide,(mw H).2⟩,λ_=>trivial⟩,trivial,λg=>⟨x!,(pK (jQ x.1 x.2.1) x.1,pK (jQ x.2.1 x.1) x.2.1,x.2.2++[Jd x.1 x.2.1]),⟨rfl,rfl,rfl⟩,q.2.1 g,q.2.2.2.1⟩,λg=>⟨(pK (jQ x.1 x.2.1) x.1,pK (jQ x.2.1 x.1) x.2.1,x.2.2),⟨rfl,rfl,rfl⟩,q.2.2.1 g,q.2.2.2.2⟩⟩
def ayU(a b:U):q85 (aj8 (∃(i:U×U×U),q39 i (bif aF4 a then [] else a) (bif aF4 b then [] else b) []/\mG Bs a b i) (∀(X:U×U×U),mG Bs a b X->q71 (ct (alC (q96 X.1)) (alC (q96 X.2.1))) (ti (alC (q96 X.1)) (aPQ (aaT (q96 X.2.1)) 0 (q96 X.1) (q96 X.2.1))/\ti (alC (q96 X.2.1)) (aPQ (aaT (q96 X.1)) 0 (q96 X.2.1) (q96 X.1))/\ti (aQe X) (aMO 0 (q96 X.1) 1)/\ti (aQd X) (aMO 0 (q96 X.2.1) 1)/\aFy (Bs (aQe X) (aQd X)) (aHJ X.2.2 (aTu X)/\(∃(c:U×U×U),q39 c (Dm (aQe X) 1 X.1) (Dm (aQd X) 1 X.2.1) (X.2.2++aTu X)/\mG Bs a b c/\je c<je X)) (∃(d:U×U×U),q39 d (Dm (aQe X) 1 X.1) (Dm (aQd X) 1 X.2.1) X.2.2/\mG Bs a b d/\je d<je X)) (X.2.2=I8 a b))):=by
 refine au ?_;refine⟨trivial,trivial,⟨(tA a,tA b,[]),⟨Er a,Er b,rfl⟩,aqr ..⟩,λx h=>⟨λe=>?_,λe=>WQ rfl h e⟩⟩;have q:=aaz rfl h e;refine⟨⟨λf=>⟨λ_=>trivial,λj=>⟨⟨Int.le_refl _,of_decide_eq_true f⟩,Int.le_refl _,x!⟩⟩,λ_=>trivial⟩,⟨λf=>⟨λ_=>trivial,λj=>⟨⟨Int.le_refl _,of_decide_eq_true f⟩,Int.le_refl _,x!⟩⟩,λ_=>trivial⟩,⟨λH=>⟨⟨Int.le_refl _,(mw H).1⟩,by decide,(mw H).2⟩,λ_=>trivial⟩,⟨λH=>⟨⟨Int.le_refl _,(mw H).1⟩,by decide,(mw H).2⟩,λ_=>trivial⟩,trivial,λg=>⟨x!,(pK (jQ x.1 x.2.1) x.1,pK (jQ x.2.1 x.1) x.2.1,x.2.2++[Jd x.1 x.2.1]),⟨rfl,rfl,rfl⟩,q.2.1 g,q.2.2.2.1⟩,λg=>⟨(pK (jQ x.1 x.2.1) x.1,pK (jQ x.2.1 x.1) x.2.1,x.2.2),⟨rfl,rfl,rfl⟩,q.2.2.1 g,q.2.2.2.2⟩⟩
def ayV(a b:U):q85 (AK a b=AK a b):=by
 refine au ?_;grind
def ayW(a b:U):q85 (qX a b=qX a b):=by
 refine au ?_;grind
def ayX(a b:U):q85 (I8 a b=I8 a b):=by
 refine au ?_;grind
def ayY(s:B8):Bool.not (decide (s=s))=false:=by
 grind
def ayZ(a b:B8):aj8 (an5 false) (aSZ false (Bool.not false) (Op.bytesLess a b)=Op.bytesLess a b):=by
 refine au ?_;grind
def ay0(x:O)(t:B8)(H:yq x):(∃(a:Int×Int),aqJ 0 a (oh x)/\qY x t a.1 a.2)/\(∀(X:Int×Int),qY x t X.1 X.2->jM (decide (X.1<X.2)) (q78 (X.1+X.2)/\anm 1 64 (aMK (aMp X) 0 (oh x) (aj8 (ti (Op.bytesLess (yb x (aMp X)) t) (q78 (aMp X+1))) (∃(c:Int×Int),aqJ (bif Op.bytesLess (yb x (aMp X)) t then aMp X+1 else X.1) c (bif Op.bytesLess (yb x (aMp X)) t then X.2 else aMp X)/\qY x t c.1 c.2/\aQF (c.2-c.1) (X.2-X.1))))) (ti (decide (X.1<oh x)) (il 0 X.1 (oh x)/\jM (decide (yb x X.1=t)) True (il 0 X.1 (oh x)) (q85 (an5 false)))) ((bif decide (X.1<oh x) then bif decide (yb x X.1=t) then X.1 else bif false then X.1 else X.1 else X.1)=mH x t/\q81 (decide (X.1<oh x)) (ct (decide (yb x X.1=t)) (bif false then false else false))=Bt x t)):=by
 refine au ?_;refine⟨?_,?_⟩
 . refine⟨(((0:Int)),((↑(length x):Int))),?_⟩;with_reducible and_intros
   iterate 2 rfl
   exact⟨Int.le_refl _,w!,Int.le_refl _,λk l=>by omega,λk l v=>by omega⟩
 intro a h;refine V.dI (λd=>?_) λm=>?_
 . with_reducible and_intros
   iterate 2
    obtain⟨e,g,Q,f,i,j⟩:=Je H h d;omega
   iterate 2 omega
   iterate 3 grind
   obtain⟨e,g,Q,f,i,j⟩:=Je H h d;omega;trivial;intro o;refine⟨?_,?_⟩;grind;obtain⟨e,g,Q,f,i,j⟩:=Je H h d;omega;grind;refine⟨((bif Op.bytesLess (getD x (toNat ((a.1+a.2)%(18446744073709551616:Int)/(2:Int)^toNat (1:Int))) []) t then(a.1+a.2)%(18446744073709551616:Int)/(2:Int)^toNat (1:Int)+(1:Int) else Prod.fst a),(bif Op.bytesLess (getD x (toNat ((a.1+a.2)%(18446744073709551616:Int)/(2:Int)^toNat (1:Int))) []) t then Prod.snd a else(a.1+a.2)%(18446744073709551616:Int)/(2:Int)^toNat (1:Int))),?_⟩;with_reducible and_intros
   iterate 2 rfl
   obtain⟨e,g,Q,f,i,j⟩:=Je H h d;rw[e];exact(aHa H h Q f).1;obtain⟨e,g,Q,f,i,j⟩:=Je H h d;grind
 with_reducible and_intros
 . intro n;simp at n;with_reducible and_intros
   have q:=h.1;omega;omega;grind;intro r;with_reducible and_intros
   have q:=h.1;omega;omega;trivial;iterate 2 grind
 grind;grind[afz];exact awq H h m
def ay1(s:B8)(t:O)(f:M U)(h:Df t f):yq t/\Lf (Bool.not (Bt t s)) ([]=od t f s) (il 0 (mH t s) (length f)) (S.small (aLW f (toNat (mH t s)))) (aLW f (toNat (mH t s))=od t f s):=by
 refine au ?_;refine⟨?_,?_,?_⟩;exact h.1;grind[nt,awr];intro H;with_reducible and_intros
 omega;have q:=(aaA h (s:=s) x!).1;omega;exact(aaA h x!).2.1;exact(aaA h x!).2.2
def ay2(s:B8)(l:M U)(h:sH l):q78 (si l-1)/\ô (si l-1-1) 0 (si l) (anS (si l-1-1) 0 (si l) (abr l<si l) (il 0 (si l-1) (si l)/\toNat (si l-1)<si l/\aj8 (aHz (abr l+length (wQ l))) (take (abr l) l++wQ l=tI 1 l))):=by
 refine au ?_;obtain⟨P,p⟩:=h;have a:l.length<=1099511627776:=p;have e:toNat ((l.length:Int)-1-1)=l.length-2:=by omega
 have E:toNat ((l.length:Int)-1)=l.length-1:=by omega
 with_reducible and_intros
 iterate 14 omega
 trivial;grind[List.length_singleton];rw[e,E];rfl
def ay3(s:B8)(l:M U)(h:sH l):q78 (sk l-1)/\ô (sk l-1-1) 0 (sk l) (anS (sk l-1-1) 0 (sk l) (yA l<sk l) (il 0 (sk l-1) (sk l)/\toNat (sk l-1)<sk l/\aj8 (aHz (yA l+length (wR l))) (take (yA l) l++wR l=tI 2 l))):=by
 refine au ?_;obtain⟨P,p⟩:=h;have a:l.length<=1099511627776:=p;have e:toNat ((l.length:Int)-1-1)=l.length-2:=by omega
 have E:toNat ((l.length:Int)-1)=l.length-1:=by omega
 with_reducible and_intros
 iterate 14 omega
 trivial;grind[List.length_singleton];rw[e,E];rfl
def ay4(s:B8)(l:M U)(h:sH l):q78 (tV l-1)/\ô (tV l-1-1) 0 (tV l) (anS (tV l-1-1) 0 (tV l) (Xy l<tV l) (il 0 (tV l-1) (tV l)/\toNat (tV l-1)<tV l/\aj8 (aHz (Xy l+length (abt l))) (take (Xy l) l++abt l=tI 3 l))):=by
 refine au ?_;obtain⟨P,p⟩:=h;have a:l.length<=1099511627776:=p;have e:toNat ((l.length:Int)-1-1)=l.length-2:=by omega
 have E:toNat ((l.length:Int)-1)=l.length-1:=by omega
 with_reducible and_intros
 iterate 14 omega
 trivial;grind[List.length_singleton];rw[e,E];rfl
def ay5(s:B8)(t:O)(f l:M U)(h:Df t f/\S.small l):Df t f/\aHz (length l+length [od t f s])/\[t]=[t]/\0=0/\[f]=[f]/\0=0/\l++[od t f s]=Jc l (od t f s):=by
 refine au ?_;with_reducible and_intros
 grind;grind[S.small,List.length_singleton];iterate 5 rfl
def ay6(l:M (Int×B8))(t:O)(f:M U)(H:GJ l t f)(o:Vg.Row.ok (Vg.TA.du [.dV (.slice [.int .i64,.str]),.agg [.fn (.func 103) [] [.var [.slice [.str]],.var [.slice [.slice [.int .i64]]]],.fn (.func 107) [] [],.fn (.func 108) [] [],.fn (.func 109) [] []]]) (l,t,f)):(∃(X:Nat),((0:Int)=X/\[]=jU (od t f) l X/\[t]=[t]/\0=0/\[f]=[f]/\0=0)/\pI l (jU (od t f) l X) X)/\(∀(x:Nat),pI l (DB f l t x) x->Lf (decide ((x:Int)<length l)) (il 0 x (length l)/\((Xx l x).1=0->(Xx l x).1=0/\(Df t f/\S.small (DB f l t x))/\ajJ x (∃(c:Nat),anI (x+1) c (Jc (DB f l t x) (od t f (Xx l x).2)=jU (od t f) l c/\[t]=[t]/\0=0/\[f]=[f]/\0=0) (pI l (jU (od t f) l c) c) (S.len l) (af (S.len l) x)))/\((Xx l x).1=1->(Xx l x).1=1/\sH (DB f l t x)/\ajJ x (∃(d:Nat),anI (x+1) d (tI 1 (DB f l t x)=jU (od t f) l d/\[t]=[t]/\0=0/\[f]=[f]/\0=0) (pI l (jU (od t f) l d) d) (S.len l) (af (S.len l) x)))/\((Xx l x).1=2->(Xx l x).1=2/\sH (DB f l t x)/\ajJ x (∃(e:Nat),anI (x+1) e (tI 2 (DB f l t x)=jU (od t f) l e/\[t]=[t]/\0=0/\[f]=[f]/\0=0) (pI l (jU (od t f) l e) e) (S.len l) (af (S.len l) x)))/\((Xx l x).1=3->(Xx l x).1=3/\sH (DB f l t x)/\ajJ x (∃(g:Nat),anI (x+1) g (tI 3 (DB f l t x)=jU (od t f) l g/\[t]=[t]/\0=0/\[f]=[f]/\0=0) (pI l (jU (od t f) l g) g) (S.len l) (af (S.len l) x)))/\(aML ((Xx l x).1=0) (aML ((Xx l x).1=1) (aML ((Xx l x).1=2) (aML ((Xx l x).1=3) True)))->False)) (awZ (length (DB f l t x))) (toNat 0<length (DB f l t x)) (aLW (DB f l t x) (toNat 0)=Dd l t f)):=by
 refine au ?_;have B:Vg.hlen l:=o.1.1;refine⟨?_,?_⟩;grind[aws,aNG];intro X a;refine V.dI (λh=>?_) λm=>?_
 . with_reducible and_intros
   iterate 2 omega
   . intro n;with_reducible and_intros
     omega;exact H.2.2;exact alD H a;iterate 2 omega
     refine⟨(X+1),?_⟩;try dsimp only
     with_reducible and_intros
     omega;exact S.Ò h n;iterate 4 rfl
     exact aqt a h n;simp only[af,S.len];omega
   . intro i;with_reducible and_intros
     omega;exact NH H a h (by rw[show(cM l X).1=1 from i];decide);iterate 2 omega
     refine⟨(X+1),?_⟩;try dsimp only
     with_reducible and_intros
     omega;exact NG h i (by decide);iterate 4 rfl
     exact QH H a h i (by decide);simp only[af,S.len];omega
   . intro j;with_reducible and_intros
     omega;exact NH H a h (by rw[show(cM l X).1=2 from j];decide);iterate 2 omega
     refine⟨(X+1),?_⟩;try dsimp only
     with_reducible and_intros
     omega;exact NG h j (by decide);iterate 4 rfl
     exact QH H a h j (by decide);simp only[af,S.len];omega
   . intro k;with_reducible and_intros
     omega;exact NH H a h (by rw[show(cM l X).1=3 from k];decide);iterate 2 omega
     refine⟨(X+1),?_⟩;try dsimp only
     with_reducible and_intros
     omega;exact NG h k (by decide);iterate 4 rfl
     exact QH H a h k (by decide);simp only[af,S.len];omega
   intro r;have q:0<=(getD l (toNat (X:Int)) (0,[])).1/\(getD l (toNat (X:Int)) (0,[])).1<=3:=⟨(Jf H.1 h).1,(Jf H.1 h).2.1⟩;grind
 with_reducible and_intros
 omega
 iterate 2
  have:=afB H a m;omega
 rw[(afB H a m).2];rfl
def ay7(l:M (Int×B8))(f:M U)(a:dq l)(j:Vg.jE J.aOA (l,f)):dq l/\ot (Bool.not (aZ l)) (ME (iM l f) 1) (S.small l) (oD (length f) (oh (al l))) (∃(e:Nat),(0:Int)=e/\GK f e) (∀(X:Nat),GK f X->jM (decide ((X:Int)<length f)) (il 0 X (length f)/\q85 (anF (aF4 (aLW f (toNat X))) (ME (iM l f) 1) X (∃(g:Nat),aub X g (GK f g) (S.len f)))) (GJ l (al l) f) (Dd l (al l) f=(iM l f).1/\0=(iM l f).2)):=by
 refine au ?_;have A:Vg.hlen f:=j.2.1.1;refine⟨?_,?_,?_⟩;omega;intro n;refine⟨?_,?_⟩;exact(KA (by simp_all[S.lO,Bool.false_and])).1;exact(KA (by simp_all[S.lO,Bool.false_and])).2;intro h;simp at h;refine⟨?_,?_,?_⟩;exact a.1;intro o;refine⟨?_,?_⟩;exact(KA (by simp[S.lO,h,Bool.true_and];grind)).1;exact(KA (by simp[S.lO,h,Bool.true_and];grind)).2;intro k;simp at k;refine⟨?_,?_⟩;refine⟨(nat_lit 0:Nat),?_⟩;dsimp only;refine⟨?_,?_⟩;omega;exact⟨Nat.zero_le _,λx q=>by grind⟩;intro m H;refine V.dI (λc=>?_) λF=>?_
 . with_reducible and_intros
   iterate 2 omega
   trivial;intro d;try simp only[nt] at d
   refine⟨?_,?_⟩;exact(KA (by simp only[S.lO,afD c d,Bool.and_false])).1;exact(KA (by simp only[S.lO,afD c d,Bool.and_false])).2;intro i;try simp only[nf] at i
   with_reducible and_intros
   iterate 2 omega
   refine⟨(m+nat_lit 1),?_⟩;try dsimp only
   refine⟨?_,?_,?_⟩;omega;exact aqu H c i;simp only[af,S.len];omega
 refine⟨?_,?_,?_⟩;exact⟨h,a.1,UA a.1,w!,V!.1 (WS H (by assumption))⟩;exact(afC (by simp only[S.lO,h,WS H (by assumption),Bool.true_and,Bool.and_true];exact L? w!)).1;exact(afC (by simp only[S.lO,h,WS H (by assumption),Bool.true_and,Bool.and_true];exact L? w!)).2
def ay8(c:Int)(P d a:B8)(f:O)(p t:B8)(e:Int)(h:az p):ti (decide (P=t)) (ti (aaT e) (az p))/\q81 (decide (P=t)) (Ri (aaT e) (l7 2 p) a)=I9 t e P a p:=by
 refine au ?_;simp_all[dt,df,I9]
def ay9(c:Int)(a p d:B8)(e:O)(P t:B8):q81 (Op.bytesLess a t) (bif Bool.not (aUn p t) then aaT (q91 P) else q81 (decide (p=[])) (aaT (q91 P)))=Ja t a p P:=by
 refine au ?_;grind[aHc,Ja,Op.bytesLess,decide]
def aza(t:B8)(P:Int)(a c d:B8)(e:O)(p:B8)(h:p.length<=140737488355328):bG p/\[t]=[t]/\0=0/\[(cu p).2]=[(cu p).2]/\0=0/\(cu p).1=(cu p).1/\[t]=[t]/\0=0:=by
 refine au ?_;grind
def azb(r:B8)(n:Int)(t:B8)(e:Int)(P a c:B8)(d:O)(p:B8)(f:wB t d p):nC (aFN r) (nC (decide (n<1)) (nC (decide (1099511627776<n)) (S.small t)))/\jM (aLI (aFN r) (decide (n<1)) (xO (decide (1099511627776<n)) (S.isTerm t))) (ME (jr r n t (e,P,a,c,d,p)) 1) True (Lf (ajD (kJ P a c)) (ME (jr r n t (e,P,a,c,d,p)) 6) (az (dw P a c)) (eX d) (Lf (xO (ajD (cB (S.leaf (dw P a c)) e n d)) (decide (jO (S.leaf (dw P a c)) e n d=r))) (ME (jr r n t (e,P,a,c,d,p)) 6) (bG p) (∃(k:Nat),(0:Int)=k/\og r n t (e,P,a,c,d,p) k) (∀(x:Nat),og r n t (e,P,a,c,d,p) x->q71 (decide ((x:Int)<((2:Nat):Int))) (((x:Int)=((0:Nat):Int)->(x:Int)=((0:Nat):Int)/\az p/\anF (I9 t (cu p).2 P c p) ((cu p).1=(jr r n t (e,P,a,c,d,p)).1/\0=(jr r n t (e,P,a,c,d,p)).2) x (∃(g:Nat),(x:Int)+1=g/\og r n t (e,P,a,c,d,p) g/\af 2 g<af 2 x))/\(x=aQa->x=aQa/\q85 (anF (Ja t P a p) (ME (jr r n t (e,P,a,c,d,p)) 0) x (∃(i:Nat),(x:Int)+1=i/\og r n t (e,P,a,c,d,p) i/\af 2 i<af 2 x)))/\(aML ((x:Int)=((0:Nat):Int)) (aML (x=aQa) True)->False)) (ME (jr r n t (e,P,a,c,d,p)) 6)))):=by
 refine au ?_;with_reducible and_intros
 grind;intro s;refine⟨?_,?_⟩;grind;intro v;refine⟨?_,?_⟩;grind;intro w;exact f.1;intro y;grind[awt,awu];intro z;refine⟨?_,?_,?_⟩;trivial;grind[nt,df,aqw,WV,awv];intro F;refine⟨?_,?_,?_,?_⟩;grind[aaB];exact f.2.1;intro I;grind[aqw,WV,aww];intro K;refine⟨?_,?_,?_⟩;have:=f.2.2.2;grind[S.small];grind[aHe,WV,aHd];intro X R;refine⟨?_,?_⟩
 . intro G;try simp only[dt] at G
   refine⟨?_,?_,?_⟩
   . intro m;refine⟨?_,?_,?_,?_⟩;exact(by assumption);exact f.2.2.1;intro l;refine⟨?_,?_⟩;exact(afH R l).1;exact(afH R l).2;intro o;with_reducible and_intros
     iterate 2 omega
     refine⟨(X+1),?_⟩;try dsimp only
     refine⟨?_,?_,?_⟩;omega;exact aHf R m o;simp only[af];omega
   . intro j;refine⟨?_,?_,?_,?_⟩;exact(by assumption);trivial;intro h;refine⟨?_,?_⟩;exact(afI R j h).1;exact(afI R j h).2;intro u;with_reducible and_intros
     iterate 2 omega
     refine⟨(X+1),?_⟩;try dsimp only
     refine⟨?_,?_,?_⟩;omega;exact aHg R j u;simp only[af];omega
   intro H;have q:(X:Int)=((0:Nat):Int)\/(X:Int)=((1:Nat):Int):=by omega
   exact q.elim H.1 H.2.1
 grind[df,awx]
def aXq(u v:B8):q85 (bz u v=bz u v):=by
 refine au ?_;grind
def aXr(i j:Int)(u v:B8)(p:O)(g:at5 i j p)(A:Vg.jE J.aOF (i,j,u,v,p)):(∃(d:Int×Int),aqJ i d j/\aFJ i j d)/\(∀(c:Int×Int),aFJ i j c->0<=c.1/\(0:Int)<=1/\jM (decide (Vg.aT c.1 1=1)) (anm 1 64 (anm 1 64 (∃(s:Int×Int),aqJ (anu c.1 1) s (anu c.2 1)/\aFJ i j s/\aQF s.1 c.1))) (awZ (oh p)) (((0:Int)<=0/\0<oh p)/\anm 1 (oh p) ((∃(k:Nat×Int×Int×B8×B8),((0:Int)=k.1/\c.1=k.2.1/\c.2=k.2.2.1/\yb p 0=k.2.2.2.1/\yb p 0=k.2.2.2.2)/\aue i j p k)/\(∀(x:Nat×Int×Int×B8×B8),MJ (aue i j p x) (decide (x.1<oh (G8 p))) 0 x.1 (oh (G8 p)) (q71 (aaT x.2.2.1) (false=atF i j u v p) (0<=x.2.1/\(0:Int)<=1/\jM (q81 (aaT (Vg.aT x.2.1 1)) (oD x.2.1 x.2.2.1)) (arR (an7 1 64) (q78 (x.1+1)/\(∃(l:Nat×Int×Int×B8×B8),anI (x.1+1) l.1 (anu x.2.1 1=l.2.1/\anu x.2.2.1 1=l.2.2.1/\x.2.2.2.1=l.2.2.2.1/\bz x.2.2.2.2 (yb (G8 p) x.1)=l.2.2.2.2) (aue i j p l) (S.len p) (af (S.len p) x.1)))) True (aj8 (∃(r:Int×Int×Nat),(x.2.1=r.1/\x.2.2.1=r.2.1)/\aFK i j r/\(x.1:Int)=r.2.2) (∀(a:Int×Int×Nat),aFK i j a/\(x.1:Int)=a.2.2->0<=a.1/\(0:Int)<=1/\jM (q81 (aaT (Vg.aT a.1 1)) (ajD a.1)) (anm 1 64 (anm 1 64 (∃(n:Int×Int×Nat),(anu a.1 1=n.1/\anu a.2.1 1=n.2.1)/\(aFK i j n/\(x.1:Int)=n.2.2)/\aQF n.1 a.1))) (an7 1 64) (anm 1 64 (q78 (x.1+1)/\(∃(m:Nat×Int×Int×B8×B8),anI (x.1+1) m.1 (anu a.1 1=m.2.1/\anu a.2.1 1=m.2.2.1/\bz (yb (G8 p) x.1) x.2.2.2.1=m.2.2.2.1/\bz (yb (G8 p) x.1) x.2.2.2.2=m.2.2.2.2) (aue i j p m) (S.len p) (af (S.len p) x.1)))))))) (q81 (aaT x.2.2.1) (Ri (decide (x.2.2.2.1=u)) x.2.2.2.2 v)=atF i j u v p))))):=by
 refine au ?_;have B:Vg.hlen p:=A.2.2.2.2.1.1;refine⟨?_,?_⟩
 . refine⟨((i),(j)),?_⟩;with_reducible and_intros
   iterate 2 omega
   exact aY3 g
 intro d H;refine⟨?_,?_,?_,?_⟩;exact H.1;omega
 . intro t;simp at t;with_reducible and_intros
   iterate 4 omega
   refine⟨((d.1/(2:Int)^toNat (1:Int)),(d.2/(2:Int)^toNat (1:Int))),?_⟩;with_reducible and_intros
   iterate 2 omega
   exact aU7 H (by rw[<-aMP H.1];exact t);have q:=aMP H.1;rw[aFL];have:=H.1;omega
 intro w;simp at w;with_reducible and_intros
 omega;have:=g.2.2.1;omega;omega;have:=g.2.2.1;omega;omega;have:=g.2.2.1;omega
 . refine⟨(0,((d.1),((d.2),((getD p (toNat (0:Int)) []),(getD p (toNat (0:Int)) []))))),?_⟩;dsimp only;with_reducible and_intros
   iterate 3 omega
   iterate 2 rfl
   exact aVV g H (by rw[<-aMP H.1];exact w)
 intro x h;refine V.dI (λf=>?_) λC=>?_
 . with_reducible and_intros
   iterate 2 omega
   intro y;try simp only[dt] at y
   exact aU8 h (S.dl f) y;intro z;try simp only[df] at z
   refine⟨?_,?_,?_,?_⟩;exact h.1.1;omega
   . intro F;try simp at F
     with_reducible and_intros
     trivial;iterate 5 omega
     have:=S.dl f;omega;refine⟨((x.1+1),((x.2.1/(2:Int)^toNat (1:Int)),((x.2.2.1/(2:Int)^toNat (1:Int)),((x.2.2.2.1),(bz (x.2.2.2.2) (getD (drop (toNat (1:Int)) p) (toNat (↑(x.1):Int)) [])))))),?_⟩;try dsimp only
     with_reducible and_intros
     iterate 3 omega
     iterate 2 with_reducible rfl
     rw[aFL,aFL,dgD];exact aU9 h (S.dl f) (by have:=F.1;rw[aMP h.1.1] at this;omega) F.2;simp only[af,S.len];have:=S.dl f;omega
   intro I;refine⟨?_,?_,?_,?_⟩;iterate 2 trivial
   . refine⟨((x.2.1),((x.2.2.1),(x.1))),?_⟩;try dsimp only
     with_reducible and_intros
     iterate 2 omega
     have q:=aMP h.1.1;exact aY4 h z x!;omega
   intro X o;refine⟨?_,?_,?_,?_⟩;exact o.1.1.1;omega
   . intro R;try simp at R
     with_reducible and_intros
     iterate 4 omega
     refine⟨((X.1/(2:Int)^toNat (1:Int)),((X.2.1/(2:Int)^toNat (1:Int)),(x.1))),?_⟩;try dsimp only
     with_reducible and_intros
     iterate 2 omega
     have e:X.2.2=x.1:=by have:=o.2;omega
     rw[aFL,aFL,<-e];exact aVa o.1 (by rw[<-aMP o.1.1.1];exact R.1) R.2;omega;rw[aFL];have q:=o.1.1.1;have:=R.2;omega
   intro G;with_reducible and_intros
   iterate 5 omega
   have:=S.dl f;omega;refine⟨((x.1+1),((X.1/(2:Int)^toNat (1:Int)),((X.2.1/(2:Int)^toNat (1:Int)),((bz (getD (drop (toNat (1:Int)) p) (toNat (↑(x.1):Int)) []) (x.2.2.2.1)),(bz (getD (drop (toNat (1:Int)) p) (toNat (↑(x.1):Int)) []) (x.2.2.2.2)))))),?_⟩;try dsimp only
   with_reducible and_intros
   iterate 3 omega
   iterate 2 with_reducible rfl
   have q:=aMP o.1.1.1;have Q:=Int.emod_two_eq X.1;rw[aFL,aFL,dgD];exact aVW h (S.dl f) o.1 (by have:=o.2;omega) x!;simp only[af,S.len];have:=S.dl f;omega
 rw[<-aWW g h (dl' C)];cases decide (x.2.2.1=0)<;>cases decide (x.2.2.2.1=u)<;>rfl
def aXs(m n:Int)(u v:B8)(p:O)(h:aIk m n p)(H:Vg.jE J.aOF (m,n,u,v,p)):q71 (aaT m) (ti (aaT (length p)) (S.small anG)/\Ri (aaT (length p)) u (S.sum anG)=S.accepted m n u v p) (dg (decide (m=n)) (Ri (aaT (length p)) u v=S.accepted m n u v p) (m-1) (0<=m/\0<=m-1/\q71 (aaT (Vg.aT m (m-1))) (length [u]+length p<=8796093022208/\dg (aaT (oh ([u]++p))) (false=S.accepted m n u v p) (m-1) (q78 (n-1)/\at5 (m-1) (n-1) ([u]++p)/\atF (m-1) (n-1) u v ([u]++p)=S.accepted m n u v p)) (dg (aaT (length p)) (false=S.accepted m n u v p) (m-1) (q78 (n-1)/\at5 (m-1) (n-1) p/\atF (m-1) (n-1) u v p=S.accepted m n u v p)))):=by
 refine au ?_;have a:Vg.hint m:=H.1;have A:Vg.hint n:=H.2.1;clear H;refine V.dI (λc=>?_) λe=>?_
 . with_reducible and_intros
   intro d;try simp only[dt] at d
   exact Nat.zero_le _;grind;exact a0h c
 refine V.dI (λf=>?_) λg=>?_;grind[aY5];with_reducible and_intros
 have q:=h.1;omega;omega
 iterate 2
  have q:=h.1;omega
 . intro i;refine⟨?_,?_,?_⟩;have:=h.2.2.2;grind[eX,List.length_singleton];grind;intro j;with_reducible and_intros
   have q:=h.1;omega;omega;have Q:=h.2.1;omega;omega;grind[aUc];grind[a0i]
 intro F;refine V.dI (λI=>?_) λk=>?_;grind[aWX];with_reducible and_intros
 have q:=h.1;omega;omega;have Q:=h.2.1;omega;omega;grind[aUc];grind[aYd]
def aXt(m n:Int)(u v:B8)(p:O)(i:eX p)(j:Vg.jE J.aOF (m,n,u,v,p)):jM (Jn m 0 (Jn n m (Jn 1099511627776 n (ct (aFN u) (aFN v))))) (1=J7 m n u v p) (∃(a:Nat),(0:Int)=a/\sZ p a) (∀(x:Nat),sZ p x->jM (decide (x<oh p)) (il 0 x (oh p)/\anF (aFN (yb p x)) (6=J7 m n u v p) x (∃(X:Nat),aub x X (sZ p X) (S.len p))) (aIk m n p) (q71 (Bool.not (S.accepted m n u v p)) (6=J7 m n u v p) (0=J7 m n u v p))):=by
 refine au ?_;have A:Vg.hlen p:=j.2.2.2.2.1.1;refine⟨?_,?_⟩;intro H;simp at H;exact aWY H;intro h;simp only[V.qF,df,nf,dt] at h;refine⟨?_,?_⟩;grind[avg];intro X c;refine V.dI (λd=>?_) λk=>?_
 . with_reducible and_intros
   iterate 2 omega
   intro e;simp at e;rw[aTa h,R!];rw[aWZ d e];simp;intro f;simp at f;with_reducible and_intros
   iterate 2 omega
   refine⟨(X+nat_lit 1),?_⟩;dsimp only;refine⟨?_,?_,?_⟩;omega;exact aVY c d f;simp[af,S.len];omega
 refine⟨?_,?_,?_⟩;exact⟨w!,w!,w!,i⟩;intro g;simp at g;rw[aTa h,R!];rw[g];simp;intro F;simp at F;rw[aTa h,Q! ⟨aW0 c k,F⟩]
def azd(h:Int)(H:B8)(a:M (Int×Int×Int×B8))(r:B8):q85 (Ri (aaT (qV h H a).2) (qV h H a).1 r=EH h H a r):=by
 refine au ?_;grind[awm]
def aze(h:Int)(H:B8)(a:M (Int×Int×Int×B8))(r:B8): [(h,H,a)]=[(h,H,a)]/\0=0/\[r]=[r]/\0=0:=by
 grind
def azf(A:Int)(c:B8)(d:M (Int×Int×Int×B8))(a:M (M (Int×B8×B8×B8×O×B8)))(i:Int)(t:O)(h:0<=i/\i<(S.len a:Nat)):il 0 i (length a)/\decide (length (getD a (toNat i) [])=oh t)=qW a i t:=by
 refine au ?_;grind[qW,S.len]
def azg(P:Int)(a:B8)(c:M (Int×Int×Int×B8))(p:Int)(d:B8)(e:O)(i:Int):decide (p=i)=decide (p=i):=by
 rfl
def azh(l:U)(s a:Int)(h:Vg.jE J.arc (l,s,a)):(∃(X:Nat),(0:Int)=X/\yp l s a X/\X<=S.len l)/\(∀(x:Nat),yp l s a x/\x<=S.len l->q71 (decide (x<q96 l)) (il 0 x (q96 l)/\anF (oZ (anL l x) s a) (false=xG l s a) x (∃(c:Nat),aub x c (yp l s a c/\c<=S.len l) (S.len l))) (true=xG l s a)):=by
 refine au ?_;have B:Vg.hlen l:=h.1.1;have A:Vg.hint s:=h.2.1;have d:Vg.hint a:=h.2.2.1;clear h;refine⟨?_,?_⟩;grind[yp,AJ,Ep,I7,af,S.len];intro X g;refine⟨?_,?_⟩
 . intro H;try simp only[dt] at H
   with_reducible and_intros
   iterate 2 omega
   intro e;try simp only[V.Nb,dt,tn] at e
   grind[yp,AJ,Ep,I7,af,S.len];intro f;try simp only[V.qF,df,tn] at f
   with_reducible and_intros
   iterate 2 omega
   refine⟨(X+1),?_⟩;try dsimp only
   with_reducible and_intros
   omega;iterate 3 (grind[yp,AJ,Ep,I7,af,S.len])
 grind[df,AJ,Ep,I7]
def azi(a:Int)(c:B8)(d:M (Int×Int×Int×B8))(e:Int)(p:B8)(P:O)(i:Int)(h:eX P/\az p):aug p (eX P/\Ri (aaT (cB (S.leaf p) i a P)) (jO (S.leaf p) i a P) c=Ky a c p P i):=by
 refine au ?_;grind[Ky]
def azj(r:B8)(i:Int)(b:B8)(h:b.length<1099511627776):jM (aFN r) (aFM (uc r i b) 1) (bG b) (Lf (ajD (bx b).2) (aFM (uc r i b) (bx b).2) True (aj8 gJ (EH (bx b).1.1 (DA b).1 (DA b).2.1 r->aj8 gJ (decide ((DA b).2.2.1=i)->(eX (Bb b).2/\az (Bb b).1)/\gJ/\(Ky (bx b).1.1 (DA b).1 (Bb b).1 (Bb b).2 i->True)))) (q71 (ajD (abl b i r)) (aFM (uc r i b) (abl b i r)) ((Bb b).1=(uc r i b).1/\0=(uc r i b).2))):=by
 refine au ?_;refine⟨?_,?_⟩;grind[nt,df,aG6];intro H;refine⟨?_,?_,?_⟩;omega;grind[nt,df,aG7];intro a;with_reducible and_intros
 iterate 2 trivial
 rfl;simp_all[dt,aqp]
 grind[nt,df,aqq,afx];grind[aqq,afx]
def azk(c d g:Int)(G w:B8)(A:Int)(t:B8)(u:M (Int×Int×Int×B8))(a:M (M (Int×B8×B8×B8×O×B8)))(i j:Int)(x:M Value)(q:Nat)(l:U)(H:QJ w a i j/\UB j q x.length l/\ud (c,d,g,G) w a i j=true):il 0 i (length a)/\il 0 j (length (getD a (toNat i) []))/\wB w (Dz a i j).2.2.2.2.1 (Dz a i j).2.2.2.2.2/\an5 (ajD (G7 a g G i j w).2)/\Lf (xO (ajD (G7 a g G i j w).2) (xG (G7 a g G i j w).1 c d)) (false/\x=x/\q=q/\l=QK l (wV (c,d,g,G) w a i j).1) (il 0 j (Vg.aE.Cj x)) (toNat j<Vg.aE.Cj x) (toNat j=q/\aHJ l (G7 a g G i j w).1/\il 0 j (Vg.aE.Cj x)/\toNat j<Vg.aE.Cj x/\toNat j=q/\gJ/\x=x/\q=q/\l++(G7 a g G i j w).1=QK l (wV (c,d,g,G) w a i j).1):=by
 refine au ?_;obtain⟨⟨k,p,m⟩,⟨P,v,n⟩,y⟩:=H;have z:(wV (c,d,g,G) w a i j).2=0/\xG (wV (c,d,g,G) w a i j).1 c d=true:=by grind[ud]
 have e:0<=j/\j<(x.length:Int):=⟨p.1,w!⟩;have h:toNat j<x.length:=by omega
 have o:(wV (c,d,g,G) w a i j).1.length<=1000:=UC _ _ _ _;have r:l.length<=1099511627776:=n;have f:l.length+(wV (c,d,g,G) w a i j).1.length<=17592186044416:=by omega
 refine⟨k,p,m,⟨λ_=>trivial,λ_=>trivial⟩,λs=>?_,λB=>⟨e,h,P.symm,f,e,h,P.symm,rfl,rfl,rfl,rfl⟩⟩;change (bif !decide ((wV (c,d,g,G) w a i j).2=0) then true else !xG (wV (c,d,g,G) w a i j).1 c d)=true at s;grind
def azl(c d g:Int)(G w:B8)(A:Int)(k:B8)(m:M (Int×Int×Int×B8))(a:M (M (Int×B8×B8×B8×O×B8)))(i j:Int)(x:M Value)(q:Nat)(l:U)(h:QJ w a i j/\UB j q x.length l/\ud (c,d,g,G) w a i j=false):il 0 i (length a)/\il 0 j (length (getD a (toNat i) []))/\wB w (Ba a i j).2.2.2.2.1 (Ba a i j).2.2.2.2.2/\an5 (ajD (lK a g G i j w).2)/\Lf (xO (ajD (lK a g G i j w).2) (xG (lK a g G i j w).1 c d)) (false=false/\x=x/\q=q/\l=l) (il 0 j (Vg.aE.Cj x)) (toNat j<Vg.aE.Cj x) (toNat j=q/\aHJ l (lK a g G i j w).1/\il 0 j (Vg.aE.Cj x)/\toNat j<Vg.aE.Cj x/\toNat j=q/\true=false/\False/\False):=by
 refine au ?_;obtain⟨⟨p,P,e⟩,⟨n,o,r⟩,f⟩:=h;refine⟨p,P,e,⟨λ_=>trivial,λ_=>trivial⟩,λs=>⟨rfl,rfl,rfl,rfl⟩,λH=>?_⟩;change (bif !decide ((wV (c,d,g,G) w a i j).2=0) then true else !xG (wV (c,d,g,G) w a i j).1 c d)=false at H;change (decide ((wV (c,d,g,G) w a i j).2=0)&&xG (wV (c,d,g,G) w a i j).1 c d)=false at f;grind
def azm(r:B8)(l:M (Int×B8))(b:B8)(h:b.length<1099511627776/\dq l):nC (aFN r) (dq l)/\jM (xO (aFN r) (aZ l)) (ME (fJ r l b) 1) (bG b) (Lf (ajD (aI b).2) (ME (fJ r l b) (aI b).2) (S.small l) (aRm 0 (oh (al l)) ((24:Nat):Int)) (aj8 (∃(j:Nat),((0:Int)=j/\[λ(q:Vg.Z)=>(True,Vg.AV.bool (EH (aI b).1.1 (aIo b) (aDJ b) r),q)]=S.conds 36 3 r (aI b).1.1 (aIo b) (aDJ b) (tU b) (al l) j)/\afK b j) (∀(x:Nat),afK b x->jM (decide ((x:Int)<length (aDJ b))) (il 0 x (length (aDJ b))/\aS0 (aIp b l r x)/\(∃(d:Nat×Nat),((0:Int)=d.2/\Vg.aE.cat (aIp b l r x) [λ(o:Vg.Z)=>(il 0 x (S.len (tU b)),Vg.AV.bool (qW (tU b) x (al l)),o)]=ra 36 3 r (aI b).1.1 (aIo b) (aDJ b) (tU b) (al l) d.1 d.2)/\WW b (al l) d.1 d.2/\(x:Int)=d.1)/\(∀(a:Nat×Nat),WW b (al l) a.1 a.2/\(x:Int)=a.1->anF (decide (a.2<oh (al l))) (il 0 a.2 (oh (al l))/\aS0 (abk b l r a)/\q78 (a.2+1)/\(∃(X:Nat×Nat),((a.2:Int)+1=X.2/\Vg.aE.cat (abk b l r a) [GM 36 3 ((aIn b x).1,(aIn b x).2.1,(aIn b x).2.2.1,(aIn b x).2.2.2) (yb (al l) a.2) (tU b) x a.2]=ra 36 3 r (aI b).1.1 (aIo b) (aDJ b) (tU b) (al l) X.1 X.2)/\(WW b (al l) X.1 X.2/\(x:Int)=X.1)/\de (S.len (al l)) X.2 a.2)) x (∃(k:Nat),anE x k (abk b l r a=S.conds 36 3 r (aI b).1.1 (aIo b) (aDJ b) (tU b) (al l) k) (afK b k) (S.len (aDJ b))))) (Vg.aE.LO (toNat (oh (al l)))=Vg.aE.LO (toNat (oh (al l)))/\(aIm b l r x).1) (jM (ajD (bif (aIm b l r x).2.1 then 0 else 6)) (ME (fJ r l b) (bif (aIm b l r x).2.1 then 0 else 6)) (dq l) ((iM l (Vg.aE.rows (aIm b l r x).2.2)).1=(fJ r l b).1/\(iM l (Vg.aE.rows (aIm b l r x).2.2)).2=(fJ r l b).2))))):=by
 refine au ?_;with_reducible and_intros
 iterate 2 grind
 grind[awA,aHh];intro c;try simp at c
 refine⟨?_,?_,?_⟩;omega;grind[nt,df,awB,QP];intro H;simp at H;with_reducible and_intros
 exact h.2.1;iterate 2 omega
 grind[qe];trivial
 . refine⟨0,?_⟩;try dsimp only
   with_reducible and_intros
   omega;rfl;exact⟨S! _,H⟩
 intro X f;refine V.dI (λs=>?_) λR=>?_
 . with_reducible and_intros
   iterate 2 omega
   have q:=afM h.1 h.2 H c.2 f.1;show length _+1<=_;rw[GN];omega
   . refine⟨((X),0),?_⟩;try dsimp only
     with_reducible and_intros
     omega;rfl;exact⟨w!,S! _,H⟩;omega
   intro g i;refine⟨?_,?_⟩
   . intro K;try simp only[dt] at K
     with_reducible and_intros
     iterate 2 omega
     have q:=afM h.1 h.2 H c.2 (Nat.le_of_lt i.1.1);have Q:=i.1.2.1;have t:=qe c.2;show length _+1<=_;rw[WZ];omega;omega;have q:=qe c.2;omega;refine⟨((X),(g.2+1)),?_⟩;try dsimp only
     with_reducible and_intros
     omega;have e:X=g.1:=by have:=i.2;omega
     rw[<-e];exact SR X g.2;have:=i.1.1;exact⟨w!,w!,H⟩;omega;simp only[af,S.len];omega
   intro O;try simp only[df] at O
   with_reducible and_intros
   omega;have q:=afL h.1 h.2 H;omega;refine⟨(X+1),?_⟩;try dsimp only
   with_reducible and_intros
   omega;have e:X=g.1:=by have:=i.2;omega
   have E:g.2=(al l).length:=by have:=i.1.2.1;omega
   rw[<-e,E];rfl;exact⟨w!,H⟩;simp only[af,S.len];omega
 with_reducible and_intros
 rfl;exact(Jh h.1 h.2 H (by have:=f.1;omega)).pre;intro G;try simp at G
 refine⟨?_,?_⟩;exact(aqA (QP c) H (Jh h.1 h.2 H (by have:=f.1;omega)) G).1;exact(aqA (QP c) H (Jh h.1 h.2 H (by have:=f.1;omega)) G).2;intro m;try simp at m
 refine⟨?_,?_,?_⟩;exact h.2;rw[afN (QP c) H (Jh h.1 h.2 H (by have:=f.1;omega)) m];rw[afN (QP c) H (Jh h.1 h.2 H (by have:=f.1;omega)) m]
def aXu(c:Int)(d:B8)(e:M (Int×Int×Int×B8))(s:Int)(S:B8)(a:M (Int×Int×Int×B8))(f:O)(t:B8):aj8 (aaT (qV s S a).2=aaT (qV s S a).2) ((qV s S a).1=(qV s S a).1):=by
 refine au ?_;grind
def aXv(S:Int)(a:B8)(e:M (Int×Int×Int×B8))(c:Int)(d:B8)(f:M (Int×Int×Int×B8))(s:O)(h:eX s):eX s/\aaT (J7 S c a d s)=aaT (J7 S c a d s):=by
 refine au ?_;grind
def aXw(r b:B8)(d:b.length<1099511627776):jM (aFN r) (aMW (anq r b) 1) (bG b) (Lf (ajD (S.Ě b).2) (aMW (anq r b) (S.Ě b).2) True (aj8 gJ (Lg b r->eX (A9 b).2.2/\gJ/\(aSs b->aj8 gJ (aaT (aaS b).2->True)))) (q71 (ajD (aTr b r)) (aMW (anq r b) (aTr b r)) (aPO (Lg b r) (aPO (aSs b) (bif aaT (aaS b).2 then(aaS b).1 else(aaS b).1))=(anq r b).1/\aqJ (S.Ě b).1.2.2.2.1 (anq r b).2 0))):=by
 refine au ?_;refine⟨?_,?_⟩;grind[nt,df,aY6];intro a;try simp at a
 refine⟨?_,?_,?_⟩;omega;grind[nt,df,aY7];intro c;try simp at c
 with_reducible and_intros
 iterate 2 trivial
 rfl;simp_all[aQW,dt]
 . intro h;try simp only[nt,df] at h
   refine⟨?_,?_,?_⟩
   iterate 2
    . have e:aMF r (S.Ě b).1=false:=by
       cases q:aMF r (S.Ě b).1 with
       |false=>rfl
       |true=>exact absurd ((aVZ _ _ _).trans (Q! q)) h
      grind[aSk]
   have e:aMF r (S.Ě b).1=false:=by
    cases q:aMF r (S.Ě b).1 with
    |false=>rfl
    |true=>exact absurd ((aVZ _ _ _).trans (Q! q)) h
   rw[aSk a c,e,aVZ];grind
 intro H;try simp only[nf,dt] at H
 refine⟨?_,?_,?_⟩;have e:aMF r (S.Ě b).1=true:=aTb H;have E:=aTb H;simp_all[B!,aSk,Q!]
 iterate 2 (simp_all[aMF,S.Ě,aTb,aSk,Q!])
def azn(c C:B8)(h:iy c C):aj8 (ti (Bool.not (Qy c C)) (Rj c (S.small C))) (Ri (Bool.not (Qy c C)) (S.sum c) (S.sum C)=QT c C):=by
 refine au ?_;grind[nt,QT,iy,nf]
def azo(b:B8)(h:S.small b):(b=[]->[]=b)/\aua anG b/\[]++b=b:=by
 refine au ?_;grind[S.small,S.len]
def azp(a b:B8)(h:iy a b):Rj a (Rj b (iy a b/\q71 (Bool.not (QT a b)) (uf (bt a b)) (ñ (bt a b) a b true))):=by
 refine au ?_;grind[bt,ix,iy,nt,nf]
def azq(l:O)(h:S.small l):S.small l/\kI l=kI l:=by
 grind
def azr(a b:B8):q85 (bz a b=bz a b):=by
 refine au ?_;grind
def azs(l:O)(h:S.small l):aj8 (an7 (S.split (oh l)) (oh l)) (S.small (take (Xw l) l)/\anm (S.split (oh l)) (oh l) (S.small (drop (Xw l) l)/\aug (tT l) (bB 1 (tT l)=wE l))):=by
 refine au ?_;with_reducible and_intros
 trivial;exact(Et _).1;exact(Et _).2;grind[UI];exact(Et _).1;exact(Et _).2;simp_all[UI]
 exact aqK;rfl
def azt(a b:B8)(h:xJ a b):aug a (aug b (iy (bB 2 a) (bB 2 b)/\q11 (bt (bB 2 a) (bB 2 b)) (QU 2 a b))):=by
 refine au ?_;apply cj6;exact h.1;exact h.2;grind[NJ];iterate 3 rfl
def azu(a b:B8)(h:xJ a b):aug a (aug b (iy (bB 3 a) (bB 3 b)/\q11 (bt (bB 3 a) (bB 3 b)) (QU 3 a b))):=by
 refine au ?_;apply cj6;exact h.1;exact h.2;grind[NJ];iterate 3 rfl
def azv(a b:B8)(h:iy a b):iy a b/\q11 (bt a b) (bt a b):=by
 refine au ?_;grind
def azw(a b:B8): [a]=[a]/\0=0/\[b]=[b]/\0=0:=by
 grind
def azx(l:O)(i:Int)(f:B8)(p:O)(h:mI l f p)(t:Vg.jE J.ð (l,i,f,p)):Lf (oZ i 0 (oh l)) (uf (jY l i f p)) (az f) (eX p) (Lf (ajD (cB (S.leaf f) i (oh l) p)) (uf (jY l i f p)) (dj l) (∃(m:O×M Bool×O×Int),(S.leaves l=m.2.2.1/\i=m.2.2.2/\[]=m.1/\[]=m.2.1)/\AO l i f p m) (∀(X:O×M Bool×O×Int),AO l i f p X->dg (decide (1<oh X.2.2.1)) (S.small X.2.2.1/\aHz (length X.1+length [wE X.2.2.1])/\aj8 (q66 (length X.2.1+length [decide (Ld X<=X.2.2.2)])) (q71 (decide (X.2.2.2<Ld X)) (an7 (Ld X) (oh X.2.2.1)) (anm (Ld X) (oh X.2.2.1) (q78 (X.2.2.2-Ld X)))/\(∃(k:O×M Bool×O×Int),((bif decide (X.2.2.2<Ld X) then take (toNat (Ld X)) X.2.2.1 else drop (toNat (Ld X)) X.2.2.1)=k.2.2.1/\(bif decide (X.2.2.2<Ld X) then X.2.2.2 else X.2.2.2-Ld X)=k.2.2.2/\X.1++[wE X.2.2.1]=k.1/\X.2.1++[decide (Ld X<=X.2.2.2)]=k.2.1)/\AO l i f p k/\S.len k.2.2.1<S.len X.2.2.1))) (oh p+1) (aRm 0 (oh p+1) aFC/\aug f ((∃(n:Nat),((0:Int)=n/\S.leaf f=cL (S.leaf f) i (S.len l) p n/\Vg.aE.JY (toNat (oh p+1))=rG l i f p n)/\xK p n)/\(∀(x:Nat),xK p x->jM (decide (x<oh p)) (il 0 x (oh p)/\q78 (oh p-1)/\anS (oh p-1-x) 0 (length X.2.1) (G5 p x<length X.2.1) (q78 (oh p-1)/\q78 (oh p-1-x)/\aug (Xt f i l p X x++RG f i l p X x) (q78 (oh p-1)/\anS (oh p-1-x) 0 (length X.1) (G5 p x<length X.1) (q85 (il 0 (oh p-1-x) (Vg.aE.len (rG l i f p x))/\G5 p x<Vg.aE.len (rG l i f p x)/\q85 (ajJ x (∃(o:Nat),anE x o (bz (Xt f i l p X x) (RG f i l p X x)=cL (S.leaf f) i (S.len l) p o/\Vg.aE.put (rG l i f p x) (G5 p x) (iy (bB 1 (Xt f i l p X x++RG f i l p X x)) (EK X.1 (G5 p x))) (anl (bt (bB 1 (Xt f i l p X x++RG f i l p X x)) (EK X.1 (G5 p x))).1 (bt (bB 1 (Xt f i l p X x++RG f i l p X x)) (EK X.1 (G5 p x))))=rG l i f p o) (xK p o) (S.len p)))))))) (az f) (il 0 i (oh l)/\az (yb l i)/\q85 (il 0 (oh p) (Vg.aE.len (rG l i f p x))/\toNat (oh p)<Vg.aE.len (rG l i f p x)/\(RH f i l p x).1/\ñ (jY l i f p) (RH f i l p x).2.1 (RH f i l p x).2.2.1 (RH f i l p x).2.2.2))))))):=by
 refine au ?_;have A:Vg.hlen p:=t.2.2.2.1.1;clear t;refine⟨?_,?_⟩;intro y;try simp at y
 refine⟨?_,?_,?_⟩
 iterate 2
  rw[aqL w!];rfl
 rw[aqL w!];rfl;intro z;try simp at z
 refine⟨?_,?_,?_,?_⟩;exact h.2.1;exact h.2.2;intro r;try simp at r
 refine⟨?_,?_,?_⟩
 iterate 2
  rw[W3 r];rfl
 rw[W3 r];rfl;intro D;refine⟨?_,?_,?_⟩;exact h.1;refine⟨(([]),(([]),((S.leaves l),(i)))),?_⟩;grind[aNM];intro x H;refine V.dI (λu=>?_) λF=>?_
 . with_reducible and_intros
   grind[AP];grind[AP,lc,ln];trivial;grind[AP,lc,ln];intro B;try simp only[dt] at B
   grind[AP]
   . intro C;try simp only[df] at C
     with_reducible and_intros
     iterate 2 (grind[AP])
     omega;obtain⟨e,b,G,I,_⟩:=AP H u;have Q:=H.2.2.1;have K:=H.2.2.2.1;grind[S.small]
   refine⟨((Prod.fst x++[wE (Prod.fst (Prod.snd (Prod.snd x)))]),((Prod.fst (Prod.snd x)++[Decidable.decide (S.split (↑(length (Prod.fst (Prod.snd (Prod.snd x)))):Int)<=Prod.snd (Prod.snd (Prod.snd x)))]),((bif Decidable.decide (Prod.snd (Prod.snd (Prod.snd x))<S.split (↑(length (Prod.fst (Prod.snd (Prod.snd x)))):Int)) then take (toNat (S.split (↑(length (Prod.fst (Prod.snd (Prod.snd x)))):Int))) (Prod.fst (Prod.snd (Prod.snd x))) else drop (toNat (S.split (↑(length (Prod.fst (Prod.snd (Prod.snd x)))):Int))) (Prod.fst (Prod.snd (Prod.snd x)))),(bif Decidable.decide (Prod.snd (Prod.snd (Prod.snd x))<S.split (↑(length (Prod.fst (Prod.snd (Prod.snd x)))):Int)) then Prod.snd (Prod.snd (Prod.snd x)) else Prod.snd (Prod.snd (Prod.snd x))-S.split (↑(length (Prod.fst (Prod.snd (Prod.snd x)))):Int))))),?_⟩;try dsimp only
   with_reducible and_intros
   iterate 4 rfl
   grind[S.ß];exact(S.ß H u).2
 with_reducible and_intros
 omega
 (have q:p.length<=1099511627776:=h.2.2;omega)
 iterate 2 omega
 (have q:p.length<=1099511627776:=h.2.2;omega)
 (exact h.2.1)
 . refine⟨(nat_lit 0:Nat),?_⟩;try dsimp only
   with_reducible and_intros
   iterate 3 rfl
   exact S! _
 intro s L;refine V.dI (λN=>?_) λR=>?_
 . with_reducible and_intros
   iterate 7 omega
   iterate 2
    (have q:p.length<=1099511627776:=h.2.2;obtain⟨c,a,g,d,E,j,v,w⟩:=re H F;omega)
   iterate 4 omega
   (have q:p.length<=1099511627776:=h.2.2;obtain⟨c,a,g,d,E,j,v,w⟩:=re H F;exact aHj E w! _)
   iterate 5 omega
   iterate 2
    (have q:p.length<=1099511627776:=h.2.2;obtain⟨c,a,g,d,E,j,v,w⟩:=re H F;omega)
   trivial;omega;iterate 2 (grind[re,Eu])
   trivial;iterate 2 omega
   refine⟨(s+nat_lit 1),?_⟩;try dsimp only
   with_reducible and_intros
   rfl;obtain⟨c,a,g,d,E,j⟩:=re H F;exact aHk E w! a d;obtain⟨c,a,g,d,E,j⟩:=re H F;exact awL w! a c rfl rfl rfl rfl;iterate 2 (grind[re,xK,af,S.len])
 with_reducible and_intros
 (exact h.2.1)
 iterate 2 omega
 (exact h.1.2 _ x!)
 trivial;omega;iterate 2 (grind[re,Eu])
 obtain⟨c,a,g,d,E,j⟩:=re H F;have e:s=p.length:=by grind[xK]
 subst e;exact awM E h
 iterate 2
  obtain⟨c,a,g,d,E,j⟩:=re H F;have e:s=p.length:=by grind[xK]
  subst e;rw[NK E];rfl
 obtain⟨c,a,g,d,E,j⟩:=re H F;have e:s=p.length:=by grind[xK]
 subst e;rw[NK E];rfl
def azy(d:M (B8×U))(t:B8)(f:Int)(P a c:B8)(p:O)(e:B8)(h:Dg d t p e):aFA d (Lf (ajD (dE d)) (uf (fv d t (f,P,a,c,p,e))) (aW d) (wB t p e) (Lf (ajD (jr (pG d) (oh (bn d)) t (f,P,a,c,p,e)).2) (uf (fv d t (f,P,a,c,p,e))) True (mI (bn d) (dw P a c) p) (q71 (jY (bn d) f (dw P a c) p).2 (ñ (fv d t (f,P,a,c,p,e)) (jY (bn d) f (dw P a c) p).1.1 (jY (bn d) f (dw P a c) p).1.2 true) (jM (aI5 P t) (uf (fv d t (f,P,a,c,p,e))) (aW d) (aj8 (xJ e (jH (dN d t))) (q11 (QU 2 e (jH (dN d t))) (fv d t (f,P,a,c,p,e)))))))):=by
 refine au ?_;refine⟨?_,?_,?_⟩;exact h.1;grind[nt,df,fv,ix];intro H;refine⟨?_,?_,?_,?_⟩;exact h.1;exact h.2;grind[nt,df,fv,ix];intro g;refine⟨?_,?_,?_,?_⟩;trivial;grind[aaG];grind[fv,ix];intro i;refine⟨?_,?_⟩;grind[nt,df,fv,ix];intro j;apply cj6;exact h.1;trivial;exact⟨h.2.2.2.1,afT _⟩;iterate 3 (grind[fv,ix])
def azz(a:Int)(c:B8)(d:M (Int×Int×Int×B8))(p:O)(P:M (Int×Int×M (B8×U))):q85 (q85 (aj8 ((hW a c d).1=th a c d) ((hW (gI p P).1.1 (gI p P).1.2.1 (gI p P).1.2.2).1=zv p P))):=by
 refine au ?_;grind[th,zv]
def azA(p:Int)(P:B8)(a:M (Int×Int×Int×B8))(c:O)(d:M (Int×Int×M (B8×U))):q85 (q85 (Qy (th p P a) (zv c d)=Bw p P a c d)):=by
 refine au ?_;grind[Bw]
def azB(p:Int)(P:B8)(a:M (Int×Int×Int×B8))(c:O)(d:M (Int×Int×M (B8×U))):aj8 (xJ (th p P a) (zv c d)) (q11 (QU 3 (th p P a) (zv c d)) (sI p P a c d)):=by
 refine au ?_;apply SU;trivial;exact⟨NL ..,NL ..⟩;iterate 3 rfl
def azC(f:Int)(g:B8)(i:M (Int×Int×Int×B8))(j:O)(a:M (Int×Int×M (B8×U)))(A:O)(c:M (M (Int×B8×B8×B8×O×B8)))(t:uK f g i j a A c)(o:Vg.jE J.arL (f,g,i,j,a,A,c)):q85 (jM (Bool.not (Bw f g i j a)) (uf (lf f g i j a A c)) (∃(r:Nat),(0:Int)=r/\KD a A c r) (∀(x:Nat),aFx (KD a A c x) (decide ((x:Int)<length a)) 0 x (length a) (∃(X:Nat×Nat),(0:Int)=X.1/\uL a A c X.2 X.1/\(x:Int)=X.2) (∀(d:Nat×Nat),uL a A c d.2 d.1/\(x:Int)=d.2->anF (decide (d.1<oh A)) (il 0 d.1 (oh A)/\il 0 x (length c)/\il 0 d.1 (length (getD c (toNat x) []))/\Dg (getD a (toNat x) (0,0,[])).2.2 (EK A (toNat d.1)) (getD (getD c (toNat x) []) (toNat d.1) (0,[],[],[],[],[])).2.2.2.2.1 (getD (getD c (toNat x) []) (toNat d.1) (0,[],[],[],[],[])).2.2.2.2.2/\dg (G3 a A c x d).2 (ñ (lf f g i j a A c) (G3 a A c x d).1.1 (G3 a A c x d).1.2 true) (d.1+1) (∃(k:Nat×Nat),(d.1:Int)+1=k.1/\(uL a A c k.2 k.1/\(x:Int)=k.2)/\de (S.len A) k.1 d.1)) x (∃(e:Nat),aub x e (KD a A c e) (S.len a))) (uf (lf f g i j a A c)))):=by
 refine au ?_;have u:Vg.hlen a:=o.2.2.2.2.1.1;have v:Vg.hlen A:=o.2.2.2.2.2.1.1;refine⟨?_,?_,?_⟩;trivial;intro y;refine⟨?_,?_,?_⟩
 iterate 2
  rw[lf,if_neg x!];rfl
 rw[lf,if_neg x!];rfl;intro H;simp at H;refine⟨?_,?_⟩;refine⟨(nat_lit 0:Nat),?_⟩;dsimp only;refine⟨?_,?_⟩;omega;exact⟨Nat.zero_le _,t H,rfl⟩;intro X l;refine V.dI (λz=>?_) λK=>?_
 . with_reducible and_intros
   iterate 2 omega
   refine⟨((nat_lit 0:Nat),(X)),?_⟩;try dsimp only
   refine⟨?_,?_,?_⟩;omega;exact⟨w!,S! _,l.2.1,l.2.2,rfl⟩;rfl;intro e h;refine V.dI (λB=>?_) λI=>?_
   . with_reducible and_intros
     iterate 3 omega
     (obtain⟨h,q⟩:=h;obtain rfl :X=e.2:=w!;obtain⟨s,Q,m⟩:=QW h w!;omega)
     omega
     (obtain⟨h,q⟩:=h;obtain rfl :X=e.2:=w!;obtain⟨s,Q,m⟩:=QW h w!;have w:e.1<(c.getD e.2 []).length:=Q;exact Int.ofNat_lt.2 w)
     (obtain⟨h,q⟩:=h;obtain rfl :X=e.2:=w!;obtain⟨s,Q,m⟩:=QW h w!;exact m)
     intro n;refine⟨?_,?_,?_⟩
     iterate 2
      obtain⟨h,q⟩:=h;obtain rfl :X=e.2:=by omega
      rw[<-afV H h w! n];rfl
     obtain⟨h,q⟩:=h;obtain rfl :X=e.2:=by omega
     rw[<-afV H h w! n];exact n.symm;intro F;with_reducible and_intros
     iterate 2 omega
     refine⟨((Prod.fst e+nat_lit 1),(X)),?_⟩;try dsimp only
     with_reducible and_intros
     omega;obtain⟨h,q⟩:=h;obtain rfl :X=e.2:=by omega
     exact aHl h w! F;with_reducible rfl
     grind[af,S.len]
   with_reducible and_intros
   iterate 2 omega
   refine⟨(X+nat_lit 1),?_⟩;try dsimp only
   refine⟨?_,?_,?_⟩;omega;obtain⟨h,q⟩:=h;obtain rfl :X=e.2:=by omega
   exact aqR h w!;grind[af,S.len]
 refine⟨?_,?_,?_⟩
 iterate 2
  rw[afW H l w!];rfl
 rw[afW H l w!];rfl
def azD(d:Int)(e:B8)(f:M (Int×Int×Int×B8))(a:O)(g:M (Int×Int×M (B8×U)))(h:Int)(A:B8)(c:O)(H:mI a A c):q85 (jM (Bool.not (Bw d e f a g)) (uf (QV d e f a g h A c)) (mI a A c) (q11 (jY a h A c) (QV d e f a g h A c))):=by
 refine au ?_;grind[nt,QV,ix,nf]
def azE(y:O)(Y:M (Int×Int×M (B8×U)))(l:M (Int×B8))(b:B8)(c:b.length<1099511627776/\dq l):q85 (ot (ajD (fk y Y).2) (uf (dJ y Y l b)) (length b<1099511627776/\dq l) (ajD (fJ (fk y Y).1 l b).2) (q66 (length b)) (Lf (ajD (aI b).2) (uf (dJ y Y l b)) (S.small l) (Jp [λ(x:Vg.Z)=>(True,anl (Bc b y Y).1 (Bc b y Y),x),λ(X:Vg.Z)=>(uK (RN b).1 (RN b).2.1 (RN b).2.2.1 y Y (al l) (RN b).2.2.2,anl (Lj b l y Y).1 (Lj b l y Y),X)]) (ñ (dJ y Y l b) (aSY [λ(d:Vg.Z)=>(True,anl (Bc b y Y).1 (Bc b y Y),d),λ(e:Vg.Z)=>(uK (RN b).1 (RN b).2.1 (RN b).2.2.1 y Y (al l) (RN b).2.2.2,anl (Lj b l y Y).1 (Lj b l y Y),e)]) (aPN [λ(f:Vg.Z)=>(True,anl (Bc b y Y).1 (Bc b y Y),f),λ(g:Vg.Z)=>(uK (RN b).1 (RN b).2.1 (RN b).2.2.1 y Y (al l) (RN b).2.2.2,anl (Lj b l y Y).1 (Lj b l y Y),g)]).1 (aPN [λ(i:Vg.Z)=>(True,anl (Bc b y Y).1 (Bc b y Y),i),λ(j:Vg.Z)=>(uK (RN b).1 (RN b).2.1 (RN b).2.2.1 y Y (al l) (RN b).2.2.2,anl (Lj b l y Y).1 (Lj b l y Y),j)]).2))):=by
 refine au ?_;refine⟨?_,?_,?_⟩;trivial;grind[nt,df,dJ,ix];intro h;simp at h;with_reducible and_intros
 omega;grind;grind[nt,df,dJ,ix];intro H;simp at H;refine⟨?_,?_,?_⟩;omega;grind[nt,df,dJ,ix];intro a;simp at a;apply SU;exact c.2.1;exact⟨trivial,λ_=>⟨afY c.1 c.2 h H a,λ_=>trivial⟩⟩
 iterate 2
  rw[W9 h H a];rfl
 rw[W9 h H a];rfl
def azF(y:O)(Y:M (Int×Int×M (B8×U)))(i:Int)(b:B8)(c:b.length<1099511627776):q85 (ot (ajD (fk y Y).2) (uf (mX y Y i b)) (length b<1099511627776) (ajD (uc (fk y Y).1 i b).2) (q66 (length b)) (jM (ajD (bx b).2) (uf (mX y Y i b)) (Jp [λ(x:Vg.Z)=>(True,anl (wS b y Y).1 (wS b y Y),x),λ(X:Vg.Z)=>(mI y (Xz b) (RO b),anl (RP b i y Y).1 (RP b i y Y),X)]) (ñ (mX y Y i b) (aSY [λ(d:Vg.Z)=>(True,anl (wS b y Y).1 (wS b y Y),d),λ(e:Vg.Z)=>(mI y (Xz b) (RO b),anl (RP b i y Y).1 (RP b i y Y),e)]) (aPN [λ(f:Vg.Z)=>(True,anl (wS b y Y).1 (wS b y Y),f),λ(g:Vg.Z)=>(mI y (Xz b) (RO b),anl (RP b i y Y).1 (RP b i y Y),g)]).1 (aPN [λ(j:Vg.Z)=>(True,anl (wS b y Y).1 (wS b y Y),j),λ(k:Vg.Z)=>(mI y (Xz b) (RO b),anl (RP b i y Y).1 (RP b i y Y),k)]).2))):=by
 refine au ?_;refine⟨?_,?_,?_⟩;trivial;grind[nt,df,mX,ix];intro h;simp at h;refine⟨?_,?_,?_⟩;omega;grind[nt,df,mX,ix];intro H;simp at H;refine⟨?_,?_,?_⟩;omega;grind[nt,df,mX,ix];intro a;simp at a;refine⟨?_,?_,?_,?_⟩;exact⟨trivial,λ_=>⟨aHm c h,λ_=>trivial⟩⟩
 iterate 2
  rw[afZ h H a];rfl
 rw[afZ h H a];rfl
def azG(m:Nat)(a:O)(k:Int)(b x y:O)(l:k.toNat+1<m+1)(h:ap0 a k b x y)(H:Vg.jE J.aP6 (a,k,b,x,y)):aSU 0 k (oh a) (oh b) (aSU 0 k (oh x) (oh y) ((S.len (take (toNat k) a)<m/\aui (take (toNat k) a) (take (toNat k) b) (take (toNat k) x) (take (toNat k) y))/\q11 (akf (take (toNat k) a) (take (toNat k) b)) (akf (tkI a k) (tkI b k)))):=by
 refine au ?_;have A:Vg.hlen a:=H.1.1;have c:Vg.hint k:=H.2.1;have I:Vg.hlen b:=H.2.2.1.1;have d:Vg.hlen x:=H.2.2.2.1.1;have e:Vg.hlen y:=H.2.2.2.2.1.1;clear H;with_reducible and_intros
 iterate 8
  (obtain⟨q,Q,f,g⟩:=aMR h.1;have i:=h.2.1;have j:=h.2.2;omega)
 (obtain⟨q,Q,f,g⟩:=aMR h.1;have i:=h.2.1;have j:=h.2.2;simp only[S.len,C?];omega)
 exact aV1 h;iterate 3 rfl
def azH(m:Nat)(a:O)(k:Int)(b x y:O)(l:S.len a-k.toNat+1<m+1)(h:ap0 a k b x y)(H:Vg.jE J.aP6 (a,k,b,x,y)):aSU 0 k (oh a) (oh b) (aSU 0 k (oh x) (oh y) ((S.len (drop (toNat k) a)<m/\aui (drop (toNat k) a) (drop (toNat k) b) (drop (toNat k) x) (drop (toNat k) y))/\q11 (akf (drop (toNat k) a) (drop (toNat k) b)) (akf (dpI a k) (dpI b k)))):=by
 refine au ?_;have A:Vg.hlen a:=H.1.1;have c:Vg.hint k:=H.2.1;have I:Vg.hlen b:=H.2.2.1.1;have d:Vg.hlen x:=H.2.2.2.1.1;have e:Vg.hlen y:=H.2.2.2.2.1.1;clear H;with_reducible and_intros
 iterate 8
  (obtain⟨q,Q,f,g⟩:=aMR h.1;have i:=h.2.1;have j:=h.2.2;omega)
 (obtain⟨q,Q,f,g⟩:=aMR h.1;have i:=h.2.1;have j:=h.2.2;simp only[S.len,N?] at *;omega)
 exact aV2 h;iterate 3 rfl
def azI(m:Nat)(a b x y:O)(d:S.len a<m+1)(h:aui a b x y)(c:Vg.jE J.aTl (a,b,x,y)):Lf (aP9 (oh a)) (((0:Int)<=0/\0<oh a)/\aug (yb a 0) (((0:Int)<=0/\0<oh b)/\aug (yb b 0) (iy (bB 0 (yb a 0)) (bB 0 (yb b 0))/\q11 (bt (bB 0 (yb a 0)) (bB 0 (yb b 0))) (akf a b)))) True (S.small x) (S.small y/\aj8 (Jp [λ(e:Vg.Z)=>(iy (wE x) (wE y),anl (G6 x y).1 (G6 x y),e),λ(f:Vg.Z)=>(abj a+1<m+1/\ap0 a (Le a) b x y,anl (aGc a b).1 (aGc a b),f),λ(g:Vg.Z)=>(S.len a-abj a+1<m+1/\ap0 a (Le a) b x y,anl (aGa a b).1 (aGa a b),g)]) (ñ (akf a b) (aSY [λ(i:Vg.Z)=>(iy (wE x) (wE y),anl (G6 x y).1 (G6 x y),i),λ(j:Vg.Z)=>(abj a+1<m+1/\ap0 a (Le a) b x y,anl (aGc a b).1 (aGc a b),j),λ(k:Vg.Z)=>(S.len a-abj a+1<m+1/\ap0 a (Le a) b x y,anl (aGa a b).1 (aGa a b),k)]) (aPN [λ(l:Vg.Z)=>(iy (wE x) (wE y),anl (G6 x y).1 (G6 x y),l),λ(r:Vg.Z)=>(abj a+1<m+1/\ap0 a (Le a) b x y,anl (aGc a b).1 (aGc a b),r),λ(o:Vg.Z)=>(S.len a-abj a+1<m+1/\ap0 a (Le a) b x y,anl (aGa a b).1 (aGa a b),o)]).1 (aPN [λ(r:Vg.Z)=>(iy (wE x) (wE y),anl (G6 x y).1 (G6 x y),r),λ(s:Vg.Z)=>(abj a+1<m+1/\ap0 a (Le a) b x y,anl (aGc a b).1 (aGc a b),s),λ(X:Vg.Z)=>(S.len a-abj a+1<m+1/\ap0 a (Le a) b x y,anl (aGa a b).1 (aGa a b),X)]).2)):=by
 refine au ?_;have A:Vg.hlen a:=c.1.1;have I:Vg.hlen b:=c.2.1.1;have t:Vg.hlen x:=c.2.2.1.1;have u:Vg.hlen y:=c.2.2.2.1.1;clear c;refine⟨?_,?_⟩
 . intro v;try simp only[dt] at v
   with_reducible and_intros
   iterate 2 omega
   exact(aRR h).1;omega;have q:=aMR h;omega;exact(aRR h).2.1;exact NJ 0 ⟨(aRR h).1,(aRR h).2.1⟩
   iterate 2
    rw[aQ3 w!];rfl
   rw[aQ3 w!];rfl
 intro H;try simp only[df] at H
 with_reducible and_intros
 trivial;exact(aRR h).2.2.1;exact(aRR h).2.2.2;trivial;exact⟨aUg ..,λ_=>⟨⟨(aYe h H d).1,aV6 h H⟩,λ_=>⟨⟨(aYe h H d).2,aV6 h H⟩,λ_=>trivial⟩⟩⟩
 iterate 2
  rw[<-aV7 h H True True True];rfl
 rw[<-aV7 h H True True True];rfl
def azJ(a b:O)(d:dj a/\dj b)(h:Vg.jE J.aOa (a,b)):Lf (ct (oD (oh a) (oh b)) (aaT (oh a))) (uf (auw a b)) (dj a) (dj b) (aui a b (S.leaves a) (S.leaves b)/\q11 (akf a b) (auw a b)):=by
 refine au ?_;have A:Vg.hlen a:=h.1.1;have I:Vg.hlen b:=h.2.1.1;clear h;refine⟨?_,?_⟩;intro H;try simp only[V.Nb,nt,df,dt] at H
 refine⟨?_,?_,?_⟩;iterate 3 (grind[auw,ix,aui])
 intro c;try simp only[V.qF,nf,dt,df] at c
 apply cj6;iterate 6 (grind[auw,ix,aui])
def azK(a:O)(i j:Int)(b:O)(H:aI1 a i j b)(h:Vg.jE J.aWb (a,i,j,b)):tm 0 i j (oh a)/\tm 0 i j (oh b)/\(dj (drop (toNat i) (take (toNat j) a))/\dj (drop (toNat i) (take (toNat j) b)))/\q11 (auw (drop (toNat i) (take (toNat j) a)) (drop (toNat i) (take (toNat j) b))) (auw (ajL a i j) (ajL b i j)):=by
 refine au ?_;have A:Vg.hlen a:=h.1.1;have c:Vg.hint i:=h.2.1;have d:Vg.hint j:=h.2.2.1;have I:Vg.hlen b:=h.2.2.2.1.1;clear h;with_reducible and_intros
 iterate 6
  obtain⟨q,Q,e,f,g,k⟩:=H;omega
 exact aPn H.1 ..;exact aPn H.2.1 ..;iterate 3 rfl
def aXx(a b:O)(i j:Int)(h:Vg.jE J.aWc (a,b,i,j)): [a]=[a]/\0=0/\[i]=[i]/\0=0/\[j]=[j]/\0=0/\[b]=[b]/\0=0:=by
 have A:Vg.hlen a:=h.1.1;have I:Vg.hlen b:=h.2.1.1;have c:Vg.hint i:=h.2.2.1;have d:Vg.hint j:=h.2.2.2.1;clear h;with_reducible and_intros
 iterate 8 rfl
def azL:uf ix:=by
 refine au ?_;refine⟨?_,?_,?_⟩;iterate 3 (grind[ix])
def aXy(m n:Int)(H:aF7 m n)(d:Vg.jE J.aEO (m,n)):(∃(X:M (Int×Int×Int×Int×Bool)×Int×Int×Int),(0=X.2.1/\m=X.2.2.1/\n=X.2.2.2/\[]=X.1)/\awP m n X)/\(∀(x:M (Int×Int×Int×Int×Bool)×Int×Int×Int),awP m n x->jM (decide (x.2.2.1<x.2.2.2)) (aj8 (FE (length x.1+length [(x.2.1,x.2.2.1,x.2.2.2,wP x,Xv x)])) (ti (Xv x) (q78 (x.2.1+wP x)/\q78 (x.2.2.1-wP x)/\q78 (x.2.2.2-wP x))/\(∃(a:M (Int×Int×Int×Int×Bool)×Int×Int×Int),((bif Xv x then x.2.1+wP x else x.2.1)=a.2.1/\(bif Xv x then x.2.2.1-wP x else x.2.2.1)=a.2.2.1/\(bif Xv x then x.2.2.2-wP x else wP x)=a.2.2.2/\x.1++[(x.2.1,x.2.2.1,x.2.2.2,wP x,Xv x)]=a.1)/\awP m n a/\aQF a.2.2.2 x.2.2.2))) (x.1=aFO m n) (x.2.1=aFP m n)):=by
 refine au ?_;have A:Vg.hint m:=d.1;have f:Vg.hint n:=d.2.1;clear d;refine⟨?_,?_⟩
 . refine⟨(([]),(((0:Int)),((m),(n)))),?_⟩;try dsimp only
   with_reducible and_intros
   iterate 4 with_reducible rfl
   exact a0o H
 intro X h;refine⟨?_,?_⟩
 . intro c;try simp only[dt] at c
   with_reducible and_intros
   trivial;have q:=a0p H h;simp only[J?];omega
   . intro g;try simp only[dt] at g
     with_reducible and_intros
     iterate 5
      obtain⟨Q,i,j,k⟩:=aV0 H h c;obtain⟨_,_,l,o,r,s,t,_⟩:=h;have q:=H.2.2;omega
     obtain⟨Q,i,j,k⟩:=aV0 H h c;obtain⟨_,_,l,o,r,s,t,_⟩:=h;have q:=H.2.2;omega
   intro u;try simp only[df] at u
   trivial;refine⟨((Prod.fst X++[(Prod.fst (Prod.snd X),Prod.fst (Prod.snd (Prod.snd X)),Prod.snd (Prod.snd (Prod.snd X)),S.split (Prod.snd (Prod.snd (Prod.snd X))),Decidable.decide (S.split (Prod.snd (Prod.snd (Prod.snd X)))<Prod.fst (Prod.snd (Prod.snd X))))]),((bif Decidable.decide (S.split (Prod.snd (Prod.snd (Prod.snd X)))<Prod.fst (Prod.snd (Prod.snd X))) then Prod.fst (Prod.snd X)+S.split (Prod.snd (Prod.snd (Prod.snd X))) else Prod.fst (Prod.snd X)),((bif Decidable.decide (S.split (Prod.snd (Prod.snd (Prod.snd X)))<Prod.fst (Prod.snd (Prod.snd X))) then Prod.fst (Prod.snd (Prod.snd X))-S.split (Prod.snd (Prod.snd (Prod.snd X))) else Prod.fst (Prod.snd (Prod.snd X))),(bif Decidable.decide (S.split (Prod.snd (Prod.snd (Prod.snd X)))<Prod.fst (Prod.snd (Prod.snd X))) then Prod.snd (Prod.snd (Prod.snd X))-S.split (Prod.snd (Prod.snd (Prod.snd X))) else S.split (Prod.snd (Prod.snd (Prod.snd X))))))),?_⟩;try dsimp only
   with_reducible and_intros
   iterate 4 with_reducible rfl
   exact(aSQ H h c).1;exact(aSQ H h c).2
 intro e;try simp only[df] at e
 refine⟨?_,?_⟩;exact(aUf h e).1;exact(aUf h e).2
def aXz(a b p:O)(u:aFQ a b p)(z:Vg.jE J.aWd (a,b,p)):dj a/\dj b/\nC (aaT (oh a)) (Lf (decide (oh b<oh a)) True (S.small (S.leaves a)) (S.small (S.leaves b)) (eX p))/\Lf (aLI (aaT (oh a)) (decide (oh b<oh a)) (ajD (J7 (oh a) (oh b) (kI (S.leaves a)) (kI (S.leaves b)) p))) (uf (aul a b p)) (aF7 (oh a) (oh b)) (S.small (S.leaves a)) (ti (alC (abh a b)) (aMO 0 (oh p) 1)/\aRm 0 (auu a b) aFC/\aRm 0 (auu a b) aFC/\(∃(y:Nat),aPR y ((bif alC (abh a b) then yb p 0 else kI (S.leaves a))=an8 a b p y/\(bif alC (abh a b) then yb p 0 else kI (S.leaves a))=anp a b p y/\Vg.aE.JY (toNat (auu a b))=an3 a b p y/\Vg.aE.JY (toNat (auu a b))=anH a b p y) (abi a b p))/\(∀(x:Nat),x<=abi a b p->Lf (decide (x<oh (mL a b p))) (il 0 x (oh (mL a b p))/\q78 (auu a b-1)/\aMK (auu a b-1-x) 0 (auu a b) (q78 ((arP a b x).1+(arP a b x).2.2.1)/\tm 0 (arP a b x).1 ((arP a b x).1+(arP a b x).2.2.1) (oh (S.leaves b))/\S.small (aL5 a b x)/\il 0 (auu a b-1-x) (Vg.aE.len (an3 a b p x))/\abg a b x<Vg.aE.len (an3 a b p x)/\jM (arP a b x).2.2.2.2 (aug (yb (mL a b p) x++an8 a b p x) (q78 ((arP a b x).1+(arP a b x).2.1)/\tm 0 (arP a b x).1 ((arP a b x).1+(arP a b x).2.1) (oh (S.leaves a))/\S.small (abf a b x)/\q85 (il 0 (auu a b-1-x) (Vg.aE.len (A8 a b p x))/\abg a b x<Vg.aE.len (A8 a b p x)/\aug (yb (mL a b p) x++anp a b p x) (q85 (il 0 (auu a b-1-x) (Vg.aE.len (anH a b p x))/\abg a b x<Vg.aE.len (anH a b p x)/\q85 (q85 (ajJ x (∃(v:Nat),anI (x+1) v (bz (yb (mL a b p) x) (an8 a b p x)=an8 a b p v/\bz (yb (mL a b p) x) (anp a b p x)=anp a b p v/\Vg.aE.put (A8 a b p x) (abg a b x) (iy (bB 1 (yb (mL a b p) x++an8 a b p x)) (wE (abf a b x))) (anl (bt (bB 1 (yb (mL a b p) x++an8 a b p x)) (wE (abf a b x))).1 (bt (bB 1 (yb (mL a b p) x++an8 a b p x)) (wE (abf a b x))))=an3 a b p v/\Vg.aE.put (anH a b p x) (abg a b x) (iy (bB 1 (yb (mL a b p) x++anp a b p x)) (wE (aL5 a b x))) (anl (bt (bB 1 (yb (mL a b p) x++anp a b p x)) (wE (aL5 a b x))).1 (bt (bB 1 (yb (mL a b p) x++anp a b p x)) (wE (aL5 a b x))))=anH a b p v) (v<=abi a b p) (abi a b p) (af (abi a b p) x))))))))) (az (anp a b p x++yb (mL a b p) x)) (q85 (il 0 (auu a b-1-x) (Vg.aE.len (anH a b p x))/\abg a b x<Vg.aE.len (anH a b p x)/\q85 (ajJ x (∃(w:Nat),anI (x+1) w (an8 a b p x=an8 a b p w/\bz (anp a b p x) (yb (mL a b p) x)=anp a b p w/\A8 a b p x=an3 a b p w/\Vg.aE.put (anH a b p x) (abg a b x) (iy (bB 1 (anp a b p x++yb (mL a b p) x)) (wE (aL5 a b x))) (anl (bt (bB 1 (anp a b p x++yb (mL a b p) x)) (wE (aL5 a b x))).1 (bt (bB 1 (anp a b p x++yb (mL a b p) x)) (wE (aL5 a b x))))=anH a b p w) (w<=abi a b p) (abi a b p) (af (abi a b p) x))))))) (Vg.aE.len (an3 a b p x)+length (anH a b p x)<=17592186044416) (∃(C:Nat),((0:Int)=C/\Vg.aE.cat (an3 a b p x) (anH a b p x)=anw a b p C)/\leP (ep a b) C) (∀(X:Nat),leP (ep a b) X->Lf (decide (X<auu a b)) (il 0 X (auu a b)/\anF (A6 a b X).2.2.2.2 (q78 (G4 a b X)/\aj8 (aS0 (anw a b p X)) (ajJ X (∃(D:Nat),anI (X+1) D (Vg.aE.cat (anw a b p X) [λ(U:Vg.Z)=>(aI1 a (A6 a b X).1 (G4 a b X) b,anl (A7 a b X).1 (A7 a b X),U)]=anw a b p D) (leP (ep a b) D) (S.len (ep a b)) (af (S.len (ep a b)) X)))) X (∃(s:Nat),anI (X+1) s (anw a b p X=anw a b p s) (leP (ep a b) s) (S.len (ep a b)) (af (S.len (ep a b)) X))) True (aS0 (anw a b p X)) (Jp (Vg.aE.cat (anw a b p X) [λ(W:Vg.Z)=>(aI1 a (abh a b) (oh a) b,anl (Dy a b).1 (Dy a b),W)])/\ñ (aul a b p) (aSY (Vg.aE.cat (anw a b p X) [λ(Y:Vg.Z)=>(aI1 a (abh a b) (oh a) b,anl (Dy a b).1 (Dy a b),Y)])) (aPN (Vg.aE.cat (anw a b p X) [λ(E:Vg.Z)=>(aI1 a (abh a b) (oh a) b,anl (Dy a b).1 (Dy a b),E)])).1 (aPN (Vg.aE.cat (anw a b p X) [λ(F:Vg.Z)=>(aI1 a (abh a b) (oh a) b,anl (Dy a b).1 (Dy a b),F)])).2)))):=by
 refine au ?_;have arT:Vg.hlen a:=z.1.1;have I6:Vg.hlen b:=z.2.1.1;have aO4:Vg.hlen p:=z.2.2.1.1;clear z;rw[show aFO (a.length:Int) (b.length:Int)=ep a b from rfl,show aFP (a.length:Int) (b.length:Int)=ccF a b from rfl,show(bif decide ((0:Int)<ccF a b) then drop (toNat 1) p else p)=ccP a b p from rfl];with_reducible and_intros
 exact u.1;exact u.2.1;intro h1;try simp only[dt] at h1
 trivial;intro h2;try simp only[df] at h2
 refine⟨?_,?_⟩;intro h3;try simp only[dt] at h3
 trivial;intro h4;try simp only[df] at h4
 refine⟨?_,?_,?_⟩;exact aF2 (by rw[nA];exact u.1.1);exact aF2 (by rw[nA];exact u.2.1.1);exact u.2.2;intro G;try simp only[V.Nb,dt,nt,df] at G
 refine⟨?_,?_,?_⟩
 iterate 2
  rw[aYf G];rfl
 rw[aYf G];rfl;intro H;try simp only[V.qF,df,nf,dt] at H
 with_reducible and_intros
 have q:=aog (aj1 H);exact⟨w!,w!,w!⟩;exact aF2 (by rw[nA];exact u.1.1)
 . intro I;try simp only[dt] at I
   with_reducible and_intros
   omega;have q:=(arO (aj1 H)).2.2.2.1 (L? I);omega;omega;have q:=(arO (aj1 H)).2.2.2.1 (L? I);omega
 intro h8;try simp only[df] at h8
 trivial;iterate 2 omega
 have q:=aog (aj1 H);omega;iterate 2 omega
 have q:=aog (aj1 H);omega
 . refine⟨(nat_lit 0:Nat),?_⟩;try dsimp only
   with_reducible and_intros
   omega;iterate 4 rfl
   omega
 intro s P;refine⟨?_,?_⟩
 . intro i;try simp only[dt] at i
   with_reducible and_intros
   iterate 3 omega
   have q:=aog (aj1 H);unfold leP at *;omega
   (have h:=aj1 H;obtain⟨Q,d,e,f⟩:=auz h i;obtain⟨r,R,g,j,k⟩:=auy h i rfl;obtain⟨t,T,l,m,n,o,_⟩:=aog h;omega)
   have q:=aog (aj1 H);unfold leP at *;omega
   (have h:=aj1 H;obtain⟨Q,d,e,f⟩:=auz h i;obtain⟨r,R,g,j,k⟩:=auy h i rfl;obtain⟨t,T,l,m,n,o,_⟩:=aog h;omega)
   omega
   iterate 5
    (have h:=aj1 H;obtain⟨Q,d,e,f⟩:=auz h i;obtain⟨r,R,g,j,k⟩:=auy h i rfl;obtain⟨t,T,l,m,n,o,_⟩:=aog h;omega)
   obtain⟨Q,d,e,_⟩:=aog (aj1 H);exact aF2 (by simp only[N?,C?];omega)
   (have h:=aj1 H;obtain⟨Q,d,e,f⟩:=auz h i;obtain⟨r,R,g,j,k⟩:=auy h i rfl;obtain⟨t,T,l,m,n,o,_⟩:=aog h;omega)
   iterate 2
    (have h:=aj1 H;obtain⟨Q,d,e,f⟩:=auz h i;obtain⟨r,R,g,j,k⟩:=auy h i rfl;obtain⟨t,T,l,m,n,o,_⟩:=aog h;simp only[Vg.aE.len,Vg.aE.put,List.length_set] at *;omega)
   . intro K;with_reducible and_intros
     exact(aTi (aj1 H) i).1
     iterate 5
      (have h:=aj1 H;obtain⟨Q,d,e,f⟩:=auz h i;obtain⟨r,R,g,j,k⟩:=auy h i rfl;obtain⟨t,T,l,m,n,o,_⟩:=aog h;omega)
     obtain⟨Q,d,e,_⟩:=aog (aj1 H);exact aF2 (by simp only[N?,C?];omega);trivial
     (have h:=aj1 H;obtain⟨Q,d,e,f⟩:=auz h i;obtain⟨r,R,g,j,k⟩:=auy h i rfl;obtain⟨t,T,l,m,n,o,_⟩:=aog h;omega)
     iterate 2
      (have h:=aj1 H;obtain⟨Q,d,e,f⟩:=auz h i;obtain⟨r,R,g,j,k⟩:=auy h i rfl;obtain⟨t,T,l,m,n,o,_⟩:=aog h;simp only[Vg.aE.len,Vg.aE.put,List.length_set] at *;omega)
     exact(aTi (aj1 H) i).2.1;trivial
     (have h:=aj1 H;obtain⟨Q,d,e,f⟩:=auz h i;obtain⟨r,R,g,j,k⟩:=auy h i rfl;obtain⟨t,T,l,m,n,o,_⟩:=aog h;omega)
     iterate 2
      (have h:=aj1 H;obtain⟨Q,d,e,f⟩:=auz h i;obtain⟨r,R,g,j,k⟩:=auy h i rfl;obtain⟨t,T,l,m,n,o,_⟩:=aog h;simp only[Vg.aE.len,Vg.aE.put,List.length_set] at *;omega)
     iterate 2 trivial
     omega
     (have h:=aj1 H;obtain⟨Q,d,e,f⟩:=auz h i;obtain⟨r,R,g,j,k⟩:=auy h i rfl;obtain⟨t,T,l,m,n,o,_⟩:=aog h;omega)
     refine⟨(s+nat_lit 1),?_⟩;try dsimp only
     with_reducible and_intros
     omega;have q:=aSp (aj1 H) i;rw[if_pos K] at q;exact(congrArg Prod.fst q).symm;have q:=aSp (aj1 H) i;rw[if_pos K] at q;exact(congrArg Prod.snd q).symm;rw[(aSq (aj1 H) i).1,aQD,if_pos K];exact List.set_set ..;rw[(aSq (aj1 H) i).2,aQZ,if_pos K];rfl;iterate 2 (grind[af,S.len])
   intro A;with_reducible and_intros
   exact(aTi (aj1 H) i).2.2;trivial
   (have h:=aj1 H;obtain⟨Q,d,e,f⟩:=auz h i;obtain⟨r,R,g,j,k⟩:=auy h i rfl;obtain⟨t,T,l,m,n,o,_⟩:=aog h;omega)
   iterate 2
    (have h:=aj1 H;obtain⟨Q,d,e,f⟩:=auz h i;obtain⟨r,R,g,j,k⟩:=auy h i rfl;obtain⟨t,T,l,m,n,o,_⟩:=aog h;simp only[Vg.aE.len,Vg.aE.put,List.length_set] at *;omega)
   trivial;omega
   (have h:=aj1 H;obtain⟨Q,d,e,f⟩:=auz h i;obtain⟨r,R,g,j,k⟩:=auy h i rfl;obtain⟨t,T,l,m,n,o,_⟩:=aog h;omega)
   refine⟨(s+nat_lit 1),?_⟩;try dsimp only
   with_reducible and_intros
   omega;have q:=aSp (aj1 H) i;rw[A] at q;exact(congrArg Prod.fst q).symm;have q:=aSp (aj1 H) i;rw[A] at q;exact(congrArg Prod.snd q).symm;rw[(aSq (aj1 H) i).1,aQD,A];rfl;rw[(aSq (aj1 H) i).2,aQZ,A];rfl;iterate 2 (grind[af,S.len])
 intro L;try simp only[df] at L
 refine⟨?_,?_,?_⟩;have q:=aUi (aj1 H) P L;have d:Vg.aE.len (an3 a b p s)=(an3 a b p s).length:=rfl;have Q:=aog (aj1 H);omega
 . refine⟨(nat_lit 0:Nat),?_⟩;try dsimp only
   with_reducible and_intros
   omega;obtain⟨rfl,_⟩:=aUi (aj1 H) P L;exact(aZc a b p).symm;exact S! _
 intro c M;refine⟨?_,?_⟩
 . intro B;try simp only[dt] at B
   with_reducible and_intros
   iterate 2 omega
   . intro þ;with_reducible and_intros
     iterate 2
      have q:=aZd (aj1 H) B rfl;have Q:=aog (aj1 H);omega
     trivial;have q:=aV8 (aj1 H) c;have Q:=aog (aj1 H);have d:Vg.aE.len (anw a b p c)=(anw a b p c).length:=rfl;omega;omega;have q:=aog (aj1 H);omega;refine⟨(c+nat_lit 1),?_⟩;try dsimp only
     with_reducible and_intros
     omega;rw[aV9 B,if_pos þ];rfl;unfold leP at *;omega;grind[af,S.len]
   intro ÿ;with_reducible and_intros
   omega;have q:=aog (aj1 H);omega;refine⟨(c+nat_lit 1),?_⟩;try dsimp only
   with_reducible and_intros
   omega;rw[aV9 B,ÿ];rfl;unfold leP at *;omega;grind[af,S.len]
 intro N;try simp only[df] at N
 apply cj6;trivial;have q:=aV8 (aj1 H) c;have Q:=aog (aj1 H);have d:Vg.aE.len (anw a b p c)=(anw a b p c).length:=rfl;omega;obtain rfl :c=(ep a b).length:=by unfold leP at M;omega
 exact aW7 (aj1 H) u
 iterate 2
  obtain rfl :c=(ep a b).length:=by unfold leP at M;omega
  rw[aUj (aj1 H)];rfl
 obtain rfl :c=(ep a b).length:=by unfold leP at M;omega
 rw[aUj (aj1 H)];rfl
def aXA(c:Int)(d:B8)(e:M (Int×Int×Int×B8))(S:O)(f:M (Int×Int×M (B8×U)))(g:Int)(i:B8)(j:M (Int×Int×Int×B8))(a:O)(F:M (Int×Int×M (B8×U)))(s:O)(z:aOi c d e S f g i j a F s)(h:Vg.jE J.aWe (c,d,e,S,f,g,i,j,a,F,s)):aj8 (an5 (Bool.not (Bw c d e S f))) (jM (xO (Bool.not (Bw c d e S f)) (Bw g i j a F)) (uf (at6 c d e S f g i j a F s)) (aFQ S a s) (q11 (aul S a s) (at6 c d e S f g i j a F s))):=by
 refine au ?_;have A:Vg.hint c:=h.1;have k:Vg.hlen d:=h.2.1;have l:Vg.hlen e:=h.2.2.1.1;have m:Vg.hlen S:=h.2.2.2.1.1;have n:Vg.hlen f:=h.2.2.2.2.1.1;have o:Vg.hint g:=h.2.2.2.2.2.1;have q:Vg.hlen i:=h.2.2.2.2.2.2.1;have r:Vg.hlen j:=h.2.2.2.2.2.2.2.1.1;have t:Vg.hlen a:=h.2.2.2.2.2.2.2.2.1.1;have u:Vg.hlen F:=h.2.2.2.2.2.2.2.2.2.1.1;have v:Vg.hlen s:=h.2.2.2.2.2.2.2.2.2.2.1.1;clear h;with_reducible and_intros
 trivial;intro H;try simp only[nt] at H
 trivial;intro w;try simp only[nf] at w
 trivial;intro x;try simp only[V.Nb,nt] at x
 refine⟨?_,?_,?_⟩;iterate 3 (grind[at6,ix,aOi])
 intro y;try simp only[V.qF,nf] at y
 refine⟨?_,?_,?_,?_⟩;assumption;iterate 3 (grind[at6,ix,aOi])
def aXB(x:O)(X:M (Int×Int×M (B8×U)))(y:O)(Y:M (Int×Int×M (B8×U)))(b:B8)(k:b.length<1099511627776)(h:Vg.jE J.aMT (x,X,y,Y,b)):True/\((!decide ((fk x X).2=(0:Int)))=true->[]=((alN x X y Y b).1).1/\[]=((alN x X y Y b).1).2/\false=(alN x X y Y b).2)/\((!decide ((fk x X).2=(0:Int)))=false->True/\((!decide ((fk y Y).2=(0:Int)))=true->[]=((alN x X y Y b).1).1/\[]=((alN x X y Y b).1).2/\false=(alN x X y Y b).2)/\((!decide ((fk y Y).2=(0:Int)))=false->length b<(1099511627776:Nat)/\((bif !decide (((anq ((fk x X).1) b).2).2=(0:Int)) then true else !decide ((anq ((fk x X).1) b).1=(fk y Y).1))=true->[]=((alN x X y Y b).1).1/\[]=((alN x X y Y b).1).2/\false=(alN x X y Y b).2)/\((bif !decide (((anq ((fk x X).1) b).2).2=(0:Int)) then true else !decide ((anq ((fk x X).1) b).1=(fk y Y).1))=false->length b<=(140737488355328:Nat)/\((!decide ((S.Ě b).2=(0:Int)))=true->[]=((alN x X y Y b).1).1/\[]=((alN x X y Y b).1).2/\false=(alN x X y Y b).2)/\((!decide ((S.Ě b).2=(0:Int)))=false->(Vg.aE.first [λ(z:Vg.Z)=>(True,Vg.AV.bk [Vg.AV.agg [Vg.AV.sl [Vg.Ty.int Go.IntKind.u8] (((sI (((S.Ě b).1).1) ((((S.Ě b).1).2).1) (((((S.Ě b).1).2).2).1) x X).1).1),Vg.AV.sl [Vg.Ty.int Go.IntKind.u8] (((sI (((S.Ě b).1).1) ((((S.Ě b).1).2).1) (((((S.Ě b).1).2).2).1) x X).1).2)],Vg.AV.bool ((sI (((S.Ě b).1).1) ((((S.Ě b).1).2).1) (((((S.Ě b).1).2).2).1) x X).2)],z),λ(z:Vg.Z)=>(True,Vg.AV.bk [Vg.AV.agg [Vg.AV.sl [Vg.Ty.int Go.IntKind.u8] (((sI ((((((S.Ě b).1).2).2).2).1) (((((((S.Ě b).1).2).2).2).2).1) ((((((((S.Ě b).1).2).2).2).2).2).1) y Y).1).1),Vg.AV.sl [Vg.Ty.int Go.IntKind.u8] (((sI ((((((S.Ě b).1).2).2).2).1) (((((((S.Ě b).1).2).2).2).2).1) ((((((((S.Ě b).1).2).2).2).2).2).1) y Y).1).2)],Vg.AV.bool ((sI ((((((S.Ě b).1).2).2).2).1) (((((((S.Ě b).1).2).2).2).2).1) ((((((((S.Ě b).1).2).2).2).2).2).1) y Y).2)],z),λ(z:Vg.Z)=>(aOi (((S.Ě b).1).1) ((((S.Ě b).1).2).1) (((((S.Ě b).1).2).2).1) x X ((((((S.Ě b).1).2).2).2).1) (((((((S.Ě b).1).2).2).2).2).1) ((((((((S.Ě b).1).2).2).2).2).2).1) y Y ((((((((S.Ě b).1).2).2).2).2).2).2),Vg.AV.bk [Vg.AV.agg [Vg.AV.sl [Vg.Ty.int Go.IntKind.u8] (((at6 (((S.Ě b).1).1) ((((S.Ě b).1).2).1) (((((S.Ě b).1).2).2).1) x X ((((((S.Ě b).1).2).2).2).1) (((((((S.Ě b).1).2).2).2).2).1) ((((((((S.Ě b).1).2).2).2).2).2).1) y Y ((((((((S.Ě b).1).2).2).2).2).2).2)).1).1),Vg.AV.sl [Vg.Ty.int Go.IntKind.u8] (((at6 (((S.Ě b).1).1) ((((S.Ě b).1).2).1) (((((S.Ě b).1).2).2).1) x X ((((((S.Ě b).1).2).2).2).1) (((((((S.Ě b).1).2).2).2).2).1) ((((((((S.Ě b).1).2).2).2).2).2).1) y Y ((((((((S.Ě b).1).2).2).2).2).2).2)).1).2)],Vg.AV.bool ((at6 (((S.Ě b).1).1) ((((S.Ě b).1).2).1) (((((S.Ě b).1).2).2).1) x X ((((((S.Ě b).1).2).2).2).1) (((((((S.Ě b).1).2).2).2).2).1) ((((((((S.Ě b).1).2).2).2).2).2).1) y Y ((((((((S.Ě b).1).2).2).2).2).2).2)).2)],z)]).1/\((Vg.aE.first [λ(z:Vg.Z)=>(True,Vg.AV.bk [Vg.AV.agg [Vg.AV.sl [Vg.Ty.int Go.IntKind.u8] (((sI (((S.Ě b).1).1) ((((S.Ě b).1).2).1) (((((S.Ě b).1).2).2).1) x X).1).1),Vg.AV.sl [Vg.Ty.int Go.IntKind.u8] (((sI (((S.Ě b).1).1) ((((S.Ě b).1).2).1) (((((S.Ě b).1).2).2).1) x X).1).2)],Vg.AV.bool ((sI (((S.Ě b).1).1) ((((S.Ě b).1).2).1) (((((S.Ě b).1).2).2).1) x X).2)],z),λ(z:Vg.Z)=>(True,Vg.AV.bk [Vg.AV.agg [Vg.AV.sl [Vg.Ty.int Go.IntKind.u8] (((sI ((((((S.Ě b).1).2).2).2).1) (((((((S.Ě b).1).2).2).2).2).1) ((((((((S.Ě b).1).2).2).2).2).2).1) y Y).1).1),Vg.AV.sl [Vg.Ty.int Go.IntKind.u8] (((sI ((((((S.Ě b).1).2).2).2).1) (((((((S.Ě b).1).2).2).2).2).1) ((((((((S.Ě b).1).2).2).2).2).2).1) y Y).1).2)],Vg.AV.bool ((sI ((((((S.Ě b).1).2).2).2).1) (((((((S.Ě b).1).2).2).2).2).1) ((((((((S.Ě b).1).2).2).2).2).2).1) y Y).2)],z),λ(z:Vg.Z)=>(aOi (((S.Ě b).1).1) ((((S.Ě b).1).2).1) (((((S.Ě b).1).2).2).1) x X ((((((S.Ě b).1).2).2).2).1) (((((((S.Ě b).1).2).2).2).2).1) ((((((((S.Ě b).1).2).2).2).2).2).1) y Y ((((((((S.Ě b).1).2).2).2).2).2).2),Vg.AV.bk [Vg.AV.agg [Vg.AV.sl [Vg.Ty.int Go.IntKind.u8] (((at6 (((S.Ě b).1).1) ((((S.Ě b).1).2).1) (((((S.Ě b).1).2).2).1) x X ((((((S.Ě b).1).2).2).2).1) (((((((S.Ě b).1).2).2).2).2).1) ((((((((S.Ě b).1).2).2).2).2).2).1) y Y ((((((((S.Ě b).1).2).2).2).2).2).2)).1).1),Vg.AV.sl [Vg.Ty.int Go.IntKind.u8] (((at6 (((S.Ě b).1).1) ((((S.Ě b).1).2).1) (((((S.Ě b).1).2).2).1) x X ((((((S.Ě b).1).2).2).2).1) (((((((S.Ě b).1).2).2).2).2).1) ((((((((S.Ě b).1).2).2).2).2).2).1) y Y ((((((((S.Ě b).1).2).2).2).2).2).2)).1).2)],Vg.AV.bool ((at6 (((S.Ě b).1).1) ((((S.Ě b).1).2).1) (((((S.Ě b).1).2).2).1) x X ((((((S.Ě b).1).2).2).2).1) (((((((S.Ě b).1).2).2).2).2).1) ((((((((S.Ě b).1).2).2).2).2).2).1) y Y ((((((((S.Ě b).1).2).2).2).2).2).2)).2)],z)]).2).1=((alN x X y Y b).1).1/\(((Vg.aE.first [λ(z:Vg.Z)=>(True,Vg.AV.bk [Vg.AV.agg [Vg.AV.sl [Vg.Ty.int Go.IntKind.u8] (((sI (((S.Ě b).1).1) ((((S.Ě b).1).2).1) (((((S.Ě b).1).2).2).1) x X).1).1),Vg.AV.sl [Vg.Ty.int Go.IntKind.u8] (((sI (((S.Ě b).1).1) ((((S.Ě b).1).2).1) (((((S.Ě b).1).2).2).1) x X).1).2)],Vg.AV.bool ((sI (((S.Ě b).1).1) ((((S.Ě b).1).2).1) (((((S.Ě b).1).2).2).1) x X).2)],z),λ(z:Vg.Z)=>(True,Vg.AV.bk [Vg.AV.agg [Vg.AV.sl [Vg.Ty.int Go.IntKind.u8] (((sI ((((((S.Ě b).1).2).2).2).1) (((((((S.Ě b).1).2).2).2).2).1) ((((((((S.Ě b).1).2).2).2).2).2).1) y Y).1).1),Vg.AV.sl [Vg.Ty.int Go.IntKind.u8] (((sI ((((((S.Ě b).1).2).2).2).1) (((((((S.Ě b).1).2).2).2).2).1) ((((((((S.Ě b).1).2).2).2).2).2).1) y Y).1).2)],Vg.AV.bool ((sI ((((((S.Ě b).1).2).2).2).1) (((((((S.Ě b).1).2).2).2).2).1) ((((((((S.Ě b).1).2).2).2).2).2).1) y Y).2)],z),λ(z:Vg.Z)=>(aOi (((S.Ě b).1).1) ((((S.Ě b).1).2).1) (((((S.Ě b).1).2).2).1) x X ((((((S.Ě b).1).2).2).2).1) (((((((S.Ě b).1).2).2).2).2).1) ((((((((S.Ě b).1).2).2).2).2).2).1) y Y ((((((((S.Ě b).1).2).2).2).2).2).2),Vg.AV.bk [Vg.AV.agg [Vg.AV.sl [Vg.Ty.int Go.IntKind.u8] (((at6 (((S.Ě b).1).1) ((((S.Ě b).1).2).1) (((((S.Ě b).1).2).2).1) x X ((((((S.Ě b).1).2).2).2).1) (((((((S.Ě b).1).2).2).2).2).1) ((((((((S.Ě b).1).2).2).2).2).2).1) y Y ((((((((S.Ě b).1).2).2).2).2).2).2)).1).1),Vg.AV.sl [Vg.Ty.int Go.IntKind.u8] (((at6 (((S.Ě b).1).1) ((((S.Ě b).1).2).1) (((((S.Ě b).1).2).2).1) x X ((((((S.Ě b).1).2).2).2).1) (((((((S.Ě b).1).2).2).2).2).1) ((((((((S.Ě b).1).2).2).2).2).2).1) y Y ((((((((S.Ě b).1).2).2).2).2).2).2)).1).2)],Vg.AV.bool ((at6 (((S.Ě b).1).1) ((((S.Ě b).1).2).1) (((((S.Ě b).1).2).2).1) x X ((((((S.Ě b).1).2).2).2).1) (((((((S.Ě b).1).2).2).2).2).1) ((((((((S.Ě b).1).2).2).2).2).2).1) y Y ((((((((S.Ě b).1).2).2).2).2).2).2)).2)],z)]).2).2).1=((alN x X y Y b).1).2/\(((Vg.aE.first [λ(z:Vg.Z)=>(True,Vg.AV.bk [Vg.AV.agg [Vg.AV.sl [Vg.Ty.int Go.IntKind.u8] (((sI (((S.Ě b).1).1) ((((S.Ě b).1).2).1) (((((S.Ě b).1).2).2).1) x X).1).1),Vg.AV.sl [Vg.Ty.int Go.IntKind.u8] (((sI (((S.Ě b).1).1) ((((S.Ě b).1).2).1) (((((S.Ě b).1).2).2).1) x X).1).2)],Vg.AV.bool ((sI (((S.Ě b).1).1) ((((S.Ě b).1).2).1) (((((S.Ě b).1).2).2).1) x X).2)],z),λ(z:Vg.Z)=>(True,Vg.AV.bk [Vg.AV.agg [Vg.AV.sl [Vg.Ty.int Go.IntKind.u8] (((sI ((((((S.Ě b).1).2).2).2).1) (((((((S.Ě b).1).2).2).2).2).1) ((((((((S.Ě b).1).2).2).2).2).2).1) y Y).1).1),Vg.AV.sl [Vg.Ty.int Go.IntKind.u8] (((sI ((((((S.Ě b).1).2).2).2).1) (((((((S.Ě b).1).2).2).2).2).1) ((((((((S.Ě b).1).2).2).2).2).2).1) y Y).1).2)],Vg.AV.bool ((sI ((((((S.Ě b).1).2).2).2).1) (((((((S.Ě b).1).2).2).2).2).1) ((((((((S.Ě b).1).2).2).2).2).2).1) y Y).2)],z),λ(z:Vg.Z)=>(aOi (((S.Ě b).1).1) ((((S.Ě b).1).2).1) (((((S.Ě b).1).2).2).1) x X ((((((S.Ě b).1).2).2).2).1) (((((((S.Ě b).1).2).2).2).2).1) ((((((((S.Ě b).1).2).2).2).2).2).1) y Y ((((((((S.Ě b).1).2).2).2).2).2).2),Vg.AV.bk [Vg.AV.agg [Vg.AV.sl [Vg.Ty.int Go.IntKind.u8] (((at6 (((S.Ě b).1).1) ((((S.Ě b).1).2).1) (((((S.Ě b).1).2).2).1) x X ((((((S.Ě b).1).2).2).2).1) (((((((S.Ě b).1).2).2).2).2).1) ((((((((S.Ě b).1).2).2).2).2).2).1) y Y ((((((((S.Ě b).1).2).2).2).2).2).2)).1).1),Vg.AV.sl [Vg.Ty.int Go.IntKind.u8] (((at6 (((S.Ě b).1).1) ((((S.Ě b).1).2).1) (((((S.Ě b).1).2).2).1) x X ((((((S.Ě b).1).2).2).2).1) (((((((S.Ě b).1).2).2).2).2).1) ((((((((S.Ě b).1).2).2).2).2).2).1) y Y ((((((((S.Ě b).1).2).2).2).2).2).2)).1).2)],Vg.AV.bool ((at6 (((S.Ě b).1).1) ((((S.Ě b).1).2).1) (((((S.Ě b).1).2).2).1) x X ((((((S.Ě b).1).2).2).2).1) (((((((S.Ě b).1).2).2).2).2).1) ((((((((S.Ě b).1).2).2).2).2).2).1) y Y ((((((((S.Ě b).1).2).2).2).2).2).2)).2)],z)]).2).2).2=(alN x X y Y b).2)))):=by
 have A:Vg.hlen x:=h.1.1;have e:Vg.hlen X:=h.2.1.1;have D:Vg.hlen y:=h.2.2.1.1;have w:Vg.hlen Y:=h.2.2.2.1.1;have I:Vg.hlen b:=h.2.2.2.2.1.1;clear h;refine⟨?_,?_,?_⟩;trivial;intro f;try simp only[nt,df] at f
 refine⟨?_,?_,?_⟩;iterate 3 (grind[alN,ix])
 intro H;try simp only[nf,dt] at H
 refine⟨?_,?_,?_⟩;trivial;intro g;try simp only[nt,df] at g
 refine⟨?_,?_,?_⟩;iterate 3 (grind[alN,ix])
 intro a;try simp only[nf,dt] at a
 refine⟨?_,?_,?_⟩;omega;intro i;try simp only[V.Nb,nt,df] at i
 refine⟨?_,?_,?_⟩;iterate 3 (grind[alN,ix])
 intro c;try simp only[V.qF,nf,dt] at c
 refine⟨?_,?_,?_⟩;omega;intro j;try simp only[nt,df] at j
 refine⟨?_,?_,?_⟩;iterate 3 (grind[alN,ix])
 intro d;try simp only[nf,dt] at d
 refine⟨?_,?_,?_,?_⟩;exact⟨trivial,λ_=>⟨trivial,λ_=>⟨⟨aPt H,aPt a,aQW b⟩,λ_=>trivial⟩⟩⟩
 iterate 2
  rw[aSr H a c d];rfl
 rw[aSr H a c d];rfl
def aXC(y:O)(Y:M (Int×Int×M (B8×U)))(b:B8)(h:Vg.jE J.Rf (y,Y,b)):q85 (aPz (sG y Y) 20000 (q91 b)=KE y Y b):=by
 refine au ?_;have D:Vg.hlen y:=h.1.1;have w:Vg.hlen Y:=h.2.1.1;have I:Vg.hlen b:=h.2.2.1.1;clear h;refine⟨?_,?_⟩;trivial;rfl
def aXD:0<length ([104,97,121]:B8)/\q85 (q85 (aj8 (0<length ([104,97,121]:B8)) ([104,97,121]=yo/\dq jK/\arR (aSV (aUp 97)/\dq jK) (aSV (oC aP8 rj 0).1/\q85 (q81 (lG aTq.1 [0]) (q81 (aaT aTq.2) (q81 (Bool.not (dJ aP8 rj jK (aUp 97)).2) (Bool.not (mX aP8 rj 0 (oC aP8 rj 0).1).2)))=true))))):=by
 refine au ?_;with_reducible and_intros
 decide;iterate 3 trivial
 iterate 2 decide
 exact aqn;trivial
 (rw[Xa];exact S.Xb.1)
 exact aqn
 (rw[Xa];exact S.Xb.1)
 exact aqn
 (rw[Xa];exact S.Xb.2)
 trivial
 (rw[Xa];exact awQ)
def aXE(X:O)(x:M (Int×Int×M (B8×U)))(Y:O)(y:M (Int×Int×M (B8×U)))(b:B8)(a:Gy x/\Gy y)(H:Vg.jE J.aMT (X,x,Y,y,b)):Gy x/\Gy y/\aj8 (aQ9 (KE X x b) (KE Y y b) (an5 (Bool.not (cy X x)))) (Lf (aLI (KE X x b) (KE Y y b) (xO (Bool.not (cy X x)) (cy Y y))) (q85 gJ) (cy X x=true) (aua anG b) (aSV ([]++b)/\jM (ajD (anq (tH X x) ([]++b)).2.2) True (cy Y y=true) (an5 (aI5 (anq (tH X x) ([]++b)).1 (tH Y y)))/\Lf (aLI (ajD (anq (tH X x) ([]++b)).2.2) (aI5 (anq (tH X x) ([]++b)).1 (tH Y y)) (aNW X Y)) (q85 gJ) (aua anG b) (aSV ([]++b)) (ti (alN X x Y y ([]++b)).2 (iy (alN X x Y y ([]++b)).1.1 (alN X x Y y ([]++b)).1.2/\an5 (QT (alN X x Y y ([]++b)).1.1 (alN X x Y y ([]++b)).1.2))/\q81 (alN X x Y y ([]++b)).2 (ct (QT (alN X x Y y ([]++b)).1.1 (alN X x Y y ([]++b)).1.2) false)))):=by
 refine au ?_;have A:Vg.hlen X:=H.1.1;have c:Vg.hlen x:=H.2.1.1;have D:Vg.hlen Y:=H.2.2.1.1;have w:Vg.hlen y:=H.2.2.2.1.1;have I:Vg.hlen b:=H.2.2.2.2.1.1;clear H;with_reducible and_intros
 exact a.1;exact a.2;trivial;intro j;trivial;intro l;refine⟨?_,?_,?_⟩;trivial;intro m;trivial;intro n;refine⟨?_,?_,?_⟩;trivial;intro d;try simp only[nt] at d
 trivial;intro e;try simp only[nf] at e
 trivial;intro f;try simp only[V.Nb,nt] at f
 refine⟨?_,?_⟩;trivial;rfl;intro h;try simp only[V.qF,nf] at h
 with_reducible and_intros
 exact h.2.2.1;have:=(My h.1).1;simp[Vg.pV];omega;have:=(My h.1).1;simp;omega;intro g;try simp only[nt,df] at g
 trivial;intro F;try simp only[nf,dt] at F
 refine⟨?_,?_,?_⟩;exact h.2.2.2;intro i;try simp only[nt,df] at i
 trivial;intro k;try simp only[nf,dt] at k
 trivial;intro o;try simp only[V.Nb,nt,df] at o
 refine⟨?_,?_⟩;trivial;rfl;intro r;try simp only[V.qF,nf,dt] at r
 with_reducible and_intros
 have:=(My h.1).1;simp[Vg.pV];omega;have:=(My h.1).1;simp;omega;intro G;refine⟨?_,?_,?_⟩;exact(S.step_end h.2.2.1 h.2.2.2 r.1 r.2.1 r.2.2).2;intro q;trivial;intro R;trivial;intro s;trivial;exact(S.step_end h.2.2.1 h.2.2.2 r.1 r.2.1 r.2.2).1
end Go
