import Derived.Test.YtfbolhlbmbfhbaaGreatDoorPartD
set_option linter.unusedVariables false
set_option linter.unusedSimpArgs false
set_option linter.unusedSectionVars false
set_option linter.defProp false
set_option linter.unusedVariables false
namespace Go
open List (length getD take drop replicate)
open Int (toNat)
open S
variable {p:Prop}{α:Type}{b:Bool}
theorem df[Decidable p]:decide p=false↔¬p:=p?
theorem dt[Decidable p]:(decide p=true)=p:=H!
theorem lc{a:α}{l:M α}:(a::l).length=l.length+1:=M?
theorem ln:([]:M α).length=0:=List.length_nil
theorem tn(n:Nat):(n:Int).toNat=n:=E? n
theorem nf:((!b)=false)=(b=true):=Bool.not_eq_false' b
theorem nt:((!b)=true)=(b=false):=K? b
def aOP: [1116352408,1899447441,3049323471,3921009573,961987163,1508970993,2453635748,2870763221,3624381080,310598401,607225278,1426881987,1925078388,2162078206,2614888103,3248222580,3835390401,4022224774,264347078,604807628,770255983,1249150122,1555081692,1996064986,2554220882,2821834349,2952996808,3210313671,3336571891,3584528711,113926993,338241895,666307205,773529912,1294757372,1396182291,1695183700,1986661051,2177026350,2456956037,2730485921,2820302411,3259730800,3345764771,3516065817,3600352804,4094571909,275423344,430227734,506948616,659060556,883997877,958139571,1322822218,1537002063,1747873779,1955562222,2024104815,2227730452,2361852424,2428436474,2756734187,3204031479,3329325298]=Bo:=by
 rfl
def aOQ(x n:Int)(H:jx n)(h:Vg.jE J.q1p (x,n)):gW n 32 (MJ (32-n) 0 32 (jz (kv x n+jz (x*ti 2 (32-n)))=S.right x n)):=by
 refine au ?_;have a:Vg.hint n:=h.2.1;with_reducible and_intros
 iterate 2 (grind[jx])
 omega;iterate 3 (grind[jx])
 rfl
def aOS(b:B8)(f:b.length=64)(h:Vg.jE J.lL b):(∃(a:Nat),((0:Int)=((4*a:Nat):Int)/\[]=S.sched b a)/\cC a 16)/\(∀(X:Nat),wN (cC X 16) (decide (((4*X:Nat):Int)<64)) ((4*X:Nat):Int) (fU b) (mg (((4*X:Nat):Int)+1) 0 (fU b) (mg (((4*X:Nat):Int)+2) 0 (fU b) (mg (((4*X:Nat):Int)+3) 0 (fU b) (length (S.sched b X)+length (abg b X)<=35184372088832/\cE (((4*X:Nat):Int)+4)/\(∃(c:Nat),(((4*X:Nat):Int)+4=((4*c:Nat):Int)/\S.sched b X++abg b X=S.sched b c)/\cC c 16/\wK 16 c X))))) (∃(d:Nat),((16:Int)=d/\S.sched b X=S.sched b d)/\16<=d/\d<=64) (∀(x:Nat),16<=x/\x<=64->eF (decide ((x:Int)<64)) (mg (x-15) 0 (abf b x) (G2 x<abf b x/\Ju 7 (mg (x-15) 0 (abf b x) (G2 x<abf b x/\Ju 18 (mg (x-15) 0 (abf b x) (G2 x<abf b x/\gW 3 32 (mg (x-2) 0 (abf b x) (mL x<abf b x/\Ju 17 (mg (x-2) 0 (abf b x) (mL x<abf b x/\Ju 19 (mg (x-2) 0 (abf b x) (mL x<abf b x/\gW 10 32 (mg (x-16) 0 (abf b x) (toNat (x-16)<abf b x/\mg (x-7) 0 (abf b x) (toNat (x-7)<abf b x/\abf b x+length (G3 b x)<=35184372088832/\dg x (∃(e:Nat),gV x e (S.sched b x++G3 b x=S.sched b e) (16<=e/\e<=64) 64)))))))))))))))) (S.sched b x=S.sched b 64))):=by
 refine au ?_;have I:Vg.hlen b:=h.1.1;clear h;refine⟨?_,?_⟩;grind[dh,cC,af,lc,ln];intro a g;refine V.dI (λi=>?_) λj=>?_
 . with_reducible and_intros
   iterate 14 omega
   simp only[dh,cC,af,lc,ln] at *;omega;iterate 2 omega
   refine⟨(a+1),?_⟩;try dsimp only
   with_reducible and_intros
   omega;exact akj b a w!;simp only[dh,cC,af,lc,ln] at *;omega;simp only[dh,cC,af,lc,ln] at *;omega
 refine⟨?_,?_⟩
 . refine⟨16,?_⟩;try dsimp only
   with_reducible and_intros
   omega;rw[show a=16 by(simp only[cC] at *;omega)];iterate 2 omega
 intro x k;refine⟨?_,?_⟩
 . intro H;try simp only[dt] at H
   with_reducible and_intros
   iterate 3 omega
   iterate 2
    simp only[dh,cC,af,lc,ln] at *;omega
   simp only[jx];omega;iterate 3 omega
   iterate 2
    simp only[dh,cC,af,lc,ln] at *;omega
   simp only[jx];omega;iterate 3 omega
   iterate 2
    simp only[dh,cC,af,lc,ln] at *;omega
   iterate 5 omega
   iterate 2
    simp only[dh,cC,af,lc,ln] at *;omega
   simp only[jx];omega;iterate 3 omega
   iterate 2
    simp only[dh,cC,af,lc,ln] at *;omega
   simp only[jx];omega;iterate 3 omega
   iterate 2
    simp only[dh,cC,af,lc,ln] at *;omega
   iterate 5 omega
   iterate 2
    simp only[dh,cC,af,lc,ln] at *;omega
   iterate 3 omega
   iterate 3
    simp only[dh,cC,af,lc,ln] at *;omega
   iterate 2 omega
   refine⟨(x+1),?_⟩;try dsimp only
   with_reducible and_intros
   omega;exact akk b x w!;iterate 2 omega
   simp only[dh,cC,af,lc,ln] at *;omega
 grind
def aOT(l:U)(p:B8)(H:Py l p):length p=64/\gg (tO (cV l)) (ù 0 1 (cV l) 2 3 4 5 6 (rj 7 (cV l) (∃(X:Nat),wM X (q39 (gz (wO p) (tw l) X) (gT l) (js l 1) (js l 2) (js l 3) (js l 4) (js l 5) (js l 6) (js l 7)) 64) (∀(x:Nat),cC x 64->ct (decide ((x:Int)<64)) (Ju 6 (Ju 11 (Ju 25 (((0:Int)<=x/\x<cV Bo)/\toNat x<length Bo/\((0:Int)<=x/\(x:Int)<length (wO p))/\toNat x<length (wO p)/\jx 2/\Ju 13 (jx 22/\dg x (∃(a:Nat),FE x a (jz (A5 l p x+arS (FD (S.right (jN l p x).1 2) (S.right (jN l p x).1 13) (S.right (jN l p x).1 22)) (jN l p x).1 (jN l p x).2.1 (jN l p x).2.2.1)=(gz (wO p) (tw l) a).1/\(jN l p x).1=(gz (wO p) (tw l) a).2.1/\(jN l p x).2.1=(gz (wO p) (tw l) a).2.2.1/\(jN l p x).2.2.1=(gz (wO p) (tw l) a).2.2.2.1/\q40 (gz (wO p) (tw l) a).2.2.2.2 (jz ((jN l p x).2.2.2.1+A5 l p x)) (jN l p x).2.2.2.2.1 (abe l p x).1 (abe l p x).2.1) 64)))))) (tO (cV l)) (ù 0 1 (cV l) 2 3 4 5 6 (jW 7 (cV l) ([jz (gT l+(jN l p x).1),jz (js l 1+(jN l p x).2.1),jz (js l 2+(jN l p x).2.2.1),jz (js l 3+(jN l p x).2.2.2.1),jz (js l 4+(jN l p x).2.2.2.2.1),jz (js l 5+(abe l p x).1),jz (js l 6+(abe l p x).2.1),jz (js l 7+(abe l p x).2.2)]=fb (S.block (tw l) p))))))):=by
 refine au ?_;obtain⟨u,e,c⟩:=H;have G:=auR u;with_reducible and_intros
 omega;trivial;iterate 16 omega
 . refine⟨(nat_lit 0:Nat),?_⟩;dsimp only;with_reducible and_intros
   omega;iterate 8 rfl
   grind[dh,cC,af]
 intro X d;refine V.dI (λf=>?_) λg=>?_
 . with_reducible and_intros
   iterate 3
    simp only[jx];omega
   omega
   iterate 2
    rw[<-J8];simp only[cC] at *;omega
   omega
   iterate 2
    simp only[dh,cC,af] at *;omega
   iterate 3
    simp only[jx];omega
   iterate 2 omega
   refine⟨(X+nat_lit 1),?_⟩;try dsimp only
   with_reducible and_intros
   omega;have h:=CE (S.sched p 64) (tw l) G X;have hx:=S.xor_not (h (gz (S.sched p 64) (tw l) X).2.2.2.2.1 (by simp[fb]));simp only[gz,hx,tn];rfl;iterate 3 rfl
   have h:=CE (S.sched p 64) (tw l) G X;have hx:=S.xor_not (h (gz (S.sched p 64) (tw l) X).2.2.2.2.1 (by simp[fb]));simp only[gz,hx,tn];rfl;iterate 3 rfl
   simp only[dh,cC,af] at *;omega;simp only[dh,cC,af] at *;omega
 with_reducible and_intros
 iterate 16 omega
 simp[cC] at d;rw[show X=64 by omega];simp[S.block,aeH,fb,tw,show toNat 0=0 by rfl,show toNat 1=1 by rfl,show toNat 2=2 by rfl,show toNat 3=3 by rfl,show toNat 4=4 by rfl,show toNat 5=5 by rfl,show toNat 6=6 by rfl,show toNat 7=7 by rfl]
def aOU(b:B8)(h:S.small b):Js jV (length b)/\nD ([]++b) [128]/\(∃(a:Nat),[]++b++[128]=gB b a/\cI b a)/\(∀(X:Nat),cI b X->(0:Int)<=length (gB b X)/\(0:Int)<64/\ct (oD (length (gB b X)%64) 56) (MK (length (gB b X)) [0]/\(∃(c:Nat),gB b X++[0]=gB b c/\cI b c/\wK (ij (S.len b)) c X)) (∃(d:Nat),wM d (Jo (Jo (length b)*8)=mR b d/\[]=lC b d) 8) (∀(x:Nat),cC x 8->ct (decide ((x:Int)<8)) ((0:Int)<256/\Js [ku (mR b x%256)] (length (lC b x))/\(0:Int)<256/\dg x (∃(e:Nat),FE x e (mR b x/256=mR b e/\[ku (mR b x%256)]++lC b x=lC b e) 8)) (Jm (length (gB b X)+length (lC b x))) (gB b X++lC b x=S.tail b (pW b)))):=by
 refine au ?_;simp[S.small] at h;refine⟨?_,?_,?_,?_⟩;iterate 2 grind
 refine⟨0,?_⟩;refine⟨?_,?_⟩;exact Zl _;simp only[di,cI,ij,cC,af,S.len,lc,ln,J!] at *;omega;intro a f;refine⟨?_,?_,?_,?_⟩;iterate 2 omega
 intro g;simp at g;refine⟨?_,?_⟩;simp[di,cI,ij,cC,af,S.len,lc,ln,List.length_append] at *;omega;refine⟨(a+1),?_⟩;refine⟨?_,?_,?_⟩;grind[Ma];grind[PB];simp[di,cI,ij,cC,af,S.len,lc,ln,List.length_append] at *;omega;intro H;simp at H;refine⟨?_,?_⟩
 . refine⟨(nat_lit 0:Nat),?_⟩;dsimp only;with_reducible and_intros
   omega;exact akl b h;rfl;simp only[di,cI,ij,cC,af,S.len,lc,ln,J!] at *;omega
 intro x i;refine V.dI (λj=>?_) λk=>?_
 . with_reducible and_intros
   omega;have hx:x<=8:=by(simp only[cC] at *;omega)
   simp only[Iz _ _ hx,di,cI,lc,ln] at *;have:=PA b.length;omega;iterate 3 omega
   refine⟨(x+nat_lit 1),?_⟩;try dsimp only
   with_reducible and_intros
   omega;exact We b x;exact SL b x w!;simp only[di,cI,ij,cC,af,S.len,lc,ln,J!] at *;omega;simp only[di,cI,ij,cC,af,S.len,lc,ln,J!] at *;omega
 refine⟨?_,?_⟩;have hx:x<=8:=by(simp[cC] at *;omega)
 simp[Iz _ _ hx,di,cI,lc,ln] at *;have:=PA b.length;omega;rw[TR f H,show x=8 by(simp[cC] at *;omega),S.Ő];rfl
def aOV(b:B8)(h:S.small b):qh b ((∃(a:Nat),((0:Int)=((64*a:Nat):Int)/\[1779033703,3144134277,1013904242,2773480762,1359893119,2600822924,528734635,1541459225]=fb (S.proc H0 (abc b) a))/\a<=S.blocks (abc b))/\(∀(X:Nat),X<=S.blocks (abc b)->ct (decide (((64*X:Nat):Int)<fU (abc b))) (cE (((64*X:Nat):Int)+64)/\FF 0 ((64*X:Nat):Int) (((64*X:Nat):Int)+64) (fU (abc b))/\Py (abd b X) (A4 b X)/\cE (((64*X:Nat):Int)+64)/\(∃(c:Nat),(((64*X:Nat):Int)+64=((64*c:Nat):Int)/\fb (S.block (tw (abd b X)) (A4 b X))=fb (S.proc H0 (abc b) c))/\c<=S.blocks (abc b)/\wK (S.blocks (abc b)) c X)) (∃(d:Nat),wM d ([]=oQ (Lb b) d) 8) (∀(x:Nat),cC x 8->fL (decide ((x:Int)<8)) 0 x (Dx b X) (toNat x<Dx b X/\(0:Int)<16777216/\((0:Int)<=x/\(x:Int)<Dx b X)/\toNat x<Dx b X/\(0:Int)<65536/\(0:Int)<256/\((0:Int)<=x/\(x:Int)<Dx b X)/\toNat x<Dx b X/\(0:Int)<256/\(0:Int)<256/\((0:Int)<=x/\(x:Int)<Dx b X)/\toNat x<Dx b X/\(0:Int)<256/\nD (oQ (Lb b) x) (tS b X x)/\dg x (∃(e:Nat),FE x e (oQ (Lb b) x++tS b X x=oQ (Lb b) e) 8)) (oQ (Lb b) x=S.sum b)))):=by
 refine au ?_;have H:=h;simp[S.small] at h;have i:=aoC b (pW b);have f:=TT b (pW b);have g:=PA b.length;refine⟨?_,?_,?_⟩;omega
 . refine⟨0,?_⟩;with_reducible and_intros
   omega;rfl;omega
 intro a j;refine V.dI (λk=>?_) λl=>?_
 . with_reducible and_intros
   iterate 5 omega
   exact⟨Pz _ _ S.Ŏ _,rfl,by rw[aoD,C?,N?];omega⟩;iterate 2 omega
   refine⟨(a+1),?_⟩;try dsimp only
   with_reducible and_intros
   omega;rw[aoD];rfl;omega;simp only[cC,af] at *;omega
 refine⟨?_,?_⟩
 . refine⟨(nat_lit 0:Nat),?_⟩;dsimp only;with_reducible and_intros
   omega;rfl;simp only[cC,af] at *;omega
 intro x m;refine V.dI (λn=>?_) λo=>?_
 . with_reducible and_intros
   omega
   iterate 2
    simp only[fb,lc,ln];omega
   iterate 2 omega
   iterate 2
    simp only[fb,lc,ln];omega
   iterate 3 omega
   iterate 2
    simp only[fb,lc,ln];omega
   iterate 3 omega
   iterate 2
    simp only[fb,lc,ln];omega
   omega;rw[TS _ _ (by simp only[cC] at *;omega)];simp;omega;iterate 2 omega
   refine⟨(x+nat_lit 1),?_⟩;try dsimp only
   with_reducible and_intros
   omega;rw[show a=S.blocks (S.tail b (pW b)) by omega];exact auS _ x w!;simp only[cC,af] at *;omega;simp only[cC,af] at *;omega
 rw[show x=8 by(simp[cC] at *;omega)];rfl
def aOW(x k:Int)(h:ux x k):gW (RC k) 32 (gW (Jo (32-RC k)) 32 (Vg.cv (jz (x*ti 2 (RC k))) (kv x (Jo (32-RC k)))=S.rotl x k)):=by
 refine au ?_;grind[auO,ux,auN]
def aOX:Rm 1779033703 3144134277 (Rm 1013904242 2773480762 (Rm 1359893119 2600822924 (Rm 528734635 1541459225 zB))):=by
 refine au ?_;omega
def aOY(S a c d e g h i:Int)(s:B8)(f:Int):fK (pM f) (fK (decide (f<=1099511627776)) (0<=f/\(0:Int)<64))/\oh (pM f) (oh (decide (f<=1099511627776)) (decide (fU s=f%64)))=qI s f:=by
 refine au ?_;grind[qI]
def aOZ(u U a c d e f g:Int)(p:B8)(q:Wd (u,U,a,c,d,e,f,g) p)(H:Vg.jE J.q5p (u,U,a,c,d,e,f,g,p)):(∃(j:Nat),wM j (ø 0 (ø 0 (ø 0 (ø 0 [])))=bf p j) 16)/\(∀(h:Nat),cC h 16->ct (decide ((h:Int)<16)) (mg (4*h) 0 (fU p) (gW 24 32 (cE (4*h)/\mg (4*h+1) 0 (fU p) (gW 16 32 (cE (4*h)/\mg (4*h+2) 0 (fU p) (gW 8 32 (cE (4*h)/\mg (4*h+3) 0 (fU p) (((0:Int)<=h/\h<Dq)/\0+toNat h*1<length (bf p h)/\dg h (∃(m:Nat),FE h m (List.set (bf p h) (0+toNat h*1) (Vg.cv (Vg.cv (Vg.cv (jz (gh p (4*h)*ti 2 24)) (jz (gh p (4*h+1)*ti 2 16))) (jz (gh p (4*h+2)*ti 2 8))) (gh p (4*h+3)))=bf p m) 16))))))))) (∃(k:Nat),((16:Int)=k/\bf p h=bf p k)/\16<=k/\k<=64) (∀(x:Nat),16<=x/\x<=64->ct (decide ((x:Int)<64)) (mg (x-15) 0 Dq (0+toNat (x-15)*1<Lh p x/\mg (x-2) 0 Dq (0+toNat (x-2)*1<Lh p x/\Dn (eP p x) 7/\Dn (eP p x) 18/\gW 3 32 (Dn (abp p x) 17/\Dn (abp p x) 19/\gW 10 32 (mg (x-16) 0 Dq (0+toNat (x-16)*1<Lh p x/\mg (x-7) 0 Dq (0+toNat (x-7)*1<Lh p x/\((0:Int)<=x/\x<Dq)/\0+toNat x*1<Lh p x/\dg x (∃(l:Nat),gV x l (List.set (bf p x) (0+toNat x*1) (jz (jz (jz (getD (bf p x) (0+toNat (x-16)*1) 0+FD (Dm (eP p x) 7) (Dm (eP p x) 18) (kv (eP p x) 3))+getD (bf p x) (0+toNat (x-7)*1) 0)+FD (Dm (abp p x) 17) (Dm (abp p x) 19) (kv (abp p x) 10)))=bf p l) (16<=l/\l<=64) 64)))))))) (tO AQ) (ù 0 1 AQ 2 3 4 5 6 (rj 7 AQ (∃(n:Nat),wM n (q39 (gz (S.sched p 64) (u,U,a,c,d,e,f,g) n) u U a c d e f g) 64) (∀(X:Nat),cC X 64->ct (decide ((X:Int)<64)) (Dn (Li p u U a c d e f g X).2.2.2.2.1 6/\Dn (Li p u U a c d e f g X).2.2.2.2.1 11/\Dn (Li p u U a c d e f g X).2.2.2.2.1 25/\64=length Bo/\jW X (cV Bo) (((0:Int)<=X/\X<Dq)/\0+toNat X*1<Lh p x/\Dn (Li p u U a c d e f g X).1 2/\Dn (Li p u U a c d e f g X).1 13/\Dn (Li p u U a c d e f g X).1 22/\dg X (∃(i:Nat),FE X i (jz (G8 p u U a c d e f g x X+arS (FD (Dm (Li p u U a c d e f g X).1 2) (Dm (Li p u U a c d e f g X).1 13) (Dm (Li p u U a c d e f g X).1 22)) (Li p u U a c d e f g X).1 (Li p u U a c d e f g X).2.1 (Li p u U a c d e f g X).2.2.1)=(gz (S.sched p 64) (u,U,a,c,d,e,f,g) i).1/\(Li p u U a c d e f g X).1=(gz (S.sched p 64) (u,U,a,c,d,e,f,g) i).2.1/\(Li p u U a c d e f g X).2.1=(gz (S.sched p 64) (u,U,a,c,d,e,f,g) i).2.2.1/\(Li p u U a c d e f g X).2.2.1=(gz (S.sched p 64) (u,U,a,c,d,e,f,g) i).2.2.2.1/\q40 (gz (S.sched p 64) (u,U,a,c,d,e,f,g) i).2.2.2.2 (jz ((Li p u U a c d e f g X).2.2.2.1+G8 p u U a c d e f g x X)) (Li p u U a c d e f g X).2.2.2.2.1 (Li p u U a c d e f g X).2.2.2.2.2.1 (Li p u U a c d e f g X).2.2.2.2.2.2.1) 64))) (tO AQ) (ù 0 1 AQ 2 3 4 5 6 (jW 7 AQ (q39 (S.block (u,U,a,c,d,e,f,g) p) (jz (u+(Li p u U a c d e f g X).1)) (jz (U+(Li p u U a c d e f g X).2.1)) (jz (a+(Li p u U a c d e f g X).2.2.1)) (jz (c+(Li p u U a c d e f g X).2.2.2.1)) (jz (d+(Li p u U a c d e f g X).2.2.2.2.1)) (jz (e+(Li p u U a c d e f g X).2.2.2.2.2.1)) (jz (f+(Li p u U a c d e f g X).2.2.2.2.2.2.1)) (jz (g+(Li p u U a c d e f g X).2.2.2.2.2.2.2)))))))))):=by
 refine au ?_;have A:0<=u/\u<=4294967295:=H.1;have r:0<=U/\U<=4294967295:=H.2.1;have s:0<=a/\a<=4294967295:=H.2.2.1;have t:0<=c/\c<=4294967295:=H.2.2.2.1;have v:0<=d/\d<=4294967295:=H.2.2.2.2.1;have w:0<=e/\e<=4294967295:=H.2.2.2.2.2.1;have y:0<=f/\f<=4294967295:=H.2.2.2.2.2.2.1;have z:0<=g/\g<=4294967295:=H.2.2.2.2.2.2.2.1;clear H;obtain⟨o,C⟩:=q;refine⟨?_,?_⟩
 . refine⟨0,?_⟩;try dsimp only
   with_reducible and_intros
   omega;rfl;grind[cC,af]
 intro j B;refine V.dI (λD=>?_) λE=>?_
 . with_reducible and_intros
   iterate 30 omega
   rw[vR _ _ w!];omega;iterate 2 omega
   refine⟨(j+1),?_⟩;try dsimp only
   with_reducible and_intros
   omega;exact auK _ _ w!;simp only[cC,af] at *;omega;simp only[cC,af] at *;omega
 refine⟨?_,?_⟩
 . refine⟨16,?_⟩;try dsimp only
   with_reducible and_intros
   omega;simp only[cC] at B;rw[show j=16 by omega];iterate 2 omega
 intro x F;refine V.dI (λG=>?_) λK=>?_
 . with_reducible and_intros
   iterate 4 omega
   rw[vR _ _ w!];omega;iterate 4 omega
   rw[vR _ _ w!];omega;iterate 2 (with_reducible exact Zj _ _ _ _ w!)
   iterate 2 omega
   iterate 2 (with_reducible exact Zj _ _ _ _ w!)
   iterate 6 omega
   rw[vR _ _ w!];omega;iterate 4 omega
   rw[vR _ _ w!];omega;iterate 2 omega
   rw[vR _ _ w!];omega;iterate 2 omega
   refine⟨(x+1),?_⟩;try dsimp only
   with_reducible and_intros
   omega;exact auL _ _ w! w!;iterate 2 omega
   simp only[cC,af] at *;omega
 with_reducible and_intros
 iterate 16 omega
 . refine⟨0,?_⟩;try dsimp only
   with_reducible and_intros
   omega;iterate 8 rfl
   simp only[cC,af] at *;omega
 intro i L;refine⟨?_,?_⟩
 . intro I;try simp only[dt] at I
   with_reducible and_intros
   iterate 3 (with_reducible exact aGl (CE _ _ o _) _ w!)
   with_reducible exact J8
   omega;rw[<-J8];simp only[cC] at *;omega;iterate 2 omega
   rw[vR _ _ w!];omega;iterate 3 (with_reducible exact aGk (CE _ _ o _) _ w!)
   iterate 2 omega
   refine⟨(i+1),?_⟩;try dsimp only
   with_reducible and_intros
   omega;rw[show x=64 by omega,aeI];simp only[gz,tn,n?,x?];rfl;iterate 3 rfl
   rw[show x=64 by omega,aeI];simp only[gz,tn,n?,x?];rfl;iterate 3 rfl
   simp only[cC,af] at *;omega;simp only[cC,af] at *;omega
 grind[df,cC,S.block,aeH]
def aIq(u U a c d e f g:Int)(b:B8)(H:yg (u,U,a,c,d,e,f,g)):(∃(X:Nat),(b=ka b X/\q39 (S.proc (u,U,a,c,d,e,f,g) b X) u U a c d e f g)/\64*X<=length b)/\(∀(x:Nat),64*x<=length b->eF (decide (64<=fU (ka b x))) (gW 64 (fU (ka b x)) (Wd (abq b u U a c d e f g x) (take (toNat 64) (ka b x))/\gW 64 (fU (ka b x)) (∃(h:Nat),(drop (toNat 64) (ka b x)=ka b h/\q49 (S.block (abq b u U a c d e f g x) (take (toNat 64) (ka b x))) (S.proc (u,U,a,c,d,e,f,g) b h))/\64*h<=length b/\wK (S.blocks b) h x))) (q48 (S.proc (u,U,a,c,d,e,f,g) b x) (cb (u,U,a,c,d,e,f,g) b) (ka b x=kY b))):=by
 refine au ?_;refine⟨?_,?_⟩
 . refine⟨0,?_⟩;try dsimp only
   with_reducible and_intros
   iterate 9 rfl
   omega
 intro X i;refine V.dI (λj=>?_) λk=>?_
 . with_reducible and_intros
   iterate 2 omega
   exact⟨Pz _ _ H _,x!⟩;iterate 2 omega
   refine⟨(X+1),?_⟩;grind[ka,List.drop_drop,auQ,List.length_drop,af,S.blocks]
 with_reducible and_intros
 iterate 8
  rw[show X=S.blocks b by grind[ka,List.length_drop,S.blocks]];rfl
 rw[show X=S.blocks b by grind[ka,List.length_drop,S.blocks]];rfl
def aIr(a c d e g h i j:Int)(s:B8)(f:Int)(b:B8)(H:Wc (a,c,d,e,g,h,i,j) s f b):gg (mY (Bool.not (qI s f)) (cE (1099511627776-f))) (lJ (Dz b f s)/\cE (length (G7 b f s)+Ba b)/\((0:Int)<=0/\(0:Int)<=length (G7 b f s)+Ba b/\length (G7 b f s)+Ba b<=140737488355328/KP)/\Js (Ro 0 0) (length (G7 b f s))/\Js (Ro 0 0++G7 b f s) (Ba b)/\yg (ý (Dz b f s) a c d e g h i j)/\jM (kY (Ro 0 0++G7 b f s++b))/\cE ((bif Dz b f s then 0 else f)+Ba b)/\q48 (cb (ý (Dz b f s) a c d e g h i j) (Ro 0 0++G7 b f s++b)) (cb (a,c,d,e,g,h,i,j) b) (kY (Ro 0 0++G7 b f s++b)=kY b/\(bif Dz b f s then(0:Int) else f)+Ba b=pW b)):=by
 refine au ?_;obtain⟨G,rfl,rfl,k⟩:=H;simp[S.small] at k;have l:qI [] 0=true:=by decide
 have hd:decide ((1099511627776:Int)-0<(b.length:Int))=false:=by grind
 simp only[l,hd,Bool.not_true,N!,K!,ln,Int.toNat_zero];with_reducible and_intros
 trivial;grind;omega;iterate 2 grind
 iterate 5 omega
 iterate 2 grind
 omega;simp[List.replicate_zero,o?,B?,xn,pW,ln,J!] at *;omega;iterate 2 omega
 iterate 9 rfl
 simp only[List.replicate_zero,o?,B?,xn,pW,ln,J!] at *;omega
def aIs(a c d e g h i j:Int)(s:B8)(f:Int)(q:Nw (a,c,d,e,g,h,i,j) s f):gg (lJ (DA f s)) (Jm (length (bif DA f s then [] else s))/\MK (length (bif DA f s then [] else s)) [128]/\(∃(r:Nat),(bif DA f s then([]:B8) else s)++[128]=gB s r/\cI s r)/\(∀(k:Nat),cI s k->(0:Int)<=length (gB s k)/\(0:Int)<64/\ct (oD (length (gB s k)%64) 56) (MK (length (gB s k)) [0]/\(∃(m:Nat),gB s k++[0]=gB s m/\cI s m/\wK (ij (S.len s)) m k)) (∃(t:Nat),wM t (gB s k=pA s f t) 8) (∀(x:Nat),cC x 8->bY (decide ((x:Int)<8)) (cE (8*x)/\MJ (56-8*x) 0 64 (nD (pA s f x) (Bb f s x)/\dg x (∃(u:Nat),FE x u (pA s f x++Bb f s x=pA s f u) 8))) (yg (ý (DA f s) a c d e g h i j)) ((0:Int)<=0/\(0:Int)<=32/\32<=140737488355328/KP) ((∃(l:Nat),wM l (Ro 0 0=oQ (cb (a,c,d,e,g,h,i,j) (S.tail s f)) l) 8)/\(∀(X:Nat),cC X 8->fL (decide ((X:Int)<8)) 0 X AQ (gW 24 32 (gW 16 32 (gW 8 32 (nD (oQ (cb (a,c,d,e,g,h,i,j) (S.tail s f)) X) (abn f a c d e g h i j s x X)/\dg X (∃(v:Nat),FE X v (oQ (cb (a,c,d,e,g,h,i,j) (S.tail s f)) X++abn f a c d e g h i j s x X=oQ (cb (a,c,d,e,g,h,i,j) (S.tail s f)) v) 8))))) (oQ (cb (a,c,d,e,g,h,i,j) (S.tail s f)) X=dig (cb (a,c,d,e,g,h,i,j) (S.tail s f)))))))):=by
 refine au ?_;have w:=akh q;obtain⟨G,H,n,y⟩:=q;simp only[w,Bool.not_true,N!];with_reducible and_intros
 trivial;iterate 2 grind
 omega;grind;refine⟨0,?_⟩;refine⟨?_,?_⟩;exact Zl _;simp only[di,jF,cI,ij,cC,af,S.len,lc,ln] at *;omega;intro m A;refine⟨?_,?_,?_,?_⟩;iterate 2 omega
 intro z;try simp at z
 refine⟨?_,?_⟩;simp[di,jF,cI,ij,cC,af,S.len,lc,ln] at *;omega;refine⟨(m+1),?_⟩;refine⟨?_,?_,?_⟩;grind[Ma];grind[PB];simp only[di,jF,cI,ij,cC,af,S.len,lc,ln] at *;omega;intro B;refine⟨?_,?_⟩
 . refine⟨0,?_⟩;try dsimp only
   with_reducible and_intros
   omega;grind[aoA,TR];simp only[di,jF,cI,ij,cC,af,S.len,lc,ln] at *;omega
 intro l C;refine V.dI (λD=>?_) λF=>?_
 . with_reducible and_intros
   iterate 6 omega
   simp only[di,jF,cI,ij,cC,af,S.len,lc,ln] at *;omega;iterate 2 omega
   refine⟨(l+1),?_⟩;try dsimp only
   with_reducible and_intros
   omega;exact Zm s f l H n w!;simp only[di,jF,cI,ij,cC,af,S.len,lc,ln] at *;omega;simp only[di,jF,cI,ij,cC,af,S.len,lc,ln] at *;omega
 with_reducible and_intros
 iterate 4 omega
 . refine⟨0,?_⟩;try dsimp only
   with_reducible and_intros
   omega;rfl;simp only[di,jF,cI,ij,cC,af,S.len,lc,ln] at *;omega
 intro o K;refine V.dI (λO=>?_) λR=>?_
 . with_reducible and_intros
   iterate 8 omega
   rw[TS _ _ (by simp only[cC] at *;omega)];simp;omega;iterate 2 omega
   refine⟨(o+1),?_⟩;try dsimp only
   with_reducible and_intros
   omega;rw[show l=8 by(simp only[cC] at *;omega)];exact auP _ o w!;simp only[di,jF,cI,ij,cC,af,S.len,lc,ln] at *;omega;simp only[di,jF,cI,ij,cC,af,S.len,lc,ln] at *;omega
 rw[show o=8 by(simp only[cC] at *;omega)];rfl
def aIt(b:B8)(h:S.small b):gg (Wc GZ jV 0 b) (Nw (abo b) (kY b) (pW b)/\dig (cb (abo b) (S.tail (kY b) (pW b)))=S.sum b):=by
 refine au ?_;refine⟨?_,?_,?_,?_⟩;trivial;exact⟨S.Ŏ,rfl,rfl,h⟩;simp[S.small] at h;exact⟨Pz _ _ S.Ŏ _,by grind[pW],by grind[pW],by grind[xn,pW]⟩;exact congrArg dig (S.ŏ b _)
def aIu(m:Nat)(v:Int)(H:v.toNat<m+1)(c:0<=v)(h:Vg.jE J.EJ v):eF (UW v) ([ku v]=S.num v) (0<=v/\(0:Int)<128/\cE (v%128+128)/\0<=v/\(0:Int)<128/\(toNat (v/128)<m/\0<=v/128)/\nD [ku (v%128+128)] (S.num (v/128))/\[ku (v%128+128)]++S.num (v/128)=S.num v):=by
 refine au ?_;have a:Vg.hint v:=h.1;refine⟨?_,?_⟩;grind[IC];grind[df,cU,aeJ,List.singleton_append]
def aIv(s:B8)(h:S.small s):(0:Int)<=length s/\Js (S.num (length s)) (length s)/\S.num (length s)++s=S.text s:=by
 refine au ?_;refine⟨?_,?_,?_⟩;omega;grind[cU,S.small];rfl
def aIw(b:B8)(h:b.length<=140737488355328):jM b/\b=b:=by
 refine au ?_;grind
def aIx(v:Int)(l:B8)(H:IA l v)(c:Vg.aEo J.q9p v):(∃(X:B8×Int),(v=X.2/\l=X.1)/\uy l v X.1 X.2)/\(∀(x:B8×Int),uy l v x.1 x.2->ct (decide (127<x.2)) (0<=x.2/\(0:Int)<=127/\MK (length x.1) [EK (Vg.cv (Vg.aT x.2 127%256) 128)]/\gW 7 64 (∃(a:B8×Int),(kv x.2 7=a.2/\x.1++[EK (Vg.cv (Vg.aT x.2 127%256) 128)]=a.1)/\uy l v a.1 a.2/\ö a.2 x.2)) (MK (length x.1) [ku x.2]) (x.1++[ku x.2]=l++S.num v)):=by
 refine au ?_;have A:Vg.hint v:=c.1;obtain⟨u,e⟩:=H;refine⟨?_,?_⟩
 . refine⟨((l),(v)),?_⟩;with_reducible and_intros
   omega;rfl;exact⟨u,Int.le_refl _,rfl⟩
 intro X h;refine V.dI (λf=>?_) λg=>?_
 . with_reducible and_intros
   iterate 2 omega
   (have d:=ID h;grind)
   iterate 2 omega
   refine⟨((X.1++[UInt8.ofNat (toNat (Vg.cv (Vg.aT (X.2) (127:Int)%(256:Int)) (128:Int)))]),(X.2/(2:Int)^toNat (7:Int))),?_⟩;grind[ID,aeM,ako]
 refine⟨?_,?_⟩
 (have d:=ID h;grind)
 grind[ID,aeM,aoK]
def aIy(s l:B8)(h:oR l s):IA l (length s)/\Js (l++S.num (length s)) (length s)/\l++S.num (length s)++s=l++S.text s:=by
 refine au ?_;obtain⟨u,a⟩:=h;grind[cU,IA,List.length_append,S.text]
def aIz(b:B8)(v:Int)(H:b.length<=35184372088832):bY (ô v 0 4611686018427387904) (1=yW v/\[]=mq b v) (jM b) (IA b v) (0=yW v/\b++S.num v=mq b v):=by
 refine au ?_;refine⟨?_,?_⟩;simp_all[V.Nb,dt,mq,yW,gi]
 intro h;simp at h;refine⟨?_,?_,?_,?_⟩;omega;exact⟨w!,w!⟩;iterate 2 (grind[mq,yW,gi])
def aIA(b s:B8)(h:oR b s):jM b/\oR b s/\b++S.text s=b++S.text s:=by
 refine au ?_;grind[oR]
def aIB(r:B8)(R a:Int):ME 0 R (fU r)=S.inside r R:=by
 refine au ?_;grind[S.inside,decide]
def aIC(r:B8)(R a:Int)(h:r.length<=140737488355328):jM r/\lJ (dz a)/\r=r/\(bif oh (dz a) (Bool.not (S.inside r R)) then R else R)=R/\(bif oh (dz a) (Bool.not (S.inside r R)) then(1:Int) else a)=bV r R a:=by
 refine au ?_;grind[bV,S.inside]
def aID(b:B8)(p:Int)(a:dK b p)(g:Vg.jE J.é (b,p)):(∃(X:Nat),(0=gP b p X/\(0:Int)=X)/\ke b p X)/\(∀(x:Nat),ke b p x->ot (decide ((x:Int)=9)) (0=(aQ b p).1/\0=(aQ b p).2.1/\2=(aQ b p).2.2) (fU b-p) (ot (decide (x=fU b-p)) (0=(aQ b p).1/\0=(aQ b p).2.1/\4=(aQ b p).2.2) (p+x) (jW (p+x) (fU b) (MJ (7*x) 0 64 (cE (KX b p x)/\0<=gP b p x/\0<=KX b p x/\dg x (eF (UW (gh b (p+x))) (fK (decide ((1:Int)<x+1)) (cE (p+(x+1))/\cE (p+(x+1)-1)/\0<=p+(x+1)-1/\p+(x+1)-1<fU b)/\ot (ú (decide ((1:Int)<x+1)) (dz (gh b (p+(x+1)-1))) (decide (4611686018427387904<Vg.cv (gP b p x) (KX b p x)))) (0=(aQ b p).1/\0=(aQ b p).2.1/\2=(aQ b p).2.2) (p+(x+1)) (Vg.cv (gP b p x) (KX b p x)=(aQ b p).1/\p+(x+1)=(aQ b p).2.1/\0=(aQ b p).2.2)) (∃(d:Nat),(Vg.cv (gP b p x) (KX b p x)=gP b p d/\(x:Int)+1=d)/\ke b p d/\wK 9 d x))))))):=by
 refine au ?_;have I:Vg.hlen b:=g.1.1;clear g;have G:=a;simp only[dK] at G;refine⟨?_,?_⟩
 . refine⟨0,?_⟩;try dsimp only
   with_reducible and_intros
   exact(aM3 b p).symm;omega;exact aM2 a
 intro X h;refine V.dI (λn=>?_) λo=>?_;refine⟨?_,?_,?_⟩;iterate 3 (grind[aoH,Zo])
 with_reducible and_intros
 iterate 2 omega
 intro q;refine⟨?_,?_,?_⟩;iterate 3 (grind[aoH,Zo])
 intro k;try simp at k
 with_reducible and_intros
 omega
 (have H:=hU h;omega)
 omega
 (have H:=hU h;omega)
 omega
 (have H:=hU h;omega)
 omega
 (have H:=hU h;omega)
 iterate 2
  have H:=hU h;have c:=nq ((b.getD (p+(X:Int)).toNat 0).toNat:Int) w!;have j:=aeL (Vg.aT ((b.getD (p+(X:Int)).toNat 0).toNat:Int) 127) X w! w! w!;try clear e
  try clear f
  clear c;omega
 (have H:=hU h;have l:=auT (b:=b) (p:=p) H.1;exact l.1)
 (have H:=hU h;have c:=nq ((b.getD (p+(X:Int)).toNat 0).toNat:Int) w!;have j:=aeL (Vg.aT ((b.getD (p+(X:Int)).toNat 0).toNat:Int) 127) X w! w! w!;exact j.1)
 omega
 (have H:=hU h;omega)
 . intro m;try simp only[dt] at m
   with_reducible and_intros
   . intro e;with_reducible and_intros
     omega;have H:=hU h;have c:=nq ((b.getD (p+(X:Int)).toNat 0).toNat:Int) w!;try clear e
     try clear f
     clear c;omega;omega;have H:=hU h;have c:=nq ((b.getD (p+(X:Int)).toNat 0).toNat:Int) w!;try clear e
     try clear f
     clear c;omega;omega;have H:=hU h;have c:=nq ((b.getD (p+(X:Int)).toNat 0).toNat:Int) w!;try clear e
     try clear f
     clear c;omega
   intro f;trivial;intro F;refine⟨?_,?_,?_⟩;exact(Kd a h (by have H:=hU h;omega) w! w! F).1;exact(Kd a h (by have H:=hU h;omega) w! w! F).2.1;exact(Kd a h (by have H:=hU h;omega) w! w! F).2.2;intro i;with_reducible and_intros
   omega;clear i;have H:=hU h;omega;exact(Ke a h (by have H:=hU h;omega) w! w! i).1;exact(Ke a h (by have H:=hU h;omega) w! w! i).2.1;exact(Ke a h (by have H:=hU h;omega) w! w! i).2.2
 intro K;try simp only[df] at K
 refine⟨(X+1),?_⟩;try dsimp only
 with_reducible and_intros
 (have H:=hU h;exact aeK a h w!)
 omega
 (have H:=hU h;exact akn a h w! w! w!)
 (have H:=hU h;simp only[af];omega)
def aIE(b:B8)(p g:Int)(h:dK b p)(H:Vg.jE J.aEM (b,p,g)):dK b p/\eF (cZ (aQ b p).2.2) ([]=(ek b p g).1/\mK 0 (ek b p g).2 (aQ b p).2.2) (ot (decide (g<(aQ b p).1)) ([]=(ek b p g).1/\mK 0 (ek b p g).2 2) (fU b-(aQ b p).2.1) (ot (decide (fU b-(aQ b p).2.1<(aQ b p).1)) ([]=(ek b p g).1/\mK 0 (ek b p g).2 4) (KY b p) (FF 0 (aQ b p).2.1 (KY b p) (fU b)/\cE (KY b p)/\drop (toNat (aQ b p).2.1) (take (toNat (KY b p)) b)=(ek b p g).1/\mK (KY b p) (ek b p g).2 0))):=by
 refine au ?_;have I:Vg.hlen b:=H.1.1;have a:=PJ h;refine⟨?_,?_,?_⟩;omega;grind[nt,df,ek];intro c;refine⟨?_,?_⟩;simp_all[dt,ek]
 intro d;with_reducible and_intros
 iterate 2 omega
 grind[ek];grind[df,ek]
def aIF(r:B8)(R a g:Int)(h:r.length<=140737488355328):jM r/\ct (cZ (bV r R a)) (q16 (ao r R a g) r R (bV r R a) []) (dK r R) (eF (cZ (ek r R g).2.2) (q16 (ao r R a g) r R (ek r R g).2.2 []) (q16 (ao r R a g) r (ek r R g).2.1 (bV r R a) (ek r R g).1)):=by
 refine au ?_;refine⟨?_,?_,?_⟩;omega;grind[nt,df,ao,dK,bV,S.inside];intro H;refine⟨?_,?_,?_⟩;grind[ao,dK,bV,S.inside];grind[nt,df,ao,dK,bV,S.inside];simp_all[nf,dt,ao,dK,bV,S.inside]
def aIG(r:B8)(R a:Int)(h:r.length<=140737488355328):jM r/\ct (cZ (bV r R a)) (r=(ag r R a).1.1/\R=(ag r R a).1.2.1/\bV r R a=(ag r R a).1.2.2/\0=(ag r R a).2) (dK r R) (eF (cZ (aQ r R).2.2) (r=(ag r R a).1.1/\R=(ag r R a).1.2.1/\(aQ r R).2.2=(ag r R a).1.2.2/\0=(ag r R a).2) (r=(ag r R a).1.1/\(aQ r R).2.1=(ag r R a).1.2.1/\bV r R a=(ag r R a).1.2.2/\(aQ r R).1=(ag r R a).2)):=by
 refine au ?_;refine⟨?_,?_,?_⟩;omega;grind[nt,df,ag,dK,bV,S.inside];intro H;refine⟨?_,?_,?_⟩;grind[ag,dK,bV,S.inside];grind[nt,df,ag,dK,bV,S.inside];simp_all[nf,dt,ag,dK,bV,S.inside]
def aIH(R:B8)(r a:Int)(H:R.length<=140737488355328)(h:Vg.jE J.UN (R,r,a)):Jm (length R)/\ot (cZ (bV R r a)) (q16 (aF R r a) R r (bV R r a) []) (length R-r) (ot (decide (length R-r<32)) (q16 (aF R r a) R r 4 []) (r+32) (FF 0 r (r+32) (length R)/\cE (r+32)/\q16 (aF R r a) R (r+32) (bV R r a) (drop (toNat r) (take (toNat (r+32)) R)))):=by
 refine au ?_;have A:Vg.hint r:=h.2.1;refine⟨?_,?_,?_⟩;omega;grind[nt,df,aF,dK,bV,S.inside];intro c;with_reducible and_intros
 omega;grind[aF,dK,bV,S.inside];simp_all[dt,aF,dK,bV,S.inside]
 grind[df,aF,dK,bV,S.inside,akp,List.drop_take]
def aII(r:B8)(R a:Int):ct (cZ a) (a=S.done r R a) True (eF (Bool.not (S.inside r R)) (1=S.done r R a) (eF (Jr R r) (2=S.done r R a) (0=S.done r R a))):=by
 refine au ?_;simp_all[nt,df,S.done,nf,dt]
def aIJ(k:Int)(b:B8)(c:az b)(h:Vg.jE J.aq6 (k,b)):(∃(X:Nat),((0:Int)=X/\[ku k]=kZ k (take X b))/\gU b X)/\(∀(x:Nat),gU b x->fL (decide (x<fU b)) 0 x (fU b) (nD (kZ k (take x b)) [EK (gh b x)]/\dg x (∃(a:Nat),gV x a (kZ k (take x b)++[EK (gh b x)]=kZ k (take a b)) (gU b a) (S.len b))) (kZ k (take x b)=kZ k b)):=by
 refine au ?_;have A:Vg.hint k:=h.1;have I:Vg.hlen b:=h.2.1.1;clear h;refine⟨?_,?_⟩
 . refine⟨0,?_⟩;try dsimp only
   with_reducible and_intros
   omega;rfl;simp only[gU,af,S.len,az,kZ,lc,C?,ln] at *;omega
 intro X d;refine⟨?_,?_⟩
 . intro H;try simp only[dt] at H
   with_reducible and_intros
   iterate 2 omega
   simp only[gU,af,S.len,az,kZ,lc,C?,ln] at *;omega;iterate 2 omega
   refine⟨(X+1),?_⟩;try dsimp only
   with_reducible and_intros
   omega;simp only[kZ,k?,aow b X w!];simp only[gU,af,S.len,az,kZ,lc,C?,ln] at *;omega;simp only[gU,af,S.len,az,kZ,lc,C?,ln] at *;omega
 grind[df,kZ,gU,List.take_add_one]
def aIK(k:Int)(b:B8)(h:az b):qi b (Rq (kZ k b) (pB k b)):=by
 refine au ?_;refine⟨?_,?_,?_⟩;omega;exact h;rfl
def aIL(b:B8)(h:az b):qi b (pB 0 b=pB 0 b):=by
 refine au ?_;grind
def aIM(l r:B8)(h:az (l++r)):((length l+length r:Nat):Int)<=9223372036854775807/\qi (l++r) (pB 1 (l++r)=pB 1 (l++r)):=by
 refine au ?_;grind[az,List.length_append]
def aIN(k:UInt8)(p:O)(H:oS p)(h:Vg.jE J.aEN (k,p)):(∃(X:Nat),((0:Int)=X/\[EK (UInt8.toNat k)]=nY k p X)/\gU p X)/\(∀(x:Nat),gU p x->fL (decide (x<bG p)) 0 x (bG p) (nD (nY k p x) (eN p x)/\dg x (∃(a:Nat),gV x a (nY k p x++eN p x=nY k p a) (gU p a) (S.len p))) (nY k p x=gQ k p)):=by
 refine au ?_;have A:Vg.hlen p:=h.2.1.1;clear h;refine⟨?_,?_⟩;grind[akr,gU,af,S.len];intro X d;refine⟨?_,?_⟩
 . intro c;try simp only[dt] at c
   with_reducible and_intros
   iterate 2 omega
   exact S.Ŕ k H w!;iterate 2 omega
   refine⟨(X+1),?_⟩;try dsimp only
   with_reducible and_intros
   omega;exact Wf _ _ _ w!;simp only[gU,af,S.len] at *;omega;simp only[gU,af,S.len] at *;omega
 grind[df,Zq]
def aIO(b:B8)(h:az b):ü [b] 0 0 b:=by
 refine au ?_;grind[oS,az,gQ,bB]
def aIP(l r:B8)(h:az (l++r)):ü [l,r] 1 1 (l++r):=by
 refine au ?_;grind[oS,az,List.length_append,gQ,bB]
def aIQ(b:B8)(h:az b):ü [b] 2 2 b:=by
 refine au ?_;grind[oS,az,gQ,bB]
def aIR(b:B8)(h:az b):ü [b] 3 3 b:=by
 refine au ?_;grind[oS,az,gQ,bB]
def aIS(b:B8)(h:az b):qi b (Rq (bB 0 b) (S.leaf b)):=by
 refine au ?_;refine⟨?_,?_,?_⟩;omega;exact h;rfl
def aIT(l r:B8):bY (jZ (FG l) (FG r)) ([]=bz l r/\1=vT l r) (az (l++r)) (S.small (bB 1 (l++r))) (S.sum (bB 1 (l++r))=bz l r/\0=vT l r):=by
 refine au ?_;refine⟨?_,?_⟩;grind[bz,vT,Mc,S.œ,l7];intro h;refine⟨?_,?_,?_,?_⟩;iterate 2 (grind[S.small,bB,az,lc,List.length_append])
 iterate 2 (grind[bz,vT,Mc,S.œ,l7])
def aIU(b:B8)(h:az b):qi b (Rq (bB 2 b) (l7 2 b)):=by
 refine au ?_;refine⟨?_,?_,?_⟩;omega;exact h;rfl
def aIV(b:B8)(h:az b):qi b (Rq (bB 3 b) (l7 3 b)):=by
 refine au ?_;refine⟨?_,?_,?_⟩;omega;exact h;rfl
def aIW(c:Int):FC 0 c (FC c 1114111 (ô c 55296 57343))=cA c:=by
 refine au ?_;grind[cA]
def aIX(c:Int):eF (UW c) (1=fc c) (eF (decide (c<2048)) (2=fc c) (eF (decide (c<65536)) (3=fc c) (4=fc c))):=by
 refine au ?_;refine⟨?_,?_⟩;simp_all[dt,fc]
 intro h;refine⟨?_,?_⟩;simp_all[dt,fc]
 intro H;refine⟨?_,?_⟩;grind[fc];grind[df,fc]
def aIY(c:Int)(h:0<=c):0<=c/\(0:Int)<=63/\Vg.cv 128 (Vg.aT c 63%256)=ML c:=by
 refine au ?_;have e:Vg.aT c 63%256=c%64:=by grind[Pw]
 grind[CD,auV]
def aIZ(c:Int):de (ct (MM c) (1=Bp c/\[]=im c) True (eF (KO (fc c)) (0=Bp c/\[ku c]=im c) (eF (decide (fc c=2)) (gW 6 64 (0<=c/\0=Bp c/\[EK (Vg.cv 192 (kv c 6%256)),EK (ML c)]=im c)) (bY (decide (fc c=3)) (gW 12 64 (gW 6 64 (0<=kv c 6/\0<=c/\0=Bp c/\[EK (Vg.cv 224 (kv c 12%256)),EK (ML (kv c 6)),EK (ML c)]=im c))) ((0:Int)<=18/\(18:Int)<=64) ((0:Int)<=12/\(12:Int)<=64) (0<=kv c 12/\gW 6 64 (0<=kv c 6/\0<=c/\0=Bp c/\[EK (Vg.cv 240 (kv c 18%256)),EK (ML (kv c 12)),EK (ML (kv c 6)),EK (ML c)]=im c)))))):=by
 refine au ?_;refine⟨?_,?_,?_⟩;trivial;grind[nt,Bp,im];intro h;simp at h;refine⟨?_,?_,?_⟩;trivial;intro a;refine⟨?_,?_⟩;grind[eV,Bp]
 (have H:=eV h;(simp[im,h,if_true];grind[aeN,fc]))
 intro d;refine V.dI (λe=>?_) λf=>?_
 . with_reducible and_intros
   iterate 2 omega
   simp_all[eV]
   grind[eV,Bp]
   (have H:=eV h;(simp only[im,h,if_true];grind[auZ,fc]))
 refine V.dI (λg=>?_) λi=>?_
 . with_reducible and_intros
   iterate 4 omega
   (have H:=eV h;grind)
   simp_all[eV]
   grind[eV,Bp]
   (have H:=eV h;(simp only[im,h,if_true];grind[au0,fc]))
 with_reducible and_intros
 iterate 4 omega
 (have H:=eV h;grind)
 iterate 2 omega
 (have H:=eV h;grind)
 simp_all[eV]
 grind[eV,Bp]
 (have H:=eV h;(simp only[im,h,if_true];grind[au1,fc]))
def aI0(b:B8)(hp:0<b.length)(N:Vg.jE J.lL b):((0:Int)<=0/\0<fU b)/\ct (UW (gh b 0)) (mK (gh b 0) (bh b) 1) ((0:Int)<=5/\(5:Int)<=64) (ct (decide (kv (gh b 0) 5=6)) (0<=gh b 0/\(0:Int)<=31/\bY (decide (fU b<2)) (Bz (bh b) 1) (FF 0 1 2 (fU b)) (∃(n:Nat),((0:Int)=n/\Vg.aT (gh b 0) 31=bW b n)/\pY b n) (∀(X:Nat),pY b X->bY (decide (X<fU (Ln b))) (rj X (fU (Ln b)) ((0:Int)<=6/\(6:Int)<=8) (ct (oD (kv (gh (Ln b) X) 6) 2) (Bz (bh b) 1) ((0:Int)<=6/\(6:Int)<=64) (cE (bW b X*ti 2 6)/\0<=bW b X*ti 2 6/\0<=Vg.aT (gh (Ln b) X) 63/\dg X (∃(o:Nat),gV X o (Vg.cv (bW b X*ti 2 6) (Vg.aT (gh (Ln b) X) 63)=bW b o) (pY b o) 4)))) True (lJ (MM (bW b X))) (eF (jZ (MM (bW b X)) (oD (fc (bW b X)) 2)) (Bz (bh b) 1) (mK (bW b X) (bh b) 2)))) ((0:Int)<=4/\(4:Int)<=64) (ct (decide (kv (gh b 0) 4=14)) (0<=gh b 0/\(0:Int)<=15/\bY (decide (fU b<3)) (Bz (bh b) 1) (FF 0 1 3 (fU b)) (∃(q:Nat),((0:Int)=q/\Vg.aT (gh b 0) 15=bW b q)/\pY b q) (∀(d:Nat),pY b d->bY (decide (d<fU (Lm b))) (rj d (fU (Lm b)) ((0:Int)<=6/\(6:Int)<=8) (ct (oD (kv (gh (Lm b) d) 6) 2) (Bz (bh b) 1) ((0:Int)<=6/\(6:Int)<=64) (cE (bW b d*ti 2 6)/\0<=bW b d*ti 2 6/\0<=Vg.aT (gh (Lm b) d) 63/\dg d (∃(x:Nat),gV d x (Vg.cv (bW b d*ti 2 6) (Vg.aT (gh (Lm b) d) 63)=bW b x) (pY b x) 4)))) True (lJ (MM (bW b d))) (eF (jZ (MM (bW b d)) (oD (fc (bW b d)) 3)) (Bz (bh b) 1) (mK (bW b d) (bh b) 3)))) ((0:Int)<=3/\(3:Int)<=64) (eF (decide (kv (gh b 0) 3=30)) (0<=gh b 0/\(0:Int)<=7/\bY (decide (fU b<4)) (Bz (bh b) 1) (FF 0 1 4 (fU b)) (∃(r:Nat),((0:Int)=r/\Vg.aT (gh b 0) 7=bW b r)/\pY b r) (∀(f:Nat),pY b f->bY (decide (f<fU (Ll b))) (rj f (fU (Ll b)) ((0:Int)<=6/\(6:Int)<=8) (ct (oD (kv (gh (Ll b) f) 6) 2) (Bz (bh b) 1) ((0:Int)<=6/\(6:Int)<=64) (cE (bW b f*ti 2 6)/\0<=bW b f*ti 2 6/\0<=Vg.aT (gh (Ll b) f) 63/\dg f (∃(s:Nat),gV f s (Vg.cv (bW b f*ti 2 6) (Vg.aT (gh (Ll b) f) 63)=bW b s) (pY b s) 4)))) True (lJ (MM (bW b f))) (eF (jZ (MM (bW b f)) (oD (fc (bW b f)) 4)) (Bz (bh b) 1) (mK (bW b f) (bh b) 4)))) (Bz (bh b) 1)))):=by
 refine au ?_;have I6:Vg.hlen b:=N.1.1;clear N;have Gg:(0:Int)<b.length:=by omega
 with_reducible and_intros
 iterate 2 omega
 simp_all[dt,uf1]
 intro O;try simp only[df] at O
 with_reducible and_intros
 iterate 2 omega
 . intro P;try simp only[dt] at P
   refine⟨?_,?_,?_,?_⟩;iterate 2 omega
   intro Q;try simp only[dt] at Q
   refine⟨?_,?_⟩
   (have h:=vU (b:=b) w! w!;simp_all[uW])
   (have h:=vU (b:=b) w! w!;simp_all[uW])
   intro T;try simp only[df] at T
   with_reducible and_intros
   iterate 3 omega
   . refine⟨0,?_⟩;try dsimp only
     with_reducible and_intros
     omega;grind[vU,aM4]
     (have h:=vU (b:=b) w! w!;simp_all[S.ŕ])
   intro x c;refine V.dI (λh8=>?_) λI=>?_
   . with_reducible and_intros
     iterate 4 omega
     intro U;try simp only[nt,df,tn] at U
     refine⟨?_,?_⟩;have h:=vU (b:=b) v! v!;have a:=bP c;have hx:(x:Int)+1<2:=by(have H:=cx b 2 w! w!;simp only[H,show toNat 2=2 by rfl] at *;omega)
     simp only[mr b 2 x hx,n0 b 2 x hx] at *;rw[yX h c w! v!];have h:=vU (b:=b) v! v!;have a:=bP c;have hx:(x:Int)+1<2:=by(have H:=cx b 2 w! w!;simp only[H,show toNat 2=2 by rfl] at *;omega)
     simp only[mr b 2 x hx,n0 b 2 x hx] at *;rw[yX h c w! v!];intro W;try simp only[nf,dt,tn] at W
     with_reducible and_intros
     iterate 2 omega
     iterate 3
      (have h:=vU (b:=b) v! v!;(have a:=bP c;(try simp only[cx b 2 w! w!,show toNat 2=2 by rfl] at *);simp only[show toNat 6=6 by rfl,af] at *;omega))
     exact Int.natCast_nonneg _;omega
     (have h:=vU (b:=b) v! v!;(have a:=bP c;(try simp only[cx b 2 w! w!,show toNat 2=2 by rfl] at *);omega))
     refine⟨(x+1),?_⟩;try dsimp only
     with_reducible and_intros
     omega;have h:=vU (b:=b) v! v!;have a:=bP c;have hx:(x:Int)+1<2:=by(have H:=cx b 2 w! w!;simp only[H,show toNat 2=2 by rfl] at *;omega)
     rw[mr b 2 x hx];exact S.ŗ c w!;have h:=vU (b:=b) v! v!;have a:=bP c;have hx:(x:Int)+1<2:=by(have H:=cx b 2 w! w!;simp only[H,show toNat 2=2 by rfl] at *;omega)
     simp only[mr b 2 x hx,n0 b 2 x hx] at *;exact Wh c v! w!
     (have h:=vU (b:=b) v! v!;(have a:=bP c;(try simp only[cx b 2 w! w!,show toNat 2=2 by rfl] at *);simp only[show toNat 6=6 by rfl,af] at *;omega))
   with_reducible and_intros
   trivial;intro Y;try simp only[nt] at Y
   trivial;intro Z;try simp only[nf] at Z
   trivial;intro R;try simp only[V.Nb,nt,df] at R
   refine⟨?_,?_⟩;have h:=vU (b:=b) v! v!;have a:=bP c;have H:=cx b 2 w! w!;rw[H] at I;have hx:x+1=2:=by omega
   rw[yY h c hx R rfl];have h:=vU (b:=b) v! v!;have a:=bP c;have H:=cx b 2 w! w!;rw[H] at I;have hx:x+1=2:=by omega
   rw[yY h c hx R rfl];intro G;try simp only[V.qF,nf,dt] at G
   refine⟨?_,?_⟩;have h:=vU (b:=b) v! v!;have a:=bP c;have H:=cx b 2 w! w!;rw[H] at I;have hx:x+1=2:=by omega
   rw[yZ h c hx G rfl];have h:=vU (b:=b) v! v!;have a:=bP c;have H:=cx b 2 w! w!;rw[H] at I;have hx:x+1=2:=by omega
   rw[yZ h c hx G rfl]
 intro p;try simp only[df] at p
 with_reducible and_intros
 iterate 2 omega
 . intro RQ;try simp only[dt] at RQ
   refine⟨?_,?_,?_,?_⟩;iterate 2 omega
   intro þ;try simp only[dt] at þ
   refine⟨?_,?_⟩
   (have h:=xo (b:=b) v! v! v!;rw[uW h w! w!])
   (have h:=xo (b:=b) v! v! v!;rw[uW h w! w!])
   intro ÿ;try simp only[df] at ÿ
   with_reducible and_intros
   iterate 3 omega
   . refine⟨0,?_⟩;try dsimp only
     with_reducible and_intros
     omega
     (exact aM5 v! v!)
     (have h:=xo (b:=b) v! v! v!;exact S.ŕ h w! w!)
   intro E u;refine V.dI (λh22=>?_) λg=>?_
   . with_reducible and_intros
     iterate 4 omega
     intro t;try simp only[nt,df,tn] at t
     refine⟨?_,?_⟩;have h:=xo (b:=b) v! v! v!;have a:=bP u;have hx:(E:Int)+1<3:=by(have H:=cx b 3 w! w!;simp only[H,show toNat 3=3 by rfl] at *;omega)
     simp only[mr b 3 E hx,n0 b 3 E hx] at *;rw[yX h u w! v!];have h:=xo (b:=b) v! v! v!;have a:=bP u;have hx:(E:Int)+1<3:=by(have H:=cx b 3 w! w!;simp only[H,show toNat 3=3 by rfl] at *;omega)
     simp only[mr b 3 E hx,n0 b 3 E hx] at *;rw[yX h u w! v!];intro v;try simp only[nf,dt,tn] at v
     with_reducible and_intros
     iterate 2 omega
     iterate 3
      (have h:=xo (b:=b) v! v! v!;(have a:=bP u;(try simp only[cx b 3 w! w!,show toNat 3=3 by rfl] at *);simp only[show toNat 6=6 by rfl,af] at *;omega))
     exact Int.natCast_nonneg _;omega
     (have h:=xo (b:=b) v! v! v!;(have a:=bP u;(try simp only[cx b 3 w! w!,show toNat 3=3 by rfl] at *);omega))
     refine⟨(E+1),?_⟩;try dsimp only
     with_reducible and_intros
     omega;have h:=xo (b:=b) v! v! v!;have a:=bP u;have hx:(E:Int)+1<3:=by(have H:=cx b 3 w! w!;simp only[H,show toNat 3=3 by rfl] at *;omega)
     rw[mr b 3 E hx];exact S.ŗ u w!;have h:=xo (b:=b) v! v! v!;have a:=bP u;have hx:(E:Int)+1<3:=by(have H:=cx b 3 w! w!;simp only[H,show toNat 3=3 by rfl] at *;omega)
     simp only[mr b 3 E hx,n0 b 3 E hx] at *;exact Wh u v! w!
     (have h:=xo (b:=b) v! v! v!;(have a:=bP u;(try simp only[cx b 3 w! w!,show toNat 3=3 by rfl] at *);simp only[show toNat 6=6 by rfl,af] at *;omega))
   with_reducible and_intros
   trivial;intro w;try simp only[nt] at w
   trivial;intro y;try simp only[nf] at y
   trivial;intro j;try simp only[V.Nb,nt,df] at j
   refine⟨?_,?_⟩;have h:=xo (b:=b) v! v! v!;have a:=bP u;have H:=cx b 3 w! w!;rw[H] at g;have hx:E+1=3:=by omega
   rw[yY h u hx j rfl];have h:=xo (b:=b) v! v! v!;have a:=bP u;have H:=cx b 3 w! w!;rw[H] at g;have hx:E+1=3:=by omega
   rw[yY h u hx j rfl];intro k;try simp only[V.qF,nf,dt] at k
   refine⟨?_,?_⟩;have h:=xo (b:=b) v! v! v!;have a:=bP u;have H:=cx b 3 w! w!;rw[H] at g;have hx:E+1=3:=by omega
   rw[yZ h u hx k rfl];have h:=xo (b:=b) v! v! v!;have a:=bP u;have H:=cx b 3 w! w!;rw[H] at g;have hx:E+1=3:=by omega
   rw[yZ h u hx k rfl]
 intro z;try simp only[df] at z
 with_reducible and_intros
 iterate 2 omega
 . intro A;try simp only[dt] at A
   refine⟨?_,?_,?_,?_⟩;iterate 2 omega
   intro C;try simp only[dt] at C
   refine⟨?_,?_⟩
   (have h:=xp (b:=b) v! v! v! v!;rw[uW h w! w!])
   (have h:=xp (b:=b) v! v! v! v!;rw[uW h w! w!])
   intro D;try simp only[df] at D
   with_reducible and_intros
   iterate 3 omega
   . refine⟨0,?_⟩;try dsimp only
     with_reducible and_intros
     omega
     (exact aM6 v! v!)
     (have h:=xp (b:=b) v! v! v! v!;exact S.ŕ h w! w!)
   intro e B;refine V.dI (λh36=>?_) λi=>?_
   . with_reducible and_intros
     iterate 4 omega
     intro F;try simp only[nt,df,tn] at F
     refine⟨?_,?_⟩;have h:=xp (b:=b) v! v! v! v!;have a:=bP B;have hx:(e:Int)+1<4:=by(have H:=cx b 4 w! w!;simp only[H,show toNat 4=4 by rfl] at *;omega)
     simp only[mr b 4 e hx,n0 b 4 e hx] at *;rw[yX h B w! v!];have h:=xp (b:=b) v! v! v! v!;have a:=bP B;have hx:(e:Int)+1<4:=by(have H:=cx b 4 w! w!;simp only[H,show toNat 4=4 by rfl] at *;omega)
     simp only[mr b 4 e hx,n0 b 4 e hx] at *;rw[yX h B w! v!];intro K;try simp only[nf,dt,tn] at K
     with_reducible and_intros
     iterate 2 omega
     iterate 3
      (have h:=xp (b:=b) v! v! v! v!;(have a:=bP B;(try simp only[cx b 4 w! w!,show toNat 4=4 by rfl] at *);simp only[show toNat 6=6 by rfl,af] at *;omega))
     exact Int.natCast_nonneg _;omega
     (have h:=xp (b:=b) v! v! v! v!;(have a:=bP B;(try simp only[cx b 4 w! w!,show toNat 4=4 by rfl] at *);omega))
     refine⟨(e+1),?_⟩;try dsimp only
     with_reducible and_intros
     omega;have h:=xp (b:=b) v! v! v! v!;have a:=bP B;have hx:(e:Int)+1<4:=by(have H:=cx b 4 w! w!;simp only[H,show toNat 4=4 by rfl] at *;omega)
     rw[mr b 4 e hx];exact S.ŗ B w!;have h:=xp (b:=b) v! v! v! v!;have a:=bP B;have hx:(e:Int)+1<4:=by(have H:=cx b 4 w! w!;simp only[H,show toNat 4=4 by rfl] at *;omega)
     simp only[mr b 4 e hx,n0 b 4 e hx] at *;exact Wh B v! w!
     (have h:=xp (b:=b) v! v! v! v!;(have a:=bP B;(try simp only[cx b 4 w! w!,show toNat 4=4 by rfl] at *);simp only[show toNat 6=6 by rfl,af] at *;omega))
   with_reducible and_intros
   trivial;intro L;try simp only[nt] at L
   trivial;intro M;try simp only[nf] at M
   trivial;intro l;try simp only[V.Nb,nt,df] at l
   refine⟨?_,?_⟩;have h:=xp (b:=b) v! v! v! v!;have a:=bP B;have H:=cx b 4 w! w!;rw[H] at i;have hx:e+1=4:=by omega
   rw[yY h B hx l rfl];have h:=xp (b:=b) v! v! v! v!;have a:=bP B;have H:=cx b 4 w! w!;rw[H] at i;have hx:e+1=4:=by omega
   rw[yY h B hx l rfl];intro m;try simp only[V.qF,nf,dt] at m
   refine⟨?_,?_⟩;have h:=xp (b:=b) v! v! v! v!;have a:=bP B;have H:=cx b 4 w! w!;rw[H] at i;have hx:e+1=4:=by omega
   rw[yZ h B hx m rfl];have h:=xp (b:=b) v! v! v! v!;have a:=bP B;have H:=cx b 4 w! w!;rw[H] at i;have hx:e+1=4:=by omega
   rw[yZ h B hx m rfl]
 grind[df,uf0]
def aI6(b:B8)(c:S.small b):(∃(X:B8×U),(b=X.1/\[]=X.2)/\k7 b X.1 X.2)/\(∀(x:B8×U),k7 b x.1 x.2->eF (gq (length x.1)) (0<length x.1/\zy x.2 [(bh x.1).1]/\gW (bh x.1).2 (length x.1) (∃(a:B8×U),(drop (toNat (bh x.1).2) x.1=a.1/\x.2++[(bh x.1).1]=a.2)/\k7 b a.1 a.2/\S.len a.1<S.len x.1)) (x.2=S.decode b)):=by
 refine au ?_;simp[S.small] at c;refine⟨?_,?_⟩;refine⟨((b),([])),?_⟩;grind[aGn];intro X h;refine⟨?_,?_⟩
 . intro d;simp at d;with_reducible and_intros
   omega
   (have H:=Wi h w!;grind)
   iterate 2
    (have H:=Wi h w!;omega)
   refine⟨((drop (toNat ((bh (X.1)).2)) (X.1)),(X.2++[(bh (X.1)).1])),?_⟩;dsimp only;with_reducible and_intros
   iterate 2 rfl
   grind[TZ]
   (have H:=Wi h w!;grind[S.len,List.length_drop,lc,ln])
 grind[df,Zu]
def aI7(c:Int):(∃(a:Nat),(0:Int)=a/\pX c a)/\(∀(X:Nat),pX c X->fL (decide ((X:Int)<9)) 0 X ((9:Nat):Int) (rH (ME (getD [65,97,192,216,248,913,931,945,1024] (toNat X) 0) c (getD [90,122,214,246,255,929,937,969,1119] (toNat X) 0)) (true=S.letter c) X (∃(d:Nat),oZ X d (pX c d) 9)) (false=S.letter c)):=by
 refine au ?_;refine⟨?_,?_⟩;refine⟨(nat_lit 0:Nat),?_⟩;grind[pX];intro a e;refine⟨?_,?_⟩
 . intro f;simp at f;with_reducible and_intros
   iterate 2 omega
   intro h;simp at h;exact S.ř (x:=a) w! (S.Ŝ h);intro H;simp only[V.V3,df,tn] at H;with_reducible and_intros
   iterate 2 omega
   refine⟨(a+nat_lit 1),?_⟩;dsimp only;refine⟨?_,?_,?_⟩;omega;exact S.Ś (x:=a) e w! (aoL H);simp[af];omega
 grind[df,S.ś]
def aI8(c:Int):ME 48 c 57=S.digit c:=by
 refine au ?_;grind[S.digit]
def aI9(c:Int):(∃(a:Nat),(0:Int)=a/\qK c a)/\(∀(X:Nat),qK c X->fL (decide ((X:Int)<7)) 0 X ((7:Nat):Int) (rH (ME (getD [65,192,216,913,931,1024,1040] (toNat X) 0) c (getD [90,214,222,929,937,1039,1071] (toNat X) 0)) (cE (c+jf [32,32,32,32,32,80,32] (toNat X))/\c+jf [32,32,32,32,32,80,32] (toNat X)=aX c) X (∃(d:Nat),oZ X d (qK c d) 7)) (c=aX c)):=by
 refine au ?_;refine⟨?_,?_⟩;refine⟨(nat_lit 0:Nat),?_⟩;grind[qK];intro a h;refine⟨?_,?_⟩
 . intro e;simp at e;with_reducible and_intros
   iterate 2 omega
   . intro H;simp at H;with_reducible and_intros
     iterate 2
      have g:=(T1 (c:=c) (x:=a) h e (S.Ŝ H)).2;omega
     exact(T1 (x:=a) h w! (S.Ŝ H)).1
   intro f;simp only[V.V3,df,tn] at f;with_reducible and_intros
   iterate 2 omega
   refine⟨(a+nat_lit 1),?_⟩;dsimp only;refine⟨?_,?_,?_⟩;omega;exact akt (x:=a) h w! (aoL f);simp[af];omega
 grind[df,aku]
def aJa(c a b:Int):ME a c b=dM c a b:=by
 refine au ?_;grind[dM]
def aJb(c:Int):(bif pM c then Jn c 55296 (abi c) else abi c)=pe c:=by
 refine au ?_;grind[pe]
def aJc(c:Int)(h:0<=c/\c<=1114111):eF (UW c) ([ku c]=S.enc c) (eF (decide (c<2048)) (0<=c/\(0:Int)<64/\cE (192+c/64)/\0<=c/\(0:Int)<64/\cE (128+c%64)/\[ku (192+c/64),ku (128+c%64)]=S.enc c) (eF (decide (c<65536)) (0<=c/\(0:Int)<4096/\cE (224+c/4096)/\0<=c/\(0:Int)<64/\0<=c/64/\(0:Int)<64/\cE (128+c/64%64)/\0<=c/\(0:Int)<64/\cE (128+c%64)/\[ku (224+c/4096),ku (128+c/64%64),ku (128+c%64)]=S.enc c) (0<=c/\(0:Int)<262144/\cE (240+c/262144)/\0<=c/\(0:Int)<4096/\0<=c/4096/\(0:Int)<64/\cE (128+c/4096%64)/\0<=c/\(0:Int)<64/\0<=c/64/\(0:Int)<64/\cE (128+c/64%64)/\0<=c/\(0:Int)<64/\cE (128+c%64)/\[ku (240+c/262144),ku (128+c/4096%64),ku (128+c/64%64),ku (128+c%64)]=S.enc c))):=by
 refine au ?_;refine⟨?_,?_⟩;simp_all[dt,au2]
 intro H;refine V.dI (λa=>?_) λd=>?_;grind[au3];refine⟨?_,?_⟩;grind[au4];grind[df,au5]
def aJd(a b:Int):eF (decide (a<b)) (a=qL a b) (b=qL a b):=by
 refine au ?_;refine⟨?_,?_⟩;simp_all[dt,qL]
 grind[df,qL]
def aJe(c:Int):gg (mY (dM c 65 90) (de (mY (dM c 97 122) (de (mY (dM c 192 214) (de (mY (dM c 216 246) (de (mY (dM c 248 255) (de (mY (dM c 913 929) (de (mY (dM c 931 937) (de (lJ (dM c 945 969)))))))))))))))) (jZ (dM c 65 90) (jZ (dM c 97 122) (jZ (dM c 192 214) (jZ (dM c 216 246) (jZ (dM c 248 255) (jZ (dM c 913 929) (jZ (dM c 931 937) (jZ (dM c 945 969) (dM c 1024 1119))))))))=S.letter c):=by
 refine au ?_;grind[PO]
def aJf(c:Int):de (bY (dM c 1024 1039) (cE (c+80)/\c+80=aX c) True (mY (dM c 65 90) (de (mY (dM c 192 214) (de (mY (dM c 216 222) (de (mY (dM c 913 929) (de (lJ (dM c 931 937)))))))))) (eF (jZ (dM c 65 90) (jZ (dM c 192 214) (jZ (dM c 216 222) (jZ (dM c 913 929) (jZ (dM c 931 937) (dM c 1040 1071)))))) (cE (c+32)/\c+32=aX c) (c=aX c))):=by
 refine au ?_;refine⟨?_,?_,?_⟩;trivial;grind[Ea];intro h;with_reducible and_intros
 trivial;iterate 2 grind
 grind[Eb];grind[CH]
def aJg(b:B8)(n:Int)(h:D9 b n)(H:Vg.jE J.é (b,n)):ct (decide (fU b<n)) (-(1:Int)=cg b n) (tO (fU b)) (((0:Int)<=n/\n<cV [(0:Int),(0:Int),(192:Int),(224:Int),(240:Int)])/\toNat n<length [(0:Int),(0:Int),(192:Int),(224:Int),(240:Int)]/\cE (gh b (0:Int)-jf [(0:Int),(0:Int),(192:Int),(224:Int),(240:Int)] (toNat n))/\(∃(a:Nat),((1:Int)=(a:Int)/\gh b (0:Int)-jf [(0:Int),(0:Int),(192:Int),(224:Int),(240:Int)] (toNat n)=p0 b n (a-(1:Nat)))/\sy b n a)/\(∀(x:Nat),sy b n x->eF (decide ((x:Int)<n)) (cE (p0 b n (x-(1:Nat))*(64:Int))/\jW (x:Int) (fU b) (cE (p0 b n (x-(1:Nat))*(64:Int)+gh b (x:Int))/\cE (p0 b n (x-(1:Nat))*(64:Int)+gh b (x:Int)-(128:Int))/\dg (x:Int) (∃(X:Nat),gV x X (p0 b n (x-(1:Nat))*(64:Int)+gh b (x:Int)-(128:Int)=p0 b n (X-(1:Nat))) (sy b n X) (toNat n)))) (p0 b n (x-(1:Nat))=cg b n))):=by
 refine au ?_;have I:Vg.hlen b:=H.1.1;have A:Vg.hint n:=H.2.1;clear H;have i:=h;simp only[D9] at i;refine⟨?_,?_⟩;intro c;try simp only[dt] at c
 grind[Zw];intro d;try simp only[df] at d
 with_reducible and_intros
 iterate 3 omega
 iterate 3 grind
 have c:=PQ b n 0 w!;grind[T3];grind[T3,sy,af];intro X g;refine⟨?_,?_⟩
 . intro e;try simp only[dt] at e
   with_reducible and_intros
   iterate 2
    have f:=aeP v! h;have:=(getD b (toNat (X:Int)) 0).toNat_lt;omega
   iterate 2 omega
   iterate 4
    have f:=aeP v! h;have:=(getD b (toNat (X:Int)) 0).toNat_lt;omega
   iterate 2 omega
   refine⟨(X+1),?_⟩;try dsimp only
   with_reducible and_intros
   omega;exact aky v!;simp only[sy,af] at *;omega;simp only[sy,af] at *;omega
 grind[df,aoR]
def aJh(b:B8)(j:S.small b):(∃(a:Nat×U),((0:Int)=a.1/\[]=a.2)/\k7 b (drop a.1 b) a.2/\a.1<=A6 b)/\(∀(X:Nat×U),k7 b (drop X.1 b) X.2/\X.1<=A6 b->eF (decide ((X.1:Int)<A6 b)) ((∃(g:Nat×Nat),((1:Int)=((g.1+1:Nat):Int)/\Bz (iq (drop g.2 b) g.1) 1)/\g.1<=4/\(X.1:Int)=g.2)/\(∀(x:Nat×Nat),x.1<=4/\(X.1:Int)=x.2->ct (decide (((x.1+1:Nat):Int)<=4)) (gW X.1 (A6 b) (D9 (drop (toNat X.1) b) ((x.1+1:Nat):Int)/\gg (fK (pe (G4 b X x)) (gW (G4 b X x) 1114111 (cE (X.1+((x.1+1:Nat):Int))/\de (FF 0 X.1 (qL (X.1+((x.1+1:Nat):Int)) (A6 b)) (A6 b))))) (cE (((x.1+1:Nat):Int)+1)/\(∃(c:Nat×Nat),(((x.1+1:Nat):Int)+1=((c.1+1:Nat):Int)/\mK (bif abh b X x then G4 b X x else(Lc b x).1) (iq (drop c.2 b) c.1) (bif abh b X x then((x.1+1:Nat):Int) else(Lc b x).2))/\(c.1<=4/\(X.1:Int)=c.2)/\wK 4 c.1 x.1)))) (zy X.2 [(Lc b x).1]) (cE (X.1+(Lc b x).2)/\(∃(d:Nat×U),(X.1+(Lc b x).2=d.1/\X.2++[(Lc b x).1]=d.2)/\(k7 b (drop d.1 b) d.2/\d.1<=A6 b)/\wK (S.len b) d.1 X.1)))) (X.2=S.decode b)):=by
 refine au ?_;have I:b.length<=1099511627776:=by grind[S.small]
 refine⟨?_,?_⟩;refine⟨(0,([])),?_⟩;grind[au6];intro a H;refine⟨?_,?_⟩
 . intro h;try simp only[dt] at h
   refine⟨?_,?_⟩
   . refine⟨(0,a.1),?_⟩;with_reducible and_intros
     omega;iterate 2 rfl
     iterate 2 omega
   intro x e;refine V.dI (λk=>?_) λf=>?_
   . with_reducible and_intros
     iterate 2 omega
     grind[D9,List.length_drop];trivial
     . intro l;with_reducible and_intros
       iterate 2 (simp_all[S.ş])
       iterate 2 omega
       trivial;omega;iterate 2 (grind[qL])
     grind;iterate 2 omega
     refine⟨(x.1+1,a.1),?_⟩;try dsimp only
     with_reducible and_intros
     omega;simp_all[T4,akA]
     simp_all[T4,akB]
     iterate 2 omega
     grind[af]
   with_reducible and_intros
   have i:=rX H h e f;grind
   iterate 2
    have i:=rX H h e f;omega
   refine⟨((toNat ((↑(a.1):Int)+(iq (drop (x.2) b) (x.1)).2)),(a.2++[(iq (drop (x.2) b) (x.1)).1])),?_⟩;with_reducible and_intros
   have i:=rX H h e f;omega;rfl;have i:=rX H h e f;grind;have i:=rX H h e f;omega;have i:=rX H h e f;grind[af,S.len]
 grind[df,Zu,List.length_drop]
def aJi(u:U)(h:SM u):(∃(X:Nat×B8),((0:Int)=X.1/\[]=X.2)/\lE u X.1 X.2)/\(∀(x:Nat×B8),lE u x.1 x.2->fL (decide (x.1<cV u)) 0 x.1 (cV u) (de (de (cE (length x.2+length (RN u x))/\ct (GY (length x.2+length (RN u x))) (x.2=fe u) (Jm (length x.2+length (RN u x))) (cE (x.1+1)/\(∃(a:Nat×B8),((x.1:Int)+1=a.1/\x.2++RN u x=a.2)/\lE u a.1 a.2/\wK (S.len u) a.1 x.1))))) (x.2=fe u)):=by
 refine au ?_;have d:=h.1;refine⟨?_,?_⟩;refine⟨(0,([])),?_⟩;grind[Aq];intro X H;refine⟨?_,?_⟩
 . intro c;simp at c;with_reducible and_intros
   iterate 2 omega
   iterate 2 trivial
   omega;have:=H.2.2;grind[akC];grind[pF];intro e;with_reducible and_intros
   grind;iterate 2 omega
   refine⟨((X.1+1),(X.2++im (aX (getD u (toNat (↑(X.1):Int)) (0:Int))))),?_⟩;grind[pE,af,S.len]
 grind[df,rY]
def aJj(b:B8)(e:S.small b):qh b ((∃(X:Nat×O×U),((0:Int)=X.1/\[]=X.2.1/\[]=X.2.2)/\k8 (S.decode b) X.1 X.2.1 X.2.2)/\(∀(x:Nat×O×U),k8 (S.decode b) x.1 x.2.1 x.2.2->fL (decide ((x.1:Int)<length (S.decode b))) 0 x.1 (length (S.decode b)) (toNat x.1<length (S.decode b)/\gg (lJ (S.letter (Lj b x))) (eF (jZ (S.letter (Lj b x)) (S.digit (Lj b x))) (length x.2.2+length [Lj b x]<=17592186044416/\cE (x.1+1)/\(∃(a:Nat×O×U),zA (x.1+1) a.1 (x.2.1=a.2.1/\x.2.2++[Lj b x]=a.2.2) (k8 (S.decode b) a.1 a.2.1 a.2.2) (S.len (S.decode b)) (af (S.len (S.decode b)) x.1))) (ot (gq (length x.2.2)) (SM x.2.2/\By x.2.1 [fe x.2.2]/\cE (x.1+1)/\(∃(c:Nat×O×U),zA (x.1+1) c.1 (x.2.1++[fe x.2.2]=c.2.1/\[]=c.2.2) (k8 (S.decode b) c.1 c.2.1 c.2.2) (S.len (S.decode b)) (af (S.len (S.decode b)) x.1))) (x.1+1) (∃(d:Nat×O×U),zA (x.1+1) d.1 (x.2.1=d.2.1/\x.2.2=d.2.2) (k8 (S.decode b) d.1 d.2.1 d.2.2) (S.len (S.decode b)) (af (S.len (S.decode b)) x.1))))) (eF (gq (length x.2.2)) (SM x.2.2/\By x.2.1 [fe x.2.2]/\x.2.1++[fe x.2.2]=aS b) (x.2.1=aS b)))):=by
 refine au ?_;have i:b.length<=1099511627776:=e;refine⟨?_,?_,?_⟩;omega;refine⟨(0,(([]),([]))),?_⟩;grind[aGv];intro X h;refine V.dI (λj=>?_) λF=>?_
 . with_reducible and_intros
   iterate 3 omega
   trivial;iterate 2 grind
   . intro f;try simp only[V.Nb] at f
     with_reducible and_intros
     (have H:=sA h i;grind)
     omega
     (have H:=sA h i;omega)
     refine⟨((X.1+1),((X.2.1),(X.2.2++[getD (S.decode b) (toNat (↑(X.1):Int)) (0:Int)]))),?_⟩;grind[akD,aoT,sA,af,S.len]
   intro g;try simp only[V.qF] at g
   refine V.dI (λk=>?_) λl=>?_
   . with_reducible and_intros
     iterate 2
      (have H:=sA h i;grind)
     omega
     (have H:=sA h i;omega)
     refine⟨((X.1+1),((X.2.1++[fe (X.2.2)]),([]))),?_⟩;grind[aoS,Zy,sA,af,S.len]
   with_reducible and_intros
   omega
   (have H:=sA h i;omega)
   refine⟨((X.1+1),((X.2.1),(X.2.2))),?_⟩;grind[akE,Zy,sA,af,S.len]
 refine⟨?_,?_⟩;intro I;refine⟨?_,?_,?_⟩
 (have H:=sA h i;grind)
 (have H:=sA h i;simp;omega)
 grind[akF];grind[df,akG]
def aJk(s:B8)(h:S.small s):qh s (fK (KO (RL s)) (((0:Int)<=0/\(0:Int)<RL s)/\toNat 0<RL s)/\MG (KO (RL s)) (eN (aS s) 0) s=S.isTerm s):=by
 refine au ?_;grind[akJ]
def aJl(c:Int):de (jZ (S.letter c) (ME 48 c 57)=fB c):=by
 refine au ?_;grind[akK]
def aJm(u:U)(c:SM u):(∃(X:Nat×B8),((0:Int)=X.1/\[]=X.2)/\lE u X.1 X.2)/\(∀(x:Nat×B8),lE u x.1 x.2->fL (decide (x.1<cV u)) 0 x.1 (cV u) (gg (0<=aX (js u x.1)/\aX (js u x.1)<=1114111) (cE (length x.2+Xs u x)/\ct (GY (length x.2+Xs u x)) (x.2=fe u) (((length x.2+Xs u x:Nat):Int)<=9223372036854775807) (cE (x.1+1)/\(∃(a:Nat×B8),((x.1:Int)+1=a.1/\x.2++S.enc (aX (js u x.1))=a.2)/\lE u a.1 a.2/\wK (S.len u) a.1 x.1)))) (x.2=fe u)):=by
 refine au ?_;have d:=c.1;refine⟨?_,?_⟩;refine⟨((nat_lit 0:Nat),([])),?_⟩;grind[Aq,rY,y6,y5,pF,pE]
 . intro X h;refine⟨?_,?_⟩
   . intro H;try simp at H
     with_reducible and_intros
     omega;omega;trivial;grind[Aq,rY,y6,y5,pF,pE];grind[Aq,rY,y6,y5,pF,pE];omega;first|omega|rfl|exact Aq u|exact rY h (by assumption)|(first|exact he.2.1|exact he.2.2|(have:=h.2.2;grind[y5])|(rw[<-he.1] at *)|(omega))
     grind[y6,tn,pF]
     . intro e;with_reducible and_intros
       grind;omega;omega
       . refine⟨((Prod.fst X+nat_lit 1),(Prod.snd X++S.enc (aX (getD u (toNat (↑(Prod.fst X):Int)) (0:Int))))),?_⟩;with_reducible and_intros
         rfl;rfl;grind[y6,tn,pE];first|omega|rfl|exact Aq u|exact rY h (by assumption)|(first|exact he.2.1|exact he.2.2|(omega)|(first|exact pF h H (by assumption)|exact pE h H (by assumption))|grind[af,S.len])
   grind[Aq,rY,y6,y5,pF,pE]
def aJn(b:B8)(d:S.small b):qh b ((∃(a:Nat×O),((0:Int)=a.1/\[]=a.2)/\nr (S.decode b) a.1 a.2)/\(∀(X:Nat×O),nr (S.decode b) X.1 X.2->eF (decide ((X.1:Int)<G5 b)) ((∃(e:Nat×Nat),(X.1:Int)=e.1/\uz (S.decode b) e.2 e.1/\(X.1:Int)=e.2)/\(∀(x:Nat×Nat),uz (S.decode b) x.2 x.1/\(X.1:Int)=x.2->fK (decide ((x.1:Int)<G5 b)) (((0:Int)<=x.1/\(x.1:Int)<G5 b)/\toNat x.1<G5 b/\True)/\eF (oh (decide ((x.1:Int)<G5 b)) (fB (jf (S.decode b) (toNat x.1)))) (cE (x.1+1)/\(∃(c:Nat×Nat),(x.1:Int)+1=c.1/\(uz (S.decode b) c.2 c.1/\(X.1:Int)=c.2)/\wK (S.len (S.decode b)) c.1 x.1)) (ot (decide ((X.1:Int)<x.1)) (FF 0 X.1 x.1 (G5 b)/\SM (Xt b X x)/\By X.2 [fe (Xt b X x)]/\cE (x.1+1)/\(∃(f:Nat×O),zA (x.1+1) f.1 (X.2++[fe (Xt b X x)]=f.2) (nr (S.decode b) f.1 f.2) (S.len (S.decode b)+1) (af (S.len (S.decode b)+1) X.1))) (x.1+1) (∃(g:Nat×O),zA (x.1+1) g.1 (X.2=g.2) (nr (S.decode b) g.1 g.2) (S.len (S.decode b)+1) (af (S.len (S.decode b)+1) X.1))))) (X.2=aS b))):=by
 refine au ?_;have I:b.length<=1099511627776:=d;have l:=pZ b;refine⟨?_,?_,?_⟩;omega;refine⟨((nat_lit 0:Nat),([])),?_⟩;grind[Ar,Gn,As,rZ,lc,ln]
 . intro a h;refine⟨?_,?_⟩
   . intro i;try simp only[dt] at i
     refine⟨?_,?_⟩;refine⟨((Prod.fst a),(Prod.fst a)),?_⟩;grind[Ar,Gn,As,rZ,lc,ln]
     . intro x H;with_reducible and_intros
       iterate 2 grind
       . intro m;try simp only[V.aEl,dt] at m
         with_reducible and_intros
         omega;omega
         . refine⟨((Prod.fst x+nat_lit 1),(Prod.fst a)),?_⟩;try dsimp only
           with_reducible and_intros
           rfl;grind[akH];rfl;first|omega|with_reducible rfl|exact d|exact Ar _|exact Gn i|exact As I|exact rZ h v!|grind[lc,ln,af,S.len]
       . intro o;refine⟨?_,?_⟩
         . intro F;try simp only[dt] at F
           with_reducible and_intros
           omega;omega;have k:=H.1.1;have j:=H.1.2.1;omega;grind[Ar,Gn,As,rZ,lc,ln];first|omega|with_reducible rfl|exact d|exact Ar _|exact Gn i|exact As I|exact rZ h v!|(have:=h.2.1;have:=h.2.2;grind)
           omega;have k:=H.1.1;have j:=H.1.2.1;omega
           . refine⟨((Prod.fst x+nat_lit 1),(Prod.snd a++[fe (take (toNat (↑(Prod.fst x):Int)-toNat (↑(Prod.fst a):Int)) (drop (toNat (↑(Prod.fst a):Int)) (S.decode b)))])),?_⟩;try dsimp only
             with_reducible and_intros
             rfl;rfl;grind[akI];first|omega|with_reducible rfl|exact d|exact Ar _|exact Gn i|exact As I|exact rZ h v!|grind[lc,ln,af,S.len]
         . intro n;try simp only[df] at n
           with_reducible and_intros
           omega;omega
           . refine⟨((Prod.fst x+nat_lit 1),(Prod.snd a)),?_⟩;try dsimp only
             with_reducible and_intros
             rfl;rfl;grind[S.Š];have k:=H.1.1;grind[af,S.len]
   intro K;grind[Ar,Gn,As,rZ,lc,ln]
def aJo(l:O)(h:Vg.jE J.Dj l):(∃(X:Nat),((1:Int)=X/\(0:Int)=eJ l X)/\uX l X)/\(∀(x:Nat),uX l x->fL (decide (x<bG l)) 0 x (bG l) (jW (eJ l x) (bG l) (dg x (∃(a:Nat),gV x a ((bif Op.bytesLess (eN l x) (eN l (eJ l x)) then(x:Int) else(eJ l x:Int))=eJ l a) (uX l a) (S.len l)))) ((eJ l x:Int)=eo l)):=by
 refine au ?_;have B:Vg.hlen l:=h.1.1;clear h;refine⟨?_,?_⟩
 . refine⟨1,?_⟩;try dsimp only
   with_reducible and_intros
   omega;grind[Zx];exact⟨Nat.le_refl _,.inr rfl⟩
 intro X H;refine⟨?_,?_⟩
 . intro c;try simp only[dt] at c
   with_reducible and_intros
   iterate 3 omega
   have:=CI (l:=l) X w! (by have:=H.2;omega);omega;iterate 2 omega
   refine⟨(X+1),?_⟩;try dsimp only
   with_reducible and_intros
   omega;exact Zz l X;simp only[uX] at *;omega;simp only[af,S.len];omega
 grind[df,S.š]
def aJp(l:O)(m:S.small l):(∃(a:O×O),(l=a.1/\[]=a.2)/\sX l a.1 a.2)/\(∀(X:O×O),sX l X.1 X.2->eF (gq (A8 X)) (de (((0:Int)<=eo X.1/\(eo X.1:Int)<A8 X)/\toNat (eo X.1)<A8 X/\By X.2 [Dy X]/\(∃(f:Nat×O×O×B8),((0:Int)=f.1/\[]=f.2.1)/\kg f.2.2.1 f.2.2.2 f.1 f.2.1/\X.1=f.2.2.1/\Dy X=f.2.2.2)/\(∀(x:Nat×O×O×B8),kg x.2.2.1 x.2.2.2 x.1 x.2.1/\X.1=x.2.2.1/\Dy X=x.2.2.2->fL (decide ((x.1:Int)<A8 X)) 0 x.1 (A8 X) (toNat x.1<A8 X/\ot (MH (ru X.1 (toNat x.1)) (Dy X)) (((0:Int)<=x.1/\(x.1:Int)<A8 X)/\toNat x.1<A8 X/\By x.2.1 [ru X.1 (toNat x.1)]/\cE (x.1+1)/\(∃(c:Nat×O×O×B8),zA (x.1+1) c.1 (x.2.1++[ru X.1 (toNat x.1)]=c.2.1) (kg c.2.2.1 c.2.2.2 c.1 c.2.1/\X.1=c.2.2.1/\Dy X=c.2.2.2) (S.len c.2.2.1) (af (S.len x.2.2.1) x.1))) (x.1+1) (∃(d:Nat×O×O×B8),zA (x.1+1) d.1 (x.2.1=d.2.1) (kg d.2.2.1 d.2.2.2 d.1 d.2.1/\X.1=d.2.2.1/\Dy X=d.2.2.2) (S.len d.2.2.1) (af (S.len x.2.2.1) x.1))) (∃(g:O×O),(x.2.1=g.1/\X.2++[Dy X]=g.2)/\sX l g.1 g.2/\S.len g.1<S.len X.1)))) (X.2=S.sorted l)):=by
 refine au ?_;have I:l.length<=1099511627776:=m;refine⟨?_,?_⟩;refine⟨((l),([])),?_⟩;grind[au7];intro a H;refine⟨?_,?_⟩
 . intro i;simp only[dt] at i;with_reducible and_intros
   trivial;omega
   iterate 2
    have:=CK (l:=a.1) w!;omega
   have:=H.2;simp;omega
   . refine⟨(0,(([]),((a.1),(getD (a.1) (toNat (↑(eo (a.1)):Int)) [])))),?_⟩;dsimp only;with_reducible and_intros
     omega;rfl;exact au8 _ _;iterate 2 rfl
   intro x h;refine V.dI (λj=>?_) λk=>?_
   . with_reducible and_intros
     iterate 3 omega
     . intro n;with_reducible and_intros
       iterate 3 omega
       have q:=akM h.1;have:=H.2;simp;omega
       omega;have:=H.2;omega;refine⟨((x.1+1),((x.2.1++[getD (a.1) (toNat (↑(x.1):Int)) []]),((a.1),(getD (a.1) (toNat (↑(eo (a.1)):Int)) [])))),?_⟩;try dsimp only
       with_reducible and_intros
       omega;with_reducible rfl
       exact S.Ţ (IG h) j (by simpa using n);iterate 2 with_reducible rfl
       have e:a.1=x.2.2.1:=h.2.1;simp only[af,S.len,<-e];omega
     intro o;with_reducible and_intros
     omega;have:=H.2;omega;refine⟨((x.1+1),((x.2.1),((a.1),(getD (a.1) (toNat (↑(eo (a.1)):Int)) [])))),?_⟩;try dsimp only
     with_reducible and_intros
     omega;with_reducible rfl
     exact S.ţ (IG h) j (by simpa using o);iterate 2 with_reducible rfl
     have e:a.1=x.2.2.1:=h.2.1;simp only[af,S.len,<-e];omega
   refine⟨((x.2.1),(a.2++[getD (a.1) (toNat (↑(eo (a.1)):Int)) []])),?_⟩;with_reducible and_intros
   iterate 2 rfl
   exact(PT H i (IG h) k).1;exact(PT H i (IG h) k).2
 grind[df,akL]
def aJq(b:B8)(h:S.small b):qh b (S.small (aS b)/\S.sorted (aS b)=S.sorted (aS b)):=by
 refine au ?_;grind[Au,S.small]
def aJr(b t:B8)(a:S.small b):qh b ((∃(X:Nat×U),((0:Int)=(X.1:Int)/\([]:U)=X.2)/\lF (aS b) t X.1 X.2)/\(∀(x:Nat×U),lF (aS b) t x.1 x.2->fL (decide ((x.1:Int)<(length (aS b):Int))) (0:Int) (x.1:Int) (length (aS b):Int) (toNat (x.1:Int)<length (aS b)/\ot (decide (ru (aS b) (toNat (x.1:Int))=t)) (zy x.2 [(x.1:Int)]/\cE ((x.1:Int)+(1:Int))/\(∃(c:Nat×U),zA ((x.1:Int)+(1:Int)) c.1 (x.2++[(x.1:Int)]=c.2) (lF (aS b) t c.1 c.2) (S.len (aS b)) (af (S.len (aS b)) x.1))) ((x.1:Int)+(1:Int)) (∃(d:Nat×U),zA ((x.1:Int)+(1:Int)) d.1 (x.2=d.2) (lF (aS b) t d.1 d.2) (S.len (aS b)) (af (S.len (aS b)) x.1))) (x.2=S.places b t))):=by
 refine au ?_;have g:=Au b;have i:b.length<=1099511627776:=a;refine⟨?_,?_,?_⟩;omega;refine⟨((nat_lit 0:Nat),([])),?_⟩;grind[r6,l9,ma,nu,lc,ln]
 . intro X h;refine⟨?_,?_⟩
   . intro H;try simp at H
     with_reducible and_intros
     omega;omega;omega
     . intro e;with_reducible and_intros
       first|omega|with_reducible rfl|exact a|exact r6 _ _|exact l9 h H e|exact ma h H f|exact nu h v!|(have:=h.2.2;grind)
       omega;omega
       . refine⟨((Prod.fst X+nat_lit 1),(Prod.snd X++[(↑(Prod.fst X):Int)])),?_⟩;with_reducible and_intros
         rfl;rfl;grind[r6,l9,ma,nu,lc,ln];first|omega|with_reducible rfl|exact a|exact r6 _ _|exact l9 h H e|exact ma h H f|exact nu h (by assumption)|grind[lc,ln,af,S.len]
     . intro f;with_reducible and_intros
       omega;omega
       . refine⟨((Prod.fst X+nat_lit 1),(Prod.snd X)),?_⟩;with_reducible and_intros
         rfl;rfl;grind[r6,l9,ma,nu,lc,ln];first|omega|with_reducible rfl|exact a|exact r6 _ _|exact l9 h H e|exact ma h H f|exact nu h v!|grind[lc,ln,af,S.len]
   intro j;grind[r6,l9,ma,nu,lc,ln]
def aJs(s:B8)(d:S.small s):qh s ((∃(X:Nat),(0:Int)=X/\sY (S.decode s) X)/\(∀(x:Nat),sY (S.decode s) x->fL (decide ((x:Int)<A7 s)) 0 x (A7 s) (toNat x<A7 s/\gg (bY (Bool.not (fB (jf (S.decode s) (toNat x)))) True ((0:Int)<=x/\(x:Int)<A7 s) (toNat x<A7 s) (de (jW x (A7 s) (toNat x<A7 s)))) (ug (jZ (Bool.not (fB (jf (S.decode s) (toNat x)))) (oD (aX (jf (S.decode s) (toNat x))) (jf (S.decode s) (toNat x)))) (tx s) x (∃(a:Nat),oZ x a (sY (S.decode s) a) (S.len (S.decode s))))) (oh (gq (A7 s)) (decide (fU s<=64))=tx s))):=by
 refine au ?_;have f:=pZ s;have i:s.length<=1099511627776:=d;refine⟨?_,?_,?_⟩;omega;grind[au9];intro X e;refine⟨?_,?_⟩
 . intro h;simp only[dt] at h;with_reducible and_intros
   iterate 3 omega
   trivial;intro g;trivial
   . intro j;with_reducible and_intros
     iterate 3 omega
     trivial;iterate 3 omega
   intro c;simp at c;exact akN h c;intro H;simp at H;with_reducible and_intros
   iterate 2 omega
   refine⟨(X+nat_lit 1),?_⟩;dsimp only;refine⟨?_,?_,?_⟩;omega;exact S.Ť e h H.1 H.2;simp[af,S.len];omega
 grind[df,akO]
def aJt(s:B8):Bool.not (decide (s=s))=false:=by
 grind
def aJu(a b:B8):de (zz false (eF false (0=lS a b) (-1=lS a b)) (eF false (1=lS a b) (eF (Op.bytesLess a b) (-1=lS a b) (eF (Bool.not (Op.bytesLess a b||decide (a=b))) (1=lS a b) (0=lS a b))))):=by
 refine au ?_;grind[lS,cJ,pg,y8,nt,nf]
def aJv(a b:B8):de (dz (lS a b)=decide (a=b)):=by
 refine au ?_;grind[avc]
def aJw(l:O)(m:S.small l):ct (decide ((yz l:Int)<2)) (l=bU l) (∃(j:Nat),(1:Int)=j/\n4 l j) (∀(d:Nat),n4 l d->fL (decide ((d:Int)<yz l)) 0 d (yz l) (si d<yz l/\mg (d-1) 0 (yz l) (toNat (d-1)<yz l/\de (rH (decide (ru l (si d)=ru l (toNat (d-1)))) (gW d (yz l) ((∃(a:Nat×Nat×O×Nat),((d:Int)=a.1/\(1:Int)=a.2.1/\l=a.2.2.1)/\jG l a.2.2.2 a.1 a.2.1 a.2.2.1/\(d:Int)=a.2.2.2)/\(∀(x:Nat×Nat×O×Nat),jG l x.2.2.2 x.1 x.2.1 x.2.2.1/\(d:Int)=x.2.2.2->bY (decide ((x.2.1:Int)<((yz l-si d:Nat):Int))) (((0:Int)<=x.2.1/\(x.2.1:Int)<((yz l-si d:Nat):Int))/\si d+toNat x.2.1<abr x/\mg (x.2.1-1) 0 ((yz l-si d:Nat):Int) (si d+toNat (x.2.1-1)<abr x/\gg (fK (tV d x) (((0:Int)<=x.2.1/\(x.2.1:Int)<((yz l-si d:Nat):Int))/\si d+toNat x.2.1<abr x/\((0:Int)<=x.1/\(x.1:Int)<abr x)/\Xx x<abr x/\cE (x.1+1))) (cE (x.2.1+1)/\(∃(e:Nat×Nat×O×Nat),((bif tV d x then(x.1:Int)+1 else(x.1:Int))=e.1/\(x.2.1:Int)+1=e.2.1/\(bif tV d x then List.set x.2.2.1 (Xx x) (ru x.2.2.1 (si d+toNat x.2.1)) else x.2.2.1)=e.2.2.1)/\(jG l e.2.2.2 e.1 e.2.1 e.2.2.1/\(d:Int)=e.2.2.2)/\wK (S.len l) e.2.1 x.2.1)))) ((0:Int)<=x.1/\(x.1:Int)<=abr x) (Xx x+(abr x-Xx x)<=abr x) (gW x.1 (bG (wQ x)) (take (Xx x) (wQ x)=bU l))))) d (∃(k:Nat),oZ d k (n4 l k) (S.len l))))) (l=bU l)):=by
 refine au ?_;have I:l.length<=1099511627776:=m;refine V.dI (λn=>?_) λy=>?_;exact PY n;refine⟨?_,?_⟩;grind[aoV];intro a o;refine⟨?_,?_⟩
 . intro r;try simp only[dt] at r
   with_reducible and_intros
   iterate 5 omega
   have:=o.1;omega;iterate 2 omega
   trivial
   . intro s;try simp only[dt,tn] at s
     with_reducible and_intros
     iterate 2 omega
     refine⟨((a),(1,((l),(a)))),?_⟩;grind[aeQ];intro X h;refine⟨?_,?_⟩
     . intro t;try simp at t
       with_reducible and_intros
       iterate 2 omega
       have q:=h.1.1;have Q:=h.1.2.1;have f:=h.1.2.2.2.1;have g:=h.1.2.2.2.2.1;have i:=h.2;omega
       iterate 2 omega
       have q:=h.1.1;have Q:=h.1.2.1;have f:=h.1.2.2.2.1;have g:=h.1.2.2.2.2.1;have i:=h.2;omega
       omega;have q:=h.1.1;have Q:=h.1.2.1;have f:=h.1.2.2.2.1;have g:=h.1.2.2.2.2.1;have i:=h.2;omega
       trivial
       . intro F;with_reducible and_intros
         iterate 2 omega
         have q:=h.1.1;have Q:=h.1.2.1;have f:=h.1.2.2.2.1;have g:=h.1.2.2.2.2.1;have i:=h.2;omega
         omega
         iterate 2
          have q:=h.1.1;have Q:=h.1.2.1;have f:=h.1.2.2.2.1;have g:=h.1.2.2.2.2.1;have i:=h.2;omega
         omega;have q:=h.1.1;have Q:=h.1.2.1;have f:=h.1.2.2.2.1;have g:=h.1.2.2.2.2.1;have i:=h.2;omega
       intro z;trivial;iterate 2 omega
       refine⟨((toNat (bif !Decidable.decide (getD (X.2.2.1) (toNat (↑a:Int)+toNat (↑(X.2.1):Int)) []=getD (X.2.2.1) (toNat (↑a:Int)+toNat ((↑(X.2.1):Int)-(1:Int))) []) then(↑(X.1):Int)+(1:Int) else(↑(X.1):Int))),((X.2.1+1),((bif !Decidable.decide (getD (X.2.2.1) (toNat (↑a:Int)+toNat (↑(X.2.1):Int)) []=getD (X.2.2.1) (toNat (↑a:Int)+toNat ((↑(X.2.1):Int)-(1:Int))) []) then List.set (X.2.2.1) (toNat (↑(X.1):Int)) (getD (X.2.2.1) (toNat (↑a:Int)+toNat (↑(X.2.1):Int)) []) else Prod.fst (X.2.2)),(a)))),?_⟩;try dsimp only
       with_reducible and_intros
       generalize (!decide (getD X.2.2.1 (toNat (a:Int)+toNat (X.2.1:Int)) []=getD X.2.2.1 (toNat (a:Int)+toNat ((X.2.1:Int)-1)) []))=c;cases c<;>simp only[K!,N!]<;>omega;omega;trivial;have q:=h.1.1;have E:X.2.2.2=a:=by have:=h.2;omega
       have H:=h.1;rw[E] at H;have u:toNat (a:Int)+toNat (X.2.1:Int)=a+X.2.1:=by omega
       have v:toNat (a:Int)+toNat ((X.2.1:Int)-1)=a+X.2.1-1:=by omega
       rw[u,v];by_cases hd:getD X.2.2.1 (a+X.2.1) []=getD X.2.2.1 (a+X.2.1-1) [];rw[L? hd];exact PZ H w! hd;rw[e? hd];exact T8 H w! hd;omega;simp only[af,S.len];omega
     intro K;with_reducible and_intros
     omega
     iterate 2
      have q:=h.1.2.1;have Q:=h.1.2.2.2.1;have f:=h.1.2.2.2.2.1;omega
     omega;have q:=h.1.2.1;have Q:=h.1.2.2.2.1;have f:=h.1.2.2.2.2.1;simp;omega;have q:=h.1.2.1;have Q:=h.1.2.2.2.1;have f:=h.1.2.2.2.2.1;grind[toNat,Mn,T9]
   intro w;try simp only[df,tn] at w
   with_reducible and_intros
   iterate 2 omega
   refine⟨(a+1),?_⟩;grind[T6,af,S.len]
 grind[df,ZC]
def aJx(l:O)(h:S.small l):S.small l/\S.small l/\S.small (fp l)/\bU (fp l)=bU (fp l):=by
 grind[Wq]
def aJy(b:B8)(h:S.small b):qh b (S.small (aS b)/\bU (fp (aS b))=S.sorted (aS b)):=by
 refine au ?_;grind[Wo,P0]
def aJz(l:O)(d:Vg.jE J.Dj l):(∃(X:Nat),(0:Int)=X/\sZ l X)/\(∀(x:Nat),sZ l x->fL (decide (x<bG l)) 0 x (bG l) (ug (FG (eN l x)) (cP l) x (∃(a:Nat),oZ x a (sZ l a) (S.len l))) (true=cP l)):=by
 refine au ?_;have B:Vg.hlen l:=d.1.1;refine⟨?_,?_⟩;grind[avg];intro X e;refine⟨?_,?_⟩
 . intro h;simp only[dt] at h;with_reducible and_intros
   iterate 2 omega
   intro H;simp at H;exact akS h H;intro c;simp at c;with_reducible and_intros
   iterate 2 omega
   refine⟨(X+nat_lit 1),?_⟩;dsimp only;refine⟨?_,?_,?_⟩;omega;exact S.ũ e h c;simp[af,S.len];omega
 grind[df,akT]
def aJA(a b:B8):de (bz a b=bz a b):=by
 refine au ?_;grind
def aJB(s:O)(h:y9 s):mg (abu s-2) 0 (abu s) (toNat (abu s-2)<abu s/\mg (abu s-2+1) 0 (abu s) (toNat (abu s-2+1)<abu s/\de (((0:Int)<=abu s-2/\(abu s:Int)-2<abu s)/\toNat (abu s-2)<abu s/\MJ (abu s-2+1) 0 (bG (mi s)) (take (toNat (abu s-2+1)) (mi s)=S.comb s)))):=by
 refine au ?_;have H:=h.1;have a:=h.2;with_reducible and_intros
 iterate 10 omega
 trivial;iterate 6 omega
 grind;exact avf h
def aJC(l:O)(h:dj l)(H:Vg.jE J.af6 l):(∃(X:Nat),((0:Int)=X/\[]=fg l X)/\gU l X)/\(∀(x:Nat),gU l x->fL (decide (x<bG l)) 0 x (bG l) (qi (eN l x) (By (fg l x) [S.leaf (eN l x)]/\dg x (∃(a:Nat),gV x a (fg l x++[S.leaf (eN l x)]=fg l a) (gU l a) (S.len l)))) (fg l x=S.leaves l)):=by
 refine au ?_;have B:Vg.hlen l:=H.1.1;clear H;have d:=h.1;refine⟨?_,?_⟩
 . refine⟨0,?_⟩;try dsimp only
   with_reducible and_intros
   omega;rfl;grind[gU,af,S.len]
 intro X e;refine⟨?_,?_⟩
 . intro c;try simp only[dt] at c
   with_reducible and_intros
   iterate 2 omega
   exact ga h v!;have:=Fk l X;simp only[lc,ln];omega;iterate 2 omega
   refine⟨(X+1),?_⟩;try dsimp only
   with_reducible and_intros
   omega;exact fh v!;simp only[gU,af,S.len] at *;omega;simp only[gU,af,S.len] at *;omega
 grind[df,fZ]
def aJD(l:O)(j:eW l):ct (dz (bG l)) (Rq jV (S.root l)) (∃(f:Nat×O),((0:Int)=f.1/\[]=f.2)/\qN l f.1 f.2) (∀(x:Nat×O),qN l x.1 x.2->ct (decide (x.1<bG l)) (rj x.1 (bG l) (By x.2 [eN l x.1]) ((∃(X:Nat×Nat×O×Nat),((x.1:Int)=X.2.1/\x.2++[eN l x.1]=X.2.2.1)/\ph l X.2.2.2 X.1 X.2.1 X.2.2.1/\(x.1:Int)=X.2.2.2)/\(∀(a:Nat×Nat×O×Nat),ph l a.2.2.2 a.1 a.2.1 a.2.2.1/\(x.1:Int)=a.2.2.2->(0:Int)<=a.2.1/\(0:Int)<=1/\ot (KO (Vg.aT a.2.1 1)) (y9 a.2.2.1/\gW 1 64 (∃(d:Nat×Nat×O×Nat),(kv a.2.1 1=d.2.1/\S.comb a.2.2.1=d.2.2.1)/\(ph l d.2.2.2 d.1 d.2.1 d.2.2.1/\(x.1:Int)=d.2.2.2)/\d.2.1<a.2.1)) (x.1+1) (∃(c:Nat×O),((x.1:Int)+1=c.1/\a.2.2.1=c.2)/\qN l c.1 c.2/\wK (S.len l) c.1 x.1)))) (∃(m:O),x.2=m/\qO l m) (∀(e:O),qO l e->bY (decide ((1:Int)<length e)) (y9 e/\(∃(g:O),S.comb e=g/\qO l g/\S.len g<S.len e)) (tO (length e)) (toNat 0<length e) (eN e 0=S.root l))):=by
 refine au ?_;have I:=j.2;refine V.dI (λq=>?_) λr=>?_;refine⟨?_,?_⟩;exact Nat.zero_le _;exact Ud q;refine⟨?_,?_⟩;refine⟨(0,([])),?_⟩;grind[avd];intro X i;refine V.dI (λs=>?_) λF=>?_
 . with_reducible and_intros
   iterate 2 omega
   have:=ZE i;simp;omega
   . refine⟨(0,X.1,X.2++[getD l (toNat (X.1:Int)) []],X.1),?_⟩;try dsimp only
     with_reducible and_intros
     omega;with_reducible rfl
     exact aGx i s;omega
   intro c h;refine⟨?_,?_,?_,?_⟩;iterate 2 omega
   . intro H;try simp at H
     with_reducible and_intros
     exact ao2 (Nx h) H j;iterate 2 omega
     refine⟨(c.1+1,c.2.1/2,S.comb c.2.2.1,X.1),?_⟩;try dsimp only
     with_reducible and_intros
     simp only[show toNat 1=1 by rfl];omega;with_reducible rfl
     exact(Kj (Nx h) H).1;omega;exact(Kj (Nx h) H).2.1
   intro n;try simp at n
   with_reducible and_intros
   iterate 2 omega
   refine⟨((X.1+1),(c.2.2.1)),?_⟩;try dsimp only
   with_reducible and_intros
   omega;with_reducible rfl
   exact aoX (Nx h) n;simp only[af,S.len];omega
 refine⟨?_,?_⟩;refine⟨(X.2),?_⟩;refine⟨?_,?_⟩;rfl;exact aGy i F r;intro t k;refine⟨?_,?_⟩;intro o;simp at o;refine⟨?_,?_⟩;have:=ao1 k;exact⟨w!,w!⟩;refine⟨(S.comb t),?_⟩;refine⟨?_,?_,?_⟩;rfl;exact(Uc k o).1;exact(Uc k o).2;grind[df,ao0]
def aJE(l:O)(h:S.small l):de (bY (Bool.not (cP l)) ([]=kI l/\1=yk l) (eW l) (S.root l=kI l) (0=yk l)):=by
 refine au ?_;have i:l.length<=1099511627776:=h;grind[nt,kI,yk,eW,nf]
def aJF(n:Int):ct (ô n 2 1099511627776) (0=S.split n) (∃(a:Nat×Int),1=a.2/\jy n a.2 a.1) (∀(x:Nat×Int),jy n x.2 x.1->cE (2*x.2)/\eF (decide (2*x.2<n)) (cE (2*x.2)/\(∃(X:Nat×Int),2*x.2=X.2/\jy n X.2 X.1/\ö (n-X.2) (n-x.2))) (x.2=S.split n)):=by
 refine au ?_;refine⟨?_,?_⟩;grind[ZD];intro H;simp at H;refine⟨?_,?_⟩;refine⟨(0,1),?_⟩;grind[Mf];intro X h;with_reducible and_intros
 iterate 2
  (have:=kh h;omega)
 . intro c;simp at c;with_reducible and_intros
   (have:=kh h;omega)
   omega;refine⟨(X.1+1,2*X.2),?_⟩;grind[kh,CR]
 grind[df,kh,Fj]
def aJG(m:Nat)(l:O)(d:S.len l<m+1)(h:eW l)(e:Vg.jE J.Dj l):eF (dz (bG l)) (Rq jV (S.root l)) (bY (KO (bG l)) (tO (bG l)/\eN l 0=S.root l) True (0<=S.split (bG l)/\S.split (bG l)<=bG l) ((S.len (RG l)<m/\eW (RG l))/\gW (S.split (bG l)) (bG l) ((S.len (RH l)<m/\eW (RH l))/\qi (S.root (RG l)++S.root (RH l)) (pB 1 (S.root (RG l)++S.root (RH l))=S.root l)))):=by
 refine au ?_;refine⟨?_,?_⟩;intro f;refine⟨?_,?_⟩;exact Nat.zero_le _;grind[Ud]
 . intro a;simp only[df] at a;refine⟨?_,?_⟩;grind[iu,Ed]
   . intro c;simp at c;with_reducible and_intros
     trivial;first|omega|(have H:=iu h w!;omega)
     first|omega|(have H:=iu h w!;omega)
     first|omega|(have H:=iu h w!;grind[S.len])
     first|omega|(have H:=iu h w!;grind)
     first|omega|(have H:=iu h w!;omega)
     first|omega|(have H:=iu h w!;omega)
     first|omega|(have H:=iu h w!;grind[S.len])
     first|omega|(have H:=iu h w!;grind)
     first|omega|(have H:=iu h w!;grind)
     first|omega|(have H:=iu h w!;grind)
def aJH(l:O)(h:dj l):(∃(X:Nat),((0:Int)=X/\[]=fg l X)/\gU l X)/\(∀(x:Nat),gU l x->fL (decide (x<bG l)) 0 x (bG l) (qi (eN l x) (By (fg l x) [pB 0 (eN l x)]/\dg x (∃(a:Nat),gV x a (fg l x++[pB 0 (eN l x)]=fg l a) (gU l a) (S.len l)))) (fg l x=S.leaves l)):=by
 refine au ?_;have d:=h.1;refine⟨?_,?_⟩
 . refine⟨(nat_lit 0:Nat),?_⟩;with_reducible and_intros
   rfl;rfl;first|omega|rfl|exact ga h (by assumption)|exact fh (by assumption)|exact fZ (by assumption)|grind[gU,af,S.len]|(omega)
 . intro X e;refine⟨?_,?_⟩
   . intro H;simp only[dt] at H;with_reducible and_intros
     first|omega|rfl|exact ga h (by assumption)|exact fh (by assumption)|exact fZ (by assumption)|(omega)|(omega)
     first|omega|rfl|exact ga h (by assumption)|exact fh (by assumption)|exact fZ (by assumption)|(omega)|(omega)
     first|omega|rfl|exact ga h (by assumption)|exact fh (by assumption)|exact fZ (by assumption)|(omega)|(omega)
     first|omega|rfl|exact ga h (by assumption)|exact fh (by assumption)|exact fZ (by assumption)|(omega)|(have:=Fk l X;simp;omega)
     first|omega|rfl|exact ga h (by assumption)|exact fh (by assumption)|exact fZ (by assumption)|(omega)|(omega)
     first|omega|rfl|exact ga h (by assumption)|exact fh (by assumption)|exact fZ (by assumption)|(omega)|(omega)
     . refine⟨(X+nat_lit 1),?_⟩;with_reducible and_intros
       first|omega|rfl|exact ga h (by assumption)|exact fh (by assumption)|exact fZ (by assumption)|(omega)|(omega)
       first|omega|rfl|exact ga h (by assumption)|exact fh (by assumption)|exact fZ (by assumption)|(omega)|(omega)
       first|omega|rfl|exact ga h (by assumption)|exact fh (by assumption)|exact fZ (by assumption)|(simp[gU,af,S.len] at *;omega)|(omega)
       first|omega|rfl|exact ga h (by assumption)|exact fh (by assumption)|exact fZ (by assumption)|(simp[gU,af,S.len] at *;omega)|(omega)
   intro c;simp only[df] at c;first|omega|rfl|exact ga h (by assumption)|exact fh (by assumption)|exact fZ (by assumption)|(omega)|(omega)
def aJI(n:Int):ct (ô n 2 1099511627776) (0=S.split n) (∃(a:Nat×Int),1=a.2/\jy n a.2 a.1) (∀(x:Nat×Int),jy n x.2 x.1->cE (2*x.2)/\eF (decide (2*x.2<n)) (cE (x.2*2)/\(∃(X:Nat×Int),x.2*2=X.2/\jy n X.2 X.1/\ö (n-X.2) (n-x.2))) (x.2=S.split n)):=by
 refine au ?_;refine⟨?_,?_⟩;grind[ZD];intro H;simp at H;refine⟨?_,?_⟩;refine⟨(0,1),?_⟩;grind[Mf];intro X h;with_reducible and_intros
 iterate 2
  (have:=kh h;omega)
 . intro c;simp at c;with_reducible and_intros
   (have:=kh h;omega)
   omega;refine⟨(X.1+1,2*X.2),?_⟩;grind[kh,CR]
 grind[df,kh,Fj]
def aJJ(l:O)(i:Int)(e:eX l):de (ct (jZ (Bool.not (cP l)) (US i 0 (bG l))) ([]=oz l i/\1=tF l i) (∃(c:O×Int×O),(l=c.1/\i=c.2.1/\[]=c.2.2)/\gD l i c) (∀(x:O×Int×O),gD l i x->bY (decide (1<bG x.1)) (de (bY (decide (x.2.1<wS x)) (gW (wS x) (bG x.1) (eW (RP x)/\length x.2.2+length [S.root (RP x)]<=8796093022208/\gW (wS x) (bG x.1) (∃(X:O×Int×O),(RO x=X.1/\x.2.1=X.2.1/\x.2.2++[S.root (RP x)]=X.2.2)/\gD l i X/\S.len X.1<S.len x.1))) (0<=wS x/\wS x<=bG x.1) (eW (RO x)) (length x.2.2+length [S.root (RO x)]<=8796093022208/\gW (wS x) (bG x.1) (cE (x.2.1-wS x)/\(∃(a:O×Int×O),(RP x=a.1/\x.2.1-wS x=a.2.1/\x.2.2++[S.root (RO x)]=a.2.2)/\gD l i a/\S.len a.1<S.len x.1))))) (S.small x.2.2) (Qq x.2.2=oz l i) (0=tF l i))):=by
 refine au ?_;have I:l.length<=1099511627776:=e;refine⟨?_,?_,?_⟩;trivial;intro f;grind[aGL];intro g;refine⟨?_,?_⟩;refine⟨((l),((i),([]))),?_⟩;grind[aly];intro X H;refine⟨?_,?_⟩
 . intro h;try simp only[dt] at h
   refine⟨?_,?_,?_⟩;trivial
   . intro j;with_reducible and_intros
     iterate 2
      (have q:=I1 I H h;omega)
     iterate 2
      (have q:=I1 I H h;grind)
     iterate 2
      (have q:=I1 I H h;omega)
     refine⟨((take (toNat (S.split (↑(length (X.1)):Int))) (X.1)),((X.2.1),(X.2.2++[S.root (drop (toNat (S.split (↑(length (X.1)):Int))) (X.1))]))),?_⟩;try dsimp only
     with_reducible and_intros
     iterate 3 rfl
     grind[aGM]
     (have q:=I1 I H h;omega)
   intro d;try simp only[df] at d
   with_reducible and_intros
   iterate 2
    (have q:=I1 I H h;omega)
   (have q:=I1 I H h;grind)
   (have q:=I1 I H h;exact q.2.2.2.1 _)
   iterate 4
    (have q:=I1 I H h;omega)
   refine⟨((drop (toNat (S.split (↑(length (X.1)):Int))) (X.1)),((X.2.1-S.split (↑(length (X.1)):Int)),(X.2.2++[S.root (take (toNat (S.split (↑(length (X.1)):Int))) (X.1))]))),?_⟩;try dsimp only
   with_reducible and_intros
   iterate 3 with_reducible rfl
   exact aGN I H h d
   (have q:=I1 I H h;omega)
 grind[df,aGO,avQ]
def aJK(l:U)(d:Vg.jE J.Di l):(∃(X:Nat),((0:Int)=X/\-1=cD l X)/\mu l X)/\(∀(x:Nat),mu l x->fL (decide (x<cV l)) 0 x (cV l) (ug (jZ (decide (js l x<=cD l x)) (decide (1000<=js l x))) (aV l) x (∃(a:Nat),gV x a (js l x=cD l a) (mu l a) (S.len l))) (true=aV l)):=by
 refine au ?_;have B:Vg.hlen l:=d.1.1;refine⟨?_,?_⟩;grind[vZ,avh];intro X e;refine⟨?_,?_⟩
 . intro h;simp only[dt] at h;with_reducible and_intros
   iterate 2 omega
   intro H;simp at H;exact akU h H;intro c;simp only[V.qF,df,tn] at c;with_reducible and_intros
   iterate 2 omega
   refine⟨(X+nat_lit 1),?_⟩;dsimp only;with_reducible and_intros
   omega;rw[lT,tn];exact S.Ū e h c;simp[af,S.len];omega
 grind[df,akV]
def aJL(l:U)(c:Vg.jE J.Di l):de (bY (Jp l) (1=qP l/\[]=jH l) (nB jV) (∃(a:Nat),((0:Int)=a/\-1=cD l a/\mq jV (length l)=b6 l a)/\a<=length l) (∀(x:Nat),wN (x<=length l) (decide ((x:Int)<length l)) x (length l) (cE (js l x-cD l x)/\cE (js l x-cD l x-1)/\nB jV/\nD (b6 l x) (mq jV (js l x-cD l x-1))/\dg x (∃(X:Nat),gV x X (js l x=cD l X/\b6 l x++mq jV (js l x-cD l x-1)=b6 l X) (X<=length l) (S.len l))) (0=qP l) (b6 l x=jH l))):=by
 refine au ?_;have B:Vg.hlen l:=c.1.1;clear c;refine⟨?_,?_,?_⟩;trivial;grind[nt,qP,jH];intro h;try simp only[nf] at h
 refine⟨?_,?_,?_⟩;grind;grind[vZ,mz,Uf,Kl];intro X d;refine⟨?_,?_⟩
 . intro H;try simp only[dt] at H
   with_reducible and_intros
   iterate 2 omega
   iterate 4
    have:=Ee h H;omega
   exact S! _;have:=(ym h H (getD l (toNat (X:Int)) 0-cD l X-1)).1;omega;iterate 2 omega
   refine⟨(X+1),?_⟩;try dsimp only
   with_reducible and_intros
   omega;rw[lT,tn];exact P4 h H;omega;simp only[af,S.len];omega
 grind[df,qP,akW]
def aJM(l:U):de (bY (cZ (qP l)) ([]=vY l/\qP l=qP l) (az (jH l)) (l7 2 (jH l)=vY l) (0=qP l)):=by
 refine au ?_;refine⟨?_,?_,?_⟩;trivial;grind[nt,df,aV,absurd,qP,vY];intro H;simp at H;refine⟨?_,?_,?_⟩
 have h:aV l=true:=by
  grind[aV,qP,absurd]
 have a:=Ax h;simp[jH,vY,h,Q?,az];omega
 have h:aV l=true:=by
  grind[aV,qP,absurd]
 simp_all[Ax,jH,vY,Q?,az]
 omega
def aJN(n:Int)(p q:Bool)(s S:Int):FC s n (decide (n<S))=yl n s S/\s=s/\S=S:=by
 refine au ?_;grind[yl]
def aw1(a b:U)(s c:Int)(f:b.length=0):de (gg (∃(e:U×U),((bif Jp a then([]:U) else a)=e.1/\(bif Jp b then([]:U) else b)=sF/\[]=e.2/\s=s/\c=c)/\nv a s c e.1 e.2) (∀(x:U×U),nv a s c x.1 x.2->bY (MD (gq (cV x.1)) 0 Jq) (fK (gq (cV x.1)) (Jv (dz Jq) 0 (cV x.1) Jq)/\fK (gq Jq) (Jv (dz (cV x.1)) 0 Jq (cV x.1))/\fK (Xo x) (Jw 0 (cV x.1) 1)/\fK (RF x) (Jw 0 Jq 1)/\zz (yl (RE x) s c) (zy x.2 [RE x]/\(∃(X:U×U),(tm (Xo x) 1 x.1=X.1/\tm (RF x) 1 sF=sF/\x.2++[RE x]=X.2/\s=s/\c=c)/\nv a s c X.1 X.2/\S.len X.1<S.len x.1)) (∃(d:U×U),(tm (Xo x) 1 x.1=d.1/\tm (RF x) 1 sF=sF/\x.2=d.2/\s=s/\c=c)/\nv a s c d.1 d.2/\S.len d.1<S.len x.1)) (s=s) (c=c) (x.2=P2 a s c))):=by
 refine au ?_;have g:b=[]:=List.eq_nil_of_length_eq_zero f;subst g;refine⟨trivial,trivial,?_,?_⟩;refine⟨(tA a,[]),⟨?_,?_,rfl,rfl,rfl⟩,avi a s c⟩;grind[tA,aV];rfl;rintro⟨r,o⟩ h;have i:=h.2;cases r with
 |nil=>grind[sF,akY]
 |cons n r=>
  simp[sF];refine⟨w!,λH=>⟨?_,?_⟩,λH=>?_⟩;grind;exact⟨r,o++[n],⟨rfl,rfl⟩,akX h H,by simp[S.len]⟩;exact⟨r,o,⟨rfl,rfl⟩,ao4 h H,by simp[S.len]⟩
def aw2(l:U)(s S:Int):length (Vg.pV Int)=0/\P2 l s S=P2 l s S:=by
 grind
def aw3(l:U)(H:aV l=true)(f:Vg.jE J.Di l):(0:Int)<=wP l/\(∃(X:Nat),((0:Int)=X/\S.num (wP l)=b6 l X)/\X<=wP l)/\(∀(x:Nat),x<=wP l->eF (decide ((x:Int)<wP l)) (ct (dz x) (((0:Int)<=0/\(0:Int)<wP l)/\0<=gT l/\MK (length (b6 l x)) (S.num (gT l))/\dg x (∃(a:Nat),xQ x a (b6 l x++S.num (gT l)=b6 l a) (a<=wP l) (S.len l) a (af (S.len l) x))) ((0:Int)<=x/\(x:Int)<wP l) (mg (x-1) 0 (wP l) (cE (Ld l x)/\cE (Ld l x-1)/\0<=Ld l x-1/\MK (length (b6 l x)) (S.num (Ld l x-1))/\dg x (∃(c:Nat),xQ x c (b6 l x++S.num (Ld l x-1)=b6 l c) (c<=wP l) (S.len l) c (af (S.len l) x))))) (b6 l x=iH l)):=by
 refine au ?_;have B:Vg.hlen l:=f.1.1;refine⟨?_,?_,?_⟩;omega;grind[Kl]
 . intro X i;refine⟨?_,?_⟩
   . intro h;simp only[dt] at h;refine⟨?_,?_⟩
     . intro d;simp only[dt] at d;with_reducible and_intros
       omega;omega;have:=Ee H h;rw[show(X:Int)=0 by omega] at this;exact this.2.2;have:=(ym H h (getD l (toNat 0) 0)).2;omega;omega;omega
       . refine⟨(X+nat_lit 1),?_⟩;dsimp only;with_reducible and_intros
         omega;exact Wm d;omega;simp[af,S.len];omega
     . intro e;simp only[df] at e;with_reducible and_intros
       omega;omega;omega;omega;omega;omega
       iterate 5
        have:=Ee H h;rw[P3 w!];omega
       have:=(ym H h (getD l (toNat (X:Int)) 0-getD l (toNat ((X:Int)-1)) 0-1)).2;omega;omega;omega
       . refine⟨(X+nat_lit 1),?_⟩;dsimp only;with_reducible and_intros
         omega;exact ZF e;omega;simp[af,S.len];omega
   intro g;simp at g;rw[show X=l.length by omega];rfl
def aw4(l:U)(h:aV l=true):aV l/\qi (iH l) (pB 2 (iH l)=kl l):=by
 refine au ?_;refine⟨?_,?_,?_⟩;omega;grind[Ax,az];rfl
def aw5(a b:U)(e:Vg.jE J.Ra (a,b)):ct (oD (cV a) (cV b)) (false=lG a b) (∃(c:Nat),(0:Int)=c/\xr a b c) (∀(x:Nat),xr a b x->fL (decide (x<cV a)) 0 x (cV a) (jW x (cV b) (ug (oD (getD a (toNat x) 0) (getD b (toNat x) 0)) (lG a b) x (∃(X:Nat),oZ x X (xr a b X) (S.len a)))) (true=lG a b)):=by
 refine au ?_;have A:Vg.hlen a:=e.1.1;refine⟨?_,?_⟩;grind[nt,df,ak0];intro f;simp at f;refine⟨?_,?_⟩;grind[avj];intro X g;refine⟨?_,?_⟩
 . intro h;simp only[dt] at h;with_reducible and_intros
   iterate 4 omega
   intro H;simp at H;exact akZ H;intro d;simp at d;with_reducible and_intros
   iterate 2 omega
   refine⟨(X+nat_lit 1),?_⟩;dsimp only;refine⟨?_,?_,?_⟩;omega;exact S.ū g h d;simp[af,S.len];omega
 grind[df,ak1]
def aw6(d:M (B8×U))(c:aW d):(∃(X:Nat),(0:Int)=X/\Mg d X)/\(∀(x:Nat),Mg d x->fL (decide (x<nC d)) 0 x (nC d) (fK (gq x) (cE (x-1)/\(0:Int)<=x-1/\x-1<nC d)/\ct (oh (gq x) (aga (mZ d x).1 (mZ d (x-1)).1)) (false=aK d) (mY (dz (cV (mZ d x).2)) (de (mY (Jp (mZ d x).2) (S.small (mZ d x).1)))) (ug (jZ (dz (cV (mZ d x).2)) (xO (Jp (mZ d x).2) (S.isTerm (mZ d x).1))) (aK d) x (∃(f:Nat),oZ x f (Mg d f) (S.len d)))) (true=aK d)):=by
 refine au ?_;have I:=c.1;refine⟨?_,?_⟩;grind[aM8];intro X i;refine⟨?_,?_⟩
 . intro a;simp only[dt] at a;with_reducible and_intros
   iterate 2 omega
   iterate 2 grind
   intro g;simp only[V.aEl,dt] at g;refine aeS a ((P5 _ _).2 (.inl ⟨w!,?_⟩));have e:toNat ((X:Int)-1)=X-1:=by omega
   have H:=g.2;rw[e] at H;exact H;intro h;simp only[V.V3,df] at h;with_reducible and_intros
   grind;intro j;refine⟨?_,?_,?_⟩;trivial;grind;intro l;exact ak2 c;intro k;simp only[V.Nb,dt,tn,nt] at k;exact aeS a ((P5 _ _).2 (.inr (k.imp (λq=>by grind[iD]) id)));intro o;simp at o;with_reducible and_intros
   iterate 2 omega
   refine⟨(X+nat_lit 1),?_⟩;dsimp only;refine⟨?_,?_,?_⟩;omega
   . refine ao5 i a ((qR _ _).2 ⟨?_,?_,o.2.1,o.2.2⟩);rotate_left;grind[iD];rcases h with h|h;omega;right;have e:toNat ((X:Int)-1)=X-1:=by omega
     rw[e] at h;exact h
   grind[af,S.len]
 grind[df,avk]
def aw7(l L a:B8):bY (Jn 64 (fU l) (Jn 64 (fU L) (oD (length a) 32))) ([]=dw l L a/\1=kJ l L a) (oR jV l) (oR ([]++S.text l) L) (Js ([]++S.text l++S.text L) (length a)/\[]++S.text l++S.text L++a=dw l L a/\0=kJ l L a):=by
 refine au ?_;refine⟨?_,?_⟩;simp_all[V.Nb,dt,nt,df,S.ű,dw,kJ]
 intro h;simp only[V.qF,df,nf,dt] at h;apply SU;exact Mi (Nat.zero_le _) w!;have t:=zd (s:=l);exact Mi (by rw[List.nil_append];omega) w!;grind[CX,ta,zd,List.length_append,ln];have H:=CX h;simp only[dw,H,if_true];rfl;simp_all[CX,ta,zd,kJ,if_true]
def aw8(b:B8)(H:b.length<=140737488355328):jM b/\jM (ao b 0 0 64).1.1/\jM (KZ b).1.1/\zz (cZ (S.done (Dt b).1.1 (Dt b).1.2.1 (Dt b).1.2.2)) ([]=(bg b).1.1/\[]=(bg b).1.2.1/\[]=(bg b).1.2.2/\S.done (Dt b).1.1 (Dt b).1.2.1 (Dt b).1.2.2=(bg b).2) ((ao b 0 0 64).2=(bg b).1.1/\(KZ b).2=(bg b).1.2.1/\(Dt b).2=(bg b).1.2.2/\0=(bg b).2):=by
 refine au ?_;refine⟨H,?_,?_,trivial,λh=>?_,λh=>?_⟩;grind[CV];grind[CV];have a:(!decide (S.done (v7 b).1.1 (v7 b).1.2.1 (v7 b).1.2.2=0))=true:=h
 have e:bg b=(([],[],[]),S.done (v7 b).1.1 (v7 b).1.2.1 (v7 b).1.2.2):=by
  simp_all[bg,R!,L?]
 rw[e];exact⟨rfl,rfl,rfl,rfl⟩;have a:(!decide (S.done (v7 b).1.1 (v7 b).1.2.1 (v7 b).1.2.2=0))=false:=h
 have e:bg b=(((S.Ŭ b).2,(Wn b).2,(v7 b).2),0):=by
  grind[bg]
 rw[e];exact⟨rfl,rfl,rfl,rfl⟩
def aw9(d:M (B8×U))(H:aW d):wL d (ot (Bool.not (aK d)) (1=dE d/\[]=bn d) (tQ d+1) ((∃(a:Nat),((0:Int)=a/\[]=eM d a)/\a<=tQ d+1)/\(∀(x:Nat),x<=tQ d+1->ct (decide ((x:Int)<tQ d+1)) (fK (gq x) (mg (x-1) 0 (tQ d) (cE (x-1)/\(0:Int)<=x-1/\(x:Int)-1<tQ d))/\fK (decide ((x:Int)<tQ d)) ((0:Int)<=x/\(x:Int)<tQ d)/\de (gg (zx (length (eM d x)+length (aaZ d x))) (dg x (∃(X:Nat),gV x X (eM d x++aaZ d x=eM d X) (X<=tQ d+1) (S.len d+1))))) (0=dE d) (eM d x=bn d)))):=by
 refine au ?_;have i:=H.1;refine⟨?_,?_,?_⟩;omega;grind[nt,dE,bn];intro h;simp at h;with_reducible and_intros
 iterate 2 omega
 . refine⟨(nat_lit 0:Nat),?_⟩;dsimp only;with_reducible and_intros
   omega;rfl;omega
 intro X f;refine V.dI (λg=>?_) λF=>?_
 . with_reducible and_intros
   . intro c;simp at c;with_reducible and_intros
     iterate 8 omega
   intro j;trivial;intro e;try simp at e
   refine⟨?_,?_⟩;omega;omega;intro k;trivial;iterate 2 trivial
   rw[Gq];simp;omega;iterate 2 omega
   refine⟨(X+nat_lit 1),?_⟩;try dsimp only
   with_reducible and_intros
   omega;rw[avn h w!,Mh];omega;simp[af,S.len];omega
 refine⟨?_,?_⟩;simp only[dE,h];rfl;simp[bn,h,Q?];rw[show X=d.length+1 by omega];rfl
def axa(d:M (B8×U))(c:aW d):wL d (bY (cZ (dE d)) ([]=pG d/\dE d=dE d) (dj (bn d)) (S.small (S.leaves (bn d))) (kI (S.leaves (bn d))=pG d/\yk (S.leaves (bn d))=dE d)):=by
 refine au ?_;refine⟨?_,?_,?_⟩;omega;grind[nt,df,pG,aM9];intro a;simp at a;refine⟨?_,?_,?_,?_⟩;have h:=IM a;have H:=kK c h;simp_all[bn,dW,if_true]
 have h:=IM a;have H:=kK c h;have e:bn d=dW d:=by simp_all[bn,Q?]
 rw[e];exact H.2.2;have h:=IM a;have H:=kK c h;have e:bn d=dW d:=by simp_all[bn,Q?]
 rw[e];simp[pG,kI,h,H.2.1,Q?];rfl;have h:=IM a;have H:=kK c h;have e:bn d=dW d:=by simp_all[bn,Q?]
 rw[e];simp[dE,yk,h,H.2.1,Q?]
def axb(d:M (B8×U))(t:B8)(c:aW d):wL d (ct (Bool.not (aK d)) (-1=bo d t/\false=fE d t) (∃(a:Nat),((0:Int)=a/\-1=dB d t a)/\a<=length d) (∀(x:Nat),wN (x<=length d) (decide ((x:Int)<length d)) x (length d) (dg x (∃(X:Nat),gV x X ((bif aga (mZ d x).1 t then(x:Int) else dB d t x)=dB d t X) (X<=length d) (S.len d))) (fK (pM (dB d t x)) (0<=dB d t x/\dB d t x<length d)) ((bif pM (dB d t x) then dB d t x else dB d t x)=bo d t/\MG (pM (dB d t x)) (mZ d (dB d t x)).1 t=fE d t))):=by
 refine au ?_;have i:=c.1;refine⟨?_,?_,?_⟩;omega;intro h;simp at h;refine⟨?_,?_⟩;exact(Ui h).1;exact(Ui h).2;intro H;simp at H;refine⟨?_,?_⟩
 . refine⟨(nat_lit 0:Nat),?_⟩;dsimp only;with_reducible and_intros
   omega;rfl;omega
 intro X f;refine V.dI (λg=>?_) λj=>?_
 . with_reducible and_intros
   iterate 4 omega
   refine⟨(X+nat_lit 1),?_⟩;dsimp only;with_reducible and_intros
   omega;exact avo d t X;omega;simp[af,S.len];omega
 with_reducible and_intros
 intro e;simp at e;refine⟨?_,?_⟩;omega;have:=(IL (d:=d) (t:=t) X).2;omega;intro k;trivial;rw[show X=d.length by omega,ao6 H];cases decide (0<=bo d t)<;>rfl;rw[show X=d.length by omega];exact ao7 H
def axc(d:M (B8×U))(t:B8)(h:aW d):wL d (bY (Bool.not (fE d t)) ([]=dN d t) (0<=bo d t/\bo d t<nC d) (S.small (mZ d (bo d t)).2) ((mZ d (bo d t)).2=dN d t)):=by
 refine au ?_;grind[nt,aeU,nf,Ef,avt]
def axd(d:O)(s a:Int)(g:Vg.jE J.Rc (d,s,a)):(∃(X:Nat),(0:Int)=X/\qQ d X)/\(∀(x:Nat),qQ d x->fL (decide (x<bG d)) 0 x (bG d) (ug (Jr 2000 (eN d x)) (dm d s a) x (∃(c:Nat),oZ x c (qQ d c) (S.len d))) (FC (bG d) 1000 (FC 0 s (ME s a (bG d)))=dm d s a)):=by
 refine au ?_;have A:Vg.hlen d:=g.1.1;refine⟨?_,?_⟩;grind[xt]
 . intro X H;refine⟨?_,?_⟩
   . intro h;simp only[dt] at h;with_reducible and_intros
     first|omega|exact xt d|(omega)
     first|omega|exact xt d|(omega)
     intro e;simp at e;exact Ug h e
     . intro i;simp only[df,tn] at i;with_reducible and_intros
       first|omega|exact xt d|(omega)
       first|omega|exact xt d|(omega)
       refine⟨(X+nat_lit 1),?_⟩;dsimp only;refine⟨?_,?_,?_⟩;first|omega|exact xt d|(omega)
       exact P7 H h w!;first|omega|exact xt d|(simp[af,S.len];omega)
   intro f;simp only[df] at f;have q:=Uh H f;simp[dm,q,Bool.true_and,vV]
def axe(b t:B8)(h:S.small b):qh b (decide (0<cV (S.places b t))=ub b t):=by
 refine au ?_;refine⟨?_,?_⟩;omega;rfl
def axf(l L a:B8)(h:eR l L a=true):qh l (qh L (nD (S.text l) (S.text L)/\nD (S.text l++S.text L) a/\S.text l++S.text L++a=mc l L a)):=by
 refine au ?_;have q:=(ta _ _ _).1 h;have t:=zd (s:=l);have T:=zd (s:=L);apply SU;iterate 2 (grind[S.small])
 omega;grind;rfl
def axg(d:M (B8×U))(h:aW d/\aK d=true):(∃(X:Nat),(-(1:Int)=X-1/\[]=eM d X)/\X<=Xv d+1)/\(∀(x:Nat),x<=Xv d+1->eF (decide ((x:Int)-1<Xv d)) (aV (Vg.pV Int)/\fK (pM (x-1)) (jW (x-1) (Xv d) (jW (x-1) (Xv d) (aV (mZ d (x-1)).2=true)))/\cE (x-1+1)/\fK (decide ((x:Int)-1+1<Xv d)) (cE (x-1+1)/\(0:Int)<=x-1+1/\(x:Int)-1+1<Xv d)/\eR (abj d x) (Xu d x) (Xw d x)/\zx (length (eM d x)+length [mc (abj d x) (Xu d x) (Xw d x)])/\cE (x-1+1)/\(∃(a:Nat),((x:Int)-1+1=a-1/\eM d x++[mc (abj d x) (Xu d x) (Xw d x)]=eM d a)/\a<=Xv d+1/\wK (S.len d+1) a x)) (eM d x=dW d)):=by
 refine au ?_;have I:=h.1.1;refine⟨?_,?_⟩
 . refine⟨0,?_⟩;with_reducible and_intros
   rfl;rfl;omega
 . intro X m;refine⟨?_,?_⟩
   . intro H;simp at H;with_reducible and_intros
     rfl
     . intro g;simp at g;with_reducible and_intros
       first|omega|exact h.1|(omega)
       first|omega|exact h.1|(omega)
       first|omega|exact h.1|(omega)
       first|omega|exact h.1|(omega)
       have e:toNat ((X:Int)-1)=X-1:=by omega
       rw[e];exact(v8 h.2 (i:=X-1) w!).2
     intro n;trivial;first|omega|exact h.1|(omega)
     first|omega|exact h.1|(omega)
     . intro j;simp at j;with_reducible and_intros
       first|omega|exact h.1|(omega)
       first|omega|exact h.1|(omega)
       first|omega|exact h.1|(omega)
       first|omega|exact h.1|(omega)
     intro o;trivial;obtain⟨E,c,f⟩:=aeT d X;rw[E,c,f];rcases wa h.2 (k:=X) with q|q;exact q;omega;rw[Gq];simp;omega;first|omega|exact h.1|(omega)
     first|omega|exact h.1|(omega)
     . refine⟨X+1,?_⟩;with_reducible and_intros
       first|omega|exact h.1|(omega)
       obtain⟨E,c,f⟩:=aeT d X;rw[E,c,f];exact Mh d X;first|omega|exact h.1|(omega)
       first|omega|exact h.1|(simp[af,S.len];omega)
   intro l;simp at l;rw[show X=d.length+1 by omega];rfl
def axh(d:M (B8×U))(h:aW d/\aK d=true):wL d (aK d=true)/\dj (dW d)/\eW (S.leaves (dW d))/\S.root (S.leaves (dW d))=oa d:=by
 refine au ?_;with_reducible and_intros
 grind;grind;grind[kK];grind[kK];rfl
def axi(a b:M (B8×U))(f:Vg.jE J.arf (a,b)):ct (oD (nC a) (nC b)) (false=iZ a b) (∃(g:Nat),(0:Int)=g/\mv a b g) (∀(x:Nat),mv a b x->fL (decide (x<nC a)) 0 x (nC a) (rj x (nC b) (ct (MH (getD a (toNat x) ([],[])).1 (getD b (toNat x) ([],[])).1) True ((0:Int)<=x/\x<nC a) (jW x (nC b) True)) (ug (xO (MH (getD a (toNat x) ([],[])).1 (getD b (toNat x) ([],[])).1) (lG (getD a (toNat x) ([],[])).2 (getD b (toNat x) ([],[])).2)) (iZ a b) x (∃(X:Nat),oZ x X (mv a b X) (S.len a)))) (true=iZ a b)):=by
 refine au ?_;have A:Vg.hlen a:=f.1.1;clear f;refine⟨?_,?_⟩;grind[nt,df,km,gC]
 . intro h;refine⟨?_,?_⟩;grind[km,gC]
   . intro X H;refine⟨?_,?_⟩
     . intro i;try simp only[dt] at i
       with_reducible and_intros
       first|omega|exact km h|exact gC h1|(omega)|(omega)
       first|omega|exact km h|exact gC h1|(omega)|(omega)
       first|omega|exact km h|exact gC h1|(omega)|(omega)
       first|omega|exact km h|exact gC h1|(omega)|(have:=H.1;omega)
       intro j;trivial
       . intro l;with_reducible and_intros
         first|omega|exact km h|exact gC h1|(omega)|(have:=H.1;omega)
         first|omega|exact km h|exact gC h1|(omega)|(omega)
         first|omega|exact km h|exact gC h1|(omega)|(omega)
         first|omega|exact km h|exact gC h1|(omega)|(have:=H.1;omega)
         trivial
       intro c;try simp only[V.Nb,nt,df,tn] at c
       refine S.ů (k:=X) λe=>?_;rw[e] at c;rcases c with q|q;exact q rfl;simp[lG] at q
       . intro d;try simp at d
         with_reducible and_intros
         first|omega|exact km h|exact gC h1|(omega)|(omega)
         first|omega|exact km h|exact gC h1|(omega)|(have:=H.1;omega)
         refine⟨(X+nat_lit 1),?_⟩;refine⟨?_,?_,?_⟩;first|omega|exact km h|exact gC h1|(simp only[af,S.len];omega)|(have:=H.1;omega)
         exact ZG H i (Prod.ext d.1 (by simpa[lG] using d.2));first|omega|exact km h|exact gC h1|(simp only[af,S.len];omega)|(have:=H.1;omega)
     grind[df,S.Ű]
def axj(d:O)(s f:Int)(h:gb d s f):(∃(x:Nat),(s=s+x/\[]=b7 d s x)/\gf s f x)/\(∀(g:Nat),gf s f g->bY (decide (s+g<f)) ((0<=s+g/\s+g<bG d)/\S.small (eN d (s+g))/\By (b7 d s g) (S.sorted (aS (eN d (s+g))))/\cE (s+g+1)/\(∃(r:Nat),(s+g+1=s+r/\b7 d s g++S.sorted (aS (eN d (s+g)))=b7 d s r)/\gf s f r/\wK (toNat (f-s)) r g)) (S.small (b7 d s g)) (∃(u:Nat),((0:Int)=u/\[]=mS d s f u)/\gU (b8 d s f) u) (∀(i:Nat),gU (b8 d s f) i->fL (decide ((i:Int)<G6 d s g)) 0 i (G6 d s g) (toNat i<G6 d s g/\(∃(l:Nat×B8),(s=s+l.1/\Le d s g i=l.2/\[]=bA d s l.2 l.1)/\gf s f l.1/\Le d s g i=l.2)/\(∀(X:Nat×B8),wN (gf s f X.1/\Le d s g i=X.2) (decide (s+X.1<f)) (s+X.1) (bG d) (((0:Int)<=i/\(i:Int)<G6 d s g)/\toNat i<G6 d s g/\qh (eN d (s+X.1)) (ot (ub (eN d (s+X.1)) (Le d s g i)) (zy (bA d s X.2 X.1) [s+X.1]/\cE (s+X.1+1)/\(∃(j:Nat×B8),(s+X.1+1=s+j.1/\X.2=j.2/\bA d s X.2 X.1++[s+X.1]=bA d s j.2 j.1)/\(gf s f j.1/\Le d s g i=j.2)/\af (toNat (f-s)) j.1<af (toNat (f-s)) X.1)) (s+X.1+1) (∃(k:Nat×B8),(s+X.1+1=s+k.1/\X.2=k.2/\bA d s X.2 X.1=bA d s k.2 k.1)/\(gf s f k.1/\Le d s g i=k.2)/\af (toNat (f-s)) k.1<af (toNat (f-s)) X.1))) (MF (length (mS d s f i)+length [(X.2,bA d s X.2 X.1)])) (dg i (∃(v:Nat),gV i v (mS d s f i++[(X.2,bA d s X.2 X.1)]=mS d s f v) (gU (b8 d s f) v) (S.len (b8 d s f)))))) (mS d s f i=S.make d s f))):=by
 refine au ?_;have P:=h.1;have p:=h.2.1;have z:=h.2.2.1;have A:=h.2.2.2.1;refine⟨?_,?_⟩;grind[bp,bc,b7,cK,ao8,gf]
 . intro x H;refine⟨?_,?_⟩
   . intro y;try simp only[dt] at y
     with_reducible and_intros
     first|omega|rfl|(have Q:=bp h x;have a:=bc (b7 d s x);have c:=cK H p;omega)
     first|omega|rfl|(have Q:=bp h x;have a:=bc (b7 d s x);have c:=cK H p;omega)
     exact P8 h _;have Q:=bp h x;have a:=CY h (toNat (s+(x:Int)));simp only[gf] at H;omega;first|omega|rfl|(have Q:=bp h x;have a:=bc (b7 d s x);have c:=cK H p;omega)
     first|omega|rfl|(have Q:=bp h x;have a:=bc (b7 d s x);have c:=cK H p;omega)
     . refine⟨x+1,?_⟩;try dsimp only
       with_reducible and_intros
       first|omega|rfl|(have Q:=bp h x;have a:=bc (b7 d s x);have c:=cK H p;omega)
       exact xu d s x;simp only[gf];omega;simp only[af];omega
   . intro n;try simp only[df] at n
     refine⟨?_,?_,?_⟩;have Q:=bp h x;simp only[gf] at H;simp only[S.small];omega
     . refine⟨(nat_lit 0:Nat),?_⟩;try dsimp only
       with_reducible and_intros
       first|omega|rfl|(have Q:=bp h x;have a:=bc (b7 d s x);have c:=cK H p;omega)
       first|omega|rfl|(have Q:=bp h x;have a:=bc (b7 d s x);have c:=cK H p;omega)
       exact S! _
     . intro i B;refine⟨?_,?_⟩
       . intro t;try simp only[dt] at t
         with_reducible and_intros
         first|omega|rfl|(have Q:=bp h x;have a:=bc (b7 d s x);have c:=cK H p;omega)
         first|omega|rfl|(have Q:=bp h x;have a:=bc (b7 d s x);have c:=cK H p;omega)
         first|omega|rfl|(have Q:=bp h x;have a:=bc (b7 d s x);have c:=cK H p;omega)
         . refine⟨(0,getD (S.sorted (b7 d s x)) (toNat (i:Int)) []),?_⟩;try dsimp only
           with_reducible and_intros
           first|omega|rfl|(have Q:=bp h x;have a:=bc (b7 d s x);have c:=cK H p;omega)
           first|omega|rfl|(have Q:=bp h x;have a:=bc (b7 d s x);have c:=cK H p;omega)
           exact ak4 _ _ _;simp only[gf];omega;first|omega|rfl|(have Q:=bp h x;have a:=bc (b7 d s x);have c:=cK H p;omega)
         . intro j m;refine⟨?_,?_⟩
           . intro F;try simp only[dt] at F
             with_reducible and_intros
             first|omega|rfl|(have Q:=bp h x;have a:=bc (b7 d s x);have c:=cK H p;omega)
             first|omega|rfl|(have Q:=bp h x;have a:=bc (b7 d s x);have c:=cK H p;omega)
             first|omega|rfl|(have Q:=bp h x;have a:=bc (b7 d s x);have c:=cK H p;omega)
             first|omega|rfl|(have Q:=bp h x;have a:=bc (b7 d s x);have c:=cK H p;omega)
             first|omega|rfl|(have Q:=bp h x;have a:=bc (b7 d s x);have c:=cK H p;omega)
             exact P8 h _
             . intro I;with_reducible and_intros
               have q:=Mj d s j.2 j.1;simp only[lc,ln];omega;first|omega|rfl|(have Q:=bp h x;have a:=bc (b7 d s x);have c:=cK H p;omega)
               first|omega|rfl|(have Q:=bp h x;have a:=bc (b7 d s x);have c:=cK H p;omega)
               . refine⟨(j.1+1,j.2),?_⟩;try dsimp only
                 with_reducible and_intros
                 first|omega|rfl|(have Q:=bp h x;have a:=bc (b7 d s x);have c:=cK H p;omega)
                 first|omega|rfl|(have Q:=bp h x;have a:=bc (b7 d s x);have c:=cK H p;omega)
                 rw[m.2] at I;exact CZ I;simp only[gf];omega;exact m.2;simp only[af];omega
             . intro K;with_reducible and_intros
               first|omega|rfl|(have Q:=bp h x;have a:=bc (b7 d s x);have c:=cK H p;omega)
               first|omega|rfl|(have Q:=bp h x;have a:=bc (b7 d s x);have c:=cK H p;omega)
               . refine⟨(j.1+1,j.2),?_⟩;try dsimp only
                 with_reducible and_intros
                 first|omega|rfl|(have Q:=bp h x;have a:=bc (b7 d s x);have c:=cK H p;omega)
                 first|omega|rfl|(have Q:=bp h x;have a:=bc (b7 d s x);have c:=cK H p;omega)
                 rw[m.2] at K;exact Gr K;simp only[gf];omega;exact m.2;simp only[af];omega
           . intro w;try simp only[df] at w
             with_reducible and_intros
             have q:=ZI d s f i;have Q:=bp h x;have a:=bc (b7 d s x);have c:=cK H p;simp only[lc,ln];omega;first|omega|rfl|(have Q:=bp h x;have a:=bc (b7 d s x);have c:=cK H p;omega)
             first|omega|rfl|(have Q:=bp h x;have a:=bc (b7 d s x);have c:=cK H p;omega)
             . refine⟨(i+nat_lit 1),?_⟩;try dsimp only
               with_reducible and_intros
               first|omega|rfl|(have Q:=bp h x;have a:=bc (b7 d s x);have c:=cK H p;omega)
               have e:=ze (docs:=d) H n;have o:=m.2;rw[e.1] at t o;exact IN w! (ze (docs:=d) m.1 w).2 o;have e:=ze (docs:=d) H n;rw[e.1] at t;simp only[gU,af,S.len];omega;have e:=ze (docs:=d) H n;rw[e.1] at t;simp only[gU,af,S.len];omega
       intro R;try simp only[df] at R
       have e:=ze (docs:=d) H n;rw[e.1] at R;exact Mk w!
def aPJ(d:M (B8×U))(H:Vg.jE J.Rb d):(∃(X:Nat),(0:Int)=X/\aGB d X)/\(∀(x:Nat),aGB d x->fL (decide (x<nC d)) 0 x (nC d) (mY (Jr 200 (mZ d x).1) ((0:Int)<=x/\x<nC d)/\rH (MD (Jr 200 (mZ d x).1) 200 (cV (mZ d x).2)) (true=xw d) x (∃(a:Nat),oZ x a (aGB d a) (S.len d))) (decide (100<nC d)=xw d)):=by
 refine au ?_;have A:Vg.hlen d:=H.1.1;clear H;refine⟨?_,?_⟩;refine⟨(nat_lit 0:Nat),?_⟩;try dsimp only
 refine⟨?_,?_⟩;omega;exact aNZ d;intro X c;refine⟨?_,?_⟩
 . intro h;try simp only[dt] at h
   with_reducible and_intros
   iterate 2 omega
   intro i;try simp only[dt,tn] at i
   trivial;intro j;try simp only[df,tn] at j
   refine⟨?_,?_⟩;omega;omega;intro e;try simp only[V.Nb,dt,tn] at e
   refine aw0 h ?_;simp only[aeV,Y?,dt];exact e;intro f;try simp only[V.qF,df,tn] at f
   with_reducible and_intros
   iterate 2 omega
   refine⟨(X+nat_lit 1),?_⟩;try dsimp only
   refine⟨?_,?_,?_⟩;omega;refine aq3 c h ?_;simp only[aeV,a?,df];exact f;simp only[af,S.len];omega
 intro g;try simp only[df] at g
 exact azc c g
def aPK(d:O)(H:Vg.jE J.af6 d):(∃(X:Nat),(0:Int)=X/\aGC d X)/\(∀(x:Nat),aGC d x->fL (decide (x<bG d)) 0 x (bG d) (rH (Jr 2500 (eN d x)) (true=Ny d) x (∃(a:Nat),oZ x a (aGC d a) (S.len d))) (decide (40<bG d)=Ny d)):=by
 refine au ?_;have A:Vg.hlen d:=H.1.1;clear H;refine⟨?_,?_⟩;refine⟨(nat_lit 0:Nat),?_⟩;try dsimp only
 refine⟨?_,?_⟩;omega;exact aOg d;intro X c;refine⟨?_,?_⟩
 . intro h;try simp only[dt] at h
   with_reducible and_intros
   iterate 2 omega
   intro e;try simp only[dt,tn] at e
   exact aDH h e;intro f;try simp only[df,tn] at f
   with_reducible and_intros
   iterate 2 omega
   refine⟨(X+nat_lit 1),?_⟩;try dsimp only
   refine⟨?_,?_,?_⟩;omega;exact arM c h f;simp only[af,S.len];omega
 intro g;try simp only[df] at g
 exact aDI c g
def axk(s S:Int):FC 0 s (oh (decide (s<S)) (decide (S<=1000)))=me s S:=by
 refine au ?_;grind[me,vV]
def axl(a c:Int)(s:M (B8×U))(k:aW s)(g:Vg.jE J.ë (a,c,s)):gg (mY (Bool.not (me a c)) (aW s)) (ct (xO (Bool.not (me a c)) (aK s)) (false=eS a c s) (∃(X:Nat),(0:Int)=X/\xv a c s X) (∀(x:Nat),xv a c s x->fL (decide (x<nC s)) 0 x (nC s) (de (ug (oD (cV (P2 (mZ s x).2 a c)) (cV (mZ s x).2)) (eS a c s) x (∃(d:Nat),oZ x d (xv a c s d) (S.len s)))) (true=eS a c s))):=by
 refine au ?_;have A:Vg.hlen s:=g.2.2.1.1;with_reducible and_intros
 trivial;iterate 2 grind
 intro H;simp at H;exact avq H;intro l;refine⟨?_,?_⟩;grind[aGA];intro i j;refine⟨?_,?_⟩
 . intro h;simp only[dt] at h;with_reducible and_intros
   iterate 2 omega
   trivial;intro e;simp at e;exact apc h (e? e);intro f;simp at f;with_reducible and_intros
   iterate 2 omega
   refine⟨(i+nat_lit 1),?_⟩;dsimp only;refine⟨?_,?_,?_⟩;omega;exact ak8 j h (decide_eq_true f);simp[af,S.len];omega
 grind[df,apd]
def axm(a c:Int)(s:M (B8×U))(h:aW s):wL s (ct (Bool.not (eS a c s)) (0=(tB a c s).1.1/\0=(tB a c s).1.2.1/\0=(tB a c s).1.2.2.1/\[]=(tB a c s).1.2.2.2/\1=(tB a c s).2) (aW s) (ot (cZ (dE s)) (0=(tB a c s).1.1/\0=(tB a c s).1.2.1/\0=(tB a c s).1.2.2.1/\[]=(tB a c s).1.2.2.2/\1=(tB a c s).2) (nC s+1) (a=(tB a c s).1.1/\c=(tB a c s).1.2.1/\nC s+1=(tB a c s).1.2.2.1/\pG s=(tB a c s).1.2.2.2/\0=(tB a c s).2))):=by
 refine au ?_;have i:=h.1;refine⟨?_,?_,?_⟩;omega;grind[nt,S.ų];intro H;refine⟨?_,?_,?_⟩;omega;grind[nt,df,Mm];grind[Mm]
def axn(S a s:Int)(c:B8):de (oh (me S a) (FC 1 s (FC s 1099511627776 (decide (fU c=32))))=ow S a s c):=by
 refine au ?_;grind[ow,vV]
def axo(d:O)(s S:Int):de (eF (cZ (lH d s S).2) (0=(dp d s S).1.1/\0=(dp d s S).1.2.1/\[]=(dp d s S).1.2.2/\(lH d s S).2=(dp d s S).2) (eF (decide (s=S)) (0=(dp d s S).1.1/\0=(dp d s S).1.2.1/\[]=(dp d s S).1.2.2/\1=(dp d s S).2) (s=(dp d s S).1.1/\S=(dp d s S).1.2.1/\(lH d s S).1=(dp d s S).1.2.2/\0=(dp d s S).2))):=by
 refine au ?_;simp_all[nt,df,ape,nf,dt,apg,aph]
def axp(l:M (Int×Int×Int×B8))(n:Int):ct (GY (length l)) (false=rE l n) (∃(a:Nat),((0:Int)=a/\0=S.rowAt l a)/\S.yU l a) (∀(x:Nat),S.yU l x->fL (decide ((x:Int)<length l)) 0 x (length l) (lJ (Bool.not (Bool.rec false (Bool.rec false (decide ((lK l x).2.2.2=(lK l x).2.2.2)) (decide ((lK l x).2.2.1=(lK l x).2.2.1))) (Bool.rec false (decide ((lK l x).2.1=(lK l x).2.1)) (decide ((lK l x).1=S.rowAt l x)))))/\ug (xO (Bool.not (Bool.rec false (Bool.rec false (decide ((lK l x).2.2.2=(lK l x).2.2.2)) (decide ((lK l x).2.2.1=(lK l x).2.2.1))) (Bool.rec false (decide ((lK l x).2.1=(lK l x).2.1)) (decide ((lK l x).1=S.rowAt l x))))) (ow (lK l x).1 (lK l x).2.1 (lK l x).2.2.1 (lK l x).2.2.2)) (rE l n) x (∃(X:Nat),gV x X ((lK l x).2.1=S.rowAt l X) (S.yU l X) (S.len l))) (decide (S.rowAt l x=n)=rE l n)):=by
 refine au ?_;refine V.dI (λc=>?_) λf=>?_;exact api c;refine⟨?_,?_⟩;grind[Qc,avr];intro X H;refine⟨?_,?_⟩
 . intro h;simp only[dt] at h;with_reducible and_intros
   iterate 2 omega
   intro g;trivial;intro i;trivial;intro d;refine alb H h (ZL ?_);simpa[Qb,sg] using d;intro e;with_reducible and_intros
   iterate 2 omega
   refine⟨(X+nat_lit 1),?_⟩;dsimp only;with_reducible and_intros
   omega;exact(ZK l X).symm;refine S.Ŵ H h (S.ŵ ?_);simpa[Qb,sg] using e;simp[af,S.len];omega
 grind[df,alc]
def axq(d:O)(s S:Int):de (oh (dm d s S) (decide (s<S))=eO d s S):=by
 refine au ?_;grind[eO,vV]
def axr(d:O)(s a:Int)(h:gb d s a):gb d s a/\Rm s a (S.make d s a=S.make d s a):=by
 refine au ?_;grind
def axs(S a:Int)(s:M (B8×U))(h:aW s/\aK s=true):wL s (aK s=true)/\wL s (aK s=true)/\S=(SO S a s).1/\a=(SO S a s).2.1/\bG (dW s)=(SO S a s).2.2.1/\oa s=(SO S a s).2.2.2:=by
 refine au ?_;with_reducible and_intros
 grind;grind;grind;grind;rfl;rfl;rfl;rfl
def axt(a A:Int)(c:M (B8×U))(b B:Int)(d:M (B8×U)):lJ (Bool.rec false (decide (A=B)) (decide (a=b)))/\oh (Bool.rec false (decide (A=B)) (decide (a=b))) (iZ c d)=Az a A c b B d:=by
 refine au ?_;grind[Qb,Az,iZ,vV,Bool.and_assoc]
def aPL(S a:Int)(s:M (B8×U))(h:Vg.jE J.ë (S,a,s)):Rm S a (s=s):=by
 refine au ?_;have A:Vg.hint S:=h.1;have c:Vg.hint a:=h.2.1;have d:Vg.hlen s:=h.2.2.1.1;clear h;refine⟨?_,?_,?_⟩;iterate 3 rfl
def axu(l:B8)(h:S.small l):(l=[]->[]=l)/\nD jV l/\[]++l=l:=by
 refine au ?_;refine⟨?_,?_,?_⟩;grind;simp[S.small,Vg.pV,ln] at *;omega;rfl
def axv(l:M (B8×U))(h:S.small l):(l=[]->[]=l)/\MF (length (Vg.pV arQ)+length l)/\[]++l=l:=by
 refine au ?_;refine⟨?_,?_,?_⟩;grind;simp[S.small,Vg.pV,ln] at *;omega;rfl
def axw(a b:U)(g:Vg.jE J.Ra (a,b)):ct (oD (cV a) (cV b)) (false=Kr a b) (∃(c:Nat),(0:Int)=c/\IY a b c) (∀(x:Nat),IY a b x->fL (decide (x<cV a)) 0 x (cV a) (jW x (cV b) (ug (oD (getD a (toNat x) 0) (getD b (toNat x) 0)) (Kr a b) x (∃(X:Nat),oZ x X (IY a b X) (S.len a)))) (true=Kr a b)):=by
 refine au ?_;have A:Vg.hlen a:=g.1.1;refine⟨?_,?_⟩;intro h;simp at h;exact(decide_eq_false (ZY h)).symm;intro H;simp at H;refine⟨?_,?_⟩;refine⟨(nat_lit 0:Nat),?_⟩;dsimp only;refine⟨?_,?_⟩;omega;exact apy H;intro X d;refine V.dI (λi=>?_) λj=>?_
 . with_reducible and_intros
   iterate 4 omega
   intro e;simp at e;exact(e? (ZZ 0 e)).symm;intro f;simp at f;with_reducible and_intros
   iterate 2 omega
   refine⟨(X+nat_lit 1),?_⟩;dsimp only;refine⟨?_,?_,?_⟩;omega;exact Uo 0 d i f;simp[af,S.len,dX,oU] at *;omega
 exact(L? (ZX d j)).symm
def axx(a:B8)(A:U)(b:B8)(B:U):lJ (decide (a=b))/\oh (decide (a=b)) (Kr A B)=C6 a A b B:=by
 refine au ?_;simp_all[dt,df,C6,Kr,decide]
def axy(a b:M (B8×U))(g:Vg.Row.ok (Vg.TA.du [.dV (.slice [.str,.slice [.int .i64]]),.dV (.slice [.str,.slice [.int .i64]]),.fn (.func 214) [] []]) (a,b)):ct (oD (nC a) (nC b)) (false=iZ a b) (∃(c:Nat),(0:Int)=c/\mv a b c) (∀(x:Nat),mv a b x->fL (decide (x<nC a)) 0 x (nC a) (jW x (nC b) (de (ug (Bool.not (C6 (getD a (toNat x) ([],[])).1 (getD a (toNat x) ([],[])).2 (getD b (toNat x) ([],[])).1 (getD b (toNat x) ([],[])).2)) (iZ a b) x (∃(X:Nat),oZ x X (mv a b X) (S.len a))))) (true=iZ a b)):=by
 refine au ?_;have A:Vg.hlen a:=g.1.1;refine⟨?_,?_⟩;intro h;simp at h;exact(decide_eq_false (ZY h)).symm;intro H;simp at H;refine⟨?_,?_⟩;refine⟨(nat_lit 0:Nat),?_⟩;dsimp only;refine⟨?_,?_⟩;omega;exact apy H;intro X d;refine V.dI (λi=>?_) λj=>?_
 . with_reducible and_intros
   iterate 4 omega
   trivial;intro e;simp at e;exact(e? (ZZ ([],[]) (avx e))).symm;intro f;simp at f;with_reducible and_intros
   iterate 2 omega
   refine⟨(X+nat_lit 1),?_⟩;dsimp only;refine⟨?_,?_,?_⟩;omega;exact Uo ([],[]) d i (avw f);simp[af,S.len,dX,oU] at *;omega
 exact(L? (ZX d j)).symm
def axz(a b:M (B8×U)):de (iZ a b=iZ a b):=by
 refine au ?_;grind
def axA(Y:O)(y:M (Int×Int×M (B8×U))):ct (Jn 1000 (bG Y) (GY (length y))) (false=aY Y y) (∃(e:Nat),(0:Int)=e/\Ql Y y e) (∀(X:Nat),wN (Ql Y y X) (decide (X<bG Y)) X (bG Y) (ug (Jr 2000 (eN Y X)) (aY Y y) X (∃(a:Nat),oZ X a (Ql Y y a) (S.len Y))) (∃(c:Nat),((0:Int)=c/\0=eu y c)/\wg Y y c) (∀(x:Nat),wg Y y x->fL (decide ((x:Int)<length y)) 0 x (length y) (bY (jZ (oD (fM y x 0).1 (eu y x)) (MD (decide ((fM y x 0).2.1<=eu y x)) (bG Y) (fM y x 0).2.1)) (false=aY Y y) True (lJ (cZ (dp Y (fM y x 0).1 (fM y x 0).2.1).2)) (ug (xO (cZ (dp Y (fM y x 0).1 (fM y x 0).2.1).2) (iZ (dp Y (fM y x 0).1 (fM y x 0).2.1).1.2.2 (fM y x 0).2.2)) (aY Y y) x (∃(d:Nat),gV x d ((fM y x 0).2.1=eu y d) (wg Y y d) (S.len y)))) (true=aY Y y))):=by
 refine au ?_;refine⟨?_,?_⟩;intro H;simp at H;exact aNb H;intro m;simp at m;refine⟨?_,?_⟩;refine⟨(nat_lit 0:Nat),?_⟩;dsimp only;refine⟨?_,?_⟩;omega;exact⟨w!,w!,xt _⟩;intro a h;refine V.dI (λg=>?_) λn=>?_
 . with_reducible and_intros
   iterate 2 omega
   intro j;try simp only[dt,tn] at j
   exact aNc g j;intro q;try simp only[df,tn] at q
   with_reducible and_intros
   iterate 2 omega
   refine⟨(a+nat_lit 1),?_⟩;try dsimp only
   refine⟨?_,?_,?_⟩;omega;exact⟨h.1,h.2.1,P7 h.2.2 g w!⟩;simp only[af,S.len,dX,oU] at *;omega
 refine⟨?_,?_⟩
 . refine⟨(nat_lit 0:Nat),?_⟩;dsimp only;with_reducible and_intros
   omega;rfl;exact apz h n
 intro r f;refine⟨?_,?_⟩
 . intro i;simp only[dt] at i;with_reducible and_intros
   iterate 2 omega
   intro k;simp at k;exact NB i (aNd k);intro o;simp only[V.qF,nf,dt,tn,df] at o;with_reducible and_intros
   trivial;intro s;trivial;intro G;trivial;intro l;simp at l;exact NB i (aNe f o l);intro R;simp at R;with_reducible and_intros
   iterate 2 omega
   refine⟨(r+nat_lit 1),?_⟩;try dsimp only
   with_reducible and_intros
   omega;exact Up _ _;exact Z0 f i (aNf f o R);simp[af,S.len,dX,oU] at *;omega
 grind[df,ae1]
def axB(y:O)(Y:M (Int×Int×M (B8×U))):zz (Bool.not (aY y Y)) ([]=(ak y Y).1/\[]=(ak y Y).2) (y=(ak y Y).1/\Y=(ak y Y).2):=by
 refine au ?_;grind[nt,Z1,nf,iK]
def axC(Y:O)(y:M (Int×Int×M (B8×U)))(h:Vg.jE J.lV (Y,y)):ot (dz (length y)) (0=dD y) (length y-1) (jW (length y-1) (length y) ((fM y (length y-1) 0).2.1=dD y)):=by
 refine au ?_;have w:Vg.hlen y:=h.2.1.1;refine V.dI (λH=>?_) λa=>?_;exact aGF H;with_reducible and_intros
 iterate 4 omega
 exact aGG a
def axD(Y:O)(y:M (Int×Int×M (B8×U)))(H:xC Y y)(j:Vg.jE J.lV (Y,y)):û 0 (bG Y) ((24:Nat):Int)/\û 0 (length y) ((40:Nat):Int)/\(∃(g:Nat),((0:Int)=g/\replicate (toNat (bG Y)) jV=eA jV Y g)/\dX Y g)/\(∀(c:Nat),dX Y c->ct (decide (c<bG Y)) (((0:Int)<=c/\c<bG Y)/\S.small (ru Y (toNat c))/\((0:Int)<=c/\(c:Int)<length (eA jV Y c))/\toNat c<length (eA jV Y c)/\dg c (∃(k:Nat),gV c k (List.set (eA jV Y c) (toNat c) (ru Y (toNat c))=eA jV Y k) (dX Y k) (S.len Y))) (∃(l:Nat),((0:Int)=l/\replicate (toNat (length y)) (0,0,[])=eA (0,0,[]) y l)/\dX y l) (∀(x:Nat),dX y x->ct (decide ((x:Int)<length y)) (rj x (length y) (S.small (aaH y x).2.2) (((0:Int)<=x/\(x:Int)<length (eA (0,0,[]) y x))/\toNat x<length (eA (0,0,[]) y x)/\(∃(d:Nat×Nat×M aB),((0:Int)=d.1/\List.set (eA (0,0,[]) y x) (toNat x) ((aaH y x).1,(aaH y x).2.1,[])=d.2.2/\toNat x=d.2.1/\(aaH y x).2.2=(aD y d.2.1).2.2)/\xD y d.2.2 d.2.1 d.1/\(x:Int)=d.2.1)/\(∀(X:Nat×Nat×M aB),wN (xD y X.2.2 X.2.1 X.1/\(x:Int)=X.2.1) (decide (X.1<nC (aaH y x).2.2)) X.1 (nC (aaH y x).2.2) (((0:Int)<=x/\(x:Int)<length X.2.2)/\toNat x<length X.2.2/\toNat x=X.2.1/\S.small (getD (aaH y x).2.2 (toNat X.1) ([],[])).2/\((0:Int)<=X.1/\(X.1:Int)<length (aD y X.2.1).2.2)/\toNat X.1<length (aD y X.2.1).2.2/\cE (X.1+1)/\(∃(a:Nat×Nat×M aB),zA (X.1+1) a.1 (X.2.2=a.2.2/\X.2.1=a.2.1/\List.set (aD y X.2.1).2.2 (toNat X.1) ((getD (aD y X.2.1).2.2 (toNat X.1) ([],[])).1,(getD (aaH y x).2.2 (toNat X.1) ([],[])).2)=(aD y a.2.1).2.2) (xD y a.2.2 a.2.1 a.1/\(x:Int)=a.2.1) (oU y a.2.1) (af (oU y X.2.1) X.1))) (X.2.1<length X.2.2) (dg x (∃(m:Nat),gV x m (List.set X.2.2 X.2.1 ((getD X.2.2 X.2.1 (0,0,[])).1,(getD X.2.2 X.2.1 (0,0,[])).2.1,(aD y X.2.1).2.2)=eA (0,0,[]) y m) (dX y m) (S.len y)))))) (eA jV Y c=Y) (eA (0,0,[]) y x=y))):=by
 refine au ?_;have D:Vg.hlen Y:=j.1.1;have w:Vg.hlen y:=j.2.1.1;clear j;with_reducible and_intros
 iterate 2 omega
 have:=H.1;omega;iterate 2 omega
 have:=H.2.1;omega;grind[ae2,af,S.len,dX,oU];intro g o;refine V.dI (λn=>?_) λr=>?_
 . with_reducible and_intros
   iterate 2 omega
   exact Z3 H _;omega;exact(Ej _ n).1;exact(Ej _ n).2;iterate 2 omega
   refine⟨(g+1),?_⟩;try dsimp only
   with_reducible and_intros
   omega;exact Z2 _ n;simp only[af,S.len,dX,oU] at *;omega;simp only[af,S.len,dX,oU] at *;omega
 refine⟨?_,?_⟩
 . refine⟨0,?_⟩;try dsimp only
   with_reducible and_intros
   omega;exact ae2 _ _;simp only[af,S.len,dX,oU] at *;omega
 intro x s;refine⟨?_,?_⟩
 . intro i;try simp only[dt] at i
   with_reducible and_intros
   iterate 2 omega
   exact(Gx H _).1;omega;exact(Ej _ i).1;exact(Ej _ i).2
   . refine⟨(0,((toNat (↑x:Int)),(List.set (eA ((0:Int),(0:Int),[]) y x) (toNat (↑x:Int)) ((getD y (toNat (↑x:Int)) ((0:Int),(0:Int),[])).1,((getD y (toNat (↑x:Int)) ((0:Int),(0:Int),[])).2).1,[])))),?_⟩;try dsimp only
     with_reducible and_intros
     omega;rfl;omega;rfl;exact aGH i;omega
   intro a h;refine⟨?_,?_⟩
   . intro f;try simp only[dt,tn] at f
     with_reducible and_intros
     omega;trivial;omega;have q:=h.1.2.2.1;have Q:=h.2;omega
     have q:=h.1.2.2.1;have t:=h.1.1;have Q:=h.2;omega
     omega;exact(Gx H _).2 _;omega
     iterate 2
      have e:x=a.2.1:=w!;subst e;first|exact f|exact Int.ofNat_lt.1 f
     omega;have q:=(Gx H x).1;exact alm q f;refine⟨((a.1+1),((a.2.1),(a.2.2))),?_⟩;try dsimp only
     with_reducible and_intros
     omega;rfl;omega;have e:x=a.2.1:=w!;subst e;exact S.DT _ _ _;have e:x=a.2.1:=w!;subst e;exact aln h.1 f;omega;have e:x=a.2.1:=w!;subst e;exact alo f
   intro I;with_reducible and_intros
   have q:=h.1.2.2.1;have Q:=h.2;omega
   iterate 2 omega
   refine⟨(x+1),?_⟩;try dsimp only
   with_reducible and_intros
   omega;have e:x=a.2.1:=w!;subst e;exact apA h.1;simp only[af,S.len,dX,oU] at *;omega;simp only[af,S.len,dX,oU] at *;omega
 grind[df,alk]
def axE(y:O)(Y:M (Int×Int×M (B8×U))):de (de (dD (ak y Y).2=iJ y Y)):=by
 refine au ?_;refine⟨?_,?_,?_⟩;iterate 2 trivial
 rfl
def axF(y:O)(Y:M (Int×Int×M (B8×U)))(d:B8):zz (Jr 2000 d) ((ak y Y).1=(dF y Y d).1.1/\(ak y Y).2=(dF y Y d).1.2/\1=(dF y Y d).2) (bY (decide ((1000:Int)<=length (ak y Y).1)) ((ak y Y).1=(dF y Y d).1.1/\(ak y Y).2=(dF y Y d).1.2/\3=(dF y Y d).2) (xC (ak y Y).1 (ak y Y).2) (S.small d) (zx (length (ak y Y).1+length [d])/\(ak y Y).1++[d]=(dF y Y d).1.1/\(ak y Y).2=(dF y Y d).1.2/\0=(dF y Y d).2)):=by
 refine au ?_;refine⟨?_,?_,?_⟩;trivial;simp_all[dt,aNg]
 intro h;refine⟨?_,?_⟩;simp_all[dt,aNh]
 grind[df,Mr,S.small,tg,List.length_singleton,aEr]
def axG(y:O)(Y:M (Int×Int×M (B8×U))):de (zz (decide (dD (ak y Y).2=bG (ak y Y).1)) ((ak y Y).1=(bS y Y).1.1/\(ak y Y).2=(bS y Y).1.2/\5=(bS y Y).2) (ct (decide ((64:Int)<=length (ak y Y).2)) ((ak y Y).1=(bS y Y).1.1/\(ak y Y).2=(bS y Y).1.2/\3=(bS y Y).2) True (bY (cZ (AY y Y).2) ((ak y Y).1=(bS y Y).1.1/\(ak y Y).2=(bS y Y).1.2/\(AY y Y).2=(bS y Y).2) (xC (ak y Y).1 (ak y Y).2) (MF (length (ak y Y).2+length [((AY y Y).1.1,(AY y Y).1.2.1,(AY y Y).1.2.2)])) ((ak y Y).1=(bS y Y).1.1/\(ak y Y).2++[((AY y Y).1.1,(AY y Y).1.2.1,(AY y Y).1.2.2)]=(bS y Y).1.2/\0=(bS y Y).2)))):=by
 refine au ?_;refine⟨?_,?_,?_,?_⟩;iterate 2 trivial
 simp_all[dt,aNi]
 intro h;refine⟨?_,?_⟩;simp_all[dt,aNj]
 intro H;refine⟨?_,?_,?_⟩;trivial;grind[nt,df,aEs];grind[Mr,tg,List.length_singleton,aNk]
def axH(y:O)(Y:M (Int×Int×M (B8×U)))(h:Vg.jE J.lV (y,Y)):gg ((0:Int)<=0/\(0:Int)<=length (ak y Y).2/\(length (ak y Y).2:Int)<=140737488355328/((40:Nat):Int)) ((∃(X:Nat),((0:Int)=X/\replicate (toNat 0) (0,0,0,[])=fC y Y X)/\X<=gL y Y)/\(∀(x:Nat),x<=gL y Y->fL (decide ((x:Int)<length (ak y Y).2)) 0 x (length (ak y Y).2) (aW (RD y Y x).2.2/\MF (length (fC y Y x)+length [((aav y Y x).1,(aav y Y x).2.1,(aav y Y x).2.2.1,(aav y Y x).2.2.2)])/\dg x (∃(a:Nat),gV x a (fC y Y x++[((aav y Y x).1,(aav y Y x).2.1,(aav y Y x).2.2.1,(aav y Y x).2.2.2)]=fC y Y a) (a<=gL y Y) (gL y Y))) (fC y Y x=bu y Y))):=by
 refine au ?_;have D:Vg.hlen y:=h.1.1;have w:Vg.hlen Y:=h.2.1.1;clear h;with_reducible and_intros
 trivial;iterate 2 omega
 grind[tg]
 . refine⟨0,?_⟩;try dsimp only
   with_reducible and_intros
   omega;rfl;omega
 intro X c;refine⟨?_,?_⟩
 . intro H;try simp only[dt] at H
   with_reducible and_intros
   iterate 2 omega
   exact(zl y Y (k:=X) w!).2;have:=IZ y Y X;simp only[List.length_singleton];omega;omega;have:=(tg y Y).2.1;omega;refine⟨(X+1),?_⟩;try dsimp only
   with_reducible and_intros
   omega;exact Z4 H;simp only[gL,af] at *;omega;simp only[gL,af] at *;omega
 grind[df,ae3]
def axI(Y:O)(y:M (Int×Int×M (B8×U))):de (ct (MD (Bool.not (dm Y 0 0)) 64 (length y)) (false=aY Y y) (∃(a:Nat),(0:Int)=a/\wg Y y a) (∀(x:Nat),wg Y y x->fL (decide ((x:Int)<length y)) 0 x (length y) (eF (dz x) (mY (cZ (fM y x 0).1) (fK (gq x) (mg (x-1) 0 (length y) (lJ (oD (fM y x 0).1 (fM y (x-1) 0).2.1))))) (fK (gq x) (mg (x-1) 0 (length y) (lJ (oD (fM y x 0).1 (fM y (x-1) 0).2.1))))/\bY (ú (dz x) (cZ (fM y x 0).1) (ú (gq x) (oD (fM y x 0).1 (fM y (x-1) 0).2.1) (Bool.not (eO Y (fM y x 0).1 (fM y x 0).2.1)))) (false=aY Y y) ((0:Int)<=x/\(x:Int)<length y) (gb Y (fM y x 0).1 (fM y x 0).2.1) (de (ug (Bool.not (Az (fM y x 0).1 (fM y x 0).2.1 (fM y x 0).2.2 (fM y x 0).1 (fM y x 0).2.1 (S.make Y (fM y x 0).1 (fM y x 0).2.1))) (aY Y y) x (∃(X:Nat),oZ x X (wg Y y X) (S.len y))))) (true=aY Y y))):=by
 refine au ?_;refine⟨?_,?_,?_⟩;trivial;intro c;simp at c;exact aNl c;intro d;simp at d;refine⟨?_,?_⟩;refine⟨(nat_lit 0:Nat),?_⟩;dsimp only;refine⟨?_,?_⟩;omega;exact⟨d.1,w!,λi f=>absurd f (Nat.not_lt_zero i),Nat.zero_le _⟩;intro X g;refine⟨?_,?_⟩
 . intro H;simp only[dt] at H;with_reducible and_intros
   iterate 2 omega
   . intro k;refine⟨?_,?_⟩;intro l;trivial;intro m;refine V.dI (λn=>?_) λK=>?_
     . with_reducible and_intros
       iterate 4 omega
       intro F;trivial;intro I;trivial
     trivial
   . intro o;refine V.dI (λr=>?_) λR=>?_
     . with_reducible and_intros
       iterate 4 omega
       intro G;trivial;intro q;trivial
     trivial
   intro j;exact NB H (avy (S.apC.symm.trans j));intro e;with_reducible and_intros
   iterate 2 omega
   exact r7 (aEt (S.apC.symm.trans e)).2;trivial;intro h;simp at h;exact NB H (aGI h);intro u;simp at u;with_reducible and_intros
   iterate 2 omega
   refine⟨(X+nat_lit 1),?_⟩;dsimp only;refine⟨?_,?_,?_⟩;omega;exact Z0 g H (avz (aEt (S.apC.symm.trans e)) u);simp[af,S.len,dX,oU,gL] at *;omega
 grind[df,ae1]
def axJ(y:O)(Y:M (Int×Int×M (B8×U))):zz (aY y Y) (y=(ak y Y).1/\Y=(ak y Y).2) ([]=(ak y Y).1/\[]=(ak y Y).2):=by
 refine au ?_;grind[iK,Z1]
def axK(y:O)(Y:M (Int×Int×M (B8×U)))(h:Vg.jE J.lV (y,Y)):gg (∃(X:Nat),((0:Int)=X/\0=eu (ak y Y).2 X)/\X<=gL y Y) (∀(x:Nat),x<=gL y Y->fL (decide ((x:Int)<length (ak y Y).2)) 0 x (length (ak y Y).2) (dg x (∃(a:Nat),gV x a ((getD (ak y Y).2 (toNat x) (0,0,[])).2.1=eu (ak y Y).2 a) (a<=gL y Y) (gL y Y))) (eu (ak y Y).2 x=iJ y Y)):=by
 refine au ?_;have D:Vg.hlen y:=h.1.1;have w:Vg.hlen Y:=h.2.1.1;clear h;refine⟨?_,?_,?_⟩;trivial
 . refine⟨(nat_lit 0:Nat),?_⟩;try dsimp only
   with_reducible and_intros
   omega;rfl;omega
 intro X c;refine⟨?_,?_⟩
 . intro H;try simp only[dt] at H
   with_reducible and_intros
   iterate 3 omega
   have:=(tg y Y).2.1;omega;refine⟨(X+nat_lit 1),?_⟩;try dsimp only
   with_reducible and_intros
   omega;exact Up _ _;simp only[af,S.len,dX,oU,gL] at *;omega;simp only[af,S.len,dX,oU,gL] at *;omega
 grind[df,alq]
def axL(y:O)(Y:M (Int×Int×M (B8×U)))(h:Vg.jE J.lV (y,Y)):gg (∃(X:Nat),((0:Int)=X/\[]=fC y Y X)/\X<=gL y Y) (∀(x:Nat),x<=gL y Y->fL (decide ((x:Int)<length (ak y Y).2)) 0 x (length (ak y Y).2) ((aW (Lg y Y x).2.2/\aK (Lg y Y x).2.2)/\MF (length (fC y Y x)+length [((aaS y Y x).1,(aaS y Y x).2.1,(aaS y Y x).2.2.1,(aaS y Y x).2.2.2)])/\dg x (∃(a:Nat),gV x a (fC y Y x++[((aaS y Y x).1,(aaS y Y x).2.1,(aaS y Y x).2.2.1,(aaS y Y x).2.2.2)]=fC y Y a) (a<=gL y Y) (gL y Y))) (fC y Y x=bu y Y)):=by
 refine au ?_;have D:Vg.hlen y:=h.1.1;have w:Vg.hlen Y:=h.2.1.1;clear h;refine⟨?_,?_,?_⟩;trivial
 . refine⟨(nat_lit 0:Nat),?_⟩;try dsimp only
   with_reducible and_intros
   omega;rfl;omega
 intro X c;refine⟨?_,?_⟩
 . intro H;try simp only[dt] at H
   with_reducible and_intros
   iterate 2 omega
   exact(zl y Y (k:=X) w!).2;exact Qm (zl y Y (k:=X) w!).1;have:=IZ y Y X;simp only[List.length_singleton];omega;omega;have:=(tg y Y).2.1;omega;refine⟨(X+nat_lit 1),?_⟩;try dsimp only
   with_reducible and_intros
   omega;exact alr H;simp only[af,S.len,dX,oU,gL] at *;omega;simp only[af,S.len,dX,oU,gL] at *;omega
 grind[df,ae3]
def axM(Y:O)(y:M (Int×Int×M (B8×U)))(H:Gy y)(h:Vg.jE J.lV (Y,y)):(∃(X:Nat),((0:Int)=X/\Y=Y/\[]=take X y)/\dX y X)/\(∀(x:Nat),wN (dX y x) (decide ((x:Int)<length y)) x (length y) (gg (MF (length (take x y)+length [((fM y x 0).1,(fM y x 0).2.1,(fM y x 0).2.2)])) (dg x (∃(a:Nat),gV x a (Y=Y/\take x y++[((fM y x 0).1,(fM y x 0).2.1,(fM y x 0).2.2)]=take a y) (dX y a) (S.len y)))) (Y=Y) (take x y=y)):=by
 refine au ?_;have w:Vg.hlen y:=h.2.1.1;refine⟨?_,?_⟩
 . refine⟨(nat_lit 0:Nat),?_⟩;dsimp only;with_reducible and_intros
   omega;iterate 2 rfl
   simp only[af,S.len,dX,gL,pL,pD] at *;omega
 intro X c;refine V.dI (λd=>?_) λe=>?_
 . with_reducible and_intros
   iterate 2 omega
   trivial;simp[C?,J?,Gy] at *;omega;iterate 2 omega
   refine⟨(X+nat_lit 1),?_⟩;dsimp only;with_reducible and_intros
   omega;rfl;exact(S.an y X (0,0,[]) w!).symm;simp[af,S.len,dX,gL,pL,pD] at *;omega;simp[af,S.len,dX,gL,pL,pD] at *;omega
 refine⟨?_,?_⟩;rfl;exact d? w!
def axN(Y:O)(y:M (Int×Int×M (B8×U)))(h:Vg.jE J.lV (Y,y)):(∃(X:Nat),(0:Int)=X/\C7 y X)/\(∀(x:Nat),C7 y x->ct (decide ((x:Int)<length y)) (((0:Int)<=x/\(x:Int)<length y)/\de (rH (xw (fM y x 0).2.2) (true=sG Y y) x (∃(a:Nat),oZ x a (C7 y a) (S.len y)))) True (MD (Ny Y) 100 (length y)=sG Y y)):=by
 refine au ?_;have D:Vg.hlen Y:=h.1.1;have w:Vg.hlen y:=h.2.1.1;clear h;refine⟨?_,?_⟩;refine⟨(nat_lit 0:Nat),?_⟩;try dsimp only
 refine⟨?_,?_⟩;omega;exact aNm _;intro X c;refine⟨?_,?_⟩
 . intro H;try simp only[dt] at H
   with_reducible and_intros
   iterate 2 omega
   trivial;intro e;exact avA H e;intro f;with_reducible and_intros
   iterate 2 omega
   refine⟨(X+nat_lit 1),?_⟩;try dsimp only
   refine⟨?_,?_,?_⟩;omega;exact apD c H f;simp only[af,S.len,dX,gL,pL,pD] at *;omega
 intro d;try simp only[df] at d
 refine⟨?_,?_⟩;trivial;exact avB c d
def axO(y:Int)(Y:B8)(a:M (Int×Int×Int×B8)):fK (pM y) (fK (decide (y<=1000)) (lJ (decide (fU Y=32))))/\oh (pM y) (oh (decide (y<=1000)) (oh (decide (fU Y=32)) (rE a y)))=cO y Y a:=by
 refine au ?_;grind[avI]
def axP(y:O)(Y:M (Int×Int×M (B8×U))):gg (lJ (Bool.not (aY y Y))) (bY (jZ (Bool.not (aY y Y)) (oD (iJ y Y) (bG y))) (UU (gI y Y) 0 7) (dj y) (S.small (S.leaves y)) (ct (cZ (yk (S.leaves y))) (UU (gI y Y) 0 (yk (S.leaves y))) True (bG y=(gI y Y).1.1/\kI (S.leaves y)=(gI y Y).1.2.1/\bu y Y=(gI y Y).1.2.2/\0=(gI y Y).2))):=by
 refine au ?_;with_reducible and_intros
 trivial;iterate 2 grind
 simp_all[V.Nb,nt,df,avJ]
 intro h;simp at h;refine⟨?_,?_,?_,?_⟩;grind[GF];exact(GF h.1).2;grind[nt,df,S.À];simp_all[nf,dt,Z9,S.À]
def axQ(v q:Int)(h:gi v=false/\q=0):ct (dz q) (nB jV/\yW v=0/\mq jV v=S.num v) (q=0) ([]=S.num v):=by
 refine au ?_;refine⟨?_,?_⟩;grind[aEu];grind
def axR(v q:Int)(l:B8)(h:gi v=false/\q=0/\l.length<=35184372088832):ct (dz q) (nB l/\yW v=0/\mq l v=l++S.num v) (q=0) (l=l++S.num v):=by
 refine au ?_;refine⟨?_,?_⟩;grind[aEu];grind
def axS(d l:B8)(h:l.length<=35184372088832/\d.length<=35184372088832):nD l d/\l++d=l++d:=by
 refine au ?_;grind
def axT(Y:Int)(a:B8)(y:M (Int×Int×Int×B8))(d:Vg.jE J.Rf (Y,a,y)):de (bY (Bool.not (cO Y a y)) (1=(hW Y a y).2/\[]=(hW Y a y).1) (gi Y=false/\zB) (nB (S.num Y)/\nB a) ((gi (length y)=false/\(0:Int)=0/\nB (S.num Y++a))/\(∃(c:Nat),((0:Int)=c/\S.num Y++a++S.num (length y)=tE Y a y c/\zB)/\Fp Y a y c)/\(∀(x:Nat),Fp Y a y x->fL (decide ((x:Int)<length y)) 0 x (length y) ((gi (yy y x).1=false/\(0:Int)=0/\nB (tE Y a y x))/\(gi (yy y x).2.1=false/\(0:Int)=0/\nB (tE Y a y x++S.num (yy y x).1))/\(nB (tE Y a y x++S.num (yy y x).1++S.num (yy y x).2.1)/\nB (yy y x).2.2)/\dg x (∃(X:Nat),gV x X (tE Y a y x++S.num (yy y x).1++S.num (yy y x).2.1++(yy y x).2.2=tE Y a y X/\zB) (Fp Y a y X) (S.len y))) (eF (Rj 0) (0=(hW Y a y).2/\[]=(hW Y a y).1) (0=(hW Y a y).2/\tE Y a y x=(hW Y a y).1))))):=by
 refine au ?_;have A:Vg.hlen y:=d.2.2.1.1;clear d;refine⟨?_,?_,?_⟩;trivial;grind[nt,aai];intro e;try simp at e
 with_reducible and_intros
 grind[jq,Qo];rfl;grind[cU];grind[jq];grind[sb,jq,Qo];rfl;grind[cU,jq,List.length_append]
 . refine⟨0,?_⟩;try dsimp only
   with_reducible and_intros
   omega;grind[aEv];rfl;exact⟨e,Nat.zero_le _⟩
 intro X h;refine⟨?_,?_⟩
 . intro H;try simp only[dt] at H
   with_reducible and_intros
   iterate 2 omega
   exact(GG h H).1;rfl;have:=Em h;omega;exact(GG h H).2.1;rfl;have q:=Em h;have Q:=cU (y.getD (toNat (X:Int)) (0,0,0,[])).2.1;simp only[J!];omega
   have q:=Em h;have Q:=cU (y.getD (toNat (X:Int)) (0,0,0,[])).2.1;have f:=cU (y.getD (toNat (X:Int)) (0,0,0,[])).2.2.1;simp only[J!];omega
   exact b? (Nat.le_of_eq (GG h H).2.2) (by decide);iterate 2 omega
   refine⟨(X+1),?_⟩;try dsimp only
   with_reducible and_intros
   omega;exact S.Á H;rfl;exact⟨h.1,w!⟩;simp only[af,S.len];omega
 simp_all[df,nt,nf,dt,NC,WB]
def axU(r:B8)(R a:Int)(h:r.length<=140737488355328):jM r/\(ag r R a).2=(ag r R a).2/\(ag r R a).1.1=r/\mK (ag r R a).1.2.1 (ag r R a).1.2 (ag r R a).1.2.2:=by
 refine au ?_;grind[Ek]
def axV(r:B8)(R a:Int)(h:r.length<=140737488355328):jM r/\(aF r R a).2=(aF r R a).2/\(aF r R a).1.1=r/\mK (aF r R a).1.2.1 (aF r R a).1.2 (aF r R a).1.2.2:=by
 refine au ?_;simp_all[Ek]
def axW(a:Int)(r:B8)(R c:Int)(h:r.length<=140737488355328):jM r/\jM r/\jM r/\a=a/\(ag r R c).2=(wj r R c a).2.2.1/\(Xn r R c).2=(wj r R c a).2.2.2.1/\(Xm r R c).2=(wj r R c a).2.2.2.2/\(ag r R c).2=(wj r R c a).2.2.1/\0=0/\0=0/\r=r/\mK (Xm r R c).1.2.1 (wj r R c a).1 (Xm r R c).1.2.2:=by
 refine au ?_;with_reducible and_intros
 iterate 3 omega
 iterate 10 rfl
def axX(b:B8)(j:b.length<=140737488355328):jM b/\jM b/\jM b/\ct (GY (G1 b).2) (UU (hR b) 0 2) (∃(a:Nat),((0:Int)=a/\b=b/\(G1 b).1.2.1=(jP b a).1.1/\(G1 b).1.2.2=(jP b a).1.2/\0=(jP b a).2.1/\0=0/\0=0/\(ag b 0 0).2=(RB b).1/\(Xl b).2=(RB b).2.1/\[]=(jP b a).2.2)/\a<=pN b/\(RB b).2.2<=64) (∀(x:Nat),x<=pN b/\(RB b).2.2<=64->ct (decide (x<(G1 b).2)) (jM b/\MF (length (jP b x).2.2+length (aa3 b x))/\dg x (∃(X:Nat),gV x X (b=b/\(rn b x).1.1=(jP b X).1.1/\(rn b x).1.2=(jP b X).1.2/\(rn b x).2.2.1=(jP b X).2.1/\0=0/\0=0/\(RB b).1=(RB b).1/\(RB b).2.1=(RB b).2.1/\(jP b x).2.2++aa3 b x=(jP b X).2.2) (X<=pN b/\(RB b).2.2<=64) (pN b))) True (ct (cZ (S.done b (jP b x).1.1 (jP b x).1.2)) (UU (hR b) 0 (S.done b (jP b x).1.1 (jP b x).1.2)) True (eF (Bool.not (cO (RB b).1 (RB b).2.1 (jP b x).2.2)) (UU (hR b) 0 2) ((RB b).1=(hR b).1.1/\(RB b).2.1=(hR b).1.2.1/\(jP b x).2.2=(hR b).1.2.2/\0=(hR b).2)))):=by
 refine au ?_;apply SU;iterate 3 omega
 intro h1;simp at h1;refine⟨?_,?_,?_,?_⟩;iterate 3 (rw[Z8 h1])
 rw[Z8 h1];intro h;simp only[df] at h;refine⟨?_,?_⟩
 . refine⟨(nat_lit 0:Nat),?_⟩;dsimp only;with_reducible and_intros
   omega;iterate 9 rfl
   omega;exact Int.not_lt.1 h
 intro X H;refine V.dI (λe=>?_) λc=>?_
 . with_reducible and_intros
   omega;have q:=aGJ b X;have Q:=H.2;have i:(X:Int)<(iA b).1.2.2:=e;simp only[J?];omega
   omega;have Q:=H.2;have i:(X:Int)<(iA b).1.2.2:=e;omega
   refine⟨(X+nat_lit 1),?_⟩;try dsimp only
   with_reducible and_intros
   omega;iterate 9 rfl
   exact apJ e;omega;have q:=apJ e;simp only[af];omega
 refine⟨?_,?_,?_⟩;trivial;intro f;simp at f;refine⟨?_,?_,?_,?_⟩;iterate 3 (rw[aEw h H.1 c f])
 rw[aEw h H.1 c f];intro d;simp at d;refine⟨?_,?_,?_⟩;trivial;intro g;simp at g;refine⟨?_,?_,?_,?_⟩;iterate 3 (rw[aEx h H.1 c d g])
 rw[aEx h H.1 c d g];intro F;simp at F;refine⟨?_,?_,?_,?_⟩;iterate 3 (rw[aEy h H.1 c d F])
 rw[aEy h H.1 c d F]
def axY(y:O)(Y:M (Int×Int×M (B8×U))):gg (lJ (aY y Y)) (oh (aY y Y) (decide (iJ y Y=bG y))=cy y Y):=by
 refine au ?_;grind[alu]
def axZ(y:O)(Y:M (Int×Int×M (B8×U)))(h:dj y):dj y/\eW (S.leaves y)/\de (bG y=S.len y/\S.root (S.leaves y)=S.root (S.leaves y)/\bu y Y=bu y Y):=by
 refine au ?_;with_reducible and_intros
 omega;exact WA h;trivial;iterate 3 rfl
def ax0(d:M (B8×U))(t:B8)(h:aW d/\S.small t):wL d (mY (cZ (dE d)) (S.small t)/\ct (xO (cZ (dE d)) (S.isTerm t)) (q50 (wv d t) 0 [] [] [] [] [] 1) (aW d) (mg (bo d t+1) 0 (length (bn d)) (toNat (bo d t+1)<length (bn d)/\jM (DC d t)/\dj (bn d)/\eX (S.leaves (bn d))/\eF (fE d t) (wL d (de (q50 (wv d t) (bo d t+1) (bg (DC d t)).1.1 (bg (DC d t)).1.2.1 (bg (DC d t)).1.2.2 (oz (S.leaves (bn d)) (bo d t+1)) (jH (dN d t)) 0))) (q50 (wv d t) (bo d t+1) (bg (DC d t)).1.1 (bg (DC d t)).1.2.1 (bg (DC d t)).1.2.2 (oz (S.leaves (bn d)) (bo d t+1)) [] 0)))):=by
 refine au ?_;have i:=h.1;with_reducible and_intros
 omega;iterate 2 grind
 . intro H;simp at H;with_reducible and_intros
   iterate 6
    rw[afa w!];rfl
   grind[afa]
 intro a;simp at a;with_reducible and_intros
 omega
 iterate 2
  (have q:=S.Æ i (IM (And.left (by assumption))) t;omega)
 iterate 3 (simp_all[S.Æ,IM,And.left])
 (have q:=S.Æ i (IM (And.left (by assumption))) t;omega)
 iterate 2
  (have q:=S.Æ i (IM (And.left (by assumption))) t;grind)
 iterate 2 (simp_all[dE,S.isTerm,Qs,IM,aGP,Q!,R!])
def ax1(l:O)(m:S.small l):ct (decide ((tW l:Int)<2)) (l=bU l) (∃(i:Nat),(1:Int)=i/\n4 l i) (∀(d:Nat),n4 l d->fL (decide ((d:Int)<tW l)) 0 d (tW l) (wR d<tW l/\mg (d-1) 0 (tW l) (toNat (d-1)<tW l/\rH (decide (ru l (wR d)=ru l (toNat (d-1)))) (gW d (tW l) ((∃(a:Nat×Nat×O×Nat),((d:Int)=a.1/\(1:Int)=a.2.1/\l=a.2.2.1)/\jG l a.2.2.2 a.1 a.2.1 a.2.2.1/\(d:Int)=a.2.2.2)/\(∀(x:Nat×Nat×O×Nat),jG l x.2.2.2 x.1 x.2.1 x.2.2.1/\(d:Int)=x.2.2.2->bY (decide ((x.2.1:Int)<((tW l-wR d:Nat):Int))) (((0:Int)<=x.2.1/\(x.2.1:Int)<((tW l-wR d:Nat):Int))/\wR d+toNat x.2.1<sk x/\mg (x.2.1-1) 0 ((tW l-wR d:Nat):Int) (wR d+toNat (x.2.1-1)<sk x/\fK (Xy d x) (((0:Int)<=x.2.1/\(x.2.1:Int)<((tW l-wR d:Nat):Int))/\wR d+toNat x.2.1<sk x/\((0:Int)<=x.1/\(x.1:Int)<sk x)/\yA x<sk x/\cE (x.1+1))/\cE (x.2.1+1)/\(∃(e:Nat×Nat×O×Nat),((bif Xy d x then(x.1:Int)+1 else(x.1:Int))=e.1/\(x.2.1:Int)+1=e.2.1/\(bif Xy d x then List.set x.2.2.1 (yA x) (ru x.2.2.1 (wR d+toNat x.2.1)) else x.2.2.1)=e.2.2.1)/\(jG l e.2.2.2 e.1 e.2.1 e.2.2.1/\(d:Int)=e.2.2.2)/\wK (S.len l) e.2.1 x.2.1))) ((0:Int)<=x.1/\(x.1:Int)<=sk x) (yA x+(sk x-yA x)<=sk x) (gW x.1 (bG (abt x)) (take (yA x) (abt x)=bU l))))) d (∃(j:Nat),oZ d j (n4 l j) (S.len l)))) (l=bU l)):=by
 refine au ?_;have I:l.length<=1099511627776:=m;refine V.dI (λn=>?_) λy=>?_;exact PY n;refine⟨?_,?_⟩;grind[aoV];intro a o;refine⟨?_,?_⟩
 . intro r;try simp only[dt] at r
   with_reducible and_intros
   iterate 5 omega
   have:=o.1;omega;iterate 2 omega
   . intro s;try simp only[dt,tn] at s
     with_reducible and_intros
     iterate 2 omega
     refine⟨((a),(1,((l),(a)))),?_⟩;grind[aeQ];intro X h;refine⟨?_,?_⟩
     . intro t;try simp at t
       with_reducible and_intros
       iterate 2 omega
       have q:=h.1.1;have Q:=h.1.2.1;have f:=h.1.2.2.2.1;have g:=h.1.2.2.2.2.1;omega
       iterate 2 omega
       have q:=h.1.1;omega;omega;have q:=h.1.1;have Q:=h.1.2.1;have f:=h.1.2.2.2.1;have g:=h.1.2.2.2.2.1;omega
       . intro F;with_reducible and_intros
         iterate 2 omega
         have q:=h.1.1;have Q:=h.1.2.1;have f:=h.1.2.2.2.1;have g:=h.1.2.2.2.2.1;have k:=h.2;omega
         omega
         iterate 2
          have q:=h.1.1;have Q:=h.1.2.1;have f:=h.1.2.2.2.1;have g:=h.1.2.2.2.2.1;have k:=h.2;omega
         omega;have q:=h.1.1;have Q:=h.1.2.1;have f:=h.1.2.2.2.1;have g:=h.1.2.2.2.2.1;have k:=h.2;omega
       intro z;trivial;iterate 2 omega
       refine⟨((toNat (bif !Decidable.decide (getD (X.2.2.1) (toNat (↑a:Int)+toNat (↑(X.2.1):Int)) []=getD (X.2.2.1) (toNat (↑a:Int)+toNat ((↑(X.2.1):Int)-(1:Int))) []) then(↑(X.1):Int)+(1:Int) else(↑(X.1):Int))),((X.2.1+1),((bif !Decidable.decide (getD (X.2.2.1) (toNat (↑a:Int)+toNat (↑(X.2.1):Int)) []=getD (X.2.2.1) (toNat (↑a:Int)+toNat ((↑(X.2.1):Int)-(1:Int))) []) then List.set (X.2.2.1) (toNat (↑(X.1):Int)) (getD (X.2.2.1) (toNat (↑a:Int)+toNat (↑(X.2.1):Int)) []) else Prod.fst (X.2.2)),(a)))),?_⟩;try dsimp only
       with_reducible and_intros
       generalize (!decide (getD X.2.2.1 (toNat (a:Int)+toNat (X.2.1:Int)) []=getD X.2.2.1 (toNat (a:Int)+toNat ((X.2.1:Int)-1)) []))=c;cases c<;>simp<;>omega;omega;trivial;have q:=h.1.1;have E:X.2.2.2=a:=by have:=h.2;omega
       have H:=h.1;rw[E] at H;have u:toNat (a:Int)+toNat (X.2.1:Int)=a+X.2.1:=by omega
       have v:toNat (a:Int)+toNat ((X.2.1:Int)-1)=a+X.2.1-1:=by omega
       rw[u,v];by_cases hd:getD X.2.2.1 (a+X.2.1) []=getD X.2.2.1 (a+X.2.1-1) [];rw[L? hd];exact PZ H w! hd;rw[e? hd];exact T8 H w! hd;omega;simp only[af,S.len];omega
     intro K;with_reducible and_intros
     omega
     iterate 2
      have q:=h.1.2.1;have Q:=h.1.2.2.2.1;have f:=h.1.2.2.2.2.1;omega
     omega;have q:=h.1.2.1;have Q:=h.1.2.2.2.1;have f:=h.1.2.2.2.2.1;simp;omega;have q:=h.1.2.1;have Q:=h.1.2.2.2.1;have f:=h.1.2.2.2.2.1;grind[toNat,Mn,T9]
   intro w;try simp only[df,tn] at w
   with_reducible and_intros
   iterate 2 omega
   refine⟨(a+1),?_⟩;grind[T6,af,S.len]
 grind[df,ZC]
def ax2(l:M (Int×B8))(c:dq l):(∃(x:Nat),((0:Int)=(↑x:Int)/\(0:Int)=c9 l x/\(0:Int)=nW l x)/\ja l x)/\∀(x:Nat),ja l x->(decide ((↑x:Int)<(↑(length l):Int))=true->((0:Int)<=(↑x:Int)/\(↑x:Int)<(↑(length l):Int))/\(decide ((getD l (toNat (↑x:Int)) ((0:Int),[])).1=(0:Int))=true->S.small ((getD l (toNat (↑x:Int)) ((0:Int),[])).2)/\((!S.isTerm ((getD l (toNat (↑x:Int)) ((0:Int),[])).2))=true->false=aZ l)/\((!S.isTerm ((getD l (toNat (↑x:Int)) ((0:Int),[])).2))=false->((-9223372036854775808:Int)<=c9 l x+(1:Int)/\c9 l x+(1:Int)<=(9223372036854775807:Int))/\((-9223372036854775808:Int)<=nW l x+(1:Int)/\nW l x+(1:Int)<=(9223372036854775807:Int))/\((-9223372036854775808:Int)<=(↑x:Int)+(1:Int)/\(↑x:Int)+(1:Int)<=(9223372036854775807:Int))/\∃(o:Nat),((↑x:Int)+(1:Int)=(↑o:Int)/\c9 l x+(1:Int)=c9 l o/\nW l x+(1:Int)=nW l o)/\ja l o/\af (S.len l) o<af (S.len l) x))/\(decide ((getD l (toNat (↑x:Int)) ((0:Int),[])).1=(0:Int))=false->(decide ((getD l (toNat (↑x:Int)) ((0:Int),[])).1=(1:Int))=true->((bif !decide ((getD l (toNat (↑x:Int)) ((0:Int),[])).2=[]) then true else decide (c9 l x<(2:Int)))=true->false=aZ l)/\((bif !decide ((getD l (toNat (↑x:Int)) ((0:Int),[])).2=[]) then true else decide (c9 l x<(2:Int)))=false->((-9223372036854775808:Int)<=c9 l x-(1:Int)/\c9 l x-(1:Int)<=(9223372036854775807:Int))/\((-9223372036854775808:Int)<=(↑x:Int)+(1:Int)/\(↑x:Int)+(1:Int)<=(9223372036854775807:Int))/\∃(o:Nat),((↑x:Int)+(1:Int)=(↑o:Int)/\c9 l x-(1:Int)=c9 l o/\nW l x=nW l o)/\ja l o/\af (S.len l) o<af (S.len l) x))/\(decide ((getD l (toNat (↑x:Int)) ((0:Int),[])).1=(1:Int))=false->(decide ((getD l (toNat (↑x:Int)) ((0:Int),[])).1=(2:Int))=true->((bif !decide ((getD l (toNat (↑x:Int)) ((0:Int),[])).2=[]) then true else decide (c9 l x<(2:Int)))=true->false=aZ l)/\((bif !decide ((getD l (toNat (↑x:Int)) ((0:Int),[])).2=[]) then true else decide (c9 l x<(2:Int)))=false->((-9223372036854775808:Int)<=c9 l x-(1:Int)/\c9 l x-(1:Int)<=(9223372036854775807:Int))/\((-9223372036854775808:Int)<=(↑x:Int)+(1:Int)/\(↑x:Int)+(1:Int)<=(9223372036854775807:Int))/\∃(o:Nat),((↑x:Int)+(1:Int)=(↑o:Int)/\c9 l x-(1:Int)=c9 l o/\nW l x=nW l o)/\ja l o/\af (S.len l) o<af (S.len l) x))/\(decide ((getD l (toNat (↑x:Int)) ((0:Int),[])).1=(2:Int))=false->(decide ((getD l (toNat (↑x:Int)) ((0:Int),[])).1=(3:Int))=true->((bif !decide ((getD l (toNat (↑x:Int)) ((0:Int),[])).2=[]) then true else decide (c9 l x<(2:Int)))=true->false=aZ l)/\((bif !decide ((getD l (toNat (↑x:Int)) ((0:Int),[])).2=[]) then true else decide (c9 l x<(2:Int)))=false->((-9223372036854775808:Int)<=c9 l x-(1:Int)/\c9 l x-(1:Int)<=(9223372036854775807:Int))/\((-9223372036854775808:Int)<=(↑x:Int)+(1:Int)/\(↑x:Int)+(1:Int)<=(9223372036854775807:Int))/\∃(o:Nat),((↑x:Int)+(1:Int)=(↑o:Int)/\c9 l x-(1:Int)=c9 l o/\nW l x=nW l o)/\ja l o/\af (S.len l) o<af (S.len l) x))/\(decide ((getD l (toNat (↑x:Int)) ((0:Int),[])).1=(3:Int))=false->false=aZ l)))))/\(decide ((↑x:Int)<(↑(length l):Int))=false->(bif decide (c9 l x=(1:Int)) then decide (nW l x<=(16:Int)) else false)=aZ l):=by
 have I:l.length<=1099511627776:=c.1;have e:=c;clear c;refine⟨?_,?_⟩
 . refine⟨0,?_⟩;try dsimp only
   with_reducible and_intros
   iterate 3 rfl
   exact aEz e.1
 intro X a;refine⟨?_,?_⟩
 . intro h;try simp only[dt] at h
   with_reducible and_intros
   iterate 2 omega
   . intro d;try simp only[dt,tn] at d
     refine⟨?_,?_,?_⟩;exact ap1 e _;intro f;try simp only[nt] at f
     exact S.Ê h d f;intro g;try simp only[nf] at g
     with_reducible and_intros
     iterate 6
      have q:=gR l X;have Q:c9 l X=2*nW l X-X:=rfl;omega
     refine⟨(X+1),?_⟩;try dsimp only
     with_reducible and_intros
     have q:=gR l X;have Q:c9 l X=2*nW l X-X:=rfl;omega
     exact(zq (by assumption)).symm;exact(ND (by assumption)).symm;exact S.É a h d g;grind[af,S.len]
   intro H;try simp only[df,tn] at H
   refine⟨?_,?_⟩
   . intro i;try simp only[dt,tn] at i
     refine⟨?_,?_⟩;intro j;try simp at j
     exact Da h H (.inr (by assumption));intro F;try simp only[V.qF,nf,dt,tn,df] at F
     with_reducible and_intros
     iterate 4
      have q:=gR l X;have Q:c9 l X=2*nW l X-X:=rfl;omega
     refine⟨(X+1),?_⟩;try dsimp only
     with_reducible and_intros
     have q:=gR l X;have Q:c9 l X=2*nW l X-X:=rfl;omega
     exact(uH (by assumption)).symm;exact(Kv (by assumption)).symm;exact I2 a h H w! (by assumption);grind[af,S.len]
   intro s;refine⟨?_,?_⟩
   . intro k;try simp only[dt,tn] at k
     refine⟨?_,?_⟩;intro O;try simp at O
     exact Da h H (.inr (by assumption));intro r;try simp only[V.qF,nf,dt,tn,df] at r
     with_reducible and_intros
     iterate 4
      have q:=gR l X;have Q:c9 l X=2*nW l X-X:=rfl;omega
     refine⟨(X+1),?_⟩;try dsimp only
     with_reducible and_intros
     have q:=gR l X;have Q:c9 l X=2*nW l X-X:=rfl;omega
     exact(uH (by assumption)).symm;exact(Kv (by assumption)).symm;exact I2 a h H w! (by assumption);grind[af,S.len]
   intro G;refine⟨?_,?_⟩
   . intro m;try simp only[dt,tn] at m
     refine⟨?_,?_⟩;intro R;try simp at R
     exact Da h H (.inr (by assumption));intro n;try simp only[V.qF,nf,dt,tn,df] at n
     with_reducible and_intros
     iterate 4
      have q:=gR l X;have Q:c9 l X=2*nW l X-X:=rfl;omega
     refine⟨(X+1),?_⟩;try dsimp only
     with_reducible and_intros
     have q:=gR l X;have Q:c9 l X=2*nW l X-X:=rfl;omega
     exact(uH (by assumption)).symm;exact(Kv (by assumption)).symm;exact I2 a h H w! (by assumption);grind[af,S.len]
   grind[df,tn,Da]
 grind[df,afd]
def ax3(l:M (Int×B8))(f:S.small l):(∃(X:Nat),((0:Int)=X/\[]=bL l X)/\dX l X)/\(∀(x:Nat),dX l x->bY (decide ((x:Int)<length l)) (jW x (length l) (rH (dz (iO l x).1) (By (bL l x) [(iO l x).2]/\dg x (∃(a:Nat),xQ x a (bL l x++[(iO l x).2]=bL l a) (dX l a) (S.len l) a (af (S.len l) x))) x (∃(c:Nat),xQ x c (bL l x=bL l c) (dX l c) (S.len l) c (af (S.len l) x)))) (S.small (bL l x)) (S.small (fp (bL l x))) (bU (fp (bL l x))=al l)):=by
 refine au ?_;have i:l.length<=1099511627776:=f;refine⟨?_,?_⟩;grind[af,S.len,dX,aNu];intro X h;refine V.dI (λH=>?_) λg=>?_
 . with_reducible and_intros
   iterate 2 (grind[af,S.len,dX])
   . intro d;try simp only[dt,tn] at d
     with_reducible and_intros
     (have q:=apZ i h [];exact q.1)
     iterate 2 (grind[af,S.len,dX])
     refine⟨(X+1),?_⟩;try dsimp only
     with_reducible and_intros
     grind[af,S.len,dX];exact apY H d;iterate 2 (grind[af,S.len,dX])
   intro e;try simp only[df,tn] at e
   with_reducible and_intros
   iterate 2 (grind[af,S.len,dX])
   refine⟨(X+1),?_⟩;try dsimp only
   with_reducible and_intros
   grind[af,S.len,dX];exact apU H e;iterate 2 (grind[af,S.len,dX])
 refine⟨?_,?_,?_⟩
 (have q:=apZ i h [];exact q.2.1)
 (have q:=apZ i h [];exact q.2.2.1)
 grind[avW]
def ax4(b:B8)(a:S.small b):qh b (bY (dz (length (aS b))) ([]=hdT (aS b)) (tO (length (aS b))) (toNat 0<length (aS b)) (eN (aS b) 0=hdT (aS b))):=by
 refine au ?_;refine⟨?_,?_,?_⟩;omega;intro h;simp only[dt] at h;rw[show aS b=[] from P?.1 w!];rfl;intro H;simp only[df] at H;with_reducible and_intros
 iterate 3 omega
 rfl
def ax5(s:Int)(b:B8)(a:Int)(h:s=0/\b=yo/\a=3):bY (pM s) (FF 0 s a (fU b)/\qh (Xp a b s) (length ([(-1,s,hdT (aS (Xp a b s)))]:M (Int×Int×B8))<=4398046511104/\-(1:Int)=-1/\b=b/\a=a/\[(-1,s,hdT (aS (Xp a b s)))]=S.Ë)) (s=-1) (b=b) (a=a/\[]=S.Ë):=by
 refine au ?_;obtain⟨q,Q,c⟩:=h;subst q;subst Q;subst c;refine⟨?_,?_⟩
 . intro H;with_reducible and_intros
   iterate 2 omega
   decide;exact(show(drop 0 (take 3 yo)).length<=1099511627776 by decide);decide;iterate 4 rfl
 grind
def ax6(b:B8)(g:b=yo):qh b ((∃(X:Nat),wM X (b=b/\(0:Int)=(X:Int)/\-(1:Int)=uI X) (3:Nat))/\(∀(x:Nat),cC x (3:Nat)->bY (decide ((x:Int)<(length (S.decode b):Int))) (((0:Int)<=(x:Int)/\(x:Int)<(length (S.decode b):Int))/\toNat (x:Int)<length (S.decode b)/\gg (lJ (S.letter (aam b x))) (ct (jZ (S.letter (aam b x)) (S.digit (aam b x))) (de (cE ((x:Int)+fU (im (aam b x)))/\dg (x:Int) (∃(a:Nat),xQ (x:Int) (a:Int) (b=b/\(x:Int)+fU (im (aam b x))=(a:Int)/\(bif decide (uI x<(0:Int)) then(x:Int) else uI x)=uI a) (cC a (3:Nat)) (3:Nat) a (af (3:Nat) x)))) (uI x=(0:Int)/\b=yo/\(x:Int)=(3:Int)) (eF (decide (aam b x=(32:Int))) (dg (x:Int) (dg (x:Int) (∃(c:Nat),xQ (x:Int) (c:Int) (b=b/\False/\(x:Int)+(1:Int)=(c:Int)/\-(1:Int)=uI c) (cC c (3:Nat)) (3:Nat) c (af (3:Nat) x)))) (ct (bif decide (aam b x=(40:Int)) then decide (aam b x=(40:Int)) else bif decide (aam b x=(41:Int)) then decide (aam b x=(41:Int)) else bif decide (aam b x=(124:Int)) then decide (aam b x=(124:Int)) else bif decide (aam b x=(38:Int)) then decide (aam b x=(38:Int)) else decide (aam b x=(33:Int))) (length S.Ë+length [(aam b x,(x:Int),([]:B8))]<=(4398046511104:Nat)/\dg (x:Int) (dg (x:Int) (∃(d:Nat),xQ (x:Int) (d:Int) (b=b/\False/\(x:Int)+(1:Int)=(d:Int)/\-(1:Int)=uI d) (cC d (3:Nat)) (3:Nat) d (af (3:Nat) x)))) (length S.Ë+length [(-(3:Int),(x:Int),([]:B8))]<=(4398046511104:Nat)) (S.Ë++[(-(3:Int),(x:Int),([]:B8))]=kE))))) (uI x=(0:Int)/\b=yo/\(x:Int)=(3:Int)) (length S.Ë+length [(-(2:Int),fU b,([]:B8))]<=(4398046511104:Nat)) (S.Ë++[(-(2:Int),fU b,([]:B8))]=kE))):=by
 refine au ?_;subst g;refine⟨?_,?_,?_⟩;exact(show S.yo.length<=1099511627776 by decide)
 . refine⟨0,?_⟩;with_reducible and_intros
   decide;rfl;iterate 2 decide
   exact S! _
 intro X f;refine V.dI (λh=>?_) λk=>?_
 . with_reducible and_intros
   iterate 3 omega
   trivial;intro i;trivial;intro j;trivial
   . intro l;with_reducible and_intros
     trivial;omega;rcases zr h with rfl|rfl|rfl<;>first|exact absurd H.1 (by decide)|decide
     omega;rcases zr h with rfl|rfl|rfl<;>first|exact absurd H.1 (by decide)|decide
     refine⟨(X+1),?_⟩;try dsimp only
     with_reducible and_intros
     omega;rfl
     iterate 2
      rcases zr h with rfl|rfl|rfl<;>first|exact absurd H.1 (by decide)|decide
     unfold cC;have :X<3:=by have:=zr h;omega
     omega;rcases zr h with rfl|rfl|rfl<;>first|exact absurd H.1 (by decide)|decide
   intro H;try simp only[V.qF] at H
   with_reducible and_intros
   rcases zr h with rfl|rfl|rfl<;>first|exact absurd H.1 (by decide)|decide
   with_reducible rfl
   rcases zr h with rfl|rfl|rfl<;>first|exact absurd H.1 (by decide)|decide
   . intro m;with_reducible and_intros
     omega;rcases zr h with rfl|rfl|rfl<;>first|exact absurd H.1 (by decide)|decide
     omega;rcases zr h with rfl|rfl|rfl<;>first|exact absurd H.1 (by decide)|decide
     refine⟨(X+1),?_⟩;try dsimp only
     with_reducible and_intros
     omega;rfl;rcases zr h with rfl|rfl|rfl<;>first|exact absurd H.1 (by decide)|decide
     omega
     iterate 2
      rcases zr h with rfl|rfl|rfl<;>first|exact absurd H.1 (by decide)|decide
     rcases zr h with rfl|rfl|rfl<;>first|exact absurd H.1 (by decide)|decide
   intro n;refine⟨?_,?_⟩
   . intro F;with_reducible and_intros
     rcases zr h with rfl|rfl|rfl<;>first|exact absurd H.1 (by decide)|decide
     omega;rcases zr h with rfl|rfl|rfl<;>first|exact absurd H.1 (by decide)|decide
     omega;rcases zr h with rfl|rfl|rfl<;>first|exact absurd H.1 (by decide)|decide
     refine⟨(X+1),?_⟩;try dsimp only
     with_reducible and_intros
     omega;rfl;rcases zr h with rfl|rfl|rfl<;>first|exact absurd H.1 (by decide)|decide
     omega
     iterate 2
      rcases zr h with rfl|rfl|rfl<;>first|exact absurd H.1 (by decide)|decide
     rcases zr h with rfl|rfl|rfl<;>first|exact absurd H.1 (by decide)|decide
   intro I;refine⟨?_,?_⟩;rcases zr h with rfl|rfl|rfl<;>first|exact absurd H.1 (by decide)|decide
   rcases zr h with rfl|rfl|rfl<;>first|exact absurd H.1 (by decide)|decide
 with_reducible and_intros
 (have e:=ge3 f k;subst e;decide)
 rfl
 (have e:=ge3 f k;subst e;decide)
 iterate 2 decide
def ax7(e:M (Int×Int×B8))(n w:Int)(h:0<=n/\n<e.length):jW n (length e) (q0 (getD e (toNat n) (0,0,[])) (BK e n) (e=e/\n=n/\w=w)):=by
 refine au ?_;with_reducible and_intros
 iterate 2 omega
 iterate 6 rfl
def ax8(e:M (Int×Int×B8))(n w:Int)(l:M (Int×B8))(h:0<=n/\n<e.length):jW n (length e) (q0 (getD e (toNat n) (0,0,[])) (BK e n) (e=e/\Rm n w (l=l))):=by
 refine au ?_;with_reducible and_intros
 iterate 2 omega
 iterate 7 rfl
def ax9(d:Int)(e:M (Int×Int×B8))(n w:Int)(H:e=kE/\n=0/\w=0):jW n (length e:Int) (eF (decide ((BK e n).1=-(1:Int))) (rH (decide ((16:Int)<=w)) ((8:Int)=(0:Int)/\e=e/\n=(1:Int)/\w=(1:Int)/\Rn) w (dg n (zx (length [((0:Int),(BK e n).2.2)])/\(0:Int)=(0:Int)/\e=e/\n+(1:Int)=(1:Int)/\w+(1:Int)=(1:Int)/\[((0:Int),(BK e n).2.2)]=jK))) (eF (decide ((BK e n).1=(40:Int))) (rH (decide ((8:Int)<=d)) ((8:Int)=(0:Int)/\e=e/\n=(1:Int)/\w=(1:Int)/\Rn) n False) (bY (decide ((BK e n).1=(33:Int))) ((9:Int)=(0:Int)/\e=e/\n=(1:Int)/\w=(1:Int)/\Rn) ((2:Int)=(0:Int)) (e=e) (n=(1:Int)/\w=(1:Int)/\Rn)))):=by
 refine au ?_;obtain⟨q,Q,a⟩:=H;subst q;subst Q;refine⟨⟨?_,?_⟩,⟨?_,?_⟩⟩;omega;decide
 . intro c;refine⟨?_,?_⟩;grind;intro f;with_reducible and_intros
   iterate 4 omega
   decide;iterate 2 rfl
   iterate 2 omega
   decide
 intro h;simp at h;refine V.dI (λg=>?_) λi=>?_
 . refine V.dI (λj=>?_) λk=>?_;apply SU;exact absurd rfl h;rfl;iterate 3 exact absurd rfl h
   with_reducible and_intros
   iterate 2 omega
   exact absurd rfl h
 refine V.dI (λl=>?_) λF=>?_;apply SU;exact absurd rfl h;rfl;iterate 3 exact absurd rfl h
 apply SU;exact absurd rfl h;rfl;iterate 3 exact absurd rfl h
def aya(d:Int)(e:M (Int×Int×B8))(n w:Int)(h:e=kE/\n=0/\w=0):(e=kE/\n=0/\w=0)/\ct (Rj 0) ((0:Int)=0/\e=e/\(1:Int)=1/\Rp 1) (∃(x:Nat),(e=e/\(1:Int)=1/\Rp 1)/\x=0) (∀(X:Nat),X=0->jW 1 (length e) (eF (decide ((BK e 1).1=38)) (dg 1 False) (bY (decide ((BK e 1).1=33)) (dg 1 False) zB (e=e) ((1:Int)=1/\Rp 1)))):=by
 refine au ?_;obtain⟨q,Q,a⟩:=h;subst q;subst Q;subst a;with_reducible and_intros
 iterate 3 rfl
 grind;intro f;refine⟨?_,?_⟩;grind;intro g i;with_reducible and_intros
 omega;decide
 . intro H;with_reducible and_intros
   iterate 2 omega
   exact absurd H (by decide)
 intro j;refine⟨?_,?_⟩
 . intro c;with_reducible and_intros
   iterate 2 omega
   exact absurd c (by decide)
 grind
def ayb(d:Int)(e:M (Int×Int×B8))(n w:Int)(h:e=kE/\n=0/\w=0):(e=kE/\n=0/\w=0)/\ct (Rj 0) ((0:Int)=0/\e=e/\(1:Int)=1/\Rp 1) (∃(x:Nat),(e=e/\(1:Int)=1/\Rp 1)/\x=0) (∀(X:Nat),X=0->jW 1 (length e) (bY (decide ((BK e 1).1=124)) (dg 1 False) zB (e=e) ((1:Int)=1/\Rp 1))):=by
 refine au ?_;obtain⟨q,Q,a⟩:=h;subst q;subst Q;subst a;with_reducible and_intros
 iterate 3 rfl
 grind;intro c;refine⟨?_,?_⟩;grind;intro f g;with_reducible and_intros
 omega;decide
 . intro H;with_reducible and_intros
   iterate 2 omega
   exact absurd H (by decide)
 grind
def ayc(b:B8)(a:b=yo):bY (Jr 2000 b) (Rn/\(0:Int)=0/\(8:Int)=0) (b=yo) (kE=kE/\(0:Int)=0/\zB) (fK (dz 0) ((0:Int)<=1/\(1:Int)<length kE)/\ct (cZ (aaV 0 1 2)) (rj (bif dz 0 then 1 else 1) (length (bif dz 0 then kE else kE)) Rn ((BK (bif dz 0 then kE else kE) (bif dz 0 then 1 else 1)).2.1=0/\aaV 0 1 2=0)) ((bif dz 0 then jK else jK)=jK) ((0:Int)=0/\zB)):=by
 refine au ?_;subst a;refine V.dI (λh=>?_) λc=>?_;refine⟨?_,?_,?_⟩;exact absurd h (by decide);rfl;exact absurd h (by decide);with_reducible and_intros
 iterate 4 rfl
 intro d;refine⟨?_,?_⟩;omega;decide;grind
 . intro H;simp at H;with_reducible and_intros
   iterate 2 decide
   iterate 2 (exact absurd (by decide) H)
   decide
 grind
def ayd(l:M (Int×B8))(a:dq l):(∃(x:Nat),((0:Int)=(↑x:Int)/\(0:Int)=nW l x)/\ja l x)/\∀(x:Nat),ja l x->(decide ((↑x:Int)<(↑(length l):Int))=true->((0:Int)<=(↑x:Int)/\(↑x:Int)<(↑(length l):Int))/\(decide ((getD l (toNat (↑x:Int)) ((0:Int),[])).1=(0:Int))=true->((0:Int)<=(↑x:Int)/\(↑x:Int)<(↑(length l):Int))/\S.small ((getD l (toNat (↑x:Int)) ((0:Int),[])).2)/\((!tx ((getD l (toNat (↑x:Int)) ((0:Int),[])).2))=true->false=aZ l)/\((!tx ((getD l (toNat (↑x:Int)) ((0:Int),[])).2))=false->((-9223372036854775808:Int)<=nW l x+(1:Int)/\nW l x+(1:Int)<=(9223372036854775807:Int))/\((-9223372036854775808:Int)<=(↑x:Int)+(1:Int)/\(↑x:Int)+(1:Int)<=(9223372036854775807:Int))/\∃(o:Nat),((↑x:Int)+(1:Int)=(↑o:Int)/\nW l x+(1:Int)=nW l o)/\ja l o/\af (S.len l) o<af (S.len l) x))/\(decide ((getD l (toNat (↑x:Int)) ((0:Int),[])).1=(0:Int))=false->((0:Int)<=(↑x:Int)/\(↑x:Int)<(↑(length l):Int))/\((decide ((getD l (toNat (↑x:Int)) ((0:Int),[])).1<(0:Int))=true->True)/\(decide ((getD l (toNat (↑x:Int)) ((0:Int),[])).1<(0:Int))=false->((0:Int)<=(↑x:Int)/\(↑x:Int)<(↑(length l):Int))/\(decide ((3:Int)<(getD l (toNat (↑x:Int)) ((0:Int),[])).1)=true->True)/\(decide ((3:Int)<(getD l (toNat (↑x:Int)) ((0:Int),[])).1)=false->((0:Int)<=(↑x:Int)/\(↑x:Int)<(↑(length l):Int))/\((!decide ((getD l (toNat (↑x:Int)) ((0:Int),[])).2=[]))=true->True)/\((!decide ((getD l (toNat (↑x:Int)) ((0:Int),[])).2=[]))=false->((-9223372036854775808:Int)<=(↑x:Int)-nW l x/\(↑x:Int)-nW l x<=(9223372036854775807:Int))/\(-9223372036854775808:Int)<=(↑x:Int)-nW l x+(2:Int)/\(↑x:Int)-nW l x+(2:Int)<=(9223372036854775807:Int)))))/\((bif decide ((getD l (toNat (↑x:Int)) ((0:Int),[])).1<(0:Int)) then true else bif decide ((3:Int)<(getD l (toNat (↑x:Int)) ((0:Int),[])).1) then true else bif !decide ((getD l (toNat (↑x:Int)) ((0:Int),[])).2=[]) then true else decide (nW l x<(↑x:Int)-nW l x+(2:Int)))=true->false=aZ l)/\((bif decide ((getD l (toNat (↑x:Int)) ((0:Int),[])).1<(0:Int)) then true else bif decide ((3:Int)<(getD l (toNat (↑x:Int)) ((0:Int),[])).1) then true else bif !decide ((getD l (toNat (↑x:Int)) ((0:Int),[])).2=[]) then true else decide (nW l x<(↑x:Int)-nW l x+(2:Int)))=false->((-9223372036854775808:Int)<=(↑x:Int)+(1:Int)/\(↑x:Int)+(1:Int)<=(9223372036854775807:Int))/\∃(o:Nat),((↑x:Int)+(1:Int)=(↑o:Int)/\nW l x=nW l o)/\ja l o/\af (S.len l) o<af (S.len l) x)))/\(decide ((↑x:Int)<(↑(length l):Int))=false->((-9223372036854775808:Int)<=(↑(length l):Int)-nW l x/\(↑(length l):Int)-nW l x<=(9223372036854775807:Int))/\((-9223372036854775808:Int)<=(↑(length l):Int)-nW l x+(1:Int)/\(↑(length l):Int)-nW l x+(1:Int)<=(9223372036854775807:Int))/\(bif decide (nW l x=(↑(length l):Int)-nW l x+(1:Int)) then decide (nW l x<=(16:Int)) else false)=aZ l):=by
 have i:l.length<=1099511627776:=a.1;have c:=a;refine⟨?_,?_⟩
 . refine⟨0,?_⟩;with_reducible and_intros
   iterate 2 rfl
   exact aEz c.1
 intro X h;refine V.dI (λH=>?_) λj=>?_
 . with_reducible and_intros
   iterate 2
    have q:=gR l X;have Q:=h.1;omega
   . intro d;try simp only[dt,tn] at d
     with_reducible and_intros
     iterate 2
      have q:=gR l X;have Q:=h.1;omega
     exact ap1 c _;intro e;try simp only[nt] at e
     exact S.Ê H (by assumption) (by rw[<-Kh];assumption);intro f;try simp only[nf] at f
     with_reducible and_intros
     iterate 4
      have q:=gR l X;have Q:=h.1;omega
     refine⟨(X+1),?_⟩;try dsimp only
     with_reducible and_intros
     have q:=gR l X;have Q:=h.1;omega
     exact(ND (by assumption)).symm;exact S.É h H (by assumption) (by rw[<-Kh];assumption);grind[af,S.len]
   intro g;try simp only[df,tn] at g
   with_reducible and_intros
   iterate 2
    have q:=gR l X;have Q:=h.1;omega
   intro k;trivial
   . intro m;with_reducible and_intros
     iterate 2
      have q:=gR l X;have Q:=h.1;omega
     intro F;trivial;intro I;with_reducible and_intros
     iterate 2
      have q:=gR l X;have Q:=h.1;omega
     intro K;trivial;intro O;with_reducible and_intros
     iterate 3
      have q:=gR l X;have Q:=h.1;omega
     have q:=gR l X;have Q:=h.1;omega
   intro r;try simp at r
   exact apW H (by assumption) (by assumption);intro G;try simp only[V.qF,df,tn,nf,dt] at G
   with_reducible and_intros
   iterate 2
    have q:=gR l X;have Q:=h.1;omega
   refine⟨(X+1),?_⟩;try dsimp only
   with_reducible and_intros
   have q:=gR l X;have Q:=h.1;omega
   exact(Kv (by assumption)).symm;exact alB h H (by assumption) (by assumption);grind[af,S.len]
 with_reducible and_intros
 have q:=gR l X;have Q:=h.1;omega
 have q:=gR l X;omega;have q:=gR l X;have Q:=h.1;omega
 have q:=gR l X;omega;grind[apX]
def aye(l:M (Int×B8))(h:UG l)(H:Vg.jE J.Jl l):(∃(X:Nat),((0:Int)=X/\[]=take X l)/\dX l X)/\(∀(x:Nat),dX l x->fL (decide ((x:Int)<length l)) 0 x (length l) (rj x (length l) (zx (length (take x l)+length [((iO l x).1,(iO l x).2)])) (dg x (∃(a:Nat),gV x a (take x l++[((iO l x).1,(iO l x).2)]=take a l) (dX l a) (S.len l)))) (take x l=l)):=by
 refine au ?_;have B:Vg.hlen l:=H.1.1;clear H;have i:l.length<=5864062014805:=h;clear h;refine⟨?_,?_⟩
 . refine⟨0,?_⟩;try dsimp only
   with_reducible and_intros
   omega;iterate 2 (grind[af,S.len,dX,List.take_add_one])
 intro X e;refine⟨?_,?_⟩
 . intro c;try simp only[dt] at c
   with_reducible and_intros
   iterate 4 omega
   grind[af,S.len,dX,List.take_add_one];iterate 2 omega
   refine⟨(X+1),?_⟩;try dsimp only
   with_reducible and_intros
   omega;iterate 3 (grind[af,S.len,dX,List.take_add_one])
 intro d;try simp only[df] at d
 grind[af,S.len,dX,List.take_add_one]
def ayf(l:M (Int×B8))(H:Vg.jE J.Jl l):(∃(X:Nat),(0:Int)=X/\GH l X)/\(∀(x:Nat),GH l x->fL (decide ((x:Int)<length l)) 0 x (length l) (rH (Jr 200 (iO l x).2) (true=oc l) x (∃(a:Nat),oZ x a (GH l a) (S.len l))) (decide ((60:Int)<length l)=oc l)):=by
 refine au ?_;have B:Vg.hlen l:=H.1.1;refine⟨?_,?_⟩;refine⟨(nat_lit 0:Nat),?_⟩;dsimp only;refine⟨?_,?_⟩;omega;exact⟨Nat.zero_le _,z!⟩;intro X c;refine⟨?_,?_⟩
 . intro h;simp only[dt] at h;with_reducible and_intros
   iterate 2 omega
   intro d;simp at d;exact avT h (by assumption);intro e;simp only[df,tn] at e;with_reducible and_intros
   iterate 2 omega
   refine⟨(X+nat_lit 1),?_⟩;dsimp only;refine⟨?_,?_,?_⟩;omega;exact apS c h (by assumption);grind[af,S.len]
 grind[df,avU]
def ayg(v:Int)(d:Bool)(l:B8)(h:l.length<=35184372088832):nB jV/\nD l (mq jV v)/\jZ (cZ (yW v)) d=oA d (jL v)/\l++mq jV v=gJ l (jL v):=by
 refine au ?_;refine⟨?_,?_,?_,?_⟩;grind;grind[av1];grind[aNz];rw[aNy v];rfl
def ayh(b:B8)(m:Int)(d:Bool)(l:B8)(H:l.length<=35184372088832/\b.length<=1099511627776):bY (Jr m b) (true=oA d (gn b m)/\l=gJ l (gn b m)) (oR jV b) (nD l ([]++S.text b)) (d=oA d (gn b m)/\l++([]++S.text b)=gJ l (gn b m)):=by
 refine au ?_;refine V.dI (λh1=>?_) λh=>?_;refine⟨?_,?_⟩;rw[afn h1];exact(Bool.or_true d).symm;rw[afn h1];exact(B? l).symm;refine⟨?_,?_,?_,?_⟩;exact⟨S! _,w!⟩;have:=ap3 b;simp;omega;rw[ap8 h];exact(Bool.or_false d).symm;rw[ap8 h];rfl
def ayi(y:Int)(Y:B8)(a:M (Int×Int×Int×B8))(d:Bool)(l:B8)(h:l.length<=35184372088832):de (bY (cZ (hW y Y a).2) (true=oA d (kL y Y a)/\l=gJ l (kL y Y a)) (nB l/\Rk (hW y Y a).1) (oA d (gn (hW y Y a).1 10000)=oA d (kL y Y a)) (gJ l (gn (hW y Y a).1 10000)=gJ l (kL y Y a))):=by
 refine au ?_;refine⟨?_,?_,?_⟩;trivial;intro h1;simp at h1;refine⟨?_,?_⟩;rw[ap9 h1];exact(Bool.or_true d).symm;rw[ap9 h1];exact(List.append_nil l).symm;grind[av3]
def ayj(p:O)(d:Bool)(l:B8)(i:l.length<=17592186044416):bY (GY (bG p)) (true=oA d (jb p)/\l=gJ l (jb p)) (nB l) (∃(a:Nat),((0:Int)=a/\oA d (jL (bG p))=d/\gJ l (jL (bG p))=l++iv p a)/\mA p a) (∀(x:Nat),wN (mA p x) (decide (x<bG p)) x (bG p) (ct (oD (length (eN p x)) 32) (true=oA d (jb p)/\l++iv p x=gJ l (jb p)) (Js (l++iv p x) (length (eN p x))) (dg x (∃(X:Nat),gV x X (d=d/\l++iv p x++eN p x=l++iv p X) (mA p X) (S.len p)))) (d=oA d (jb p)) (l++iv p x=gJ l (jb p))):=by
 refine au ?_;refine V.dI (λh1=>?_) λg=>?_;refine⟨?_,?_⟩;rw[ap4 h1];exact(Bool.or_true d).symm;rw[ap4 h1];exact(B? l).symm;refine⟨?_,?_,?_⟩;omega
 . refine⟨(nat_lit 0:Nat),?_⟩;dsimp only;with_reducible and_intros
   omega;rw[WJ w!];exact Bool.or_false d;grind[WJ,iv,S.bytesOf];exact aNw g
 intro X h;refine V.dI (λH=>?_) λf=>?_
 . with_reducible and_intros
   iterate 2 omega
   intro c;simp at c;refine⟨?_,?_⟩;rw[afh h H c];exact(Bool.or_true d).symm;rw[afh h H c];rfl;intro e;simp only[nf,dt,tn] at e;with_reducible and_intros
   have q:=avZ h;rw[J!,tn];omega;iterate 2 omega
   refine⟨(X+nat_lit 1),?_⟩;dsimp only;with_reducible and_intros
   omega;rfl;rw[tn,X!,(S.Ï h H e).2];exact(S.Ï h H e).1;simp[af,S.len];omega
 refine⟨?_,?_⟩;rw[afi h f];exact(Bool.or_false d).symm;rw[afi h f];rfl
def ayk(c:Int)(p P a:B8)(e:O)(f:B8)(d:Bool)(l:B8)(h:l.length<=8796093022208/\f.length<=1099511627776):nB l/\de (bY (cZ (kJ p P a)) (true=oA d (lb (c,p,P,a,e,f))/\gJ l (jL c)=gJ l (lb (c,p,P,a,e,f))) (nB (gJ l (jL c))/\Rk (dw p P a)) (length (gJ (gJ l (jL c)) (gn (dw p P a) 200))<=17592186044416) ((nB (gJ (gJ (gJ l (jL c)) (gn (dw p P a) 200)) (jb e))/\Rk f)/\oA (oA (oA (oA d (jL c)) (gn (dw p P a) 200)) (jb e)) (gn f 4000)=oA d (lb (c,p,P,a,e,f))/\gJ (gJ (gJ (gJ l (jL c)) (gn (dw p P a) 200)) (jb e)) (gn f 4000)=gJ l (lb (c,p,P,a,e,f)))):=by
 refine au ?_;have A:=Qv c;have g:=zu (dw p P a) (m:=200) (by decide);have i:=Qw e;have j:=av4 p P a;refine⟨?_,?_,?_,?_⟩;omega;trivial;intro h1;simp at h1;refine⟨?_,?_⟩;rw[afo h1];exact(Bool.or_true d).symm;rw[afo h1];rfl;grind[S.bytesOf,List.length_append,aqa,oA,S.cat,Bool.or_assoc,List.append_assoc]
def ayl(d:Bool)(l:B8):eF d ([]=Fv (l,d)/\1=Fw (l,d)) (ct (Jr 1048576 l) ([]=Fv (l,d)/\3=Fw (l,d)) (l=Fv (l,d)) (0=Fw (l,d))):=by
 refine au ?_;simp_all[dt,Fv,R!,Q!,Fw,df]
def aym(c:Int)(d:B8)(A:M (Int×Int×Int×B8))(a:M (M (Int×B8×B8×B8×O×B8)))(v:zt a)(s:Vg.jE J.aET (c,d,A,a)):nB [1]/\ct (oD (length a) (length A)) (xP (xF c d A a) 1) (∃(j:Nat),((0:Int)=j/\oA false (kL c d A)=mU (gj c d A a j)/\gJ [1] (kL c d A)=S.bytesOf (gj c d A a j))/\oV A a j) (∀(x:Nat),wN (oV A a x) (decide ((x:Int)<length a)) x (length a) (bY (decide (16<La a x)) (xP (xF c d A a) 1) (nB (S.bytesOf (gj c d A a x))) (∃(f:Nat×Nat),((0:Int)=f.1/\oA (mU (gj c d A a x)) (jL (La a x))=mU (gE c d A a f.2 f.1)/\gJ (S.bytesOf (gj c d A a x)) (jL (La a x))=S.bytesOf (gE c d A a f.2 f.1))/\mB A a f.2 f.1/\(x:Int)=f.2) (∀(X:Nat×Nat),mB A a X.2 X.1/\(x:Int)=X.2->rH (decide (X.1<La a x)) (rj X.1 (La a x) (length (S.bytesOf (gE c d A a X.2 X.1))<=8796093022208/\Rk (Dw a x X).2.2.2.2.2) (cE (X.1+1)/\(∃(h:Nat×Nat),zA (X.1+1) h.1 (oA (mU (gE c d A a X.2 X.1)) (aba a x X)=mU (gE c d A a h.2 h.1)/\gJ (S.bytesOf (gE c d A a X.2 X.1)) (aba a x X)=S.bytesOf (gE c d A a h.2 h.1)) (mB A a h.2 h.1/\(x:Int)=h.2) (S.len (fu a h.2)) (af (S.len (fu a X.2)) X.1)))) x (∃(k:Nat),gV x k (mU (gE c d A a X.2 X.1)=mU (gj c d A a k)/\S.bytesOf (gE c d A a X.2 X.1)=S.bytesOf (gj c d A a k)) (oV A a k) (S.len a)))) True (Fv (S.bytesOf (gj c d A a x),mU (gj c d A a x))=(xF c d A a).1/\Fw (S.bytesOf (gj c d A a x),mU (gj c d A a x))=(xF c d A a).2)):=by
 refine au ?_;have t:Vg.hlen A:=s.2.2.1.1;refine⟨?_,?_,?_⟩;decide;grind[nt,df,aGR];intro u;simp at u;refine⟨?_,?_⟩
 . refine⟨(nat_lit 0:Nat),?_⟩;dsimp only;with_reducible and_intros
   omega;iterate 2 rfl
   grind[aNx]
 intro f l;refine V.dI (λm=>?_) λK=>?_
 . with_reducible and_intros
   iterate 2 omega
   intro o;try simp at o
   refine⟨?_,?_⟩;rw[afk m o];rw[afk m o];intro r;try simp only[df,tn] at r
   refine⟨?_,?_,?_⟩;exact b? (afm (n:=c) (g:=d) l) (by decide)
   . refine⟨((nat_lit 0:Nat),(f)),?_⟩;try dsimp only
     with_reducible and_intros
     omega
     iterate 2
      rw[tn,WJ w!];rfl
     exact aGQ l m r;with_reducible rfl
   intro i H;refine⟨?_,?_⟩
   . intro F;try simp only[dt,tn] at F
     with_reducible and_intros
     omega;assumption;exact b? (ap7 (n:=c) (g:=d) H.1) (by decide);obtain⟨q,e⟩:=H;have E:i.2=f:=by omega
     rw[E] at q;exact ap6 q F;iterate 2 omega
     refine⟨((Prod.fst i+nat_lit 1),(f)),?_⟩;try dsimp only
     with_reducible and_intros
     omega;obtain⟨q,e⟩:=H;have E:i.2=f:=by omega
     rw[E,tn,tn];exact(aEB _ rfl _ _ rfl rfl).1;obtain⟨q,e⟩:=H;have E:i.2=f:=by omega
     rw[E,tn,tn];exact(aEB _ rfl _ _ rfl rfl).2;obtain⟨q,e⟩:=H;have E:i.2=f:=by omega
     rw[E] at q;exact ap5 q F;with_reducible rfl
     obtain⟨q,e⟩:=H;have E:i.2=f:=by omega
     rw[E];have w:(i.1:Int)<((fu a f).length:Int):=F;simp only[af,S.len];omega
   intro I;try simp only[df,tn] at I
   with_reducible and_intros
   iterate 2 omega
   refine⟨(f+nat_lit 1),?_⟩;try dsimp only
   with_reducible and_intros
   omega
   iterate 2
    obtain⟨q,e⟩:=H;have E:i.2=f:=by omega
    rw[E] at q |-;rw[(afj (n:=c) (g:=d) q I).2]
   obtain⟨q,e⟩:=H;have E:i.2=f:=by omega
   rw[E] at q;exact(afj (n:=c) (g:=d) q I).1;simp only[af,S.len];omega
 refine⟨?_,?_,?_⟩;trivial;rw[afl l K];rfl;rw[afl l K];rfl
def ayn(p:Int)(P:B8)(a:M (Int×Int×Int×B8))(d:Int)(c:B8)(e:O)(h:c.length<=1099511627776):nB [2]/\nB (gJ [2] (kL p P a))/\(nB (gJ (gJ [2] (kL p P a)) (jL d))/\Rk c)/\length (gJ (gJ (gJ [2] (kL p P a)) (jL d)) (gn c 2000))<=17592186044416/\de (Fv (abb p P a d c e)=(Kw p P a d c e).1/\Fw (abb p P a d c e)=(Kw p P a d c e).2):=by
 refine au ?_;have A:=Uu p P a;have f:=Qv d;have g:=zu c (m:=2000) (by decide);with_reducible and_intros
 grind;iterate 2 (grind[S.bytesOf,List.length_append,List.length_singleton])
 omega;grind[S.bytesOf,List.length_append,List.length_singleton];trivial;iterate 2 rfl
def ayo(b:B8)(c:UInt8)(h:jd b c=0):eF (decide (1048576<fU b)) (False/\(3:Int)=0/\False) (ct (dz (fU b)) (False/\(4:Int)=0/\False) (tO (fU b)) (bY (oD (gh b 0) (UInt8.toNat c)) (False/\(2:Int)=0/\False) (0=0) zB (b=b/\(1:Int)=1/\zB))):=by
 refine au ?_;refine⟨?_,?_⟩;intro H;simp_all[dt,afp]
 intro a;refine⟨?_,?_⟩;intro d;simp_all[dt,afq]
 grind[df,nt,aqb]
def ayp(b:B8)(c:UInt8)(H:¬jd b c=0):eF (decide (1048576<fU b)) (3=jd b c) (ct (dz (fU b)) (4=jd b c) (tO (fU b)) (ct (oD (gh b 0) (UInt8.toNat c)) (2=jd b c) False (0=jd b c))):=by
 refine au ?_;refine⟨?_,?_⟩;simp_all[dt,afp]
 intro a;refine⟨?_,?_⟩;simp_all[dt,afq]
 intro h;simp only[df] at h;with_reducible and_intros
 iterate 2 omega
 grind[nt,df,aqb];intro d;simp_all[nf,dt,aGT]
def ayq(r:B8)(R a:Int)(h:r.length<=140737488355328):jM r/\(ag r R a).2=(ag r R a).2/\(ag r R a).1.1=r/\mK (ag r R a).1.2.1 (ag r R a).1.2 (ag r R a).1.2.2:=by
 refine au ?_;grind[Ek]
def ayr(m:Int)(r:B8)(R a:Int)(h:r.length<=140737488355328):jM r/\(ao r R a m).2=(ao r R a m).2/\(ao r R a m).1.1=r/\mK (ao r R a m).1.2.1 (ao r R a m).1.2 (ao r R a m).1.2.2:=by
 refine au ?_;grind[CV]
def ays(m:Int)(r:B8)(R a:Int)(h:r.length<=140737488355328):jM r/\bY (decide (m<(ag r R a).2)) (0=(fj r R a m).2/\r=r/\(ag r R a).1.2.1=(fj r R a m).1.1/\2=(fj r R a m).1.2) ((ag r R a).2=(fj r R a m).2) (r=r) (q2 (ag r R a).1.2 (fj r R a m).1):=by
 refine au ?_;simp_all[dt,av6,df,aGU]
def ayt(r:B8)(R a:Int)(h:r.length<=140737488355328):jM r/\ct (cZ (ao r R a 10000).1.2.2) (0=(fq r R a).2.1/\[]=(fq r R a).2.2.1/\[]=(fq r R a).2.2.2/\r=r/\q2 (ao r R a 10000).1.2 (fq r R a).1) (jM (ao r R a 10000).2) (q4 (hR (ao r R a 10000).2).1 (fq r R a).2 (r=r/\(ao r R a 10000).1.2.1=(fq r R a).1.1/\(hR (ao r R a 10000).2).2=(fq r R a).1.2)):=by
 refine au ?_;refine⟨?_,?_,?_⟩;omega;grind[nt,df,aGV];grind[I5,av7]
def ayu(r:B8)(R a:Int)(h:r.length<=140737488355328):jM r/\ct (cZ (ao r R a 200).1.2.2) ([]=(lI r R a).2.1/\[]=(lI r R a).2.2.1/\[]=(lI r R a).2.2.2/\r=r/\q2 (ao r R a 200).1.2 (lI r R a).1) (jM (ao r R a 200).2) ((bg (ao r R a 200).2).1.1=(lI r R a).2.1/\(bg (ao r R a 200).2).1.2.1=(lI r R a).2.2.1/\(bg (ao r R a 200).2).1.2.2=(lI r R a).2.2.2/\r=r/\(ao r R a 200).1.2.1=(lI r R a).1.1/\(bg (ao r R a 200).2).2=(lI r R a).1.2):=by
 refine au ?_;refine⟨?_,?_,?_⟩;omega;grind[nt,df,aGW];grind[I5,av8]
def ayv(r:B8)(R a:Int)(f:r.length<=140737488355328):jM r/\(∃(X:Nat),wM X ([]=(iw r R a X).2/\r=r/\(fj r R a 64).1.1=(iw r R a X).1.1/\(fj r R a 64).1.2=(iw r R a X).1.2) (qT r R a))/\(∀(x:Nat),cC x (qT r R a)->bY (decide (x<(fj r R a 64).2)) (jM r/\By (iw r R a x).2 [(Rt r R a x).2]/\dg x (∃(c:Nat),FE x c ((iw r R a x).2++[(Rt r R a x).2]=(iw r R a c).2/\(Rt r R a x).1.1=r/\q2 (Rt r R a x).1.2 (iw r R a c).1) (qT r R a))) ((iw r R a x).2=(sc r R a).2) (r=r) ((iw r R a x).1.1=(sc r R a).1.1/\(iw r R a x).1.2=(sc r R a).1.2)):=by
 refine au ?_;refine⟨?_,?_,?_⟩;omega
 . refine⟨(nat_lit 0:Nat),?_⟩;dsimp only;with_reducible and_intros
   omega;iterate 4 rfl
   exact S! _
 intro X h;refine V.dI (λd=>?_) λH=>?_
 . with_reducible and_intros
   omega;have:=WK r R a X;have:=WL r R a;have q:X<=qT r R a:=h
   rw[J?];omega;omega;have:=WL r R a;have q:X<=qT r R a:=h
   omega;refine⟨(X+nat_lit 1),?_⟩;dsimp only;with_reducible and_intros
   omega;exact rfl;exact(Ek _ _ _).2;iterate 2 exact rfl
   exact aao d;have e:qT r R a=(fj r R a 64).2.toNat:=rfl;simp[af];omega
 refine⟨?_,?_,?_,?_⟩;have e:=Qx h H;rw[e];rfl;rfl;have e:=Qx h H;rw[e];rfl;have e:=Qx h H;rw[e];rfl
def ayw(r:B8)(R a:Int)(h:r.length<=140737488355328):jM r/\jM r/\jM r/\jM r/\(ag r R a).2=(jc r R a).2.1/\(KR r R a).2.1=(jc r R a).2.2.1/\(KR r R a).2.2.1=(jc r R a).2.2.2.1/\(KR r R a).2.2.2=(jc r R a).2.2.2.2.1/\(KQ r R a).2=(jc r R a).2.2.2.2.2.1/\(ao r (KQ r R a).1.1 (KQ r R a).1.2 4000).2=(jc r R a).2.2.2.2.2.2/\r=r/\q2 (ao r (KQ r R a).1.1 (KQ r R a).1.2 4000).1.2 (jc r R a).1:=by
 refine au ?_;with_reducible and_intros
 iterate 4 omega
 iterate 9 rfl
def ayx(b:B8)(i:b.length<=140737488355328/\jd b 1=0):jd b 1=0/\bY (Rj 0) (q36 (aI b) 0 [] [] [] 0) (jM b) (∃(f:Nat),wM f (b=b/\q37 (fq b 1 0).1 (kp b f).1 (q4 (fq b 1 0).2 (aH b).2 ([]=(kp b f).2))) (aN b)) (∀(c:Nat),cC c (aN b)->ct (decide ((c:Int)<length (fq b 1 0).2.2.2)) (jM b/\(∃(x:Nat×Nat),((0:Int)=x.1/\[]=(I4 b x.2 x.1).2/\b=b/\q37 (fj b (kp b c).1.1 (kp b c).1.2 16).1 (I4 b x.2 x.1).1 (q4 (aH b).2 (aH b).2 ((kp b c).2=(kp b x.2).2)))/\(cC x.1 (qU b x.2)/\x.2+1<=aN b)/\(c:Int)=x.2)/\(∀(X:Nat×Nat),(cC X.1 (qU b X.2)/\X.2+1<=aN b)/\(c:Int)=X.2->ct (decide (X.1<(fj b (kp b c).1.1 (kp b c).1.2 16).2)) (jM b/\length (Dv b X).2+length (Du b X)<=1353245080339/\cE (X.1+1)/\(∃(d:Nat×Nat),zA (X.1+1) d.1 ((Dv b X).2++Du b X=(I4 b d.2 d.1).2/\b=b/\q37 (aa9 b X).1 (I4 b d.2 d.1).1 (q4 (aH b).2 (aH b).2 ((kp b X.2).2=(kp b d.2).2))) ((cC d.1 (qU b d.2)/\d.2+1<=aN b)/\(c:Int)=d.2) (qU b d.2) (af (qU b X.2) X.1))) (zx (length (kp b X.2).2+length [(Dv b X).2])) (dg c (∃(a:Nat),FE c a (b=b/\q37 (Dv b X).1 (kp b a).1 (q4 (aH b).2 (aH b).2 ((kp b X.2).2++[(Dv b X).2]=(kp b a).2))) (aN b))))) True (eF (cZ (S.done b (kp b c).1.1 (kp b c).1.2)) (q36 (aI b) 0 [] [] [] (S.done b (kp b c).1.1 (kp b c).1.2)) (q36 (aI b) (aH b).2.1 (aH b).2.2.1 (aH b).2.2.2 (kp b c).2 0))):=by
 refine au ?_;have u:=i.2;refine⟨?_,?_,?_⟩;omega;grind;intro j;refine⟨?_,?_,?_⟩;omega
 . refine⟨(nat_lit 0:Nat),?_⟩;dsimp only;with_reducible and_intros
   omega;iterate 7 rfl
   exact S! _
 intro x g;refine V.dI (λH=>?_) λF=>?_
 . refine⟨?_,?_,?_⟩;omega
   . refine⟨((nat_lit 0:Nat),(x)),?_⟩;try dsimp only
     with_reducible and_intros
     omega;exact rfl;rfl;iterate 2 exact rfl
     iterate 3 rfl
     with_reducible rfl
     exact S! _;exact WM H;with_reducible rfl
   intro a h;refine V.dI (λk=>?_) λl=>?_
   . with_reducible and_intros
     omega;rw[av9,J?];have:=aqd b a.2;have :a.1<=qU b a.2:=h.1.1
     omega;omega;have:=aqd b a.2;have :a.1<=qU b a.2:=h.1.1
     omega;refine⟨((Prod.fst a+nat_lit 1),(x)),?_⟩;try dsimp only
     with_reducible and_intros
     omega;have e:a.2=x:=by have:=h.2;omega
     rw[e];exact rfl;rfl
     iterate 2
      have e:a.2=x:=by have:=h.2;omega
      rw[e];exact rfl
     iterate 3 rfl
     have e:a.2=x:=by have:=h.2;omega
     rw[e];exact aao (by assumption);omega;with_reducible rfl
     have e:a.2=x:=by have:=h.2;omega
     rw[e];have q:=aao (by assumption);have w:qU b x=(fj b (kp b x).1.1 (kp b x).1.2 16).2.toNat:=rfl
     simp only[af];omega
   with_reducible and_intros
   rw[awa,J?];have:=aap b;have:=h.1.2;omega
   omega;have:=aap b;have:=WM H;omega
   refine⟨(x+nat_lit 1),?_⟩;try dsimp only
   with_reducible and_intros
   omega;rfl
   iterate 2
    have e:a.2=x:=by have:=h.2;omega
    rw[e];have q:a.1=qU b x:=Qx (e▸h.1.1) (by assumption)
    rw[q];exact rfl
   iterate 3 rfl
   have e:a.2=x:=by have:=h.2;omega
   rw[e];have q:a.1=qU b x:=Qx (e▸h.1.1) (by assumption)
   rw[q];exact rfl;exact WM H;have:=WM H;simp only[af];omega
 refine⟨?_,?_,?_⟩;trivial;intro I;simp at I;apply SU;iterate 4 (rw[aqe u (aaq g (by assumption)) (by assumption)])
 rw[aqe u (aaq g (by assumption)) (by assumption)];grind[aED,aaq]
def ayy(b:B8)(h:¬jd b 1=0):(jd b 1=0->False)/\eF (cZ (jd b 1)) (q36 (aI b) 0 [] [] [] (jd b 1)) False:=by
 refine au ?_;simp_all[nt,df,aEC,nf,dt]
def ayz(b:B8)(a:b.length<=140737488355328/\jd b 2=0):jd b 2=0/\ct (Rj 0) (q38 (bx b) 0 [] [] 0 [] [] 0) (jM b) (jM b/\jM b/\jM b/\zz (cZ (S.done b (K9 b).1.1 (K9 b).1.2)) (q38 (bx b) 0 [] [] 0 [] [] (S.done b (K9 b).1.1 (K9 b).1.2)) (q38 (bx b) (fq b 1 0).2.1 (fq b 1 0).2.2.1 (fq b 1 0).2.2.2 (Xr b).2 (Xq b).2 (K9 b).2 0)):=by
 refine au ?_;have u:=a.2;refine⟨?_,?_,?_⟩;omega;grind;intro c;with_reducible and_intros
 iterate 4 omega
 trivial
 . intro h;simp at h;with_reducible and_intros
   iterate 6 (rw[aqf u h])
   rw[aqf u h];rfl
 intro H;simp at H;with_reducible and_intros
 iterate 6
  rw[aqg u H];rfl
 rw[aqg u H]
def ayA(b:B8)(h:¬jd b 2=0):(jd b 2=0->False)/\eF (cZ (jd b 2)) (q38 (bx b) 0 [] [] 0 [] [] (jd b 2)) False:=by
 refine au ?_;simp_all[nt,df,aGX,nf,dt]
def ayB(Y:Int)(a:B8)(y:M (Int×Int×Int×B8))(d:cO Y a y=true)(c:Vg.jE J.Rf (Y,a,y)):0<=Y/\nD (S.num Y) a/\(0:Int)<=length y/\nD (S.num Y++a) (S.num (length y))/\(∃(X:Nat),((0:Int)=X/\S.num Y++a++S.num (length y)=tE Y a y X)/\Fp Y a y X)/\(∀(x:Nat),Fp Y a y x->fL (decide ((x:Int)<length y)) 0 x (length y) (0<=(tU y x).1/\nD (tE Y a y x) (S.num (tU y x).1)/\0<=(tU y x).2.1/\nD (tE Y a y x++S.num (tU y x).1) (S.num (tU y x).2.1)/\nD (tE Y a y x++S.num (tU y x).1++S.num (tU y x).2.1) (tU y x).2.2/\dg x (∃(e:Nat),gV x e (tE Y a y x++S.num (tU y x).1++S.num (tU y x).2.1++(tU y x).2.2=tE Y a y e) (Fp Y a y e) (S.len y))) (tE Y a y x=hB Y a y)):=by
 refine au ?_;have D:Vg.hint Y:=c.1;have W:Vg.hlen a:=c.2.1;have A:Vg.hlen y:=c.2.2.1.1;clear c;have j:=I6 d;have n:=cU Y;have N:=cU (y.length:Int);with_reducible and_intros
 iterate 3 omega
 grind
 . refine⟨0,?_⟩;try dsimp only
   with_reducible and_intros
   omega;grind[aEv];exact⟨d,Nat.zero_le _⟩
 intro X h;refine⟨?_,?_⟩
 . intro H;try simp only[dt] at H
   with_reducible and_intros
   iterate 2 omega
   have q:=GG h H;rw[tn];have:=NF q.1;have:=NF q.2.1;unfold sg at *;omega
   have q:=Em h;have w:=GG h H;have f:=cU (y.getD (toNat (X:Int)) (0,0,0,[])).2.1;have g:=cU (y.getD (toNat (X:Int)) (0,0,0,[])).2.2.1;have i:(y.getD (toNat (X:Int)) (0,0,0,[])).2.2.2.length=32:=w.2.2
   omega;have q:=GG h H;rw[tn];have:=NF q.1;have:=NF q.2.1;unfold sg at *;omega
   iterate 2
    have q:=Em h;have w:=GG h H;have f:=cU (y.getD (toNat (X:Int)) (0,0,0,[])).2.1;have g:=cU (y.getD (toNat (X:Int)) (0,0,0,[])).2.2.1;have i:(y.getD (toNat (X:Int)) (0,0,0,[])).2.2.2.length=32:=w.2.2
    simp only[J!];omega
   iterate 2 omega
   refine⟨(X+1),?_⟩;try dsimp only
   with_reducible and_intros
   omega;rw[tn];exact S.Á H;exact⟨d,w!⟩;simp only[af,S.len];omega
 grind[df,WB]
def ayC(y:Int)(Y:B8)(a:M (Int×Int×Int×B8))(h:cO y Y a=true):cO y Y a/\qi (hB y Y a) (pB 3 (hB y Y a)=afu y Y a):=by
 refine au ?_;refine⟨?_,?_,?_⟩;omega;grind[WN];rfl
def ayD(y:Int)(Y:B8)(a:M (Int×Int×Int×B8)):de (ct (cZ (hW y Y a).2) (xP (qV y Y a) (hW y Y a).2) (az (hW y Y a).1) (l7 3 (hW y Y a).1=(qV y Y a).1/\0=(qV y Y a).2)):=by
 refine au ?_;simp_all[nt,df,aGZ,nf,dt,awc]
def ayE(a b:B8):decide (a=b)=Qy a b:=by
 rfl
def ayF(y:O)(Y:M (Int×Int×M (B8×U))):de (ct (cZ (gI y Y).2) (xP (fk y Y) 7) True (q35 (qV (gI y Y).1.1 (gI y Y).1.2.1 (gI y Y).1.2.2) (fk y Y))):=by
 refine au ?_;simp_all[nt,df,aG0,nf,dt,awd]
def ayG(t:B8)(d:M (B8×U))(e:Int)(h:aW d/\aK d=true/\S.isTerm t=true/\e=0):wL d (S.small t)/\length (aa7 d t)<=1353245080339/\d=d/\(bif dz e then(wv d t).2 else e)=0/\aa7 d t=[la d t]:=by
 refine au ?_;grind[Mv,List.length_singleton,Qs]
def ayH(t:B8)(d:M (B8×U))(e:Int)(l:M (Int×B8×B8×B8×O×B8))(h:aW d/\aK d=true/\S.isTerm t=true/\e=0/\l.length<=100000):wL d (S.small t)/\length l+length (aa8 d t)<=1353245080339/\d=d/\(bif dz e then(wv d t).2 else e)=0/\l++aa8 d t=l++[la d t]:=by
 refine au ?_;grind[Mv,List.length_singleton,Qs]
def ayI(d:M (B8×U))(e:Int)(t:O)(f:Qz d t/\e=0)(c:Vg.aEo J.aEW d)(h:Vg.fD.ok J.aEX (e,(t,()))):(∃(X:Nat),((0:Int)=X/\d=d/\[]=sd d t X/\e=0/\t=t)/\dX t X)/\(∀(x:Nat),dX t x->bY (decide (x<bG t)) (rj x (bG t) (wL d (aK d/\S.isTerm (eN t x)/\(0:Int)=0/\length (sd d t x)<=100000)) (dg x (∃(a:Nat),gV x a (d=d/\sd d t x++[la d (eN t x)]=sd d t a/\(0:Int)=0/\t=t) (dX t a) (S.len t)))) (sd d t x=SQ d t) zB (t=t)):=by
 refine au ?_;have A:Vg.hlen d:=c.1.1;have g:Vg.hint e:=h.1.1;have i:Vg.hlen t:=h.2.1.1.1;clear c h;obtain⟨u,q⟩:=f;subst q;refine⟨?_,?_⟩
 . refine⟨0,?_⟩;try dsimp only
   with_reducible and_intros
   omega;iterate 4 rfl
   exact S! _
 intro X j;refine⟨?_,?_⟩
 . intro H;try simp only[dt] at H
   with_reducible and_intros
   iterate 2 omega
   exact u.1;exact u.2.1;exact aG1 u H;rfl;have:=awe d t X;have:=u.2.2.1;omega
   iterate 2 omega
   refine⟨(X+1),?_⟩;try dsimp only
   with_reducible and_intros
   omega;rfl;exact aql H;iterate 2 rfl
   unfold dX;omega;simp only[af,S.len];omega
 grind[df,awf]
def ayJ(Y:O)(y:M (Int×Int×M (B8×U)))(l:M (Int×B8))(e:dq l)(f:Vg.jE J.aEY (Y,y,l)):de (ct (cZ (gI Y y).2) (xP (rF Y y l) 7) (dq l) (bY (Bool.not (aZ l)) (xP (rF Y y l) 1) (S.small l) (∃(X:Nat),((0:Int)=X/\(gI Y y).2=0/\al l=al l/\(gI Y y).1.1=S.len Y/\(gI Y y).1.2.1=S.root (S.leaves Y)/\(gI Y y).1.2.2=bu Y y/\[]=oB y (al l) X)/\dX y X/\cy Y y/\aZ l) (∀(x:Nat),dX y x/\cy Y y/\aZ l->fL (decide ((x:Int)<length y)) 0 x (length y) ((Qz (fM y x 0).2.2 (al l)/\zB)/\zx (length (oB y (al l) x)+length [SQ (fM y x 0).2.2 (al l)])/\dg x (∃(a:Nat),gV x a ((0:Int)=0/\al l=al l/\(S.len Y:Int)=S.len Y/\S.root (S.leaves Y)=S.root (S.leaves Y)/\bu Y y=bu Y y/\oB y (al l) x++[SQ (fM y x 0).2.2 (al l)]=oB y (al l) a) (dX y a/\cy Y y/\aZ l) (S.len y))) (ct (Rj 0) (xP (rF Y y l) 0) (zt (oB y (al l) x)) (q35 (xF (S.len Y) (S.root (S.leaves Y)) (bu Y y) (oB y (al l) x)) (rF Y y l)))))):=by
 refine au ?_;have w:Vg.hlen y:=f.2.1.1;refine⟨?_,?_,?_⟩;trivial;grind[nt,df,aG2];intro H;simp at H;refine⟨?_,?_,?_⟩;omega;grind[nt,awj];intro g;simp at g;refine⟨?_,?_,?_⟩;exact e.1
 . refine⟨(nat_lit 0:Nat),?_⟩;dsimp only;with_reducible and_intros
   iterate 2 omega
   rfl;exact(uJ H).2.1;iterate 2 (simp_all[uJ])
   rfl;exact Nat.zero_le _;grind[uJ];omega
 intro c h;refine V.dI (λd=>?_) λi=>?_
 . with_reducible and_intros
   iterate 2 omega
   exact awi h.2.1 h.2.2 d;rfl;have:=awg y (al l) c;have:=Ux h.2.1;rw[J?];omega
   iterate 2 omega
   refine⟨(c+nat_lit 1),?_⟩;try dsimp only
   with_reducible and_intros
   omega;iterate 5 rfl
   exact aqm d;unfold dX;omega;exact h.2.1;omega;simp only[af,S.len];omega
 refine⟨?_,?_⟩;intro j;refine⟨?_,?_⟩;grind;grind;grind[awk]
def ayK(y:O)(Y:M (Int×Int×M (B8×U)))(i:Int):zz (cZ (gI y Y).2) (xP (oC y Y i) 7) (bY (US i 0 (bG y)) (xP (oC y Y i) 5) (dj y) (eX (S.leaves y)) (bY (cZ (tF (S.leaves y) i)) (xP (oC y Y i) (tF (S.leaves y) i)) (0<=i/\i<bG y) (Rk (eN y i)) (q35 (Kw (gI y Y).1.1 (gI y Y).1.2.1 (gI y Y).1.2.2 i (eN y i) (oz (S.leaves y) i)) (oC y Y i)))):=by
 refine au ?_;refine⟨?_,?_,?_⟩;trivial;grind[nt,df,aG3];intro h;simp at h;refine⟨?_,?_⟩;simp_all[V.Nb,dt,awl]
 intro H;refine⟨?_,?_,?_,?_⟩;exact(GI (uJ h).1).1;exact(GI (uJ h).1).2.1;grind[nt,df,afv];grind[afv]
def ayL(y:O)(Y:M (Int×Int×M (B8×U)))(H:cy y Y=true)(h:Vg.jE J.lV (y,Y)):dj y/\cO (S.len y) (S.root (S.leaves y)) (bu y Y)/\afu (S.len y) (S.root (S.leaves y)) (bu y Y)=tH y Y:=by
 have D:Vg.hlen y:=h.1.1;have w:Vg.hlen Y:=h.2.1.1;clear h;refine⟨?_,?_,?_⟩;exact(GI H).1;exact wk H;rfl
def ayM(i n:Int)(H:ob i n):(∃(X:Int×Int×M Bool),(i=X.1/\n=X.2.1/\[]=X.2.2)/\j4 i n X)/\(∀(x:Int×Int×M Bool),j4 i n x->eF (decide (1<x.2.1)) (de (ct (decide (x.1<S.split x.2.1)) (Jm (length x.2.2+length [false])/\(∃(a:Int×Int×M Bool),(x.1=a.1/\S.split x.2.1=a.2.1/\x.2.2++[false]=a.2.2)/\j4 i n a/\toNat a.2.1<toNat x.2.1)) (Jm (length x.2.2+length [true])) (cE (x.1-S.split x.2.1)/\cE (x.2.1-S.split x.2.1)/\(∃(c:Int×Int×M Bool),(x.1-S.split x.2.1=c.1/\x.2.1-S.split x.2.1=c.2.1/\x.2.2++[true]=c.2.2)/\j4 i n c/\toNat c.2.1<toNat x.2.1)))) (x.2.2=cq i n)):=by
 refine au ?_;refine⟨?_,?_⟩;refine⟨((i),((n),([]))),?_⟩;grind[aNA];intro X d;refine⟨?_,?_⟩
 . intro e;refine⟨?_,?_,?_⟩;trivial;intro f;refine⟨?_,?_⟩;grind[QA,lc,ln];refine⟨((X.1),((S.split (X.2.1)),(X.2.2++[Bool.false]))),?_⟩;grind[aNB,QA];intro h;simp at h;with_reducible and_intros
   grind[QA,lc,ln];omega;iterate 3 (grind[QA])
   refine⟨((X.1-S.split (X.2.1)),((X.2.1-S.split (X.2.1)),(X.2.2++[Bool.true]))),?_⟩;grind[aNC,QA]
 grind[df,S.sd_end]
def ayN(d:B8)(i n:Int)(p:O)(g:eX p)(h:Vg.jE J.aEZ (d,i,n,p)):bY (jZ (FG d) (Jn n 1 (Jn 1099511627776 n (US i 0 n)))) ([]=jO d i n p/\1=cB d i n p) (ob i n) (lJ (oD (bG p) (Xz i n))) (ct (xO (oD (bG p) (Xz i n)) (cP p)) ([]=jO d i n p/\6=cB d i n p) (∃(a:Nat),((0:Int)=a/\d=cL d i n p a)/\cB d i n p=0/\a<=S.len p) (∀(x:Nat),cB d i n p=0/\x<=S.len p->ct (decide (x<bG p)) (cE (Xz i n-1)/\mg (Xz i n-1-x) 0 (Xz i n) (toNat (Xz i n-1-x)<Xz i n/\((Bc i n x->jW x (bG p) True)/\(Bc i n x=false->jW x (bG p) True))/\dg x (∃(X:Nat),((x:Int)+1=X/\(bif Bc i n x then bz (eN p x) (cL d i n p x) else bz (cL d i n p x) (eN p x))=cL d i n p X)/\(cB d i n p=0/\X<=S.len p)/\wK (S.len p) X x))) (cL d i n p x=jO d i n p) (0=cB d i n p))):=by
 refine au ?_;have A:Vg.hlen p:=h.2.2.2.1.1;refine⟨?_,?_⟩;grind[aG4];intro H;simp at H;with_reducible and_intros
 grind[afw];iterate 2 grind
 grind[awn];intro c;simp at c;refine⟨?_,?_⟩;grind[aND,aG5];intro e j;refine⟨?_,?_⟩
 . intro f;simp at f;with_reducible and_intros
   iterate 7 omega
   iterate 2 grind
   iterate 2 omega
   refine⟨(e+nat_lit 1),?_⟩;dsimp only;with_reducible and_intros
   omega
   ((exact S.Ð x! w!))
   omega;iterate 2 (grind[af,S.len])
 grind[df,aau,afw,mC,awo]
def ayO(b:B8)(u:b.length<=140737488355328):jM b/\eF (cZ (ag b 0 0).1.2.2) (tj (cu b) (ag b 0 0).1.2.2) (ct (decide (1000<(ag b 0 0).2)) (tj (cu b) 2) (∃(c:Nat×Int×Int×Int×U),((0:Int)=c.1/\-1=c.2.2.2.1/\[]=c.2.2.2.2/\(ag b 0 0).1.1=b/\(ag b 0 0).1.2.1=c.2.1/\(ag b 0 0).1.2.2=c.2.2.1)/\wA b c.1 c.2) (∀(x:Nat×Int×Int×Int×U),wA b x.1 x.2->ct (decide (x.1<(ag b 0 0).2)) (jM b/\ot (cZ (tR b x).1.2.2) (tj (cu b) (tR b x).1.2.2) (999-x.2.2.2.1) (cE (999-x.2.2.2.1-1)/\ot (decide (999-x.2.2.2.1-1<(tR b x).2)) (tj (cu b) 2) ((tR b x).2+1) (cE (x.2.2.2.1+((tR b x).2+1))/\zy x.2.2.2.2 [x.2.2.2.1+((tR b x).2+1)]/\cE (x.1+1)/\(∃(a:Nat×Int×Int×Int×U),((x.1:Int)+1=a.1/\x.2.2.2.1+((tR b x).2+1)=a.2.2.2.1/\x.2.2.2.2++[x.2.2.2.1+((tR b x).2+1)]=a.2.2.2.2/\(tR b x).1.1=b/\(tR b x).1.2.1=a.2.1/\(tR b x).1.2.2=a.2.2.1)/\wA b a.1 a.2/\wK 1000 a.1 x.1)))) True (eF (cZ (S.done b x.2.1 x.2.2.1)) (tj (cu b) (S.done b x.2.1 x.2.2.1)) (x.2.2.2.2=(cu b).1/\0=(cu b).2)))):=by
 refine au ?_;refine⟨?_,?_,?_⟩;grind;intro l;simp at l;refine⟨?_,?_⟩;exact(afE l).1;exact(afE l).2;intro i;simp at i;refine V.dI (λs=>?_) λt=>?_;refine⟨?_,?_⟩;exact(S.Ó i s).1;exact(S.Ó i s).2;refine⟨?_,?_⟩
 . refine⟨(0,(((((ag b (0:Int) (0:Int)).1).2).1),(((((ag b (0:Int) (0:Int)).1).2).2),(((-1:Int)),([]))))),?_⟩;with_reducible and_intros
   grind;iterate 2 rfl
   grind[Ek];iterate 2 rfl
   exact aNH i t
 intro X h;refine V.dI (λH=>?_) λk=>?_
 . refine⟨?_,?_,?_⟩;omega;intro m;try simp only[nt,df] at m
   refine⟨?_,?_⟩;exact(afF h H m).1;exact(afF h H m).2;intro j;try simp only[nf,dt] at j
   with_reducible and_intros
   iterate 4
    (have q:=h.2.2.2.2.1;have Q:=h.2.2.2.2.2.1;have d:=h.2.2.2.2.2.2;have e:=h.2.2.1;have f:=qZ b X.2.1 X.2.2.1;have g:=h.1;omega)
   intro F;try simp only[dt] at F
   refine⟨?_,?_⟩;exact(afG h H j w!).1;exact(afG h H j w!).2;intro I;try simp only[df] at I
   with_reducible and_intros
   iterate 4
    (have q:=h.2.2.2.2.1;have Q:=h.2.2.2.2.2.1;have d:=h.2.2.2.2.2.2;have e:=h.2.2.1;have f:=qZ b X.2.1 X.2.2.1;have g:=h.1;omega)
   (have q:=h.2.2.2.2.1;have Q:=h.2.2.2.2.2.1;have d:=h.2.2.2.2.2.2;have e:=h.2.2.1;have f:=qZ b X.2.1 X.2.2.1;have g:=h.1;have n:(oe b).2=(ag b 0 0).2:=rfl;rw[J?];omega)
   (have q:=h.2.2.2.2.1;have Q:=h.2.2.2.2.2.1;have d:=h.2.2.2.2.2.2;have e:=h.2.2.1;have f:=qZ b X.2.1 X.2.2.1;have g:=h.1;omega)
   (have q:=h.2.2.2.2.1;have Q:=h.2.2.2.2.2.1;have d:=h.2.2.2.2.2.2;have e:=h.2.2.1;have f:=qZ b X.2.1 X.2.2.1;have g:=h.1;have n:(oe b).2=(ag b 0 0).2:=rfl;omega)
   refine⟨((X.1+1),(((((ag b (X.2.1) (X.2.2.1)).1).2).1),(((((ag b (X.2.1) (X.2.2.1)).1).2).2),((X.2.2.2.1+((ag b (X.2.1) (X.2.2.1)).2+(1:Int))),(X.2.2.2.2++[X.2.2.2.1+((ag b (X.2.1) (X.2.2.1)).2+(1:Int))]))))),?_⟩;try dsimp only
   with_reducible and_intros
   (have q:=h.2.2.2.2.1;have Q:=h.2.2.2.2.2.1;have d:=h.2.2.2.2.2.2;have e:=h.2.2.1;have f:=qZ b X.2.1 X.2.2.1;have g:=h.1;have n:(oe b).2=(ag b 0 0).2:=rfl;omega)
   iterate 2 with_reducible rfl
   exact(Ek b _ _).1;iterate 2 with_reducible rfl
   exact aqv h H j w!
   (have q:=h.2.2.2.2.1;have Q:=h.2.2.2.2.2.1;have d:=h.2.2.2.2.2.2;have e:=h.2.2.1;have f:=qZ b X.2.1 X.2.2.1;have g:=h.1;have n:(oe b).2=(ag b 0 0).2:=rfl;simp only[af];omega)
 refine⟨?_,?_,?_⟩;trivial;intro o;simp at o;refine⟨?_,?_⟩;rw[Jg h k,R! o];rw[Jg h k,R! o];intro r;simp at r;refine⟨?_,?_⟩;rw[Jg h k,Q! r];rw[Jg h k,Q! r]
def ayP(n:Int)(p q:Bool):oh p q=Br p q:=by
 refine au ?_;grind[Br]
def ayQ(n:Int)(p q:Bool):jZ p q=QB p q:=by
 refine au ?_;rfl
def ayR(n:Int)(p q:Bool):oh p (Bool.not q)=Bs p q:=by
 refine au ?_;grind[Bs]
def ayS(a b:U):de (gg (∃(i:U×U×U),agc i a b Br) (∀(X:U×U×U),mG Br a b X->eF (jZ (gq (cV X.1)) (gq (cV X.2.1))) (fK (gq (cV X.1)) (Jv (dz (cV X.2.1)) 0 (cV X.1) (cV X.2.1))/\fK (gq (cV X.2.1)) (Jv (dz (cV X.1)) 0 (cV X.2.1) (cV X.1))/\fK (K4 X) (Jw 0 (cV X.1) 1)/\fK (K3 X) (Jw 0 (cV X.2.1) 1)/\zz (Br (K4 X) (K3 X)) (zy X.2.2 (aa4 X)/\(∃(c:U×U×U),ò c (tm (K4 X) 1 X.1) (tm (K3 X) 1 X.2.1) (X.2.2++aa4 X)/\mG Br a b c/\je c<je X)) (∃(d:U×U×U),ò d (tm (K4 X) 1 X.1) (tm (K3 X) 1 X.2.1) X.2.2/\mG Br a b d/\je d<je X)) (X.2.2=AK a b))):=by
 refine au ?_;refine⟨trivial,trivial,⟨(tA a,tA b,[]),⟨Er a,Er b,rfl⟩,aqr ..⟩,λx h=>⟨λe=>?_,λe=>WQ rfl h e⟩⟩;have q:=aaz rfl h e;refine⟨⟨λf=>⟨λ_=>trivial,λj=>⟨⟨Int.le_refl _,of_decide_eq_true f⟩,Int.le_refl _,x!⟩⟩,λ_=>trivial⟩,⟨λf=>⟨λ_=>trivial,λj=>⟨⟨Int.le_refl _,of_decide_eq_true f⟩,Int.le_refl _,x!⟩⟩,λ_=>trivial⟩,⟨λH=>⟨⟨Int.le_refl _,(mw H).1⟩,by decide,(mw H).2⟩,λ_=>trivial⟩,⟨λH=>⟨⟨Int.le_refl _,(mw H).1⟩,by decide,(mw H).2⟩,λ_=>trivial⟩,trivial,λg=>⟨x!,(pK (jQ x.1 x.2.1) x.1,pK (jQ x.2.1 x.1) x.2.1,x.2.2++[Jd x.1 x.2.1]),⟨rfl,rfl,rfl⟩,q.2.1 g,q.2.2.2.1⟩,λg=>⟨(pK (jQ x.1 x.2.1) x.1,pK (jQ x.2.1 x.1) x.2.1,x.2.2),⟨rfl,rfl,rfl⟩,q.2.2.1 g,q.2.2.2.2⟩⟩
def ayT(a b:U):de (gg (∃(i:U×U×U),agc i a b QB) (∀(X:U×U×U),mG QB a b X->eF (jZ (gq (cV X.1)) (gq (cV X.2.1))) (fK (gq (cV X.1)) (Jv (dz (cV X.2.1)) 0 (cV X.1) (cV X.2.1))/\fK (gq (cV X.2.1)) (Jv (dz (cV X.1)) 0 (cV X.2.1) (cV X.1))/\fK (K8 X) (Jw 0 (cV X.1) 1)/\fK (aa6 X) (Jw 0 (cV X.2.1) 1)/\zz (QB (K8 X) (aa6 X)) (zy X.2.2 (K7 X)/\(∃(c:U×U×U),ò c (tm (K8 X) 1 X.1) (tm (aa6 X) 1 X.2.1) (X.2.2++K7 X)/\mG QB a b c/\je c<je X)) (∃(d:U×U×U),ò d (tm (K8 X) 1 X.1) (tm (aa6 X) 1 X.2.1) X.2.2/\mG QB a b d/\je d<je X)) (X.2.2=qX a b))):=by
 refine au ?_;refine⟨trivial,trivial,⟨(tA a,tA b,[]),⟨Er a,Er b,rfl⟩,aqr ..⟩,λx h=>⟨λe=>?_,λe=>WQ rfl h e⟩⟩;have q:=aaz rfl h e;refine⟨⟨λf=>⟨λ_=>trivial,λj=>⟨⟨Int.le_refl _,of_decide_eq_true f⟩,Int.le_refl _,x!⟩⟩,λ_=>trivial⟩,⟨λf=>⟨λ_=>trivial,λj=>⟨⟨Int.le_refl _,of_decide_eq_true f⟩,Int.le_refl _,x!⟩⟩,λ_=>trivial⟩,⟨λH=>⟨⟨Int.le_refl _,(mw H).1⟩,by decide,(mw H).2⟩,λ_=>trivial⟩,⟨λH=>⟨⟨Int.le_refl _,(mw H).1⟩,by decide,(mw H).2⟩,λ_=>trivial⟩,trivial,λg=>⟨x!,(pK (jQ x.1 x.2.1) x.1,pK (jQ x.2.1 x.1) x.2.1,x.2.2++[Jd x.1 x.2.1]),⟨rfl,rfl,rfl⟩,q.2.1 g,q.2.2.2.1⟩,λg=>⟨(pK (jQ x.1 x.2.1) x.1,pK (jQ x.2.1 x.1) x.2.1,x.2.2),⟨rfl,rfl,rfl⟩,q.2.2.1 g,q.2.2.2.2⟩⟩
def ayU(a b:U):de (gg (∃(i:U×U×U),agc i a b Bs) (∀(X:U×U×U),mG Bs a b X->eF (jZ (gq (cV X.1)) (gq (cV X.2.1))) (fK (gq (cV X.1)) (Jv (dz (cV X.2.1)) 0 (cV X.1) (cV X.2.1))/\fK (gq (cV X.2.1)) (Jv (dz (cV X.1)) 0 (cV X.2.1) (cV X.1))/\fK (aa5 X) (Jw 0 (cV X.1) 1)/\fK (K5 X) (Jw 0 (cV X.2.1) 1)/\zz (Bs (aa5 X) (K5 X)) (zy X.2.2 (K6 X)/\(∃(c:U×U×U),ò c (tm (aa5 X) 1 X.1) (tm (K5 X) 1 X.2.1) (X.2.2++K6 X)/\mG Bs a b c/\je c<je X)) (∃(d:U×U×U),ò d (tm (aa5 X) 1 X.1) (tm (K5 X) 1 X.2.1) X.2.2/\mG Bs a b d/\je d<je X)) (X.2.2=I8 a b))):=by
 refine au ?_;refine⟨trivial,trivial,⟨(tA a,tA b,[]),⟨Er a,Er b,rfl⟩,aqr ..⟩,λx h=>⟨λe=>?_,λe=>WQ rfl h e⟩⟩;have q:=aaz rfl h e;refine⟨⟨λf=>⟨λ_=>trivial,λj=>⟨⟨Int.le_refl _,of_decide_eq_true f⟩,Int.le_refl _,x!⟩⟩,λ_=>trivial⟩,⟨λf=>⟨λ_=>trivial,λj=>⟨⟨Int.le_refl _,of_decide_eq_true f⟩,Int.le_refl _,x!⟩⟩,λ_=>trivial⟩,⟨λH=>⟨⟨Int.le_refl _,(mw H).1⟩,by decide,(mw H).2⟩,λ_=>trivial⟩,⟨λH=>⟨⟨Int.le_refl _,(mw H).1⟩,by decide,(mw H).2⟩,λ_=>trivial⟩,trivial,λg=>⟨x!,(pK (jQ x.1 x.2.1) x.1,pK (jQ x.2.1 x.1) x.2.1,x.2.2++[Jd x.1 x.2.1]),⟨rfl,rfl,rfl⟩,q.2.1 g,q.2.2.2.1⟩,λg=>⟨(pK (jQ x.1 x.2.1) x.1,pK (jQ x.2.1 x.1) x.2.1,x.2.2),⟨rfl,rfl,rfl⟩,q.2.2.1 g,q.2.2.2.2⟩⟩
def ayV(a b:U):de (AK a b=AK a b):=by
 refine au ?_;grind
def ayW(a b:U):de (qX a b=qX a b):=by
 refine au ?_;grind
def ayX(a b:U):de (I8 a b=I8 a b):=by
 refine au ?_;grind
def ayY(s:B8):Bool.not (decide (s=s))=false:=by
 grind
def ayZ(a b:B8):gg (lJ false) (ú false (Bool.not false) (Op.bytesLess a b)=Op.bytesLess a b):=by
 refine au ?_;grind
def ay0(x:O)(t:B8)(H:yq x):(∃(a:Int×Int),mK 0 a (bG x)/\qY x t a.1 a.2)/\(∀(X:Int×Int),qY x t X.1 X.2->ct (decide (X.1<X.2)) (cE (X.1+X.2)/\gW 1 64 (mg (DB X) 0 (bG x) (gg (fK (Op.bytesLess (eN x (DB X)) t) (cE (DB X+1))) (∃(c:Int×Int),mK (bif Op.bytesLess (eN x (DB X)) t then DB X+1 else X.1) c (bif Op.bytesLess (eN x (DB X)) t then X.2 else DB X)/\qY x t c.1 c.2/\ö (c.2-c.1) (X.2-X.1))))) (fK (decide (X.1<bG x)) (jW X.1 (bG x) (ct (decide (eN x X.1=t)) True (0<=X.1/\X.1<bG x) (de (lJ false))))) ((bif decide (X.1<bG x) then bif decide (eN x X.1=t) then X.1 else bif false then X.1 else X.1 else X.1)=mH x t/\oh (decide (X.1<bG x)) (jZ (decide (eN x X.1=t)) (bif false then false else false))=Bt x t)):=by
 refine au ?_;refine⟨?_,?_⟩
 . refine⟨(((0:Int)),((↑(length x):Int))),?_⟩;with_reducible and_intros
   iterate 2 rfl
   exact⟨Int.le_refl _,w!,Int.le_refl _,λk l=>by omega,λk l v=>by omega⟩
 intro a h;refine V.dI (λd=>?_) λm=>?_
 . with_reducible and_intros
   iterate 2
    obtain⟨e,g,Q,f,i,j⟩:=Je H h d;omega
   iterate 2 omega
   iterate 3 grind
   obtain⟨e,g,Q,f,i,j⟩:=Je H h d;omega;trivial;intro o;refine⟨?_,?_⟩;grind;obtain⟨e,g,Q,f,i,j⟩:=Je H h d;omega;grind;refine⟨((bif Op.bytesLess (getD x (toNat ((a.1+a.2)%(18446744073709551616:Int)/(2:Int)^toNat (1:Int))) []) t then(a.1+a.2)%(18446744073709551616:Int)/(2:Int)^toNat (1:Int)+(1:Int) else Prod.fst a),(bif Op.bytesLess (getD x (toNat ((a.1+a.2)%(18446744073709551616:Int)/(2:Int)^toNat (1:Int))) []) t then Prod.snd a else(a.1+a.2)%(18446744073709551616:Int)/(2:Int)^toNat (1:Int))),?_⟩;with_reducible and_intros
   iterate 2 rfl
   obtain⟨e,g,Q,f,i,j⟩:=Je H h d;rw[e];exact(aHa H h Q f).1;obtain⟨e,g,Q,f,i,j⟩:=Je H h d;grind
 with_reducible and_intros
 . intro n;simp at n;with_reducible and_intros
   have q:=h.1;omega;omega;grind;intro r;with_reducible and_intros
   have q:=h.1;omega;omega;trivial;iterate 2 grind
 grind;grind[afz];exact awq H h m
def ay1(s:B8)(t:O)(f:M U)(h:Df t f):yq t/\bY (Bool.not (Bt t s)) ([]=od t f s) ((0:Int)<=mH t s/\(mH t s:Int)<length f) (S.small (Dp f (toNat (mH t s)))) (Dp f (toNat (mH t s))=od t f s):=by
 refine au ?_;refine⟨?_,?_,?_⟩;exact h.1;grind[nt,awr];intro H;with_reducible and_intros
 omega;have q:=(aaA h (s:=s) x!).1;omega;exact(aaA h x!).2.1;exact(aaA h x!).2.2
def ay2(s:B8)(l:M U)(h:sH l):cE (Ry l-1)/\MJ (Ry l-1-1) 0 (Ry l) (mg (Ry l-1-1) 0 (Ry l) (aa0 l<Ry l/\((0:Int)<=Ry l-1/\(Ry l:Int)-1<Ry l)/\toNat (Ry l-1)<Ry l/\gg (zx (aa0 l+length (rk l))) (take (aa0 l) l++rk l=tI 1 l))):=by
 refine au ?_;obtain⟨P,p⟩:=h;have a:l.length<=1099511627776:=p;have e:toNat ((l.length:Int)-1-1)=l.length-2:=by omega
 have E:toNat ((l.length:Int)-1)=l.length-1:=by omega
 with_reducible and_intros
 iterate 14 omega
 trivial;grind[List.length_singleton];rw[e,E];rfl
def ay3(s:B8)(l:M U)(h:sH l):cE (rm l-1)/\MJ (rm l-1-1) 0 (rm l) (mg (rm l-1-1) 0 (rm l) (aa2 l<rm l/\((0:Int)<=rm l-1/\(rm l:Int)-1<rm l)/\toNat (rm l-1)<rm l/\gg (zx (aa2 l+length (RA l))) (take (aa2 l) l++RA l=tI 2 l))):=by
 refine au ?_;obtain⟨P,p⟩:=h;have a:l.length<=1099511627776:=p;have e:toNat ((l.length:Int)-1-1)=l.length-2:=by omega
 have E:toNat ((l.length:Int)-1)=l.length-1:=by omega
 with_reducible and_intros
 iterate 14 omega
 trivial;grind[List.length_singleton];rw[e,E];rfl
def ay4(s:B8)(l:M U)(h:sH l):cE (rl l-1)/\MJ (rl l-1-1) 0 (rl l) (mg (rl l-1-1) 0 (rl l) (Rz l<rl l/\((0:Int)<=rl l-1/\(rl l:Int)-1<rl l)/\toNat (rl l-1)<rl l/\gg (zx (Rz l+length (aa1 l))) (take (Rz l) l++aa1 l=tI 3 l))):=by
 refine au ?_;obtain⟨P,p⟩:=h;have a:l.length<=1099511627776:=p;have e:toNat ((l.length:Int)-1-1)=l.length-2:=by omega
 have E:toNat ((l.length:Int)-1)=l.length-1:=by omega
 with_reducible and_intros
 iterate 14 omega
 trivial;grind[List.length_singleton];rw[e,E];rfl
def ay5(s:B8)(t:O)(f l:M U)(h:Df t f/\S.small l):Df t f/\zx (length l+length [od t f s])/\[t]=[t]/\0=0/\[f]=[f]/\0=0/\l++[od t f s]=Jc l (od t f s):=by
 refine au ?_;with_reducible and_intros
 grind;grind[S.small,List.length_singleton];iterate 5 rfl
def ay6(l:M (Int×B8))(t:O)(f:M U)(H:GJ l t f)(o:Vg.Row.ok (Vg.TA.du [.dV (.slice [.int .i64,.str]),.agg [.fn (.func 103) [] [.var [.slice [.str]],.var [.slice [.slice [.int .i64]]]],.fn (.func 107) [] [],.fn (.func 108) [] [],.fn (.func 109) [] []]]) (l,t,f)):(∃(X:Nat),((0:Int)=X/\[]=jU (od t f) l X/\[t]=[t]/\0=0/\[f]=[f]/\0=0)/\pI l (jU (od t f) l X) X)/\(∀(x:Nat),pI l (sh f l t x) x->bY (decide ((x:Int)<length l)) (jW x (length l) (((iO l x).1=0->(iO l x).1=0/\(Df t f/\S.small (sh f l t x))/\dg x (∃(c:Nat),xQ x c (Jc (sh f l t x) (od t f (iO l x).2)=jU (od t f) l c/\[t]=[t]/\0=0/\[f]=[f]/\0=0) (pI l (jU (od t f) l c) c) (S.len l) c (af (S.len l) x)))/\((iO l x).1=1->(iO l x).1=1/\sH (sh f l t x)/\dg x (∃(d:Nat),xQ x d (tI 1 (sh f l t x)=jU (od t f) l d/\[t]=[t]/\0=0/\[f]=[f]/\0=0) (pI l (jU (od t f) l d) d) (S.len l) d (af (S.len l) x)))/\((iO l x).1=2->(iO l x).1=2/\sH (sh f l t x)/\dg x (∃(e:Nat),xQ x e (tI 2 (sh f l t x)=jU (od t f) l e/\[t]=[t]/\0=0/\[f]=[f]/\0=0) (pI l (jU (od t f) l e) e) (S.len l) e (af (S.len l) x)))/\((iO l x).1=3->(iO l x).1=3/\sH (sh f l t x)/\dg x (∃(g:Nat),xQ x g (tI 3 (sh f l t x)=jU (od t f) l g/\[t]=[t]/\0=0/\[f]=[f]/\0=0) (pI l (jU (od t f) l g) g) (S.len l) g (af (S.len l) x)))/\(((iO l x).1=0->False)/\((iO l x).1=1->False)/\((iO l x).1=2->False)/\((iO l x).1=3->False)/\True->False))) (tO (length (sh f l t x))) (toNat 0<length (sh f l t x)) (Dp (sh f l t x) (toNat 0)=Dd l t f)):=by
 refine au ?_;have B:Vg.hlen l:=o.1.1;refine⟨?_,?_⟩;grind[aws,aNG];intro X a;refine V.dI (λh=>?_) λm=>?_
 . with_reducible and_intros
   iterate 2 omega
   . intro n;with_reducible and_intros
     omega;exact H.2.2;exact alD H a;iterate 2 omega
     refine⟨(X+1),?_⟩;try dsimp only
     with_reducible and_intros
     omega;exact S.Ò h n;iterate 4 rfl
     exact aqt a h n;simp only[af,S.len];omega
   . intro i;with_reducible and_intros
     omega;exact NH H a h (by rw[show(cM l X).1=1 from i];decide);iterate 2 omega
     refine⟨(X+1),?_⟩;try dsimp only
     with_reducible and_intros
     omega;exact NG h i (by decide);iterate 4 rfl
     exact QH H a h i (by decide);simp only[af,S.len];omega
   . intro j;with_reducible and_intros
     omega;exact NH H a h (by rw[show(cM l X).1=2 from j];decide);iterate 2 omega
     refine⟨(X+1),?_⟩;try dsimp only
     with_reducible and_intros
     omega;exact NG h j (by decide);iterate 4 rfl
     exact QH H a h j (by decide);simp only[af,S.len];omega
   . intro k;with_reducible and_intros
     omega;exact NH H a h (by rw[show(cM l X).1=3 from k];decide);iterate 2 omega
     refine⟨(X+1),?_⟩;try dsimp only
     with_reducible and_intros
     omega;exact NG h k (by decide);iterate 4 rfl
     exact QH H a h k (by decide);simp only[af,S.len];omega
   intro r;have q:0<=(getD l (toNat (X:Int)) (0,[])).1/\(getD l (toNat (X:Int)) (0,[])).1<=3:=⟨(Jf H.1 h).1,(Jf H.1 h).2.1⟩;grind
 with_reducible and_intros
 omega
 iterate 2
  have:=afB H a m;omega
 rw[(afB H a m).2];rfl
def ay7(l:M (Int×B8))(f:M U)(a:dq l)(j:Vg.jE J.aE6 (l,f)):dq l/\ct (Bool.not (aZ l)) (tj (iM l f) 1) (S.small l) (ct (oD (length f) (bG (al l))) (tj (iM l f) 1) (∃(e:Nat),(0:Int)=e/\GK f e) (∀(X:Nat),GK f X->ct (decide ((X:Int)<length f)) (((0:Int)<=X/\(X:Int)<length f)/\de (rH (Jp (Dp f (toNat X))) (tj (iM l f) 1) X (∃(g:Nat),oZ X g (GK f g) (S.len f)))) (GJ l (al l) f) (Dd l (al l) f=(iM l f).1/\0=(iM l f).2))):=by
 refine au ?_;have A:Vg.hlen f:=j.2.1.1;refine⟨?_,?_,?_⟩;omega;intro n;refine⟨?_,?_⟩;exact(KA (by simp_all[S.lO,Bool.false_and])).1;exact(KA (by simp_all[S.lO,Bool.false_and])).2;intro h;simp at h;refine⟨?_,?_,?_⟩;exact a.1;intro o;refine⟨?_,?_⟩;exact(KA (by simp[S.lO,h,Bool.true_and];grind)).1;exact(KA (by simp[S.lO,h,Bool.true_and];grind)).2;intro k;simp at k;refine⟨?_,?_⟩;refine⟨(nat_lit 0:Nat),?_⟩;dsimp only;refine⟨?_,?_⟩;omega;exact⟨Nat.zero_le _,λx q=>by grind⟩;intro m H;refine V.dI (λc=>?_) λF=>?_
 . with_reducible and_intros
   iterate 2 omega
   trivial;intro d;try simp only[nt] at d
   refine⟨?_,?_⟩;exact(KA (by simp only[S.lO,afD c d,Bool.and_false])).1;exact(KA (by simp only[S.lO,afD c d,Bool.and_false])).2;intro i;try simp only[nf] at i
   with_reducible and_intros
   iterate 2 omega
   refine⟨(m+nat_lit 1),?_⟩;try dsimp only
   refine⟨?_,?_,?_⟩;omega;exact aqu H c i;simp only[af,S.len];omega
 refine⟨?_,?_,?_⟩;exact⟨h,a.1,UA a.1,w!,V!.1 (WS H (by assumption))⟩;exact(afC (by simp only[S.lO,h,WS H (by assumption),Bool.true_and,Bool.and_true];exact L? w!)).1;exact(afC (by simp only[S.lO,h,WS H (by assumption),Bool.true_and,Bool.and_true];exact L? w!)).2
def ay8(c:Int)(P d a:B8)(f:O)(p t:B8)(e:Int)(h:az p):fK (decide (P=t)) (fK (dz e) (az p))/\oh (decide (P=t)) (MG (dz e) (l7 2 p) a)=I9 t e P a p:=by
 refine au ?_;simp_all[dt,df,I9]
def ay9(c:Int)(a p d:B8)(e:O)(P t:B8):oh (Op.bytesLess a t) (bif Bool.not (aga p t) then dz (fU P) else oh (decide (p=[])) (dz (fU P)))=Ja t a p P:=by
 refine au ?_;grind[aHc,Ja,Op.bytesLess,decide]
def aza(t:B8)(P:Int)(a c d:B8)(e:O)(p:B8)(h:p.length<=140737488355328):jM p/\[t]=[t]/\0=0/\[(cu p).2]=[(cu p).2]/\0=0/\(cu p).1=(cu p).1/\[t]=[t]/\0=0:=by
 refine au ?_;grind
def azb(r:B8)(n:Int)(t:B8)(e:Int)(P a c:B8)(d:O)(p:B8)(f:wB t d p):mY (FG r) (mY (decide (n<1)) (mY (decide (1099511627776<n)) (S.small t)))/\ct (jZ (FG r) (jZ (decide (n<1)) (xO (decide (1099511627776<n)) (S.isTerm t)))) (tj (jr r n t (e,P,a,c,d,p)) 1) True (bY (cZ (kJ P a c)) (tj (jr r n t (e,P,a,c,d,p)) 6) (az (dw P a c)) (eX d) (bY (xO (cZ (cB (S.leaf (dw P a c)) e n d)) (decide (jO (S.leaf (dw P a c)) e n d=r))) (tj (jr r n t (e,P,a,c,d,p)) 6) (jM p) (∃(k:Nat),(0:Int)=k/\og r n t (e,P,a,c,d,p) k) (∀(x:Nat),og r n t (e,P,a,c,d,p) x->eF (decide ((x:Int)<((2:Nat):Int))) (((x:Int)=((0:Nat):Int)->(x:Int)=((0:Nat):Int)/\az p/\rH (I9 t (cu p).2 P c p) ((cu p).1=(jr r n t (e,P,a,c,d,p)).1/\0=(jr r n t (e,P,a,c,d,p)).2) x (∃(g:Nat),(x:Int)+1=g/\og r n t (e,P,a,c,d,p) g/\af 2 g<af 2 x))/\(x=KP->x=KP/\de (rH (Ja t P a p) (tj (jr r n t (e,P,a,c,d,p)) 0) x (∃(i:Nat),(x:Int)+1=i/\og r n t (e,P,a,c,d,p) i/\af 2 i<af 2 x)))/\(((x:Int)=((0:Nat):Int)->False)/\(x=KP->False)/\True->False)) (tj (jr r n t (e,P,a,c,d,p)) 6)))):=by
 refine au ?_;with_reducible and_intros
 grind;intro s;refine⟨?_,?_⟩;grind;intro v;refine⟨?_,?_⟩;grind;intro w;exact f.1;intro y;grind[awt,awu];intro z;refine⟨?_,?_,?_⟩;trivial;grind[nt,df,aqw,WV,awv];intro F;refine⟨?_,?_,?_,?_⟩;grind[aaB];exact f.2.1;intro I;grind[aqw,WV,aww];intro K;refine⟨?_,?_,?_⟩;have:=f.2.2.2;grind[S.small];grind[aHe,WV,aHd];intro X R;refine⟨?_,?_⟩
 . intro G;try simp only[dt] at G
   refine⟨?_,?_,?_⟩
   . intro m;refine⟨?_,?_,?_,?_⟩;exact(by assumption);exact f.2.2.1;intro l;refine⟨?_,?_⟩;exact(afH R l).1;exact(afH R l).2;intro o;with_reducible and_intros
     iterate 2 omega
     refine⟨(X+1),?_⟩;try dsimp only
     refine⟨?_,?_,?_⟩;omega;exact aHf R m o;simp only[af];omega
   . intro j;refine⟨?_,?_,?_,?_⟩;exact(by assumption);trivial;intro h;refine⟨?_,?_⟩;exact(afI R j h).1;exact(afI R j h).2;intro u;with_reducible and_intros
     iterate 2 omega
     refine⟨(X+1),?_⟩;try dsimp only
     refine⟨?_,?_,?_⟩;omega;exact aHg R j u;simp only[af];omega
   intro H;have q:(X:Int)=((0:Nat):Int)\/(X:Int)=((1:Nat):Int):=by omega
   exact q.elim H.1 H.2.1
 grind[df,awx]
def azd(h:Int)(H:B8)(a:M (Int×Int×Int×B8))(r:B8):de (MG (dz (qV h H a).2) (qV h H a).1 r=EH h H a r):=by
 refine au ?_;grind[awm]
def aze(h:Int)(H:B8)(a:M (Int×Int×Int×B8))(r:B8): [(h,H,a)]=[(h,H,a)]/\0=0/\[r]=[r]/\0=0:=by
 grind
def azf(A:Int)(c:B8)(d:M (Int×Int×Int×B8))(a:M (M (Int×B8×B8×B8×O×B8)))(i:Int)(t:O)(h:0<=i/\i<(S.len a:Nat)):jW i (length a) (decide (length (getD a (toNat i) [])=bG t)=qW a i t):=by
 refine au ?_;grind[qW,S.len]
def azg(P:Int)(a:B8)(c:M (Int×Int×Int×B8))(p:Int)(d:B8)(e:O)(i:Int):decide (p=i)=decide (p=i):=by
 rfl
def azh(l:U)(s a:Int)(h:Vg.jE J.arc (l,s,a)):(∃(X:Nat),(0:Int)=X/\yp l s a X/\X<=S.len l)/\(∀(x:Nat),yp l s a x/\x<=S.len l->fL (decide (x<cV l)) 0 x (cV l) (ug (US (js l x) s a) (xG l s a) x (∃(c:Nat),oZ x c (yp l s a c/\c<=S.len l) (S.len l))) (true=xG l s a)):=by
 refine au ?_;have B:Vg.hlen l:=h.1.1;have A:Vg.hint s:=h.2.1;have d:Vg.hint a:=h.2.2.1;clear h;refine⟨?_,?_⟩;grind[yp,AJ,Ep,I7,af,S.len];intro X g;refine⟨?_,?_⟩
 . intro H;try simp only[dt] at H
   with_reducible and_intros
   iterate 2 omega
   intro e;try simp only[V.Nb,dt,tn] at e
   grind[yp,AJ,Ep,I7,af,S.len];intro f;try simp only[V.qF,df,tn] at f
   with_reducible and_intros
   iterate 2 omega
   refine⟨(X+1),?_⟩;try dsimp only
   with_reducible and_intros
   omega;iterate 3 (grind[yp,AJ,Ep,I7,af,S.len])
 grind[df,AJ,Ep,I7]
def azi(a:Int)(c:B8)(d:M (Int×Int×Int×B8))(e:Int)(p:B8)(P:O)(i:Int)(h:eX P/\az p):qi p (eX P/\MG (dz (cB (S.leaf p) i a P)) (jO (S.leaf p) i a P) c=Ky a c p P i):=by
 refine au ?_;grind[Ky]
def azj(r:B8)(i:Int)(b:B8)(h:b.length<1099511627776):ct (FG r) (xP (uc r i b) 1) (jM b) (bY (cZ (bx b).2) (xP (uc r i b) (bx b).2) True (gg Rl (EH (bx b).1.1 (aaY b).1 (aaY b).2.1 r->gg Rl (decide ((aaY b).2.2.1=i)->(eX (Ds b).2/\az (Ds b).1)/\Rl/\(Ky (bx b).1.1 (aaY b).1 (Ds b).1 (Ds b).2 i->True)))) (eF (cZ (yx b i r)) (xP (uc r i b) (yx b i r)) ((Ds b).1=(uc r i b).1/\0=(uc r i b).2))):=by
 refine au ?_;refine⟨?_,?_⟩;grind[nt,df,aG6];intro H;refine⟨?_,?_,?_⟩;omega;grind[nt,df,aG7];intro a;with_reducible and_intros
 iterate 2 trivial
 rfl;simp_all[dt,aqp]
 grind[nt,df,aqq,afx];grind[aqq,afx]
def azk(c d g:Int)(G w:B8)(A:Int)(t:B8)(u:M (Int×Int×Int×B8))(a:M (M (Int×B8×B8×B8×O×B8)))(i j:Int)(x:M Value)(q:Nat)(l:U)(H:QJ w a i j/\UB j q x.length l/\ud (c,d,g,G) w a i j=true):jW i (length a) (rj j (length (getD a (toNat i) [])) (wB w (KW a i j).2.2.2.2.1 (KW a i j).2.2.2.2.2) (lJ (cZ (AS a g G i j w).2)/\bY (xO (cZ (AS a g G i j w).2) (xG (AS a g G i j w).1 c d)) (false/\x=x/\q=q/\l=QK l (wV (c,d,g,G) w a i j).1) (0<=j/\j<Vg.aE.Cj x) (toNat j<Vg.aE.Cj x) (toNat j=q/\zy l (AS a g G i j w).1/\(0<=j/\j<Vg.aE.Cj x)/\toNat j<Vg.aE.Cj x/\toNat j=q/\Rl/\x=x/\q=q/\l++(AS a g G i j w).1=QK l (wV (c,d,g,G) w a i j).1))):=by
 refine au ?_;obtain⟨⟨k,p,m⟩,⟨P,v,n⟩,y⟩:=H;have z:(wV (c,d,g,G) w a i j).2=0/\xG (wV (c,d,g,G) w a i j).1 c d=true:=by grind[ud]
 have e:0<=j/\j<(x.length:Int):=⟨p.1,w!⟩;have h:toNat j<x.length:=by omega
 have o:(wV (c,d,g,G) w a i j).1.length<=1000:=UC _ _ _ _;have r:l.length<=1099511627776:=n;have f:l.length+(wV (c,d,g,G) w a i j).1.length<=17592186044416:=by omega
 refine⟨k,p,m,⟨λ_=>trivial,λ_=>trivial⟩,λs=>?_,λB=>⟨e,h,P.symm,f,e,h,P.symm,rfl,rfl,rfl,rfl⟩⟩;change (bif !decide ((wV (c,d,g,G) w a i j).2=0) then true else !xG (wV (c,d,g,G) w a i j).1 c d)=true at s;grind
def azl(c d g:Int)(G w:B8)(A:Int)(k:B8)(m:M (Int×Int×Int×B8))(a:M (M (Int×B8×B8×B8×O×B8)))(i j:Int)(x:M Value)(q:Nat)(l:U)(h:QJ w a i j/\UB j q x.length l/\ud (c,d,g,G) w a i j=false):jW i (length a) (rj j (length (getD a (toNat i) [])) (wB w (Rx a i j).2.2.2.2.1 (Rx a i j).2.2.2.2.2) (lJ (cZ (AR a g G i j w).2)/\bY (xO (cZ (AR a g G i j w).2) (xG (AR a g G i j w).1 c d)) (false=false/\x=x/\q=q/\l=l) (0<=j/\j<Vg.aE.Cj x) (toNat j<Vg.aE.Cj x) (toNat j=q/\zy l (AR a g G i j w).1/\(0<=j/\j<Vg.aE.Cj x)/\toNat j<Vg.aE.Cj x/\toNat j=q/\true=false/\False/\False))):=by
 refine au ?_;obtain⟨⟨p,P,e⟩,⟨n,o,r⟩,f⟩:=h;refine⟨p,P,e,⟨λ_=>trivial,λ_=>trivial⟩,λs=>⟨rfl,rfl,rfl,rfl⟩,λH=>?_⟩;change (bif !decide ((wV (c,d,g,G) w a i j).2=0) then true else !xG (wV (c,d,g,G) w a i j).1 c d)=false at H;change (decide ((wV (c,d,g,G) w a i j).2=0)&&xG (wV (c,d,g,G) w a i j).1 c d)=false at f;grind
def azm(r:B8)(l:M (Int×B8))(b:B8)(h:b.length<1099511627776/\dq l):mY (FG r) (dq l)/\ct (xO (FG r) (aZ l)) (tj (fJ r l b) 1) (jM b) (bY (cZ (aI b).2) (tj (fJ r l b) (aI b).2) (S.small l) (û 0 (bG (al l)) ((24:Nat):Int)) (gg (∃(j:Nat),((0:Int)=j/\[λ(q:Vg.Z)=>(True,Vg.AV.bool (EH (aI b).1.1 (Xk b) (yw b) r),q)]=S.conds 36 3 r (aI b).1.1 (Xk b) (yw b) (Rw b) (al l) j)/\afK b j) (∀(x:Nat),afK b x->ct (decide ((x:Int)<length (yw b))) (rj x (length (yw b)) (Nat.succ (Vg.aE.len (tP b l r x))<=17592186044416) ((∃(d:Nat×Nat),((0:Int)=d.2/\Vg.aE.cat (tP b l r x) [λ(o:Vg.Z)=>((0:Int)<=x/\(x:Int)<S.len (Rw b),Vg.AV.bool (qW (Rw b) x (al l)),o)]=ra 36 3 r (aI b).1.1 (Xk b) (yw b) (Rw b) (al l) d.1 d.2)/\WW b (al l) d.1 d.2/\(x:Int)=d.1)/\(∀(a:Nat×Nat),WW b (al l) a.1 a.2/\(x:Int)=a.1->rH (decide (a.2<bG (al l))) (rj a.2 (bG (al l)) (Nat.succ (Vg.aE.len (Xj b l r a))<=17592186044416) (cE (a.2+1)/\(∃(X:Nat×Nat),((a.2:Int)+1=X.2/\Vg.aE.cat (Xj b l r a) [GM 36 3 ((Dr b x).1,(Dr b x).2.1,(Dr b x).2.2.1,(Dr b x).2.2.2) (eN (al l) a.2) (Rw b) x a.2]=ra 36 3 r (aI b).1.1 (Xk b) (yw b) (Rw b) (al l) X.1 X.2)/\(WW b (al l) X.1 X.2/\(x:Int)=X.1)/\wK (S.len (al l)) X.2 a.2))) x (∃(k:Nat),gV x k (Xj b l r a=S.conds 36 3 r (aI b).1.1 (Xk b) (yw b) (Rw b) (al l) k) (afK b k) (S.len (yw b)))))) (Vg.aE.LO (toNat (bG (al l)))=Vg.aE.LO (toNat (bG (al l)))/\(KV b l r x).1) (ct (cZ (bif (KV b l r x).2.1 then 0 else 6)) (tj (fJ r l b) (bif (KV b l r x).2.1 then 0 else 6)) (dq l) ((iM l (Vg.aE.rows (KV b l r x).2.2)).1=(fJ r l b).1/\(iM l (Vg.aE.rows (KV b l r x).2.2)).2=(fJ r l b).2))))):=by
 refine au ?_;with_reducible and_intros
 iterate 2 grind
 grind[awA,aHh];intro c;try simp at c
 refine⟨?_,?_,?_⟩;omega;grind[nt,df,awB,QP];intro H;simp at H;with_reducible and_intros
 exact h.2.1;iterate 2 omega
 grind[qe];trivial
 . refine⟨0,?_⟩;try dsimp only
   with_reducible and_intros
   omega;rfl;exact⟨S! _,H⟩
 intro X f;refine V.dI (λs=>?_) λR=>?_
 . with_reducible and_intros
   iterate 2 omega
   have q:=afM h.1 h.2 H c.2 f.1;show length _+1<=_;rw[GN];omega
   . refine⟨((X),0),?_⟩;try dsimp only
     with_reducible and_intros
     omega;rfl;exact⟨w!,S! _,H⟩;omega
   intro g i;refine⟨?_,?_⟩
   . intro K;try simp only[dt] at K
     with_reducible and_intros
     iterate 2 omega
     have q:=afM h.1 h.2 H c.2 (Nat.le_of_lt i.1.1);have Q:=i.1.2.1;have t:=qe c.2;show length _+1<=_;rw[WZ];omega;omega;have q:=qe c.2;omega;refine⟨((X),(g.2+1)),?_⟩;try dsimp only
     with_reducible and_intros
     omega;have e:X=g.1:=by have:=i.2;omega
     rw[<-e];exact SR X g.2;have:=i.1.1;exact⟨w!,w!,H⟩;omega;simp only[af,S.len];omega
   intro O;try simp only[df] at O
   with_reducible and_intros
   omega;have q:=afL h.1 h.2 H;omega;refine⟨(X+1),?_⟩;try dsimp only
   with_reducible and_intros
   omega;have e:X=g.1:=by have:=i.2;omega
   have E:g.2=(al l).length:=by have:=i.1.2.1;omega
   rw[<-e,E];rfl;exact⟨w!,H⟩;simp only[af,S.len];omega
 with_reducible and_intros
 rfl;exact(Jh h.1 h.2 H (by have:=f.1;omega)).pre;intro G;try simp at G
 refine⟨?_,?_⟩;exact(aqA (QP c) H (Jh h.1 h.2 H (by have:=f.1;omega)) G).1;exact(aqA (QP c) H (Jh h.1 h.2 H (by have:=f.1;omega)) G).2;intro m;try simp at m
 refine⟨?_,?_,?_⟩;exact h.2;rw[afN (QP c) H (Jh h.1 h.2 H (by have:=f.1;omega)) m];rw[afN (QP c) H (Jh h.1 h.2 H (by have:=f.1;omega)) m]
def azn(c C:B8)(h:iy c C):gg (fK (Bool.not (Qy c C)) (qh c (S.small C))) (MG (Bool.not (Qy c C)) (S.sum c) (S.sum C)=QT c C):=by
 refine au ?_;grind[nt,QT,iy,nf]
def azo(b:B8)(h:S.small b):(b=[]->[]=b)/\nD jV b/\[]++b=b:=by
 refine au ?_;grind[S.small,S.len]
def azp(a b:B8)(h:iy a b):qh a (qh b (iy a b/\eF (Bool.not (QT a b)) (uf (bt a b)) (ñ (bt a b) a b true))):=by
 refine au ?_;grind[bt,ix,iy,nt,nf]
def azq(l:O)(h:S.small l):S.small l/\kI l=kI l:=by
 grind
def azr(a b:B8):de (bz a b=bz a b):=by
 refine au ?_;grind
def azs(l:O)(h:S.small l):gg (0<=S.split (bG l)/\S.split (bG l)<=bG l) (S.small (take (Rv l) l)/\gW (S.split (bG l)) (bG l) (S.small (drop (Rv l) l)/\qi (aaX l) (bB 1 (aaX l)=wE l))):=by
 refine au ?_;with_reducible and_intros
 trivial;exact(Et _).1;exact(Et _).2;grind[UI];exact(Et _).1;exact(Et _).2;simp_all[UI]
 exact aqK;rfl
def azt(a b:B8)(h:xJ a b):qi a (qi b (iy (bB 2 a) (bB 2 b)/\q11 (bt (bB 2 a) (bB 2 b)) (QU 2 a b))):=by
 refine au ?_;with_reducible and_intros
 exact h.1;exact h.2;grind[NJ];iterate 3 rfl
def azu(a b:B8)(h:xJ a b):qi a (qi b (iy (bB 3 a) (bB 3 b)/\q11 (bt (bB 3 a) (bB 3 b)) (QU 3 a b))):=by
 refine au ?_;with_reducible and_intros
 exact h.1;exact h.2;grind[NJ];iterate 3 rfl
def azv(a b:B8)(h:iy a b):iy a b/\q11 (bt a b) (bt a b):=by
 refine au ?_;grind
def azw(a b:B8): [a]=[a]/\0=0/\[b]=[b]/\0=0:=by
 grind
def azx(l:O)(i:Int)(f:B8)(p:O)(h:mI l f p)(t:Vg.jE J.aE9 (l,i,f,p)):bY (US i 0 (bG l)) (uf (jY l i f p)) (az f) (eX p) (bY (cZ (cB (S.leaf f) i (bG l) p)) (uf (jY l i f p)) (dj l) (∃(m:O×M Bool×O×Int),(S.leaves l=m.2.2.1/\i=m.2.2.2/\[]=m.1/\[]=m.2.1)/\AO l i f p m) (∀(X:O×M Bool×O×Int),AO l i f p X->ot (decide (1<bG X.2.2.1)) (S.small X.2.2.1/\zx (length X.1+length [wE X.2.2.1])/\gg (Jm (length X.2.1+length [decide (Ru X<=X.2.2.2)])) (eF (decide (X.2.2.2<Ru X)) (0<=Ru X/\Ru X<=bG X.2.2.1) (gW (Ru X) (bG X.2.2.1) (cE (X.2.2.2-Ru X)))/\(∃(k:O×M Bool×O×Int),((bif decide (X.2.2.2<Ru X) then take (toNat (Ru X)) X.2.2.1 else drop (toNat (Ru X)) X.2.2.1)=k.2.2.1/\(bif decide (X.2.2.2<Ru X) then X.2.2.2 else X.2.2.2-Ru X)=k.2.2.2/\X.1++[wE X.2.2.1]=k.1/\X.2.1++[decide (Ru X<=X.2.2.2)]=k.2.1)/\AO l i f p k/\S.len k.2.2.1<S.len X.2.2.1))) (bG p+1) (û 0 (bG p+1) AQ/\qi f ((∃(n:Nat),((0:Int)=n/\S.leaf f=cL (S.leaf f) i (S.len l) p n/\Vg.aE.JY (toNat (bG p+1))=rG l i f p n)/\xK p n)/\(∀(x:Nat),wN (xK p x) (decide (x<bG p)) x (bG p) (cE (bG p-1)/\mg (bG p-1-x) 0 (length X.2.1) (aar p x<length X.2.1/\cE (bG p-1)/\cE (bG p-1-x)/\qi (sf f i l p X x++KT f i l p X x) (cE (bG p-1)/\mg (bG p-1-x) 0 (length X.1) (aar p x<length X.1/\de ((0<=bG p-1-x/\bG p-1-x<Vg.aE.len (rG l i f p x))/\aar p x<Vg.aE.len (rG l i f p x)/\de (dg x (∃(o:Nat),gV x o (bz (sf f i l p X x) (KT f i l p X x)=cL (S.leaf f) i (S.len l) p o/\Vg.aE.put (rG l i f p x) (aar p x) (iy (bB 1 (sf f i l p X x++KT f i l p X x)) (ru X.1 (aar p x))) (mh (bt (bB 1 (sf f i l p X x++KT f i l p X x)) (ru X.1 (aar p x))).1 (bt (bB 1 (sf f i l p X x++KT f i l p X x)) (ru X.1 (aar p x))))=rG l i f p o) (xK p o) (S.len p)))))))) (az f) (rj i (bG l) (az (eN l i)) (de ((0<=bG p/\bG p<Vg.aE.len (rG l i f p x))/\toNat (bG p)<Vg.aE.len (rG l i f p x)/\(yv f i l p x).1/\ñ (jY l i f p) (yv f i l p x).2.1 (yv f i l p x).2.2.1 (yv f i l p x).2.2.2)))))))):=by
 refine au ?_;have A:Vg.hlen p:=t.2.2.2.1.1;clear t;refine⟨?_,?_⟩;intro y;try simp at y
 refine⟨?_,?_,?_⟩
 iterate 2
  rw[aqL w!];rfl
 rw[aqL w!];rfl;intro z;try simp at z
 refine⟨?_,?_,?_,?_⟩;exact h.2.1;exact h.2.2;intro r;try simp at r
 refine⟨?_,?_,?_⟩
 iterate 2
  rw[W3 r];rfl
 rw[W3 r];rfl;intro D;refine⟨?_,?_,?_⟩;exact h.1;refine⟨(([]),(([]),((S.leaves l),(i)))),?_⟩;grind[aNM];intro x H;refine V.dI (λu=>?_) λF=>?_
 . with_reducible and_intros
   grind[AP];grind[AP,lc,ln];trivial;grind[AP,lc,ln];intro B;try simp only[dt] at B
   grind[AP]
   . intro C;try simp only[df] at C
     with_reducible and_intros
     iterate 2 (grind[AP])
     omega;obtain⟨e,b,G,I,_⟩:=AP H u;have Q:=H.2.2.1;have K:=H.2.2.2.1;grind[S.small]
   refine⟨((Prod.fst x++[wE (Prod.fst (Prod.snd (Prod.snd x)))]),((Prod.fst (Prod.snd x)++[Decidable.decide (S.split (↑(length (Prod.fst (Prod.snd (Prod.snd x)))):Int)<=Prod.snd (Prod.snd (Prod.snd x)))]),((bif Decidable.decide (Prod.snd (Prod.snd (Prod.snd x))<S.split (↑(length (Prod.fst (Prod.snd (Prod.snd x)))):Int)) then take (toNat (S.split (↑(length (Prod.fst (Prod.snd (Prod.snd x)))):Int))) (Prod.fst (Prod.snd (Prod.snd x))) else drop (toNat (S.split (↑(length (Prod.fst (Prod.snd (Prod.snd x)))):Int))) (Prod.fst (Prod.snd (Prod.snd x)))),(bif Decidable.decide (Prod.snd (Prod.snd (Prod.snd x))<S.split (↑(length (Prod.fst (Prod.snd (Prod.snd x)))):Int)) then Prod.snd (Prod.snd (Prod.snd x)) else Prod.snd (Prod.snd (Prod.snd x))-S.split (↑(length (Prod.fst (Prod.snd (Prod.snd x)))):Int))))),?_⟩;try dsimp only
   with_reducible and_intros
   iterate 4 rfl
   grind[S.ß];exact(S.ß H u).2
 with_reducible and_intros
 omega
 (have q:p.length<=1099511627776:=h.2.2;omega)
 iterate 2 omega
 (have q:p.length<=1099511627776:=h.2.2;omega)
 (exact h.2.1)
 . refine⟨(nat_lit 0:Nat),?_⟩;try dsimp only
   with_reducible and_intros
   iterate 3 rfl
   exact S! _
 intro s L;refine V.dI (λN=>?_) λR=>?_
 . with_reducible and_intros
   iterate 7 omega
   iterate 2
    (have q:p.length<=1099511627776:=h.2.2;obtain⟨c,a,g,d,E,j,v,w⟩:=re H F;omega)
   iterate 4 omega
   (have q:p.length<=1099511627776:=h.2.2;obtain⟨c,a,g,d,E,j,v,w⟩:=re H F;exact aHj E w! _)
   iterate 5 omega
   iterate 2
    (have q:p.length<=1099511627776:=h.2.2;obtain⟨c,a,g,d,E,j,v,w⟩:=re H F;omega)
   trivial;omega;iterate 2 (grind[re,Eu])
   trivial;iterate 2 omega
   refine⟨(s+nat_lit 1),?_⟩;try dsimp only
   with_reducible and_intros
   rfl;obtain⟨c,a,g,d,E,j⟩:=re H F;exact aHk E w! a d;obtain⟨c,a,g,d,E,j⟩:=re H F;exact awL w! a c rfl rfl rfl rfl;iterate 2 (grind[re,xK,af,S.len])
 with_reducible and_intros
 (exact h.2.1)
 iterate 2 omega
 (exact h.1.2 _ x!)
 trivial;omega;iterate 2 (grind[re,Eu])
 obtain⟨c,a,g,d,E,j⟩:=re H F;have e:s=p.length:=by grind[xK]
 subst e;exact awM E h
 iterate 2
  obtain⟨c,a,g,d,E,j⟩:=re H F;have e:s=p.length:=by grind[xK]
  subst e;rw[NK E];rfl
 obtain⟨c,a,g,d,E,j⟩:=re H F;have e:s=p.length:=by grind[xK]
 subst e;rw[NK E];rfl
def azy(d:M (B8×U))(t:B8)(f:Int)(P a c:B8)(p:O)(e:B8)(h:Dg d t p e):wL d (bY (cZ (dE d)) (uf (fv d t (f,P,a,c,p,e))) (aW d) (wB t p e) (bY (cZ (jr (pG d) (bG (bn d)) t (f,P,a,c,p,e)).2) (uf (fv d t (f,P,a,c,p,e))) True (mI (bn d) (dw P a c) p) (eF (jY (bn d) f (dw P a c) p).2 (ñ (fv d t (f,P,a,c,p,e)) (jY (bn d) f (dw P a c) p).1.1 (jY (bn d) f (dw P a c) p).1.2 true) (ct (MH P t) (uf (fv d t (f,P,a,c,p,e))) (aW d) (gg (xJ e (jH (dN d t))) (q11 (QU 2 e (jH (dN d t))) (fv d t (f,P,a,c,p,e)))))))):=by
 refine au ?_;refine⟨?_,?_,?_⟩;exact h.1;grind[nt,df,fv,ix];intro H;refine⟨?_,?_,?_,?_⟩;exact h.1;exact h.2;grind[nt,df,fv,ix];intro g;refine⟨?_,?_,?_,?_⟩;trivial;grind[aaG];grind[fv,ix];intro i;refine⟨?_,?_⟩;grind[nt,df,fv,ix];intro j;with_reducible and_intros
 exact h.1;trivial;exact⟨h.2.2.2.1,afT _⟩;iterate 3 (grind[fv,ix])
def azz(a:Int)(c:B8)(d:M (Int×Int×Int×B8))(p:O)(P:M (Int×Int×M (B8×U))):de (de (gg ((hW a c d).1=th a c d) ((hW (gI p P).1.1 (gI p P).1.2.1 (gI p P).1.2.2).1=zv p P))):=by
 refine au ?_;grind[th,zv]
def azA(p:Int)(P:B8)(a:M (Int×Int×Int×B8))(c:O)(d:M (Int×Int×M (B8×U))):de (de (Qy (th p P a) (zv c d)=Bw p P a c d)):=by
 refine au ?_;grind[Bw]
def azB(p:Int)(P:B8)(a:M (Int×Int×Int×B8))(c:O)(d:M (Int×Int×M (B8×U))):gg (xJ (th p P a) (zv c d)) (q11 (QU 3 (th p P a) (zv c d)) (sI p P a c d)):=by
 refine au ?_;apply SU;trivial;exact⟨NL ..,NL ..⟩;iterate 3 rfl
def azC(f:Int)(g:B8)(i:M (Int×Int×Int×B8))(j:O)(a:M (Int×Int×M (B8×U)))(A:O)(c:M (M (Int×B8×B8×B8×O×B8)))(t:uK f g i j a A c)(o:Vg.jE J.aFa (f,g,i,j,a,A,c)):de (ct (Bool.not (Bw f g i j a)) (uf (lf f g i j a A c)) (∃(r:Nat),(0:Int)=r/\KD a A c r) (∀(x:Nat),KD a A c x->fL (decide ((x:Int)<length a)) 0 x (length a) ((∃(X:Nat×Nat),(0:Int)=X.1/\uL a A c X.2 X.1/\(x:Int)=X.2)/\(∀(d:Nat×Nat),uL a A c d.2 d.1/\(x:Int)=d.2->rH (decide (d.1<bG A)) (jW d.1 (bG A) (jW x (length c) (rj d.1 (length (getD c (toNat x) [])) (Dg (getD a (toNat x) (0,0,[])).2.2 (ru A (toNat d.1)) (getD (getD c (toNat x) []) (toNat d.1) (0,[],[],[],[],[])).2.2.2.2.1 (getD (getD c (toNat x) []) (toNat d.1) (0,[],[],[],[],[])).2.2.2.2.2) (ot (Xi a A c x d).2 (ñ (lf f g i j a A c) (Xi a A c x d).1.1 (Xi a A c x d).1.2 true) (d.1+1) (∃(k:Nat×Nat),(d.1:Int)+1=k.1/\(uL a A c k.2 k.1/\(x:Int)=k.2)/\wK (S.len A) k.1 d.1))))) x (∃(e:Nat),oZ x e (KD a A c e) (S.len a)))) (uf (lf f g i j a A c)))):=by
 refine au ?_;have u:Vg.hlen a:=o.2.2.2.2.1.1;have v:Vg.hlen A:=o.2.2.2.2.2.1.1;refine⟨?_,?_,?_⟩;trivial;intro y;refine⟨?_,?_,?_⟩
 iterate 2
  rw[lf,if_neg x!];rfl
 rw[lf,if_neg x!];rfl;intro H;simp at H;refine⟨?_,?_⟩;refine⟨(nat_lit 0:Nat),?_⟩;dsimp only;refine⟨?_,?_⟩;omega;exact⟨Nat.zero_le _,t H,rfl⟩;intro X l;refine V.dI (λz=>?_) λK=>?_
 . with_reducible and_intros
   iterate 2 omega
   refine⟨((nat_lit 0:Nat),(X)),?_⟩;try dsimp only
   refine⟨?_,?_,?_⟩;omega;exact⟨w!,S! _,l.2.1,l.2.2,rfl⟩;rfl;intro e h;refine V.dI (λB=>?_) λI=>?_
   . with_reducible and_intros
     iterate 3 omega
     (obtain⟨h,q⟩:=h;obtain rfl :X=e.2:=w!;obtain⟨s,Q,m⟩:=QW h w!;omega)
     omega
     (obtain⟨h,q⟩:=h;obtain rfl :X=e.2:=w!;obtain⟨s,Q,m⟩:=QW h w!;have w:e.1<(c.getD e.2 []).length:=Q;exact Int.ofNat_lt.2 w)
     (obtain⟨h,q⟩:=h;obtain rfl :X=e.2:=w!;obtain⟨s,Q,m⟩:=QW h w!;exact m)
     intro n;refine⟨?_,?_,?_⟩
     iterate 2
      obtain⟨h,q⟩:=h;obtain rfl :X=e.2:=by omega
      rw[<-afV H h w! n];rfl
     obtain⟨h,q⟩:=h;obtain rfl :X=e.2:=by omega
     rw[<-afV H h w! n];exact n.symm;intro F;with_reducible and_intros
     iterate 2 omega
     refine⟨((Prod.fst e+nat_lit 1),(X)),?_⟩;try dsimp only
     with_reducible and_intros
     omega;obtain⟨h,q⟩:=h;obtain rfl :X=e.2:=by omega
     exact aHl h w! F;with_reducible rfl
     grind[af,S.len]
   with_reducible and_intros
   iterate 2 omega
   refine⟨(X+nat_lit 1),?_⟩;try dsimp only
   refine⟨?_,?_,?_⟩;omega;obtain⟨h,q⟩:=h;obtain rfl :X=e.2:=by omega
   exact aqR h w!;grind[af,S.len]
 refine⟨?_,?_,?_⟩
 iterate 2
  rw[afW H l w!];rfl
 rw[afW H l w!];rfl
def azD(d:Int)(e:B8)(f:M (Int×Int×Int×B8))(a:O)(g:M (Int×Int×M (B8×U)))(h:Int)(A:B8)(c:O)(H:mI a A c):de (ct (Bool.not (Bw d e f a g)) (uf (QV d e f a g h A c)) (mI a A c) (q11 (jY a h A c) (QV d e f a g h A c))):=by
 refine au ?_;grind[nt,QV,ix,nf]
def azE(y:O)(Y:M (Int×Int×M (B8×U)))(l:M (Int×B8))(b:B8)(c:b.length<1099511627776/\dq l):de (ct (cZ (fk y Y).2) (uf (dJ y Y l b)) (length b<1099511627776/\dq l) (ct (cZ (fJ (fk y Y).1 l b).2) (uf (dJ y Y l b)) (Jm (length b)) (bY (cZ (aI b).2) (uf (dJ y Y l b)) (S.small l) (Vg.aE.first [λ(x:Vg.Z)=>(True,mh (AT b y Y).1 (AT b y Y),x),λ(X:Vg.Z)=>(uK (AU b).1 (AU b).2.1 (AU b).2.2.1 y Y (al l) (AU b).2.2.2,mh (jg b l y Y).1 (jg b l y Y),X)]).1 (ñ (dJ y Y l b) (Ri [λ(d:Vg.Z)=>(True,mh (AT b y Y).1 (AT b y Y),d),λ(e:Vg.Z)=>(uK (AU b).1 (AU b).2.1 (AU b).2.2.1 y Y (al l) (AU b).2.2.2,mh (jg b l y Y).1 (jg b l y Y),e)]).1 (Ri [λ(f:Vg.Z)=>(True,mh (AT b y Y).1 (AT b y Y),f),λ(g:Vg.Z)=>(uK (AU b).1 (AU b).2.1 (AU b).2.2.1 y Y (al l) (AU b).2.2.2,mh (jg b l y Y).1 (jg b l y Y),g)]).2.1 (Ri [λ(i:Vg.Z)=>(True,mh (AT b y Y).1 (AT b y Y),i),λ(j:Vg.Z)=>(uK (AU b).1 (AU b).2.1 (AU b).2.2.1 y Y (al l) (AU b).2.2.2,mh (jg b l y Y).1 (jg b l y Y),j)]).2.2)))):=by
 refine au ?_;refine⟨?_,?_,?_⟩;trivial;grind[nt,df,dJ,ix];intro h;simp at h;with_reducible and_intros
 omega;grind;grind[nt,df,dJ,ix];intro H;simp at H;refine⟨?_,?_,?_⟩;omega;grind[nt,df,dJ,ix];intro a;simp at a;apply SU;exact c.2.1;exact⟨trivial,λ_=>⟨afY c.1 c.2 h H a,λ_=>trivial⟩⟩
 iterate 2
  rw[W9 h H a];rfl
 rw[W9 h H a];rfl
def azF(y:O)(Y:M (Int×Int×M (B8×U)))(i:Int)(b:B8)(c:b.length<1099511627776):de (ct (cZ (fk y Y).2) (uf (mX y Y i b)) (length b<1099511627776) (ct (cZ (uc (fk y Y).1 i b).2) (uf (mX y Y i b)) (Jm (length b)) (ct (cZ (bx b).2) (uf (mX y Y i b)) (Vg.aE.first [λ(x:Vg.Z)=>(True,mh (AW b y Y).1 (AW b y Y),x),λ(X:Vg.Z)=>(mI y (K1 b) (AX b),mh (K2 b i y Y).1 (K2 b i y Y),X)]).1 (ñ (mX y Y i b) (Ri [λ(d:Vg.Z)=>(True,mh (AW b y Y).1 (AW b y Y),d),λ(e:Vg.Z)=>(mI y (K1 b) (AX b),mh (K2 b i y Y).1 (K2 b i y Y),e)]).1 (Ri [λ(f:Vg.Z)=>(True,mh (AW b y Y).1 (AW b y Y),f),λ(g:Vg.Z)=>(mI y (K1 b) (AX b),mh (K2 b i y Y).1 (K2 b i y Y),g)]).2.1 (Ri [λ(j:Vg.Z)=>(True,mh (AW b y Y).1 (AW b y Y),j),λ(k:Vg.Z)=>(mI y (K1 b) (AX b),mh (K2 b i y Y).1 (K2 b i y Y),k)]).2.2)))):=by
 refine au ?_;refine⟨?_,?_,?_⟩;trivial;grind[nt,df,mX,ix];intro h;simp at h;refine⟨?_,?_,?_⟩;omega;grind[nt,df,mX,ix];intro H;simp at H;refine⟨?_,?_,?_⟩;omega;grind[nt,df,mX,ix];intro a;simp at a;refine⟨?_,?_,?_,?_⟩;exact⟨trivial,λ_=>⟨aHm c h,λ_=>trivial⟩⟩
 iterate 2
  rw[afZ h H a];rfl
 rw[afZ h H a];rfl
def azG(l:M (Int×B8))(c:rh l/\S.small l/\¬(cM l (l.length-1)).1=0)(d:Vg.jE J.Jl l):cE (length l-1)/\(∃(X:Nat×Int),((length l:Int)-1=X.1/\1=X.2)/\sJ l X.2 X.1)/\(∀(x:Nat×Int),sJ l x.2 x.1->eF (gq x.2) (mg (x.1-1) 0 (length l) (eF (dz (iO l (x.1-1)).1) (cE (x.2-1)) (cE (x.2+1))/\(∃(a:Nat×Int),((x.1:Int)-1=a.1/\(bif dz (iO l (x.1-1)).1 then x.2-1 else x.2+1)=a.2)/\sJ l a.2 a.1/\a.1<x.1))) (x.1=oW l)):=by
 refine au ?_;have B:Vg.hlen l:=d.1.1;obtain⟨p,e,P⟩:=c;have f:=S.â p;have g:toNat ((l.length:Int)-1)=l.length-1:=by omega
 with_reducible and_intros
 iterate 2 omega
 refine⟨((toNat ((↑(length l):Int)-(1:Int))),((1:Int))),?_⟩;grind[aEI];intro X h;refine⟨?_,?_⟩
 . intro H;simp at H;with_reducible and_intros
   omega;have Q:=h.1;omega;have q:=Mz p P h;omega;have Q:=h.1;omega;intro i;refine⟨?_,?_⟩;omega;have q:=Mz p P h;have Q:=h.1;omega
   intro j;refine⟨?_,?_⟩;omega;have q:=Mz p P h;have Q:=h.1;omega
   refine⟨((toNat ((↑(Prod.fst X):Int)-(1:Int))),(bif Decidable.decide (Prod.fst (getD l (toNat ((↑(Prod.fst X):Int)-(1:Int))) ((0:Int),[]))=(0:Int)) then Prod.snd X-(1:Int) else Prod.snd X+(1:Int))),?_⟩;with_reducible and_intros
   have q:=Mz p P h;omega;omega;rw[show toNat ((X.1:Int)-1)=X.1-1 by omega];exact S.ã p P h H;have q:=Mz p P h;omega
 grind[df,awR]
def azH(m:Nat)(d:B8)(l:M (Int×B8))(r:S.len l<m+1)(g:Jj d l)(j:Vg.jE J.aFb (d,l)):((-9223372036854775808:Int)<=(↑(length l):Int)-(1:Int)/\(↑(length l):Int)-(1:Int)<=(9223372036854775807:Int))/\((0:Int)<=(↑(length l):Int)-(1:Int)/\(↑(length l):Int)-(1:Int)<(↑(length l):Int))/\(decide ((getD l (toNat ((↑(length l):Int)-(1:Int))) ((0:Int),[])).1=(0:Int))=true->((0:Int)<=(↑(length l):Int)-(1:Int)/\(↑(length l):Int)-(1:Int)<(↑(length l):Int))/\S.small d/\decide ((0:Int)<(↑(length (S.places d ((getD l (toNat ((↑(length l):Int)-(1:Int))) ((0:Int),[])).2))):Int))=gS l d)/\(decide ((getD l (toNat ((↑(length l):Int)-(1:Int))) ((0:Int),[])).1=(0:Int))=false->(rh l/\S.small l/\((cM l (length l-(1:Nat))).1=(0:Int)->False))/\((0:Int)<=oW l/\oW l<=(↑(length l):Int))/\(S.len (take (toNat (oW l)) l)<m/\Jj d (take (toNat (oW l)) l))/\((0:Int)<=oW l/\oW l<=(↑(length l):Int)-(1:Int)/\(↑(length l):Int)-(1:Int)<=(↑(length l):Int))/\(S.len (drop (toNat (oW l)) (take (toNat ((↑(length l):Int)-(1:Int))) l))<m/\Jj d (drop (toNat (oW l)) (take (toNat ((↑(length l):Int)-(1:Int))) l)))/\((0:Int)<=(↑(length l):Int)-(1:Int)/\(↑(length l):Int)-(1:Int)<(↑(length l):Int))/\(decide ((getD l (toNat ((↑(length l):Int)-(1:Int))) ((0:Int),[])).1=(1:Int))=true->(bif gS (take (toNat (oW l)) l) d then gS (drop (toNat (oW l)) (take (toNat ((↑(length l):Int)-(1:Int))) l)) d else false)=gS l d)/\(decide ((getD l (toNat ((↑(length l):Int)-(1:Int))) ((0:Int),[])).1=(1:Int))=false->(decide ((getD l (toNat ((↑(length l):Int)-(1:Int))) ((0:Int),[])).1=(2:Int))=true->(bif gS (take (toNat (oW l)) l) d then true else gS (drop (toNat (oW l)) (take (toNat ((↑(length l):Int)-(1:Int))) l)) d)=gS l d)/\(decide ((getD l (toNat ((↑(length l):Int)-(1:Int))) ((0:Int),[])).1=(2:Int))=false->(bif gS (take (toNat (oW l)) l) d then !gS (drop (toNat (oW l)) (take (toNat ((↑(length l):Int)-(1:Int))) l)) d else false)=gS l d))):=by
 have B:Vg.hlen l:=j.2.1.1;obtain⟨p,P,a⟩:=g;have s:=S.â p;have k:toNat ((l.length:Int)-1)=l.length-1:=by omega
 have t:S.len l=l.length:=rfl;rw[k];with_reducible and_intros
 iterate 4 omega
 . intro c;try simp at c
   with_reducible and_intros
   iterate 3 omega
   exact alK p c
 intro h;try simp at h
 with_reducible and_intros
 iterate 2 omega
 intro n;exact h n
 iterate 2
  obtain⟨i,e,i1,i2,_⟩:=ri p h;omega
 obtain⟨i,e,i1,i2,_⟩:=ri p h;rw[e];show(take i l).length<m;grind
 obtain⟨i,e,i1,i2,i3,i4⟩:=ri p h;rw[e];exact⟨(GP p h i1 i2 i3 i4).1,by show(take i l).length<=_;rw[C?];have :l.length<=1099511627776:=P;omega,a⟩
 iterate 2
  obtain⟨i,e,i1,i2,_⟩:=ri p h;omega
 omega;obtain⟨i,e,i1,i2,_⟩:=ri p h;rw[e];show(drop i (take (l.length-1) l)).length<m;grind
 obtain⟨i,e,i1,i2,i3,i4⟩:=ri p h;rw[e];exact⟨(GP p h i1 i2 i3 i4).2,by show(drop i (take (l.length-1) l)).length<=_;rw[N?,C?];have :l.length<=1099511627776:=P;omega,a⟩;iterate 2 omega
 intro f;try simp at f
 obtain⟨i,e,i1,i2,i3,i4⟩:=ri p h;rw[e,tn,<-KG (doc:=d) p h i1 i2 i3 i4,W0,Q! (show(cM l (l.length-1)).1=1 from f)];cases gS (take i l) d<;>rfl;intro H;try simp at H
 refine V.dI (λo=>?_) λq=>?_;obtain⟨i,e,i1,i2,i3,i4⟩:=ri p h;rw[e,tn,<-KG (doc:=d) p h i1 i2 i3 i4,W0,R! (show ¬(cM l (l.length-1)).1=1 from H),Q! (show(cM l (l.length-1)).1=2 from o)];rfl;obtain⟨i,e,i1,i2,i3,i4⟩:=ri p h;rw[e,tn,<-KG (doc:=d) p h i1 i2 i3 i4,W0,R! (show ¬(cM l (l.length-1)).1=1 from H),R! (show ¬(cM l (l.length-1)).1=2 from q)];cases gS (take i l) d<;>rfl
def azI(d:O)(l:M (Int×B8))(h:Xc d l)(H:Vg.jE J.arL (d,l)):(∃(X:Nat),((0:Int)=(X:Int)/\([]:U)=kM d l X)/\dX d X)/\(∀(x:Nat),dX d x->fL (decide ((x:Int)<bG d)) (0:Int) (x:Int) (bG d) (Jj (eN d (x:Int)) l/\rH (gS l (eN d (x:Int))) (zy (kM d l x) [(x:Int)]/\dg (x:Int) (∃(a:Nat),xQ (x:Int) (a:Int) (kM d l x++[(x:Int)]=kM d l a) (dX d a) (S.len d) a (af (S.len d) x))) (x:Int) (∃(c:Nat),xQ (x:Int) (c:Int) (kM d l x=kM d l c) (dX d c) (S.len d) c (af (S.len d) x))) (kM d l x=kM d l (S.len d))):=by
 refine au ?_;have A:Vg.hlen d:=H.1.1;refine⟨?_,?_⟩;grind[kM,dX,af,S.len,Ji,NI];intro X f;refine⟨?_,?_⟩
 . intro e;simp at e;with_reducible and_intros
   iterate 2 omega
   exact⟨h.1,h.2.1,h.2.2.2 _ (S.aU d _ [] w!)⟩
   . intro g;with_reducible and_intros
     have:=awD d l X;have:=h.2.2.1;rw[J?];omega
     iterate 2 omega
     refine⟨(X+nat_lit 1),?_⟩;dsimp only;with_reducible and_intros
     omega;iterate 3 (grind[kM,dX,af,S.len,Ji,NI])
   intro i;with_reducible and_intros
   iterate 2 omega
   refine⟨(X+nat_lit 1),?_⟩;dsimp only;with_reducible and_intros
   omega;iterate 3 (grind[kM,dX,af,S.len,Ji,NI])
 grind[df,kM,dX,af,S.len,Ji,NI]
def azJ(y:O)(Y:M (Int×Int×M (B8×U)))(b:B8)(h:Vg.jE J.arj (y,Y,b)):de (MD (sG y Y) 20000 (fU b)=KE y Y b):=by
 refine au ?_;have D:Vg.hlen y:=h.1.1;have w:Vg.hlen Y:=h.2.1.1;have I:Vg.hlen b:=h.2.2.1.1;clear h;refine⟨?_,?_⟩;trivial;rfl
def azK:0<length ([104,97,121]:B8)/\de (de (gg (0<length ([104,97,121]:B8)) ([104,97,121]=yo/\dq jK/\gg (UT Rr/\dq jK) ((UT Rr/\dq jK)/\UT (oC KN KM 0).1/\de (oh (lG aaW.1 [0]) (oh (dz aaW.2) (oh (Bool.not (dJ KN KM jK Rr).2) (Bool.not (mX KN KM 0 (oC KN KM 0).1).2)))=true))))):=by
 refine au ?_;with_reducible and_intros
 decide;iterate 3 trivial
 iterate 2 decide
 exact aqn;trivial
 (rw[Xa];exact S.Xb.1)
 exact aqn
 (rw[Xa];exact S.Xb.1)
 exact aqn
 (rw[Xa];exact S.Xb.2)
 trivial
 (rw[Xa];exact awQ)
def azL(y:O)(Y:M (Int×Int×M (B8×U)))(l:M (Int×B8))(b:B8)(H:Vg.jE J.ð (y,Y,l,b)):gg (mY (KE y Y b) (de (mY (oc l) (Gy Y/\True)))) (bY (jZ (KE y Y b) (xO (oc l) (cy y Y))) (de Rl) (Gy Y) (cy y Y=true) (nD jV b/\(UT ([]++b)/\dq l)/\bY (cZ (fJ (tH y Y) l ([]++b)).2) (lJ (dz (cV (fJ (tH y Y) l ([]++b)).1))/\jZ (dz (cV (fJ (tH y Y) l ([]++b)).1)) false) (UG l) (dq l) (bY (Bool.not (aZ l)) (false=true) (UG l) (Xc y l) (de (bY (lG (fJ (tH y Y) l ([]++b)).1 (kM y l (S.len y))) (de Rl) (nD jV b) (UT ([]++b)/\dq l) (fK (dJ y Y l ([]++b)).2 (iy (dJ y Y l ([]++b)).1.1 (dJ y Y l ([]++b)).1.2/\lJ (QT (dJ y Y l ([]++b)).1.1 (dJ y Y l ([]++b)).1.2))/\oh (dJ y Y l ([]++b)).2 (jZ (QT (dJ y Y l ([]++b)).1.1 (dJ y Y l ([]++b)).1.2) false))))))):=by
 refine au ?_;have D:Vg.hlen y:=H.1.1;have w:Vg.hlen Y:=H.2.1.1;have B:Vg.hlen l:=H.2.2.1.1;have I:Vg.hlen b:=H.2.2.2.1.1;clear H;with_reducible and_intros
 trivial;intro j;trivial;intro c;refine⟨?_,?_,?_⟩;trivial;intro m;trivial;intro n;refine⟨?_,?_⟩;exact Uq (My c).2;trivial;intro d;try simp only[V.Nb,nt] at d
 refine⟨?_,?_⟩;trivial;rfl;intro h;try simp only[V.qF,nf] at h
 with_reducible and_intros
 exact Uq (My h.1).2;exact h.2.2;have:=(My h.1).1;simp[Vg.pV];omega;have:=(My h.1).1;simp;omega;exact Db h.2.1
 . intro a;try simp only[nt,df] at a
   with_reducible and_intros
   intro e;try simp only[dt] at e
   trivial;intro g;try simp only[df] at g
   trivial;rw[awW a];rfl
 intro f;try simp only[nf,dt] at f
 refine⟨?_,?_,?_,?_⟩;exact S.Ü (Db h.2.1).1;exact Db h.2.1;intro i;try simp only[nt] at i
 have:=(af2 f).1;rw[i] at this;exact this;intro k;try simp only[nf] at k
 apply SU;exact S.Ü (Db h.2.1).1;exact awV h.2.2 k (Db h.2.1);trivial;intro o;refine⟨?_,?_⟩;trivial;rfl;intro r;with_reducible and_intros
 have:=(My h.1).1;simp[Vg.pV];omega;have:=(My h.1).1;simp;omega;exact Db h.2.1;intro G;refine⟨?_,?_,?_⟩;exact(S.ç (My h.1).1 h.2.2 (Db h.2.1) f r).2;intro q;trivial;intro R;trivial;intro s;trivial;exact(S.ç (My h.1).1 h.2.2 (Db h.2.1) f r).1
end Go
