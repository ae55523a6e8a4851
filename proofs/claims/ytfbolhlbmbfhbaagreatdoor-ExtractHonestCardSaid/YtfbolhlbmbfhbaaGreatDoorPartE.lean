import Derived.Test.YtfbolhlbmbfhbaaGreatDoorPartD
set_option linter.all false
namespace Go
open List (length getD take drop replicate)
open Int (toNat)
open S
variable {p:Prop}{α:Type}{b:Bool}
theorem df[Decidable p]:decide p=false↔¬p:=p?
theorem dt[Decidable p]:(decide p=true)=p:=H!
theorem lc{a:α}{l:M α}:(a::l).length=l.length+1:=M?
theorem ln:([]:M α).length=0:=List.length_nil
theorem tn(n:Nat):(n:Int).toNat=n:=E? n
theorem nf:((!b)=false)=(b=true):=Bool.not_eq_false' b
theorem nt:((!b)=true)=(b=false):=K? b
def aOW(x k:Int)(h:ux x k):aRM (KQ k) 32 (aRM (gJ (32-KQ k)) 32 (Vg.cv (a1Y x 2 (KQ k)) (aSn x (gJ (32-KQ k)))=S.rotl x k)):=by
 refine au ?_;grind[auO,ux,auN]
def aOX:(1779033703:Int)=1779033703/\(3144134277:Int)=3144134277/\(1013904242:Int)=1013904242/\(2773480762:Int)=2773480762/\(1359893119:Int)=1359893119/\(2600822924:Int)=2600822924/\(528734635:Int)=528734635/\(1541459225:Int)=1541459225/\aWs:=by
 refine au ?_;omega
def aOY(S a c d e g h i:Int)(s:B8)(f:Int):anS (decide (0<=f)) (anS (decide (f<=1099511627776)) (0<=f/\(0:Int)<64))/\fU (decide (0<=f)) (fU (decide (f<=1099511627776)) (decide (q99 s=f%64)))=qI s f:=by
 refine au ?_;grind[qI]
def aOZ(u U a c d e f g:Int)(p:B8)(q:Wd (u,U,a,c,d,e,f,g) p)(H:Vg.jE J.q3p (u,U,a,c,d,e,f,g,p)):(∃(j:Nat),((0:Int)=j/\a1U 0 (a1U 0 (a1U 0 (a1U 0 [])))=bf p j)/\cC j 16)/\(∀(h:Nat),cC h 16->q85 (decide ((h:Int)<16)) (mC (4*h)/\jz 0 (4*h) (q99 p)/\((0:Int)<=24/\(24:Int)<=32)/\mC (4*h)/\mC (4*h+1)/\jz 0 (4*h+1) (q99 p)/\((0:Int)<=16/\(16:Int)<=32)/\mC (4*h)/\mC (4*h+2)/\jz 0 (4*h+2) (q99 p)/\((0:Int)<=8/\(8:Int)<=32)/\mC (4*h)/\mC (4*h+3)/\aSi (4*h+3) (q99 p) (jz 0 h aXa/\0+toNat h*1<length (bf p h)/\aVg h (∃(n:Nat),a0t h n (List.set (bf p h) (0+toNat h*1) (Vg.cv (Vg.cv (Vg.cv (a1Y (aTm p (4*h) 0) 2 24) (a1Y (aTm p (4*h+1) 0) 2 16)) (a1Y (aTm p (4*h+2) 0) 2 8)) (aTm p (4*h+3) 0))=bf p n) 16))) (∃(k:Nat),((16:Int)=k/\bf p h=bf p k)/\16<=k/\k<=64) (∀(x:Nat),16<=x/\x<=64->q85 (decide ((x:Int)<64)) (aVL (x-15) 0 aXa (aba x) (K9 p x) (aVL (x-2) 0 aXa (Dw x) (K9 p x) (aWU (aTR (bf p x) (aba x)) 7/\aWU (aTR (bf p x) (aba x)) 18/\aRM 3 32 (aWU (aTR (bf p x) (Dw x)) 17/\aWU (aTR (bf p x) (Dw x)) 19/\aRM 10 32 (aVL (x-16) 0 aXa (0+toNat (x-16)*1) (K9 p x) (aVL (x-7) 0 aXa (0+toNat (x-7)*1) (K9 p x) (jz 0 x aXa/\0+toNat x*1<K9 p x/\aVg x (∃(l:Nat),aPz x l (List.set (bf p x) (0+toNat x*1) (Rm (Rm (Rm (aTR (bf p x) (0+toNat (x-16)*1)) (a1Z (aTR (bf p x) (aba x)) 7 18 (aSn (aTR (bf p x) (aba x)) 3))) (getD (bf p x) (0+toNat (x-7)*1) 0)) (a1Z (aTR (bf p x) (Dw x)) 17 19 (aSn (aTR (bf p x) (Dw x)) 10)))=bf p l) (16<=l/\l<=64) 64)))))))) ((0:Int)<=0/\0<aU6) (MH 0 1 aU6 2 (MH 0 3 aU6 4 (MH 0 5 aU6 6 (jz 0 7 aU6/\(∃(m:Nat),((0:Int)=m/\q57 (gz (Xq p) (u,U,a,c,d,e,f,g) m) u U a c d e f g)/\cC m 64)/\(∀(X:Nat),cC X 64->q85 (decide ((X:Int)<64)) (aWU (La p u U a c d e f g X).2.2.2.2.1 6/\aWU (La p u U a c d e f g X).2.2.2.2.1 11/\aWU (La p u U a c d e f g X).2.2.2.2.1 25/\64=length Bo/\aSi X (fK Bo) (jz 0 X aXa/\0+toNat X*1<K9 p x/\aWU (La p u U a c d e f g X).1 2/\aWU (La p u U a c d e f g X).1 13/\aWU (La p u U a c d e f g X).1 22/\mC (X+1)/\(∃(i:Nat),a0t X i (Rm (Xr p u U a c d e f g x X) (Rm (a1Z (La p u U a c d e f g X).1 2 13 (S.rotl (La p u U a c d e f g X).1 (-22))) (Vg.e9 (Vg.e9 (Vg.aT (La p u U a c d e f g X).1 (La p u U a c d e f g X).2.1) (Vg.aT (La p u U a c d e f g X).1 (La p u U a c d e f g X).2.2.1)) (Vg.aT (La p u U a c d e f g X).2.1 (La p u U a c d e f g X).2.2.1)))=(gz (Xq p) (u,U,a,c,d,e,f,g) i).1/\(La p u U a c d e f g X).1=(gz (Xq p) (u,U,a,c,d,e,f,g) i).2.1/\(La p u U a c d e f g X).2.1=(gz (Xq p) (u,U,a,c,d,e,f,g) i).2.2.1/\(La p u U a c d e f g X).2.2.1=(gz (Xq p) (u,U,a,c,d,e,f,g) i).2.2.2.1/\Rm (La p u U a c d e f g X).2.2.2.1 (Xr p u U a c d e f g x X)=(gz (Xq p) (u,U,a,c,d,e,f,g) i).2.2.2.2.1/\(La p u U a c d e f g X).2.2.2.2.1=(gz (Xq p) (u,U,a,c,d,e,f,g) i).2.2.2.2.2.1/\(La p u U a c d e f g X).2.2.2.2.2.1=(gz (Xq p) (u,U,a,c,d,e,f,g) i).2.2.2.2.2.2.1/\(La p u U a c d e f g X).2.2.2.2.2.2.1=(gz (Xq p) (u,U,a,c,d,e,f,g) i).2.2.2.2.2.2.2) 64))) ((0:Int)<=0/\0<aU6) (MH 0 1 aU6 2 (MH 0 3 aU6 4 (MH 0 5 aU6 6 (aSi 7 aU6 (q57 (S.block (u,U,a,c,d,e,f,g) p) (Rm u (La p u U a c d e f g X).1) (Rm U (La p u U a c d e f g X).2.1) (Rm a (La p u U a c d e f g X).2.2.1) (Rm c (La p u U a c d e f g X).2.2.2.1) (Rm d (La p u U a c d e f g X).2.2.2.2.1) (Rm e (La p u U a c d e f g X).2.2.2.2.2.1) (Rm f (La p u U a c d e f g X).2.2.2.2.2.2.1) (Rm g (La p u U a c d e f g X).2.2.2.2.2.2.2))))))))))))):=by
 refine au ?_;have A:0<=u/\u<=4294967295:=H.1;have r:0<=U/\U<=4294967295:=H.2.1;have s:0<=a/\a<=4294967295:=H.2.2.1;have t:0<=c/\c<=4294967295:=H.2.2.2.1;have v:0<=d/\d<=4294967295:=H.2.2.2.2.1;have w:0<=e/\e<=4294967295:=H.2.2.2.2.2.1;have y:0<=f/\f<=4294967295:=H.2.2.2.2.2.2.1;have z:0<=g/\g<=4294967295:=H.2.2.2.2.2.2.2.1;clear H;obtain⟨o,C⟩:=q;apply la;refine⟨0,?_⟩;try dsimp only
 apply cj3;omega;rfl;grind[cC,af];intro j B;refine V.dI (λD=>?_) λE=>?_
 . with_reducible and_intros
   iterate 30 omega
   rw[vR _ _ w!];omega;iterate 2 omega
   refine⟨(j+1),?_⟩;try dsimp only
   apply cj2;omega;exact auK _ _ w!;simp only[cC,af] at *;omega;simp only[cC,af] at *;omega
 apply la;refine⟨16,?_⟩;try dsimp only
 apply cj2;omega;simp only[cC] at B;rw[show j=16 by omega];iterate 2 omega
 intro x F;refine V.dI (λG=>?_) λK=>?_
 . with_reducible and_intros
   iterate 4 omega
   rw[vR _ _ w!];omega;iterate 4 omega
   rw[vR _ _ w!];omega;iterate 2 (with_reducible exact Zj _ _ _ _ w!)
   iterate 2 omega
   iterate 2 (with_reducible exact Zj _ _ _ _ w!)
   iterate 6 omega
   rw[vR _ _ w!];omega;iterate 4 omega
   rw[vR _ _ w!];omega;iterate 2 omega
   rw[vR _ _ w!];omega;iterate 2 omega
   refine⟨(x+1),?_⟩;try dsimp only
   apply cj6;omega;exact auL _ _ w! w!;iterate 2 omega
   simp only[cC,af] at *;omega
 with_reducible and_intros
 iterate 16 omega
 . refine⟨0,?_⟩;try dsimp only
   with_reducible and_intros
   omega;iterate 8 rfl
   simp only[cC,af] at *;omega
 intro i L;apply la
 . intro I;try simp only[dt] at I
   with_reducible and_intros
   iterate 3 (with_reducible exact aGl (CE _ _ o _) _ w!)
   with_reducible exact J8
   omega;rw[<-J8];simp only[cC] at *;omega;iterate 2 omega
   rw[vR _ _ w!];omega;iterate 3 (with_reducible exact aGk (CE _ _ o _) _ w!)
   iterate 2 omega
   refine⟨(i+1),?_⟩;try dsimp only
   with_reducible and_intros
   omega;rw[show x=64 by omega,aeI];simp only[gz,tn,n?,x?];rfl;iterate 3 rfl
   rw[show x=64 by omega,aeI];simp only[gz,tn,n?,x?];rfl;iterate 3 rfl
   simp only[cC,af] at *;omega;simp only[cC,af] at *;omega
 grind[df,cC,S.block,aeH]
def aIq(u U a c d e f g:Int)(b:B8)(H:yg (u,U,a,c,d,e,f,g)):(∃(X:Nat),(b=ka b X/\q57 (S.proc (u,U,a,c,d,e,f,g) b X) u U a c d e f g)/\64*X<=length b)/\(∀(x:Nat),64*x<=length b->q76 (decide (64<=q99 (ka b x))) (aRM 64 (q99 (ka b x)) (Wd (abb b u U a c d e f g x) (take (toNat 64) (ka b x))/\aRM 64 (q99 (ka b x)) (∃(h:Nat),(drop (toNat 64) (ka b x)=ka b h/\q60 (S.block (abb b u U a c d e f g x) (take (toNat 64) (ka b x))) (S.proc (u,U,a,c,d,e,f,g) b h))/\64*h<=length b/\q98 (S.blocks b) h x))) (q56 (S.proc (u,U,a,c,d,e,f,g) b x) (cb (u,U,a,c,d,e,f,g) b) (ka b x=kY b))):=by
 refine au ?_;apply la
 . refine⟨0,?_⟩;try dsimp only
   with_reducible and_intros
   iterate 9 rfl
   omega
 intro X i;refine V.dI (λj=>?_) λk=>?_;apply a05;iterate 2 omega
 exact⟨Pz _ _ H _,x!⟩;iterate 2 omega
 refine⟨(X+1),?_⟩;grind[ka,List.drop_drop,auQ,List.length_drop,af,S.blocks];with_reducible and_intros
 iterate 8
  rw[show X=S.blocks b by grind[ka,List.length_drop,S.blocks]];rfl
 rw[show X=S.blocks b by grind[ka,List.length_drop,S.blocks]];rfl
def aIr(a c d e g h i j:Int)(s:B8)(f:Int)(b:B8)(H:Wc (a,c,d,e,g,h,i,j) s f b):aST (aV4 (Bool.not (qI s f)) (mC (1099511627776-f))) (aVe (aa8 b f s)/\mC (length (nE b f s)+aIl b)/\((0:Int)<=0/\(0:Int)<=length (nE b f s)+aIl b/\length (nE b f s)+aIl b<=Jo aZK)/\a04 (a0u 0 0) (length (nE b f s))/\a04 (a0u 0 0++nE b f s) (aIl b)/\yg (a10 (aa8 b f s) a c d e g h i j)/\wK (kY (a0u 0 0++nE b f s++b))/\mC ((bif aa8 b f s then 0 else f)+aIl b)/\q56 (cb (a10 (aa8 b f s) a c d e g h i j) (a0u 0 0++nE b f s++b)) (cb (a,c,d,e,g,h,i,j) b) (kY (a0u 0 0++nE b f s++b)=kY b/\(bif aa8 b f s then(0:Int) else f)+aIl b=pW b)):=by
 refine au ?_;obtain⟨G,rfl,rfl,k⟩:=H;simp[S.small] at k;have l:qI [] 0=true:=by decide
 have hd:decide ((1099511627776:Int)-0<(b.length:Int))=false:=by grind
 simp only[l,hd,Bool.not_true,N!,K!,ln,Int.toNat_zero];with_reducible and_intros
 trivial;grind;omega;iterate 2 grind
 iterate 5 omega
 iterate 2 grind
 omega;simp[List.replicate_zero,o?,B?,xn,pW,ln,J!] at *;omega;iterate 2 omega
 iterate 9 rfl
 simp only[List.replicate_zero,o?,B?,xn,pW,ln,J!] at *;omega
def aIs(a c d e g h i j:Int)(s:B8)(f:Int)(r:Nw (a,c,d,e,g,h,i,j) s f):aST (aVe (Xp f s)) (cE (length (bif Xp f s then([]:B8) else s))/\cE (length (bif Xp f s then([]:B8) else s)+length [(128:UInt8)])/\(∃(t:Nat),(bif Xp f s then([]:B8) else s)++[(128:UInt8)]=gB s t/\cI s t)/\(∀(k:Nat),cI s k->(0:Int)<=(length (gB s k):Int)/\(0:Int)<(64:Int)/\q85 (q72 ((length (gB s k):Int)%(64:Int)) (56:Int)) (cE (length (gB s k)+length [(0:UInt8)])/\(∃(m:Nat),gB s k++[(0:UInt8)]=gB s m/\cI s m/\q98 (ij (S.len s)) m k)) (∃(n:Nat),((0:Int)=(n:Int)/\gB s k=pA s f n)/\cC n (8:Nat)) (∀(x:Nat),cC x (8:Nat)->Rk (decide ((x:Int)<(8:Int))) (mC ((8:Int)*(x:Int))/\mC ((56:Int)-(8:Int)*(x:Int))/\aRM ((56:Int)-(8:Int)*(x:Int)) (64:Int) (aYE (pA s f x) (aam f s x)/\mC ((x:Int)+(1:Int))/\(∃(u:Nat),a0t x u (pA s f x++aam f s x=pA s f u) (8:Nat)))) (yg (a10 (Xp f s) a c d e g h i j)) ((0:Int)<=(0:Int)/\(0:Int)<=(32:Int)/\(32:Int)<=Jo aZK) (∃(l:Nat),((0:Int)=(l:Int)/\a0u (0:Int) (0:UInt8)=oQ (cb (a,c,d,e,g,h,i,j) (S.tail s f)) l)/\cC l (8:Nat)) (∀(X:Nat),mZ (cC X (8:Nat)) (decide ((X:Int)<(8:Int))) (0:Int) (X:Int) aU6 ((0:Int)<=(24:Int)/\(24:Int)<=(32:Int)) (aRM (16:Int) (32:Int) (aRM (8:Int) (32:Int) (aYE (oQ (cb (a,c,d,e,g,h,i,j) (S.tail s f)) X) (a2w f a c d e g h i j s x X)/\mC ((X:Int)+(1:Int))/\(∃(v:Nat),a0t X v (oQ (cb (a,c,d,e,g,h,i,j) (S.tail s f)) X++a2w f a c d e g h i j s x X=oQ (cb (a,c,d,e,g,h,i,j) (S.tail s f)) v) (8:Nat))))) (oQ (cb (a,c,d,e,g,h,i,j) (S.tail s f)) X=dig (cb (a,c,d,e,g,h,i,j) (S.tail s f))))))):=by
 refine au ?_;have w:=akh r;obtain⟨G,H,o,y⟩:=r;simp only[w,Bool.not_true,N!];with_reducible and_intros
 trivial;iterate 2 grind
 omega;grind;refine⟨0,?_⟩;apply la;exact Zl _;simp only[di,jF,cI,ij,cC,af,S.len,lc,ln] at *;omega;intro m A;apply cj4;iterate 2 omega
 intro z;try simp at z
 apply la;simp[di,jF,cI,ij,cC,af,S.len,lc,ln] at *;omega;refine⟨(m+1),?_⟩;apply cj1;grind[Ma];grind[PB];simp only[di,jF,cI,ij,cC,af,S.len,lc,ln] at *;omega;intro B;apply la;refine⟨0,?_⟩;try dsimp only
 apply cj3;omega;grind[aoA,TR];simp only[di,jF,cI,ij,cC,af,S.len,lc,ln] at *;omega;intro l C;refine V.dI (λD=>?_) λF=>?_
 . with_reducible and_intros
   iterate 6 omega
   simp only[di,jF,cI,ij,cC,af,S.len,lc,ln] at *;omega;iterate 2 omega
   refine⟨(l+1),?_⟩;try dsimp only
   apply cj2;omega;exact Zm s f l H o w!;simp only[di,jF,cI,ij,cC,af,S.len,lc,ln] at *;omega;simp only[di,jF,cI,ij,cC,af,S.len,lc,ln] at *;omega
 with_reducible and_intros
 iterate 4 omega
 refine⟨0,?_⟩;try dsimp only
 apply cj3;omega;rfl;simp only[di,jF,cI,ij,cC,af,S.len,lc,ln] at *;omega;intro q K;refine V.dI (λO=>?_) λR=>?_
 . with_reducible and_intros
   iterate 8 omega
   rw[TS _ _ (by simp only[cC] at *;omega)];simp;omega;iterate 2 omega
   refine⟨(q+1),?_⟩;try dsimp only
   apply cj2;omega;rw[show l=8 by(simp only[cC] at *;omega)];exact auP _ q w!;simp only[di,jF,cI,ij,cC,af,S.len,lc,ln] at *;omega;simp only[di,jF,cI,ij,cC,af,S.len,lc,ln] at *;omega
 rw[show q=8 by(simp only[cC] at *;omega)];rfl
def aIt(b:B8)(h:S.small b):aST (Wc aYM aUQ 0 b) (Nw (Dv b) (kY b) (pW b)/\dig (cb (Dv b) (S.tail (kY b) (pW b)))=S.sum b):=by
 refine au ?_;apply cj4;trivial;exact⟨S.Ŏ,rfl,rfl,h⟩;simp[S.small] at h;exact⟨Pz _ _ S.Ŏ _,by grind[pW],by grind[pW],by grind[xn,pW]⟩;exact congrArg dig (S.ŏ b _)
def aIw(b:B8)(h:b.length<=140737488355328):wK b/\b=b:=by
 refine au ?_;grind
def aIx(v:Int)(l:B8)(H:IA l v)(c:Vg.aEo J.q6p v):(∃(X:B8×Int),(v=X.2/\l=X.1)/\uy l v X.1 X.2)/\(∀(x:B8×Int),uy l v x.1 x.2->q85 (decide (127<x.2)) (0<=x.2/\(0:Int)<=127/\cE (length x.1+length [lJ (Vg.cv (Vg.aT x.2 127%256) 128)])/\aRM 7 64 (∃(a:B8×Int),(aSn x.2 7=a.2/\x.1++[lJ (Vg.cv (Vg.aT x.2 127%256) 128)]=a.1)/\uy l v a.1 a.2/\aLW a.2 x.2)) (cE (length x.1+length [aZg x.2])) (x.1++[aZg x.2]=l++S.num v)):=by
 refine au ?_;have A:Vg.hint v:=c.1;obtain⟨u,e⟩:=H;apply la;refine⟨((l),(v)),?_⟩;apply cj3;omega;rfl;exact⟨u,Int.le_refl _,rfl⟩;intro X h;refine V.dI (λf=>?_) λg=>?_
 . with_reducible and_intros
   iterate 2 omega
   (have d:=ID h;grind)
   iterate 2 omega
   refine⟨((X.1++[UInt8.ofNat (toNat (Vg.cv (Vg.aT (X.2) (127:Int)%(256:Int)) (128:Int)))]),(X.2/(2:Int)^toNat (7:Int))),?_⟩;grind[ID,aeM,ako]
 apply la
 (have d:=ID h;grind)
 grind[ID,aeM,aoK]
def aIy(s l:B8)(h:oR l s):IA l (length s)/\a04 (l++S.num (length s)) (length s)/\l++S.num (length s)++s=l++S.text s:=by
 refine au ?_;obtain⟨u,a⟩:=h;grind[cU,IA,List.length_append,S.text]
def aIz(b:B8)(v:Int)(H:b.length<=35184372088832):eN (a1T v 0 4611686018427387904) (1=yW v/\[]=mq b v) (wK b) (IA b v) (0=yW v/\b++S.num v=mq b v):=by
 refine au ?_;apply la;simp_all[V.Nb,dt,mq,yW,gi]
 intro h;simp at h;apply cj4;omega;exact⟨w!,w!⟩;iterate 2 (grind[mq,yW,gi])
def aIA(b s:B8)(h:oR b s):wK b/\oR b s/\b++S.text s=b++S.text s:=by
 refine au ?_;grind[oR]
def aIB(r:B8)(R a:Int):aub 0 R (q99 r)=S.inside r R:=by
 refine au ?_;grind[S.inside,decide]
def aIC(r:B8)(R a:Int)(h:r.length<=140737488355328):wK r/\aVe (alU a)/\r=r/\(bif fU (alU a) (Bool.not (S.inside r R)) then R else R)=R/\(bif fU (alU a) (Bool.not (S.inside r R)) then(1:Int) else a)=bV r R a:=by
 refine au ?_;grind[bV,S.inside]
def aID(b:B8)(p:Int)(a:dK b p)(g:Vg.jE J.q8p (b,p)):(∃(X:Nat),(0=gP b p X/\(0:Int)=X)/\ke b p X)/\(∀(x:Nat),ke b p x->q85 (decide ((x:Int)=9)) (0=(aQ b p).1/\0=(aQ b p).2.1/\2=(aQ b p).2.2) (mC (q99 b-p)) (aVp (decide (x=q99 b-p)) (0=(aQ b p).1/\0=(aQ b p).2.1/\4=(aQ b p).2.2) p x (jz 0 (p+x) (q99 b)/\mC (7*x)/\aRM (7*x) 64 (mC (a1r b p x)/\0<=gP b p x/\0<=a1r b p x/\aVg x (q76 (decide (aTm b (p+x) 0<128)) (anS (aXb (x+1)) (mC (p+(x+1))/\mC (p+(x+1)-1)/\jz 0 (p+(x+1)-1) (q99 b))/\q85 (bif aXb (x+1) then q81 (alU (aTm b (p+(x+1)-1) 0)) (decide (4611686018427387904<a0F b p x)) else decide (4611686018427387904<a0F b p x)) (0=(aQ b p).1/\0=(aQ b p).2.1/\2=(aQ b p).2.2) (mC (p+(x+1))) (a0F b p x=(aQ b p).1/\p+(x+1)=(aQ b p).2.1/\0=(aQ b p).2.2)) (∃(d:Nat),(a0F b p x=gP b p d/\(x:Int)+1=d)/\ke b p d/\q98 9 d x)))))):=by
 refine au ?_;have I:Vg.hlen b:=g.1.1;clear g;have G:=a;simp only[dK] at G;apply la;refine⟨0,?_⟩;try dsimp only
 apply cj3;exact(aM3 b p).symm;omega;exact aM2 a;intro X h;refine V.dI (λn=>?_) λo=>?_;apply cj1;iterate 3 (grind[aoH,Zo])
 apply cj2;iterate 2 omega
 intro q;apply cj1;iterate 3 (grind[aoH,Zo])
 intro k;try simp at k
 with_reducible and_intros
 omega
 (have H:=hU h;omega)
 omega
 (have H:=hU h;omega)
 omega
 (have H:=hU h;omega)
 omega
 (have H:=hU h;omega)
 iterate 2
  have H:=hU h;have c:=at3 ((b.getD (p+(X:Int)).toNat 0).toNat:Int) w!;have j:=aeL (Vg.aT ((b.getD (p+(X:Int)).toNat 0).toNat:Int) 127) X w! w! w!;try clear e
  try clear f
  clear c;omega
 (have H:=hU h;have l:=auT (b:=b) (p:=p) H.1;exact l.1)
 (have H:=hU h;have c:=at3 ((b.getD (p+(X:Int)).toNat 0).toNat:Int) w!;have j:=aeL (Vg.aT ((b.getD (p+(X:Int)).toNat 0).toNat:Int) 127) X w! w! w!;exact j.1)
 omega
 (have H:=hU h;omega)
 intro m;try simp only[dt] at m
 apply cj2;intro e;apply cj7;omega;have H:=hU h;have c:=at3 ((b.getD (p+(X:Int)).toNat 0).toNat:Int) w!;try clear e
 try clear f
 clear c;omega;omega;have H:=hU h;have c:=at3 ((b.getD (p+(X:Int)).toNat 0).toNat:Int) w!;try clear e
 try clear f
 clear c;omega;omega;have H:=hU h;have c:=at3 ((b.getD (p+(X:Int)).toNat 0).toNat:Int) w!;try clear e
 try clear f
 clear c;omega;intro f;trivial;intro F;apply cj1;exact(Kd a h (by have H:=hU h;omega) w! w! F).1;exact(Kd a h (by have H:=hU h;omega) w! w! F).2.1;exact(Kd a h (by have H:=hU h;omega) w! w! F).2.2;intro i;apply cj8;omega;clear i;have H:=hU h;omega;exact(Ke a h (by have H:=hU h;omega) w! w! i).1;exact(Ke a h (by have H:=hU h;omega) w! w! i).2.1;exact(Ke a h (by have H:=hU h;omega) w! w! i).2.2;intro K;try simp only[df] at K
 refine⟨(X+1),?_⟩;try dsimp only
 apply cj2
 (have H:=hU h;exact aeK a h w!)
 omega
 (have H:=hU h;exact akn a h w! w! w!)
 (have H:=hU h;simp only[af];omega)
def aIE(b:B8)(p g:Int)(h:dK b p)(H:Vg.jE J.é (b,p,g)):dK b p/\q76 (anP (aQ b p).2.2) (aYN (akd b p g) (aQ b p).2.2) (q85 (decide (g<(aQ b p).1)) (aYN (akd b p g) 2) (mC (q99 b-(aQ b p).2.1)) (eN (decide (q99 b-(aQ b p).2.1<(aQ b p).1)) (aYN (akd b p g) 4) (mC (aZT b p)) (FF 0 (aQ b p).2.1 (aZT b p) (q99 b)) (mC (aZT b p)/\aVf (aQ b p).2.1 (aZT b p) b=(akd b p g).1/\aZT b p=(akd b p g).2.1/\0=(akd b p g).2.2))):=by
 refine au ?_;have I:Vg.hlen b:=H.1.1;have a:=PJ h;apply cj1;omega;grind[nt,df,akd];intro c;apply la;simp_all[dt,akd]
 intro d;apply cj2;iterate 2 omega
 grind[akd];grind[df,akd]
def aIF(r:B8)(R a g:Int)(h:r.length<=140737488355328):wK r/\q85 (anP (bV r R a)) (q18 (ao r R a g) r R (bV r R a) []) (dK r R) (q76 (anP (akd r R g).2.2) (q18 (ao r R a g) r R (akd r R g).2.2 []) (q18 (ao r R a g) r (akd r R g).2.1 (bV r R a) (akd r R g).1)):=by
 refine au ?_;apply cj1;omega;grind[nt,df,ao,dK,bV,S.inside];intro H;apply cj1;grind[ao,dK,bV,S.inside];grind[nt,df,ao,dK,bV,S.inside];simp_all[nf,dt,ao,dK,bV,S.inside]
def aIG(r:B8)(R a:Int)(h:r.length<=140737488355328):wK r/\q85 (anP (bV r R a)) (r=(ag r R a).1.1/\R=(ag r R a).1.2.1/\bV r R a=(ag r R a).1.2.2/\0=(ag r R a).2) (dK r R) (q76 (anP (aQ r R).2.2) (r=(ag r R a).1.1/\R=(ag r R a).1.2.1/\(aQ r R).2.2=(ag r R a).1.2.2/\0=(ag r R a).2) (r=(ag r R a).1.1/\(aQ r R).2.1=(ag r R a).1.2.1/\bV r R a=(ag r R a).1.2.2/\(aQ r R).1=(ag r R a).2)):=by
 refine au ?_;apply cj1;omega;grind[nt,df,ag,dK,bV,S.inside];intro H;apply cj1;grind[ag,dK,bV,S.inside];grind[nt,df,ag,dK,bV,S.inside];simp_all[nf,dt,ag,dK,bV,S.inside]
def aIH(R:B8)(r a:Int)(H:R.length<=140737488355328)(h:Vg.jE J.aN0 (R,r,a)):cE (length R)/\q85 (anP (bV R r a)) (q18 (aF R r a) R r (bV R r a) []) (mC (length R-r)) (eN (decide (length R-r<32)) (q18 (aF R r a) R r 4 []) (mC (r+32)) (FF 0 r (r+32) (length R)) (mC (r+32)/\q18 (aF R r a) R (r+32) (bV R r a) (aVf r (r+32) R))):=by
 refine au ?_;have A:Vg.hint r:=h.2.1;apply cj1;omega;grind[nt,df,aF,dK,bV,S.inside];intro c;apply cj2;omega;grind[aF,dK,bV,S.inside];simp_all[dt,aF,dK,bV,S.inside]
 grind[df,aF,dK,bV,S.inside,akp,List.drop_take]
def aII(r:B8)(R a:Int):aVq (anP a) (a=S.done r R a) (q76 (Bool.not (S.inside r R)) (1=S.done r R a) (q76 (aZ2 R r) (2=S.done r R a) (0=S.done r R a))):=by
 refine au ?_;simp_all[nt,df,S.done,nf,dt]
def aIN(k:UInt8)(p:O)(H:oS p)(h:Vg.jE J.UN (k,p)):(∃(X:Nat),((0:Int)=X/\[lJ (a0s k)]=nY k p X)/\gU p X)/\(∀(x:Nat),mZ (gU p x) (decide (x<mB p)) 0 x (mB p) (aYE (nY k p x) (ap2 p x)) (mC (x+1)/\(∃(a:Nat),aPz x a (nY k p x++ap2 p x=nY k p a) (gU p a) (S.len p))) (nY k p x=gQ k p)):=by
 refine au ?_;have A:Vg.hlen p:=h.2.1.1;clear h;apply la;grind[akr,gU,af,S.len];intro X d;apply la;intro c;try simp only[dt] at c
 apply a05;iterate 2 omega
 exact S.Ŕ k H w!;iterate 2 omega
 refine⟨(X+1),?_⟩;try dsimp only
 apply cj2;omega;exact Wf _ _ _ w!;simp only[gU,af,S.len] at *;omega;simp only[gU,af,S.len] at *;omega;grind[df,Zq]
def aIO(b:B8)(h:az b):a1W [b] 0 0 b:=by
 refine au ?_;grind[oS,az,gQ,bB]
def aIP(l r:B8)(h:az (l++r)):a1W [l,r] 1 1 (l++r):=by
 refine au ?_;grind[oS,az,List.length_append,gQ,bB]
def aIQ(b:B8)(h:az b):a1W [b] 2 2 b:=by
 refine au ?_;grind[oS,az,gQ,bB]
def aIR(b:B8)(h:az b):a1W [b] 3 3 b:=by
 refine au ?_;grind[oS,az,gQ,bB]
def aIS(b:B8)(h:az b):Jq b (S.small (bB 0 b)/\S.sum (bB 0 b)=S.leaf b):=by
 refine au ?_;apply cj1;omega;exact h;rfl
def aIT(l r:B8):Rk (q81 (aWa l) (aWa r)) ([]=bz l r/\1=vT l r) (az (l++r)) (S.small (bB 1 (l++r))) (S.sum (bB 1 (l++r))=bz l r) (0=vT l r):=by
 refine au ?_;apply la;grind[bz,vT,Mc,S.œ,l7];intro h;apply cj4;iterate 2 (grind[S.small,bB,az,lc,List.length_append])
 iterate 2 (grind[bz,vT,Mc,S.œ,l7])
def aIU(b:B8)(h:az b):Jq b (S.small (bB 2 b)/\S.sum (bB 2 b)=l7 2 b):=by
 refine au ?_;apply cj1;omega;exact h;rfl
def aIV(b:B8)(h:az b):Jq b (S.small (bB 3 b)/\S.sum (bB 3 b)=l7 3 b):=by
 refine au ?_;apply cj1;omega;exact h;rfl
def aIW(c:Int):qh 0 c (qh c 1114111 (a1T c 55296 57343))=cA c:=by
 refine au ?_;grind[cA]
def aIX(c:Int):q76 (decide (c<128)) (1=akc c) (q76 (decide (c<2048)) (2=akc c) (q76 (decide (c<65536)) (3=akc c) (4=akc c))):=by
 refine au ?_;apply la;simp_all[dt,akc]
 intro h;apply la;simp_all[dt,akc]
 intro H;apply la;grind[akc];grind[df,akc]
def aIY(c:Int)(h:0<=c):0<=c/\(0:Int)<=63/\Vg.cv 128 (Vg.aT c 63%256)=a0s (S.more c):=by
 refine au ?_;have e:Vg.aT c 63%256=c%64:=by grind[Pw]
 grind[CD,auV]
def aIZ(c:Int):cV (aVq (aZ3 c) (1=Bp c/\[]=im c) (q76 (aZJ (akc c)) (0=Bp c/\[aZg c]=im c) (q76 (decide (akc c=2)) (aRM 6 64 (0<=c/\0=Bp c/\[a3o 192 (aSn c 6),a0w c]=im c)) (eN (decide (akc c=3)) (aRM 12 64 (aRM 6 64 (0<=aSn c 6/\0<=c/\0=Bp c/\[a3o 224 (aSn c 12),a0w (aSn c 6),a0w c]=im c))) (aW9 18) (aW9 12) (0<=aSn c 12/\aRM 6 64 (0<=aSn c 6/\0<=c/\0=Bp c/\[a3o 240 (aSn c 18),a0w (aSn c 12),a0w (aSn c 6),a0w c]=im c)))))):=by
 refine au ?_;apply cj1;trivial;grind[nt,Bp,im];intro h;simp at h;apply cj1;trivial;intro a;apply la;grind[eV,Bp]
 (have H:=eV h;(simp[im,h,if_true];grind[aeN,akc]))
 intro d;refine V.dI (λe=>?_) λf=>?_;apply cj8;iterate 2 omega
 simp_all[eV]
 grind[eV,Bp]
 (have H:=eV h;(simp only[im,h,if_true];grind[auZ,akc]))
 refine V.dI (λg=>?_) λi=>?_
 . with_reducible and_intros
   iterate 4 omega
   (have H:=eV h;grind)
   simp_all[eV]
   grind[eV,Bp]
   (have H:=eV h;(simp only[im,h,if_true];grind[au0,akc]))
 with_reducible and_intros
 iterate 4 omega
 (have H:=eV h;grind)
 iterate 2 omega
 (have H:=eV h;grind)
 simp_all[eV]
 grind[eV,Bp]
 (have H:=eV h;(simp only[im,h,if_true];grind[au1,akc]))
def aI0(b:B8)(hp:0<b.length)(N:Vg.jE J.q5p b):((0:Int)<=0/\0<q99 b)/\q85 (decide (aTm b 0 0<128)) (aTm b 0 0=(bh b).1/\1=(bh b).2) (aW9 5) (q85 (decide (aSn (aTm b 0 0) 5=6)) (0<=aTm b 0 0/\(0:Int)<=31/\eN (decide (q99 b<2)) (aW6 (bh b) 1) (FF 0 1 2 (q99 b)) (∃(n:Nat),((0:Int)=n/\Vg.aT (aTm b 0 0) 31=bW b n)/\pY b n) (∀(X:Nat),pY b X->eN (decide (X<q99 (aVf 1 2 b))) (jz 0 X (q99 (aVf 1 2 b))/\((0:Int)<=6/\(6:Int)<=8)/\eN (q72 (aSn (aTm (aVf 1 2 b) X 0) 6) 2) (aW6 (bh b) 1) (aW9 6) (mC (bW b X*2^toNat 6)) (0<=bW b X*2^toNat 6/\0<=Vg.aT (aTm (aVf 1 2 b) X 0) 63/\aVg X (∃(o:Nat),aPz X o (Vg.cv (bW b X*2^toNat 6) (Vg.aT (aTm (aVf 1 2 b) X 0) 63)=bW b o) (pY b o) 4))) True (aVe (aZ3 (bW b X))) (q76 (q81 (aZ3 (bW b X)) (q72 (akc (bW b X)) 2)) (aW6 (bh b) 1) (bW b X=(bh b).1/\2=(bh b).2)))) (aW9 4) (q85 (decide (aSn (aTm b 0 0) 4=14)) (0<=aTm b 0 0/\(0:Int)<=15/\eN (decide (q99 b<3)) (aW6 (bh b) 1) (FF 0 1 3 (q99 b)) (∃(q:Nat),((0:Int)=q/\Vg.aT (aTm b 0 0) 15=bW b q)/\pY b q) (∀(d:Nat),pY b d->eN (decide (d<q99 (aVf 1 3 b))) (jz 0 d (q99 (aVf 1 3 b))/\((0:Int)<=6/\(6:Int)<=8)/\eN (q72 (aSn (aTm (aVf 1 3 b) d 0) 6) 2) (aW6 (bh b) 1) (aW9 6) (mC (bW b d*2^toNat 6)) (0<=bW b d*2^toNat 6/\0<=Vg.aT (aTm (aVf 1 3 b) d 0) 63/\aVg d (∃(x:Nat),aPz d x (Vg.cv (bW b d*2^toNat 6) (Vg.aT (aTm (aVf 1 3 b) d 0) 63)=bW b x) (pY b x) 4))) True (aVe (aZ3 (bW b d))) (q76 (q81 (aZ3 (bW b d)) (q72 (akc (bW b d)) 3)) (aW6 (bh b) 1) (bW b d=(bh b).1/\3=(bh b).2)))) (aW9 3) (q76 (decide (aSn (aTm b 0 0) 3=30)) (0<=aTm b 0 0/\(0:Int)<=7/\eN (decide (q99 b<4)) (aW6 (bh b) 1) (FF 0 1 4 (q99 b)) (∃(r:Nat),((0:Int)=r/\Vg.aT (aTm b 0 0) 7=bW b r)/\pY b r) (∀(f:Nat),pY b f->eN (decide (f<q99 (aVf 1 4 b))) (jz 0 f (q99 (aVf 1 4 b))/\((0:Int)<=6/\(6:Int)<=8)/\eN (q72 (aSn (aTm (aVf 1 4 b) f 0) 6) 2) (aW6 (bh b) 1) (aW9 6) (mC (bW b f*2^toNat 6)) (0<=bW b f*2^toNat 6/\0<=Vg.aT (aTm (aVf 1 4 b) f 0) 63/\aVg f (∃(s:Nat),aPz f s (Vg.cv (bW b f*2^toNat 6) (Vg.aT (aTm (aVf 1 4 b) f 0) 63)=bW b s) (pY b s) 4))) True (aVe (aZ3 (bW b f))) (q76 (q81 (aZ3 (bW b f)) (q72 (akc (bW b f)) 4)) (aW6 (bh b) 1) (bW b f=(bh b).1/\4=(bh b).2)))) (aW6 (bh b) 1)))):=by
 refine au ?_;have I6:Vg.hlen b:=N.1.1;clear N;have Gg:(0:Int)<b.length:=by omega
 apply cj2;iterate 2 omega
 simp_all[dt,uf1]
 intro O;try simp only[df] at O
 apply cj2;iterate 2 omega
 . intro P;try simp only[dt] at P
   apply cj4;iterate 2 omega
   intro Q;try simp only[dt] at Q
   apply la
   (have h:=vU (b:=b) w! w!;simp_all[uW])
   (have h:=vU (b:=b) w! w!;simp_all[uW])
   intro T;try simp only[df] at T
   apply SU;iterate 3 omega
   refine⟨0,?_⟩;try dsimp only
   apply cj3;omega;grind[vU,aM4]
   (have h:=vU (b:=b) w! w!;simp_all[S.ŕ])
   intro x c;refine V.dI (λh8=>?_) λI=>?_
   . apply cj7;iterate 4 omega
     intro U;try simp only[nt,df,tn] at U
     apply la;have h:=vU (b:=b) v! v!;have a:=bP c;have hx:(x:Int)+1<2:=by(have H:=cx b 2 w! w!;simp only[H,show toNat 2=2 by rfl] at *;omega)
     simp only[mr b 2 x hx,n0 b 2 x hx] at *;rw[yX h c w! v!];have h:=vU (b:=b) v! v!;have a:=bP c;have hx:(x:Int)+1<2:=by(have H:=cx b 2 w! w!;simp only[H,show toNat 2=2 by rfl] at *;omega)
     simp only[mr b 2 x hx,n0 b 2 x hx] at *;rw[yX h c w! v!];intro W;try simp only[nf,dt,tn] at W
     with_reducible and_intros
     iterate 2 omega
     iterate 3
      (have h:=vU (b:=b) v! v!;(have a:=bP c;(try simp only[cx b 2 w! w!,show toNat 2=2 by rfl] at *);simp only[show toNat 6=6 by rfl,af] at *;omega))
     exact Int.natCast_nonneg _;omega
     (have h:=vU (b:=b) v! v!;(have a:=bP c;(try simp only[cx b 2 w! w!,show toNat 2=2 by rfl] at *);omega))
     refine⟨(x+1),?_⟩;try dsimp only
     apply cj2;omega;have h:=vU (b:=b) v! v!;have a:=bP c;have hx:(x:Int)+1<2:=by(have H:=cx b 2 w! w!;simp only[H,show toNat 2=2 by rfl] at *;omega)
     rw[mr b 2 x hx];exact S.ŗ c w!;have h:=vU (b:=b) v! v!;have a:=bP c;have hx:(x:Int)+1<2:=by(have H:=cx b 2 w! w!;simp only[H,show toNat 2=2 by rfl] at *;omega)
     simp only[mr b 2 x hx,n0 b 2 x hx] at *;exact Wh c v! w!
     (have h:=vU (b:=b) v! v!;(have a:=bP c;(try simp only[cx b 2 w! w!,show toNat 2=2 by rfl] at *);simp only[show toNat 6=6 by rfl,af] at *;omega))
   apply cj9;trivial;intro Y;try simp only[nt] at Y
   trivial;intro Z;try simp only[nf] at Z
   trivial;intro R;try simp only[V.Nb,nt,df] at R
   apply la;have h:=vU (b:=b) v! v!;have a:=bP c;have H:=cx b 2 w! w!;rw[H] at I;have hx:x+1=2:=by omega
   rw[yY h c hx R rfl];have h:=vU (b:=b) v! v!;have a:=bP c;have H:=cx b 2 w! w!;rw[H] at I;have hx:x+1=2:=by omega
   rw[yY h c hx R rfl];intro G;try simp only[V.qF,nf,dt] at G
   apply la;have h:=vU (b:=b) v! v!;have a:=bP c;have H:=cx b 2 w! w!;rw[H] at I;have hx:x+1=2:=by omega
   rw[yZ h c hx G rfl];have h:=vU (b:=b) v! v!;have a:=bP c;have H:=cx b 2 w! w!;rw[H] at I;have hx:x+1=2:=by omega
   rw[yZ h c hx G rfl]
 intro p;try simp only[df] at p
 apply cj2;iterate 2 omega
 . intro RQ;try simp only[dt] at RQ
   apply cj4;iterate 2 omega
   intro þ;try simp only[dt] at þ
   apply la
   (have h:=xo (b:=b) v! v! v!;rw[uW h w! w!])
   (have h:=xo (b:=b) v! v! v!;rw[uW h w! w!])
   intro ÿ;try simp only[df] at ÿ
   apply SU;iterate 3 omega
   refine⟨0,?_⟩;try dsimp only
   apply cj3;omega
   (exact aM5 v! v!)
   (have h:=xo (b:=b) v! v! v!;exact S.ŕ h w! w!)
   intro E u;refine V.dI (λh22=>?_) λg=>?_
   . apply cj7;iterate 4 omega
     intro t;try simp only[nt,df,tn] at t
     apply la;have h:=xo (b:=b) v! v! v!;have a:=bP u;have hx:(E:Int)+1<3:=by(have H:=cx b 3 w! w!;simp only[H,show toNat 3=3 by rfl] at *;omega)
     simp only[mr b 3 E hx,n0 b 3 E hx] at *;rw[yX h u w! v!];have h:=xo (b:=b) v! v! v!;have a:=bP u;have hx:(E:Int)+1<3:=by(have H:=cx b 3 w! w!;simp only[H,show toNat 3=3 by rfl] at *;omega)
     simp only[mr b 3 E hx,n0 b 3 E hx] at *;rw[yX h u w! v!];intro v;try simp only[nf,dt,tn] at v
     with_reducible and_intros
     iterate 2 omega
     iterate 3
      (have h:=xo (b:=b) v! v! v!;(have a:=bP u;(try simp only[cx b 3 w! w!,show toNat 3=3 by rfl] at *);simp only[show toNat 6=6 by rfl,af] at *;omega))
     exact Int.natCast_nonneg _;omega
     (have h:=xo (b:=b) v! v! v!;(have a:=bP u;(try simp only[cx b 3 w! w!,show toNat 3=3 by rfl] at *);omega))
     refine⟨(E+1),?_⟩;try dsimp only
     apply cj2;omega;have h:=xo (b:=b) v! v! v!;have a:=bP u;have hx:(E:Int)+1<3:=by(have H:=cx b 3 w! w!;simp only[H,show toNat 3=3 by rfl] at *;omega)
     rw[mr b 3 E hx];exact S.ŗ u w!;have h:=xo (b:=b) v! v! v!;have a:=bP u;have hx:(E:Int)+1<3:=by(have H:=cx b 3 w! w!;simp only[H,show toNat 3=3 by rfl] at *;omega)
     simp only[mr b 3 E hx,n0 b 3 E hx] at *;exact Wh u v! w!
     (have h:=xo (b:=b) v! v! v!;(have a:=bP u;(try simp only[cx b 3 w! w!,show toNat 3=3 by rfl] at *);simp only[show toNat 6=6 by rfl,af] at *;omega))
   apply cj9;trivial;intro w;try simp only[nt] at w
   trivial;intro y;try simp only[nf] at y
   trivial;intro j;try simp only[V.Nb,nt,df] at j
   apply la;have h:=xo (b:=b) v! v! v!;have a:=bP u;have H:=cx b 3 w! w!;rw[H] at g;have hx:E+1=3:=by omega
   rw[yY h u hx j rfl];have h:=xo (b:=b) v! v! v!;have a:=bP u;have H:=cx b 3 w! w!;rw[H] at g;have hx:E+1=3:=by omega
   rw[yY h u hx j rfl];intro k;try simp only[V.qF,nf,dt] at k
   apply la;have h:=xo (b:=b) v! v! v!;have a:=bP u;have H:=cx b 3 w! w!;rw[H] at g;have hx:E+1=3:=by omega
   rw[yZ h u hx k rfl];have h:=xo (b:=b) v! v! v!;have a:=bP u;have H:=cx b 3 w! w!;rw[H] at g;have hx:E+1=3:=by omega
   rw[yZ h u hx k rfl]
 intro z;try simp only[df] at z
 apply cj2;iterate 2 omega
 . intro A;try simp only[dt] at A
   apply cj4;iterate 2 omega
   intro C;try simp only[dt] at C
   apply la
   (have h:=xp (b:=b) v! v! v! v!;rw[uW h w! w!])
   (have h:=xp (b:=b) v! v! v! v!;rw[uW h w! w!])
   intro D;try simp only[df] at D
   apply SU;iterate 3 omega
   refine⟨0,?_⟩;try dsimp only
   apply cj3;omega
   (exact aM6 v! v!)
   (have h:=xp (b:=b) v! v! v! v!;exact S.ŕ h w! w!)
   intro e B;refine V.dI (λh36=>?_) λi=>?_
   . apply cj7;iterate 4 omega
     intro F;try simp only[nt,df,tn] at F
     apply la;have h:=xp (b:=b) v! v! v! v!;have a:=bP B;have hx:(e:Int)+1<4:=by(have H:=cx b 4 w! w!;simp only[H,show toNat 4=4 by rfl] at *;omega)
     simp only[mr b 4 e hx,n0 b 4 e hx] at *;rw[yX h B w! v!];have h:=xp (b:=b) v! v! v! v!;have a:=bP B;have hx:(e:Int)+1<4:=by(have H:=cx b 4 w! w!;simp only[H,show toNat 4=4 by rfl] at *;omega)
     simp only[mr b 4 e hx,n0 b 4 e hx] at *;rw[yX h B w! v!];intro K;try simp only[nf,dt,tn] at K
     with_reducible and_intros
     iterate 2 omega
     iterate 3
      (have h:=xp (b:=b) v! v! v! v!;(have a:=bP B;(try simp only[cx b 4 w! w!,show toNat 4=4 by rfl] at *);simp only[show toNat 6=6 by rfl,af] at *;omega))
     exact Int.natCast_nonneg _;omega
     (have h:=xp (b:=b) v! v! v! v!;(have a:=bP B;(try simp only[cx b 4 w! w!,show toNat 4=4 by rfl] at *);omega))
     refine⟨(e+1),?_⟩;try dsimp only
     apply cj2;omega;have h:=xp (b:=b) v! v! v! v!;have a:=bP B;have hx:(e:Int)+1<4:=by(have H:=cx b 4 w! w!;simp only[H,show toNat 4=4 by rfl] at *;omega)
     rw[mr b 4 e hx];exact S.ŗ B w!;have h:=xp (b:=b) v! v! v! v!;have a:=bP B;have hx:(e:Int)+1<4:=by(have H:=cx b 4 w! w!;simp only[H,show toNat 4=4 by rfl] at *;omega)
     simp only[mr b 4 e hx,n0 b 4 e hx] at *;exact Wh B v! w!
     (have h:=xp (b:=b) v! v! v! v!;(have a:=bP B;(try simp only[cx b 4 w! w!,show toNat 4=4 by rfl] at *);simp only[show toNat 6=6 by rfl,af] at *;omega))
   apply cj9;trivial;intro L;try simp only[nt] at L
   trivial;intro M;try simp only[nf] at M
   trivial;intro l;try simp only[V.Nb,nt,df] at l
   apply la;have h:=xp (b:=b) v! v! v! v!;have a:=bP B;have H:=cx b 4 w! w!;rw[H] at i;have hx:e+1=4:=by omega
   rw[yY h B hx l rfl];have h:=xp (b:=b) v! v! v! v!;have a:=bP B;have H:=cx b 4 w! w!;rw[H] at i;have hx:e+1=4:=by omega
   rw[yY h B hx l rfl];intro m;try simp only[V.qF,nf,dt] at m
   apply la;have h:=xp (b:=b) v! v! v! v!;have a:=bP B;have H:=cx b 4 w! w!;rw[H] at i;have hx:e+1=4:=by omega
   rw[yZ h B hx m rfl];have h:=xp (b:=b) v! v! v! v!;have a:=bP B;have H:=cx b 4 w! w!;rw[H] at i;have hx:e+1=4:=by omega
   rw[yZ h B hx m rfl]
 grind[df,uf0]
def aI6(b:B8)(c:S.small b):(∃(X:B8×U),(b=X.1/\[]=X.2)/\an9 b X.1 X.2)/\(∀(x:B8×U),an9 b x.1 x.2->q76 (aRO (length x.1)) (0<length x.1/\aYG x.2 [(bh x.1).1]/\aRM (bh x.1).2 (length x.1) (∃(a:B8×U),(drop (toNat (bh x.1).2) x.1=a.1/\x.2++[(bh x.1).1]=a.2)/\an9 b a.1 a.2/\S.len a.1<S.len x.1)) (x.2=S.decode b)):=by
 refine au ?_;simp[S.small] at c;apply la;refine⟨((b),([])),?_⟩;grind[aGn];intro X h;apply la;intro d;simp at d;apply aZi;omega
 (have H:=Wi h w!;grind)
 iterate 2
  (have H:=Wi h w!;omega)
 refine⟨((drop (toNat ((bh (X.1)).2)) (X.1)),(X.2++[(bh (X.1)).1])),?_⟩;dsimp only;apply cj2;iterate 2 rfl
 grind[TZ]
 (have H:=Wi h w!;grind[S.len,List.length_drop,lc,ln])
 grind[df,Zu]
def aI7(c:Int):(∃(X:Nat),(0:Int)=X/\pX c X)/\(∀(a:Nat),pX c a->q76 (decide ((a:Int)<9)) (aWr 0 a ((9:Nat):Int) (aub (getD [65,97,192,216,248,913,931,945,1024] (toNat a) 0) c (getD [90,122,214,246,255,929,937,969,1119] (toNat a) 0)) (true=S.letter c) 1 (∃(d:Nat),aVk a d (pX c d) 9)) (false=S.letter c)):=by
 refine au ?_;apply la;refine⟨(nat_lit 0:Nat),?_⟩;grind[pX];intro X e;apply la;intro f;simp at f;apply cj2;iterate 2 omega
 intro h;simp at h;exact S.ř (x:=X) w! (S.Ŝ h);intro H;simp only[V.V3,df,tn] at H;apply cj3;iterate 2 omega
 refine⟨(X+nat_lit 1),?_⟩;dsimp only;apply cj1;omega;exact S.Ś (x:=X) e w! (aoL H);simp[af];omega;grind[df,S.ś]
def aI8(c:Int):aub 48 c 57=S.digit c:=by
 refine au ?_;grind[S.digit]
def aI9(c:Int):(∃(a:Nat),(0:Int)=a/\qK c a)/\(∀(X:Nat),qK c X->q76 (decide ((X:Int)<7)) (aWr 0 X ((7:Nat):Int) (aub (getD [65,192,216,913,931,1024,1040] (toNat X) 0) c (getD [90,214,222,929,937,1039,1071] (toNat X) 0)) (mC (c+aTR [32,32,32,32,32,80,32] (toNat X))/\c+aTR [32,32,32,32,32,80,32] (toNat X)=aX c) 1 (∃(d:Nat),aVk X d (qK c d) 7)) (c=aX c)):=by
 refine au ?_;apply la;refine⟨(nat_lit 0:Nat),?_⟩;grind[qK];intro a h;apply la;intro e;simp at e;apply cj2;iterate 2 omega
 intro H;simp at H;apply cj3
 iterate 2
  have g:=(T1 (c:=c) (x:=a) h e (S.Ŝ H)).2;omega
 exact(T1 (x:=a) h w! (S.Ŝ H)).1;intro f;simp only[V.V3,df,tn] at f;apply cj3;iterate 2 omega
 refine⟨(a+nat_lit 1),?_⟩;dsimp only;apply cj1;omega;exact akt (x:=a) h w! (aoL f);simp[af];omega;grind[df,aku]
def aJi(u:U)(h:SM u):(∃(X:Nat×B8),((0:Int)=X.1/\[]=X.2)/\lE u X.1 X.2)/\(∀(x:Nat×B8),lE u x.1 x.2->q76 (decide (x.1<fK u)) (jz 0 x.1 (fK u)/\cV (cV (mC (length x.2+length (abh u x))/\eN (decide ((64:Int)<length x.2+length (abh u x))) (x.2=fe u) (cE (length x.2+length (abh u x))) (mC (x.1+1)) (∃(a:Nat×B8),((x.1:Int)+1=a.1/\x.2++abh u x=a.2)/\lE u a.1 a.2/\q98 (S.len u) a.1 x.1)))) (x.2=fe u)):=by
 refine au ?_;have d:=h.1;apply la;refine⟨(0,([])),?_⟩;grind[Aq];intro X H;apply la
 . intro c;simp at c;with_reducible and_intros
   iterate 2 omega
   iterate 2 trivial
   omega;have:=H.2.2;grind[akC];grind[pF];intro e;apply aZn;grind;iterate 2 omega
   refine⟨((X.1+1),(X.2++im (aX (getD u (toNat (↑(X.1):Int)) (0:Int))))),?_⟩;grind[pE,af,S.len]
 grind[df,a3U]
def aJj(b:B8)(e:S.small b):S.small b/\(∃(X:Nat×O×U),((0:Int)=X.1/\[]=X.2.1/\[]=X.2.2)/\aoa (S.decode b) X.1 X.2.1 X.2.2)/\(∀(x:Nat×O×U),aoa (S.decode b) x.1 x.2.1 x.2.2->q76 (decide ((x.1:Int)<length (S.decode b))) (jz 0 x.1 (length (S.decode b))/\toNat x.1<length (S.decode b)/\aST (aVe (S.letter (abg b x))) (q76 (q81 (S.letter (abg b x)) (S.digit (abg b x))) (length x.2.2+length [abg b x]<=17592186044416/\mC (x.1+1)/\(∃(a:Nat×O×U),aUT (x.1+1) a.1 (x.2.1=a.2.1/\x.2.2++[abg b x]=a.2.2) (aoa (S.decode b) a.1 a.2.1 a.2.2) (S.len (S.decode b)) (af (S.len (S.decode b)) x.1))) (q85 (aRO (length x.2.2)) (SM x.2.2/\aZf x.2.1 [fe x.2.2]/\mC (x.1+1)/\(∃(c:Nat×O×U),aUT (x.1+1) c.1 (x.2.1++[fe x.2.2]=c.2.1/\[]=c.2.2) (aoa (S.decode b) c.1 c.2.1 c.2.2) (S.len (S.decode b)) (af (S.len (S.decode b)) x.1))) (mC (x.1+1)) (∃(d:Nat×O×U),aUT (x.1+1) d.1 (x.2.1=d.2.1/\x.2.2=d.2.2) (aoa (S.decode b) d.1 d.2.1 d.2.2) (S.len (S.decode b)) (af (S.len (S.decode b)) x.1))))) (q76 (aRO (length x.2.2)) (SM x.2.2/\aZf x.2.1 [fe x.2.2]/\x.2.1++[fe x.2.2]=aS b) (x.2.1=aS b))):=by
 refine au ?_;have i:b.length<=1099511627776:=e;apply cj1;omega;refine⟨(0,(([]),([]))),?_⟩;grind[aGv];intro X h;refine V.dI (λj=>?_) λF=>?_
 . with_reducible and_intros
   iterate 3 omega
   trivial;iterate 2 grind
   intro f;try simp only[V.Nb] at f
   apply aZn
   (have H:=sA h i;grind)
   omega
   (have H:=sA h i;omega)
   refine⟨((X.1+1),((X.2.1),(X.2.2++[getD (S.decode b) (toNat (↑(X.1):Int)) (0:Int)]))),?_⟩;grind[akD,aoT,sA,af,S.len];intro g;try simp only[V.qF] at g
   refine V.dI (λk=>?_) λl=>?_;apply aZi
   iterate 2
    (have H:=sA h i;grind)
   omega
   (have H:=sA h i;omega)
   refine⟨((X.1+1),((X.2.1++[fe (X.2.2)]),([]))),?_⟩;grind[aoS,Zy,sA,af,S.len];apply cj3;omega
   (have H:=sA h i;omega)
   refine⟨((X.1+1),((X.2.1),(X.2.2))),?_⟩;grind[akE,Zy,sA,af,S.len]
 apply la;intro I;apply cj1
 (have H:=sA h i;grind)
 (have H:=sA h i;simp;omega)
 grind[akF];grind[df,akG]
def aJk(s:B8)(h:S.small s):S.small s/\anS (aZJ (abf s)) (((0:Int)<=0/\(0:Int)<abf s)/\toNat 0<abf s)/\aWT (aZJ (abf s)) (ap2 (aS s) 0) s=S.isTerm s:=by
 refine au ?_;grind[akJ]
def aJt(s:B8):Bool.not (decide (s=s))=false:=by
 grind
def aJu(a b:B8):cV (UT false (q76 false (0=lS a b) (-1=lS a b)) (q76 false (1=lS a b) (q76 (Op.bytesLess a b) (-1=lS a b) (q76 (Bool.not (Op.bytesLess a b||decide (a=b))) (1=lS a b) (0=lS a b))))):=by
 refine au ?_;grind[lS,cJ,pg,y8,nt,nf]
def aJv(a b:B8):cV (alU (lS a b)=decide (a=b)):=by
 refine au ?_;grind[avc]
def aJw(l:O)(m:S.small l):q85 (decide ((abd l:Int)<2)) (l=bU l) (∃(j:Nat),(1:Int)=j/\n4 l j) (∀(d:Nat),n4 l d->q76 (decide ((d:Int)<abd l)) (jz 0 d (abd l)/\aVv d<abd l/\aVL (d-1) 0 (abd l) (toNat (d-1)) (abd l) (cV (aVp (decide (yb l (aVv d)=yb l (toNat (d-1)))) (aRM d (abd l) ((∃(a:Nat×Nat×O×Nat),((d:Int)=a.1/\(1:Int)=a.2.1/\l=a.2.2.1)/\jG l a.2.2.2 a.1 a.2.1 a.2.2.1/\(d:Int)=a.2.2.2)/\(∀(x:Nat×Nat×O×Nat),jG l x.2.2.2 x.1 x.2.1 x.2.2.1/\(d:Int)=x.2.2.2->eN (decide ((x.2.1:Int)<((abd l-aVv d:Nat):Int))) (jz 0 x.2.1 ((abd l-aVv d:Nat):Int)/\aVv d+toNat x.2.1<Dx x/\aVL (x.2.1-1) 0 ((abd l-aVv d:Nat):Int) (aVv d+toNat (x.2.1-1)) (Dx x) (aST (anS (a1t d x) (jz 0 x.2.1 ((abd l-aVv d:Nat):Int)/\aVv d+toNat x.2.1<Dx x/\jz 0 x.1 (Dx x)/\abc x<Dx x/\mC (x.1+1))) (mC (x.2.1+1)/\(∃(e:Nat×Nat×O×Nat),((bif a1t d x then(x.1:Int)+1 else(x.1:Int))=e.1/\(x.2.1:Int)+1=e.2.1/\(bif a1t d x then List.set x.2.2.1 (abc x) (yb x.2.2.1 (aVv d+toNat x.2.1)) else x.2.2.1)=e.2.2.1)/\(jG l e.2.2.2 e.1 e.2.1 e.2.2.1/\(d:Int)=e.2.2.2)/\q98 (S.len l) e.2.1 x.2.1)))) ((0:Int)<=x.1/\(x.1:Int)<=Dx x) (abc x+(Dx x-abc x)<=Dx x) (((0:Int)<=x.1/\x.1<=mB (A4 x))/\take (abc x) (A4 x)=bU l)))) d 1 (∃(k:Nat),aVk d k (n4 l k) (S.len l))))) (l=bU l)):=by
 refine au ?_;have I:l.length<=1099511627776:=m;refine V.dI (λn=>?_) λy=>?_;exact PY n;apply la;grind[aoV];intro a o;apply la
 . intro r;try simp only[dt] at r
   with_reducible and_intros
   iterate 5 omega
   have:=o.1;omega;iterate 2 omega
   trivial
   . intro s;try simp only[dt,tn] at s
     apply cj2;iterate 2 omega
     refine⟨((a),(1,((l),(a)))),?_⟩;grind[aeQ];intro X h;apply la
     . intro t;try simp at t
       with_reducible and_intros
       iterate 2 omega
       have q:=h.1.1;have Q:=h.1.2.1;have f:=h.1.2.2.2.1;have g:=h.1.2.2.2.2.1;have i:=h.2;omega
       iterate 2 omega
       have q:=h.1.1;have Q:=h.1.2.1;have f:=h.1.2.2.2.1;have g:=h.1.2.2.2.2.1;have i:=h.2;omega
       omega;have q:=h.1.1;have Q:=h.1.2.1;have f:=h.1.2.2.2.1;have g:=h.1.2.2.2.2.1;have i:=h.2;omega
       trivial
       . intro F;with_reducible and_intros
         iterate 2 omega
         have q:=h.1.1;have Q:=h.1.2.1;have f:=h.1.2.2.2.1;have g:=h.1.2.2.2.2.1;have i:=h.2;omega
         omega
         iterate 2
          have q:=h.1.1;have Q:=h.1.2.1;have f:=h.1.2.2.2.1;have g:=h.1.2.2.2.2.1;have i:=h.2;omega
         omega;have q:=h.1.1;have Q:=h.1.2.1;have f:=h.1.2.2.2.1;have g:=h.1.2.2.2.2.1;have i:=h.2;omega
       intro z;trivial;iterate 2 omega
       refine⟨((toNat (bif !Decidable.decide (getD (X.2.2.1) (toNat (↑a:Int)+toNat (↑(X.2.1):Int)) []=getD (X.2.2.1) (toNat (↑a:Int)+toNat ((↑(X.2.1):Int)-(1:Int))) []) then(↑(X.1):Int)+(1:Int) else(↑(X.1):Int))),((X.2.1+1),((bif !Decidable.decide (getD (X.2.2.1) (toNat (↑a:Int)+toNat (↑(X.2.1):Int)) []=getD (X.2.2.1) (toNat (↑a:Int)+toNat ((↑(X.2.1):Int)-(1:Int))) []) then List.set (X.2.2.1) (toNat (↑(X.1):Int)) (getD (X.2.2.1) (toNat (↑a:Int)+toNat (↑(X.2.1):Int)) []) else Prod.fst (X.2.2)),(a)))),?_⟩;try dsimp only
       with_reducible and_intros
       generalize (!decide (getD X.2.2.1 (toNat (a:Int)+toNat (X.2.1:Int)) []=getD X.2.2.1 (toNat (a:Int)+toNat ((X.2.1:Int)-1)) []))=c;cases c<;>simp only[K!,N!]<;>omega;omega;trivial;have q:=h.1.1;have E:X.2.2.2=a:=by have:=h.2;omega
       have H:=h.1;rw[E] at H;have u:toNat (a:Int)+toNat (X.2.1:Int)=a+X.2.1:=by omega
       have v:toNat (a:Int)+toNat ((X.2.1:Int)-1)=a+X.2.1-1:=by omega
       rw[u,v];by_cases hd:getD X.2.2.1 (a+X.2.1) []=getD X.2.2.1 (a+X.2.1-1) [];rw[L? hd];exact PZ H w! hd;rw[e? hd];exact T8 H w! hd;omega;simp only[af,S.len];omega
     intro K;apply a05;omega
     iterate 2
      have q:=h.1.2.1;have Q:=h.1.2.2.2.1;have f:=h.1.2.2.2.2.1;omega
     omega;have q:=h.1.2.1;have Q:=h.1.2.2.2.1;have f:=h.1.2.2.2.2.1;simp;omega;have q:=h.1.2.1;have Q:=h.1.2.2.2.1;have f:=h.1.2.2.2.2.1;grind[toNat,Mn,T9]
   intro w;try simp only[df,tn] at w
   apply cj3;iterate 2 omega
   refine⟨(a+1),?_⟩;grind[T6,af,S.len]
 grind[df,ZC]
def aJx(l:O)(h:S.small l):S.small l/\S.small l/\S.small (fp l)/\bU (fp l)=bU (fp l):=by
 grind[Wq]
def aJy(b:B8)(h:S.small b):S.small b/\S.small (aS b)/\bU (fp (aS b))=S.sorted (aS b):=by
 grind[Wo,P0]
def aJz(l:O)(d:Vg.jE J.aEO l):(∃(X:Nat),(0:Int)=X/\sZ l X)/\(∀(x:Nat),sZ l x->q76 (decide (x<mB l)) (aWr 0 x (mB l) (aWa (ap2 l x)) (false=cP l) 1 (∃(a:Nat),aVk x a (sZ l a) (S.len l))) (true=cP l)):=by
 refine au ?_;have B:Vg.hlen l:=d.1.1;apply la;grind[avg];intro X e;apply la;intro h;simp only[dt] at h;apply cj2;iterate 2 omega
 intro H;simp at H;exact akS h H;intro c;simp at c;apply cj3;iterate 2 omega
 refine⟨(X+nat_lit 1),?_⟩;dsimp only;apply cj1;omega;exact S.ũ e h c;simp[af,S.len];omega;grind[df,akT]
def aJA(a b:B8):cV (bz a b=bz a b):=by
 refine au ?_;grind
def aJB(s:O)(h:y9 s):aVL (A7 s-2) 0 (A7 s) (toNat (A7 s-2)) (A7 s) (aVL (A7 s-2+1) 0 (A7 s) (toNat (A7 s-2+1)) (A7 s) (cV (jz 0 (A7 s-2) (A7 s)/\toNat (A7 s-2)<A7 s/\mC (A7 s-2+1)/\((0:Int)<=A7 s-2+1/\A7 s-2+1<=mB (auu s))/\take (toNat (A7 s-2+1)) (auu s)=S.comb s))):=by
 refine au ?_;have H:=h.1;have a:=h.2;with_reducible and_intros
 iterate 10 omega
 trivial;iterate 6 omega
 grind;exact avf h
def aJC(l:O)(h:dj l)(H:Vg.jE J.aN3 l):(∃(X:Nat),((0:Int)=X/\[]=fg l X)/\gU l X)/\(∀(x:Nat),mZ (gU l x) (decide (x<mB l)) 0 x (mB l) (az (ap2 l x)) (aZf (fg l x) [S.leaf (ap2 l x)]/\mC (x+1)/\(∃(a:Nat),aPz x a (fg l x++[S.leaf (ap2 l x)]=fg l a) (gU l a) (S.len l))) (fg l x=S.leaves l)):=by
 refine au ?_;have B:Vg.hlen l:=H.1.1;clear H;have d:=h.1;apply la;refine⟨0,?_⟩;try dsimp only
 apply cj3;omega;rfl;grind[gU,af,S.len];intro X e;apply la
 . intro c;try simp only[dt] at c
   with_reducible and_intros
   iterate 2 omega
   exact ga h v!;have:=Fk l X;simp only[lc,ln];omega;iterate 2 omega
   refine⟨(X+1),?_⟩;try dsimp only
   apply cj2;omega;exact fh v!;simp only[gU,af,S.len] at *;omega;simp only[gU,af,S.len] at *;omega
 grind[df,fZ]
def aJD(l:O)(j:eW l):q85 (alU (mB l)) (S.small aUQ/\S.sum aUQ=S.root l) (∃(f:Nat×O),((0:Int)=f.1/\[]=f.2)/\qN l f.1 f.2) (∀(x:Nat×O),qN l x.1 x.2->q85 (decide (x.1<mB l)) (jz 0 x.1 (mB l)/\aZf x.2 [ap2 l x.1]/\(∃(X:Nat×Nat×O×Nat),((x.1:Int)=X.2.1/\x.2++[ap2 l x.1]=X.2.2.1)/\ph l X.2.2.2 X.1 X.2.1 X.2.2.1/\(x.1:Int)=X.2.2.2)/\(∀(a:Nat×Nat×O×Nat),ph l a.2.2.2 a.1 a.2.1 a.2.2.1/\(x.1:Int)=a.2.2.2->(0:Int)<=a.2.1/\(0:Int)<=1/\q85 (decide (Vg.aT a.2.1 1=1)) (y9 a.2.2.1/\aRM 1 64 (∃(d:Nat×Nat×O×Nat),(aSn a.2.1 1=d.2.1/\S.comb a.2.2.1=d.2.2.1)/\(ph l d.2.2.2 d.1 d.2.1 d.2.2.1/\(x.1:Int)=d.2.2.2)/\d.2.1<a.2.1)) (mC (x.1+1)) (∃(c:Nat×O),((x.1:Int)+1=c.1/\a.2.2.1=c.2)/\qN l c.1 c.2/\q98 (S.len l) c.1 x.1))) (∃(m:O),x.2=m/\qO l m) (∀(e:O),qO l e->eN (aXb (length e)) (y9 e/\(∃(g:O),S.comb e=g/\qO l g/\S.len g<S.len e)) ((0:Int)<=0/\(0:Int)<length e) (toNat 0<length e) (ap2 e 0=S.root l))):=by
 refine au ?_;have I:=j.2;refine V.dI (λq=>?_) λr=>?_;apply la;exact Nat.zero_le _;exact Ud q;apply la;refine⟨(0,([])),?_⟩;grind[avd];intro X i;refine V.dI (λs=>?_) λF=>?_;apply cj8;iterate 2 omega
 have:=ZE i;simp;omega;refine⟨(0,X.1,X.2++[getD l (toNat (X.1:Int)) []],X.1),?_⟩;try dsimp only
 apply cj2;omega;with_reducible rfl
 exact aGx i s;omega;intro c h;apply cj4;iterate 2 omega
 intro H;try simp at H
 apply aZn;exact ao2 (Nx h) H j;iterate 2 omega
 refine⟨(c.1+1,c.2.1/2,S.comb c.2.2.1,X.1),?_⟩;try dsimp only
 apply cj6;simp only[show toNat 1=1 by rfl];omega;with_reducible rfl
 exact(Kj (Nx h) H).1;omega;exact(Kj (Nx h) H).2.1;intro n;try simp at n
 apply cj3;iterate 2 omega
 refine⟨((X.1+1),(c.2.2.1)),?_⟩;try dsimp only
 apply cj2;omega;with_reducible rfl
 exact aoX (Nx h) n;simp only[af,S.len];omega;apply la;refine⟨(X.2),?_⟩;apply la;rfl;exact aGy i F r;intro t k;apply la;intro o;simp at o;apply la;have:=ao1 k;exact⟨w!,w!⟩;refine⟨(S.comb t),?_⟩;apply cj1;rfl;exact(Uc k o).1;exact(Uc k o).2;grind[df,ao0]
def aJE(l:O)(h:S.small l):cV (eN (Bool.not (cP l)) ([]=kI l/\1=yk l) (eW l) (S.root l=kI l) (0=yk l)):=by
 refine au ?_;have i:l.length<=1099511627776:=h;grind[nt,kI,yk,eW,nf]
def aJI(n:Int):q85 (a1T n 2 1099511627776) (0=S.split n) (∃(a:Nat×Int),1=a.2/\jy n a.2 a.1) (∀(x:Nat×Int),jy n x.2 x.1->mC (2*x.2)/\q76 (decide (2*x.2<n)) (mC (x.2*2)/\(∃(X:Nat×Int),x.2*2=X.2/\jy n X.2 X.1/\aLW (n-X.2) (n-x.2))) (x.2=S.split n)):=by
 refine au ?_;apply la;grind[ZD];intro H;simp at H;apply la;refine⟨(0,1),?_⟩;grind[Mf];intro X h;apply cj2
 iterate 2
  (have:=kh h;omega)
 intro c;simp at c;apply cj3
 (have:=kh h;omega)
 omega;refine⟨(X.1+1,2*X.2),?_⟩;grind[kh,CR];grind[df,kh,Fj]
def aJJ(l:O)(i:Int)(e:eX l):cV (q85 (q81 (Bool.not (cP l)) (Rl i 0 (mB l))) ([]=oz l i/\1=tF l i) (∃(c:O×Int×O),(l=c.1/\i=c.2.1/\[]=c.2.2)/\gD l i c) (∀(x:O×Int×O),gD l i x->eN (aXb (mB x.1)) (cV (Rk (decide (x.2.1<A6 x)) (aRM (A6 x) (mB x.1) (eW (aL5 x)/\aMG (length x.2.2+length [S.root (aL5 x)])/\aRM (A6 x) (mB x.1) (∃(X:O×Int×O),(abi x=X.1/\x.2.1=X.2.1/\x.2.2++[S.root (aL5 x)]=X.2.2)/\gD l i X/\S.len X.1<S.len x.1))) (0<=A6 x/\A6 x<=mB x.1) (eW (abi x)) (aMG (length x.2.2+length [S.root (abi x)])) (aRM (A6 x) (mB x.1) (mC (x.2.1-A6 x)/\(∃(a:O×Int×O),(aL5 x=a.1/\x.2.1-A6 x=a.2.1/\x.2.2++[S.root (abi x)]=a.2.2)/\gD l i a/\S.len a.1<S.len x.1))))) (S.small x.2.2) (Qq x.2.2=oz l i) (0=tF l i))):=by
 refine au ?_;have I:l.length<=1099511627776:=e;apply cj1;trivial;intro f;grind[aGL];intro g;apply la;refine⟨((l),((i),([]))),?_⟩;grind[aly];intro X H;apply la
 . intro h;try simp only[dt] at h
   apply cj1;trivial
   . intro j;with_reducible and_intros
     iterate 2
      (have q:=I1 I H h;omega)
     iterate 2
      (have q:=I1 I H h;grind)
     iterate 2
      (have q:=I1 I H h;omega)
     refine⟨((take (toNat (S.split (↑(length (X.1)):Int))) (X.1)),((X.2.1),(X.2.2++[S.root (drop (toNat (S.split (↑(length (X.1)):Int))) (X.1))]))),?_⟩;try dsimp only
     apply SU;iterate 3 rfl
     grind[aGM]
     (have q:=I1 I H h;omega)
   intro d;try simp only[df] at d
   with_reducible and_intros
   iterate 2
    (have q:=I1 I H h;omega)
   (have q:=I1 I H h;grind)
   (have q:=I1 I H h;exact q.2.2.2.1 _)
   iterate 4
    (have q:=I1 I H h;omega)
   refine⟨((drop (toNat (S.split (↑(length (X.1)):Int))) (X.1)),((X.2.1-S.split (↑(length (X.1)):Int)),(X.2.2++[S.root (take (toNat (S.split (↑(length (X.1)):Int))) (X.1))]))),?_⟩;try dsimp only
   apply SU;iterate 3 with_reducible rfl
   exact aGN I H h d
   (have q:=I1 I H h;omega)
 grind[df,aGO,avQ]
def a9i(l:O)(h:S.small l):S.small l/\kI l=kI l:=by
 grind
def a9j(m:Nat)(l:O)(n:Int)(p:Bool)(d:S.len l<m+1)(h:aUU l n)(H:Vg.jE J.aN6 (l,n,p)):aVq (decide (n=mB l)) (q85 (Bool.not p) ([]=ajH l n p) (S.small l) ([kI l]=ajH l n p)) (Rk (decide (n<=aVt l)) (aRM (aVt l) (mB l) ((S.len (aX7 l)<m/\aUU (aX7 l) n)/\aRM (aVt l) (mB l) (S.small (aXl l)/\aZf (ajH (aX7 l) n p) [kI (aXl l)]/\ajH (aX7 l) n p++[kI (aXl l)]=ajH l n p))) (0<=aVt l/\aVt l<=mB l) (mC (n-aVt l)) (S.len (aXl l)<m/\aUU (aXl l) (n-aVt l)) (aRM (aVt l) (mB l) (S.small (aX7 l)/\aZf (ajH (aXl l) (n-aVt l) true) [kI (aX7 l)]/\ajH (aXl l) (n-aVt l) true++[kI (aX7 l)]=ajH l n p))):=by
 refine au ?_;clear H;have u:l.length<=1099511627776:=h.1.2;have e:=h.1.1;refine V.dI (λf=>?_) λg=>?_;apply la;grind[nt,aWu];intro a;try simp only[nf] at a
 apply la;exact u;grind[aWu,kI];apply cj1;trivial
 . intro i;with_reducible and_intros
   iterate 3
    (have q:=aVP h w!;omega)
   simp_all[aVP]
   iterate 2
    (have q:=aVP h w!;omega)
   (have q:=aVP h w!;grind)
   (have q:=aVP h w!;exact q.2.2.1 _ _)
   (have q:=aVP h w!;grind)
 intro c;try simp only[df] at c
 with_reducible and_intros
 iterate 2
  (have q:=aVP h w!;omega)
 omega;simp_all[aVP]
 (have q:=aVP h w!;omega)
 simp_all[aVP]
 iterate 2
  (have q:=aVP h w!;omega)
 (have q:=aVP h w!;grind)
 (have q:=aVP h w!;simp_all)
 (have q:=aVP h w!;grind)
def a9k(l:O)(m:Int)(h:eX l):S.small l/\q76 (q81 (anP (yk l)) (a1T m 0 (mB l))) ([]=ajK l m/\1=aUY l m) (eN (alU m) ([]=ajK l m/\0=aUY l m) (aUU l m) (ajH l m false=ajK l m) (0=aUY l m)):=by
 refine au ?_;have i:l.length<=1099511627776:=h;apply cj1;exact i;grind[a8O];simp_all[V.qF,nf,dt,df,a6H]
def aJK(l:U)(d:Vg.jE J.aq6 l):(∃(X:Nat),((0:Int)=X/\-1=cD l X)/\mu l X)/\(∀(x:Nat),mu l x->q76 (decide (x<fK l)) (aWr 0 x (fK l) (q81 (decide (aVC l x<=cD l x)) (decide (1000<=aVC l x))) (false=aV l) 1 (∃(a:Nat),aPz x a (aVC l x=cD l a) (mu l a) (S.len l))) (true=aV l)):=by
 refine au ?_;have B:Vg.hlen l:=d.1.1;apply la;grind[vZ,avh];intro X e;apply la;intro h;simp only[dt] at h;apply cj2;iterate 2 omega
 intro H;simp at H;exact akU h H;intro c;simp only[V.qF,df,tn] at c;apply cj3;iterate 2 omega
 refine⟨(X+nat_lit 1),?_⟩;dsimp only;apply cj2;omega;rw[lT,tn];exact S.Ū e h c;simp[af,S.len];omega;grind[df,akV]
def aJL(l:U)(c:Vg.jE J.aq6 l):cV (eN (aQ8 l) (1=qP l/\[]=jH l) (bY aUQ) (∃(a:Nat),((0:Int)=a/\-1=cD l a/\mq aUQ (length l)=b6 l a)/\a<=length l) (∀(x:Nat),x<=length l->q85 (decide ((x:Int)<length l)) (jz 0 x (length l)/\mC (aVC l x-cD l x)/\mC (aVC l x-cD l x-1)/\bY aUQ/\aYE (b6 l x) (mq aUQ (aVC l x-cD l x-1))/\mC (x+1)/\(∃(X:Nat),aPz x X (aVC l x=cD l X/\b6 l x++mq aUQ (aVC l x-cD l x-1)=b6 l X) (X<=length l) (S.len l))) (0=qP l) (b6 l x=jH l))):=by
 refine au ?_;have B:Vg.hlen l:=c.1.1;clear c;apply cj1;trivial;grind[nt,qP,jH];intro h;try simp only[nf] at h
 apply cj1;grind;grind[vZ,mz,Uf,Kl];intro X d;apply la
 . intro H;try simp only[dt] at H
   with_reducible and_intros
   iterate 2 omega
   iterate 4
    have:=Ee h H;omega
   exact S! _;have:=(ym h H (getD l (toNat (X:Int)) 0-cD l X-1)).1;omega;iterate 2 omega
   refine⟨(X+1),?_⟩;try dsimp only
   apply SU;omega;rw[lT,tn];exact P4 h H;omega;simp only[af,S.len];omega
 grind[df,qP,akW]
def aJM(l:U):cV (eN (anP (qP l)) ([]=vY l/\qP l=qP l) (az (jH l)) (l7 2 (jH l)=vY l) (0=qP l)):=by
 refine au ?_;apply cj1;trivial;grind[nt,df,aV,absurd,qP,vY];intro H;simp at H;apply cj1
 have h:aV l=true:=by
  grind[aV,qP,absurd]
 have a:=Ax h;simp[jH,vY,h,Q?,az];omega
 have h:aV l=true:=by
  grind[aV,qP,absurd]
 simp_all[Ax,jH,vY,Q?,az]
 omega
def aJN(n:Int)(p q:Bool)(s S:Int):qh s n (decide (n<S))=yl n s S/\s=s/\S=S:=by
 refine au ?_;grind[yl]
def aw1(a b:U)(s c:Int)(f:b.length=0):aYF (∃(e:U×U),((bif aQ8 a then([]:U) else a)=e.1/\(bif aQ8 b then([]:U) else b)=sF/\[]=e.2/\s=s/\c=c)/\nv a s c e.1 e.2) (∀(x:U×U),nv a s c x.1 x.2->eN (q81 (aRO (fK x.1)) (decide (0<aZe))) (anS (aRO (fK x.1)) (Jw (alU aZe) 0 (fK x.1) aZe)/\anS (aRO aZe) (Jw (alU (fK x.1)) 0 aZe (fK x.1))/\anS (jg x) (gW 0 (fK x.1) 1)/\anS (AT x) (gW 0 aZe 1)/\UT (yl (K1 x) s c) (aYG x.2 [K1 x]/\(∃(X:U×U),(aVz (jg x) 1 x.1=X.1/\aVz (AT x) 1 sF=sF/\x.2++[K1 x]=X.2/\s=s/\c=c)/\nv a s c X.1 X.2/\S.len X.1<S.len x.1)) (∃(d:U×U),(aVz (jg x) 1 x.1=d.1/\aVz (AT x) 1 sF=sF/\x.2=d.2/\s=s/\c=c)/\nv a s c d.1 d.2/\S.len d.1<S.len x.1)) (s=s) (c=c) (x.2=P2 a s c)):=by
 refine au ?_;have g:b=[]:=List.eq_nil_of_length_eq_zero f;subst g;refine⟨trivial,trivial,?_,?_⟩;refine⟨(tA a,[]),⟨?_,?_,rfl,rfl,rfl⟩,avi a s c⟩;grind[tA,aV];rfl;rintro⟨r,o⟩ h;have i:=h.2;cases r with
 |nil=>grind[sF,akY]
 |cons n r=>
  simp[sF];refine⟨w!,λH=>⟨?_,?_⟩,λH=>?_⟩;grind;exact⟨r,o++[n],⟨rfl,rfl⟩,akX h H,by simp[S.len]⟩;exact⟨r,o,⟨rfl,rfl⟩,ao4 h H,by simp[S.len]⟩
def aw2(l:U)(s S:Int):length (Vg.pV Int)=0/\P2 l s S=P2 l s S:=by
 grind
def aw5(a b:U)(e:Vg.jE J.aN9 (a,b)):q85 (q72 (fK a) (fK b)) (false=lG a b) (∃(c:Nat),(0:Int)=c/\xr a b c) (∀(x:Nat),xr a b x->q76 (decide (x<fK a)) (jz 0 x (fK a)/\aWr 0 x (fK b) (q72 (getD a (toNat x) 0) (getD b (toNat x) 0)) (false=lG a b) 1 (∃(X:Nat),aVk x X (xr a b X) (S.len a))) (true=lG a b)):=by
 refine au ?_;have A:Vg.hlen a:=e.1.1;apply la;grind[nt,df,ak0];intro f;simp at f;apply la;grind[avj];intro X g;apply la;intro h;simp only[dt] at h;apply cj7;iterate 4 omega
 intro H;simp at H;exact akZ H;intro d;simp at d;apply cj3;iterate 2 omega
 refine⟨(X+nat_lit 1),?_⟩;dsimp only;apply cj1;omega;exact S.ū g h d;simp[af,S.len];omega;grind[df,ak1]
def aw6(d:M (B8×U))(c:aW d):(∃(X:Nat),(0:Int)=X/\Mg d X)/\(∀(x:Nat),mZ (Mg d x) (decide (x<gg d)) 0 x (gg d) (anS (aRO x) (mC (x-1)/\jz 0 (x-1) (gg d))) (anG (fU (aRO x) (a3k (Bz d x).1 (Bz d (x-1)).1)) (false=aK d) (aV4 (alU (fK (Bz d x).2)) (cV (aV4 (aQ8 (Bz d x).2) (S.small (Bz d x).1)))) (q81 (alU (fK (Bz d x).2)) (aPv (aQ8 (Bz d x).2) (S.isTerm (Bz d x).1))) (mC (x+1)) (∃(f:Nat),aVk x f (Mg d f) (S.len d))) (true=aK d)):=by
 refine au ?_;have I:=c.1;apply la;grind[aM8];intro X i;apply la
 . intro a;simp only[dt] at a;apply cj7;iterate 2 omega
   iterate 2 grind
   intro g;simp only[V.aEl,dt] at g;refine aeS a ((P5 _ _).2 (.inl ⟨w!,?_⟩));have e:toNat ((X:Int)-1)=X-1:=by omega
   have H:=g.2;rw[e] at H;exact H;intro h;simp only[V.V3,df] at h;apply cj2;grind;intro j;apply cj1;trivial;grind;intro l;exact ak2 c;intro k;simp only[V.Nb,dt,tn,nt] at k;exact aeS a ((P5 _ _).2 (.inr (k.imp (λq=>by grind[iD]) id)));intro o;simp at o;apply cj3;iterate 2 omega
   refine⟨(X+nat_lit 1),?_⟩;dsimp only;apply cj1;omega
   . refine ao5 i a ((qR _ _).2 ⟨?_,?_,o.2.1,o.2.2⟩);rotate_left;grind[iD];rcases h with h|h;omega;right;have e:toNat ((X:Int)-1)=X-1:=by omega
     rw[e] at h;exact h
   grind[af,S.len]
 grind[df,avk]
def aw7(l L a:B8):Rk (arQ 64 (q99 l) (arQ 64 (q99 L) (q72 (length a) 32))) ([]=dw l L a/\1=kJ l L a) (oR aUQ l) (oR ([]++S.text l) L) (a04 ([]++S.text l++S.text L) (length a)) ([]++S.text l++S.text L++a=dw l L a/\0=kJ l L a):=by
 refine au ?_;apply la;simp_all[V.Nb,dt,nt,df,S.ű,dw,kJ]
 intro h;simp only[V.qF,df,nf,dt] at h;apply aZ4;exact Mi (Nat.zero_le _) w!;have t:=zd (s:=l);exact Mi (by rw[List.nil_append];omega) w!;grind[CX,ta,zd,List.length_append,ln];have H:=CX h;simp only[dw,H,if_true];rfl;simp_all[CX,ta,zd,kJ,if_true]
def aw8(b:B8)(H:b.length<=140737488355328):wK b/\wK (ao b 0 0 64).1.1/\wK (aZV b).1.1/\UT (anP (S.done (aX8 b).1.1 (aX8 b).1.2.1 (aX8 b).1.2.2)) ([]=(bg b).1.1/\[]=(bg b).1.2.1/\[]=(bg b).1.2.2/\S.done (aX8 b).1.1 (aX8 b).1.2.1 (aX8 b).1.2.2=(bg b).2) ((ao b 0 0 64).2=(bg b).1.1/\(aZV b).2=(bg b).1.2.1/\(aX8 b).2=(bg b).1.2.2/\0=(bg b).2):=by
 refine au ?_;refine⟨H,?_,?_,trivial,λh=>?_,λh=>?_⟩;grind[CV];grind[CV];have a:(!decide (S.done (v7 b).1.1 (v7 b).1.2.1 (v7 b).1.2.2=0))=true:=h
 have e:bg b=(([],[],[]),S.done (v7 b).1.1 (v7 b).1.2.1 (v7 b).1.2.2):=by
  simp_all[bg,R!,L?]
 rw[e];exact⟨rfl,rfl,rfl,rfl⟩;have a:(!decide (S.done (v7 b).1.1 (v7 b).1.2.1 (v7 b).1.2.2=0))=false:=h
 have e:bg b=(((S.Ŭ b).2,(Wn b).2,(v7 b).2),0):=by
  grind[bg]
 rw[e];exact⟨rfl,rfl,rfl,rfl⟩
def aw9(d:M (B8×U))(H:aW d):aW d/\eN (Bool.not (aK d)) (1=dE d/\[]=bn d) (mC (aVE d+1)) (∃(a:Nat),((0:Int)=a/\[]=eM d a)/\a<=aVE d+1) (∀(x:Nat),x<=aVE d+1->q85 (decide ((x:Int)<aVE d+1)) (anS (aRO x) (mC (x-1)/\jz 0 (x-1) (aVE d)/\mC (x-1)/\jz 0 (x-1) (aVE d))/\anS (decide ((x:Int)<aVE d)) (jz 0 x (aVE d))/\aYF (aHz (length (eM d x)+length (a2u d x))) (aVg x (∃(X:Nat),aPz x X (eM d x++a2u d x=eM d X) (X<=aVE d+1) (S.len d+1)))) (0=dE d) (eM d x=bn d)):=by
 refine au ?_;have i:=H.1;apply cj1;omega;grind[nt,dE,bn];intro h;simp at h;apply cj2;iterate 2 omega
 refine⟨(nat_lit 0:Nat),?_⟩;dsimp only;apply cj3;omega;rfl;omega;intro X f;refine V.dI (λg=>?_) λF=>?_
 . with_reducible and_intros
   . intro c;simp at c;with_reducible and_intros
     iterate 8 omega
   intro j;trivial;intro e;try simp at e
   apply la;omega;omega;intro k;trivial;iterate 2 trivial
   rw[Gq];simp;omega;iterate 2 omega
   refine⟨(X+nat_lit 1),?_⟩;try dsimp only
   apply cj2;omega;rw[avn h w!,Mh];omega;simp[af,S.len];omega
 apply la;simp only[dE,h];rfl;simp[bn,h,Q?];rw[show X=d.length+1 by omega];rfl
def axa(d:M (B8×U))(c:aW d):aW d/\Rk (anP (dE d)) ([]=pG d/\dE d=dE d) (dj (bn d)) (S.small (S.leaves (bn d))) (kI (S.leaves (bn d))=pG d) (yk (S.leaves (bn d))=dE d):=by
 refine au ?_;apply cj1;omega;grind[nt,df,pG,aM9];intro a;simp at a;apply cj4;have h:=IM a;have H:=kK c h;simp_all[bn,dW,if_true]
 have h:=IM a;have H:=kK c h;have e:bn d=dW d:=by simp_all[bn,Q?]
 rw[e];exact H.2.2;have h:=IM a;have H:=kK c h;have e:bn d=dW d:=by simp_all[bn,Q?]
 rw[e];simp[pG,kI,h,H.2.1,Q?];rfl;have h:=IM a;have H:=kK c h;have e:bn d=dW d:=by simp_all[bn,Q?]
 rw[e];simp[dE,yk,h,H.2.1,Q?]
def axb(d:M (B8×U))(t:B8)(c:aW d):aW d/\q85 (Bool.not (aK d)) (-1=bo d t/\false=fE d t) (∃(a:Nat),((0:Int)=a/\-1=dB d t a)/\a<=length d) (∀(x:Nat),x<=length d->eN (decide ((x:Int)<length d)) (jz 0 x (length d)/\mC (x+1)/\(∃(X:Nat),aPz x X ((bif a3k (Bz d x).1 t then(x:Int) else dB d t x)=dB d t X) (X<=length d) (S.len d))) (anS (decide (0<=dB d t x)) (jz 0 (dB d t x) (length d))) ((bif decide (0<=dB d t x) then dB d t x else dB d t x)=bo d t) (aWT (decide (0<=dB d t x)) (Bz d (dB d t x)).1 t=fE d t)):=by
 refine au ?_;have i:=c.1;apply cj1;omega;intro h;simp at h;apply la;exact(Ui h).1;exact(Ui h).2;intro H;simp at H;apply la;refine⟨(nat_lit 0:Nat),?_⟩;dsimp only;apply cj3;omega;rfl;omega;intro X f;refine V.dI (λg=>?_) λj=>?_;apply cj6;iterate 4 omega
 refine⟨(X+nat_lit 1),?_⟩;dsimp only;apply cj2;omega;exact avo d t X;omega;simp[af,S.len];omega;apply cj2;intro e;simp at e;apply la;omega;have:=(IL (d:=d) (t:=t) X).2;omega;intro k;trivial;rw[show X=d.length by omega,ao6 H];cases decide (0<=bo d t)<;>rfl;rw[show X=d.length by omega];exact ao7 H
def axc(d:M (B8×U))(t:B8)(h:aW d):aW d/\eN (Bool.not (fE d t)) ([]=dN d t) (jz 0 (bo d t) (gg d)) (S.small (Bz d (bo d t)).2) ((Bz d (bo d t)).2=dN d t):=by
 refine au ?_;grind[nt,aeU,nf,Ef,avt]
def axk(s S:Int):qh 0 s (fU (decide (s<S)) (decide (S<=1000)))=me s S:=by
 refine au ?_;grind[me,vV]
def axl(a c:Int)(s:M (B8×U))(k:aW s)(g:Vg.jE J.are (a,c,s)):aST (aV4 (Bool.not (me a c)) (aW s)) (q85 (aPv (Bool.not (me a c)) (aK s)) (false=eS a c s) (∃(X:Nat),(0:Int)=X/\xv a c s X) (∀(x:Nat),xv a c s x->q76 (decide (x<gg s)) (jz 0 x (gg s)/\cV (aVp (q72 (fK (P2 (Bz s x).2 a c)) (fK (Bz s x).2)) (false=eS a c s) x 1 (∃(d:Nat),aVk x d (xv a c s d) (S.len s)))) (true=eS a c s))):=by
 refine au ?_;have A:Vg.hlen s:=g.2.2.1.1;apply cj9;trivial;iterate 2 grind
 intro H;simp at H;exact avq H;intro l;apply la;grind[aGA];intro i j;apply la;intro h;simp only[dt] at h;apply cj8;iterate 2 omega
 trivial;intro e;simp at e;exact apc h (e? e);intro f;simp at f;apply cj3;iterate 2 omega
 refine⟨(i+nat_lit 1),?_⟩;dsimp only;apply cj1;omega;exact ak8 j h (decide_eq_true f);simp[af,S.len];omega;grind[df,apd]
def axm(a c:Int)(s:M (B8×U))(h:aW s):aW s/\anG (Bool.not (eS a c s)) (0=(tB a c s).1.1/\0=(tB a c s).1.2.1/\0=(tB a c s).1.2.2.1/\[]=(tB a c s).1.2.2.2/\1=(tB a c s).2) (aW s) (anP (dE s)) (mC (gg s+1)) (a=(tB a c s).1.1/\c=(tB a c s).1.2.1/\gg s+1=(tB a c s).1.2.2.1/\pG s=(tB a c s).1.2.2.2/\0=(tB a c s).2):=by
 refine au ?_;have i:=h.1;apply cj1;omega;grind[nt,S.ų];intro H;apply cj1;omega;grind[nt,df,Mm];grind[Mm]
def axn(S a s:Int)(c:B8):cV (fU (me S a) (qh 1 s (qh s 1099511627776 (decide (q99 c=32))))=ow S a s c):=by
 refine au ?_;grind[ow,vV]
def axo(d:O)(s S:Int):UT (anP (lH d s S).2) (q32 (dp d s S) 0 0 [] (lH d s S).2) (q76 (decide (s=S)) (q32 (dp d s S) 0 0 [] 1) (q32 (dp d s S) s S (lH d s S).1 0)):=by
 refine au ?_;simp_all[nt,df,ape,nf,dt,apg,aph]
def axp(l:M (Int×Int×Int×B8))(n:Int):q85 (decide ((64:Int)<length l)) (false=rE l n) (∃(a:Nat),((0:Int)=a/\0=S.rowAt l a)/\S.yU l a) (∀(x:Nat),mZ (S.yU l x) (decide ((x:Int)<length l)) 0 x (length l) (aVe (Bool.not (Bool.rec false (Bool.rec false (decide ((aa7 l x).2.2.2=(aa7 l x).2.2.2)) (decide ((aa7 l x).2.2.1=(aa7 l x).2.2.1))) (Bool.rec false (decide ((aa7 l x).2.1=(aa7 l x).2.1)) (decide ((aa7 l x).1=S.rowAt l x)))))) (aVp (aPv (Bool.not (Bool.rec false (Bool.rec false (decide ((aa7 l x).2.2.2=(aa7 l x).2.2.2)) (decide ((aa7 l x).2.2.1=(aa7 l x).2.2.1))) (Bool.rec false (decide ((aa7 l x).2.1=(aa7 l x).2.1)) (decide ((aa7 l x).1=S.rowAt l x))))) (ow (aa7 l x).1 (aa7 l x).2.1 (aa7 l x).2.2.1 (aa7 l x).2.2.2)) (false=rE l n) x 1 (∃(X:Nat),aPz x X ((aa7 l x).2.1=S.rowAt l X) (S.yU l X) (S.len l))) (decide (S.rowAt l x=n)=rE l n)):=by
 refine au ?_;refine V.dI (λc=>?_) λf=>?_;exact api c;apply la;grind[Qc,avr];intro X H;apply la;intro h;simp only[dt] at h;apply cj7;iterate 2 omega
 intro g;trivial;intro i;trivial;intro d;refine alb H h (ZL ?_);simpa[Qb,sg] using d;intro e;apply cj3;iterate 2 omega
 refine⟨(X+nat_lit 1),?_⟩;dsimp only;apply cj2;omega;exact(ZK l X).symm;refine S.Ŵ H h (S.ŵ ?_);simpa[Qb,sg] using e;simp[af,S.len];omega;grind[df,alc]
def a7a(l:M (Int×Int×M (B8×U)))(c:aVy l)(C:Vg.jE J.aOa l):Ju 0 (Rv l) aU6/\(∃(m:Nat),([]=aPu l m/\replicate (toNat (Rv l)) 0=mA l m)/\m<=uL l)/\(∀(a:Nat),a<=uL l->(∃(d:Nat×Nat),((0:Int)=d.1/\-1=aSh l (mA l d.2) d.1)/\(d.1<=Rv l/\d.2<=uL l)/\mA l a=mA l d.2)/\(∀(X:Nat×Nat),(X.1<=Rv l/\X.2<=uL l)/\mA l a=mA l X.2->q76 (decide ((X.1:Int)<Rv l)) (jz 0 X.1 (Rv l)/\jz 0 X.1 (yv l a)/\toNat X.1<yv l a/\eN (decide (aTR (mA l a) (toNat X.1)=gg (getD l (toNat X.1) (0,0,[])).2.2)) (mC (X.1+1)/\(∃(n:Nat×Nat),aUT (X.1+1) n.1 (Xj l X=aSh l (mA l n.2) n.1) ((n.1<=Rv l/\n.2<=uL l)/\mA l a=mA l n.2) (S.len l) (af (S.len l) X.1))) (eN (decide (Xj l X<0)) True (jz 0 X.1 (yv l a)) (toNat X.1<yv l a) (aSi (aTR (mA l a) (toNat X.1)) (gg (getD l (toNat X.1) (0,0,[])).2.2) (aSi (Xj l X) (Rv l) (jz 0 (Xj l X) (yv l a)/\toNat (Xj l X)<yv l a/\jz 0 (aTR (mA l a) (toNat (Xj l X))) (gg (sf l X)))))) (mC (X.1+1)) (∃(o:Nat×Nat),aUT (X.1+1) o.1 ((bif q81 (decide (Xj l X<0)) (Op.bytesLess (Bz (getD l (toNat X.1) (0,0,[])).2.2 (aTR (mA l a) (toNat X.1))).1 (Bz (sf l X) (aTR (mA l a) (toNat (Xj l X)))).1) then(X.1:Int) else Xj l X)=aSh l (mA l o.2) o.1) ((o.1<=Rv l/\o.2<=uL l)/\mA l a=mA l o.2) (S.len l) (af (S.len l) X.1))) (q85 (decide (Xj l X<0)) (aPu l a=Wt l) (jz 0 (Xj l X) (Rv l)) (jz 0 (Xj l X) (yv l a)/\toNat (Xj l X)<yv l a/\jz 0 (aTR (mA l a) (toNat (Xj l X))) (gg (sf l X))/\(∃(g:Nat×Nat),((0:Int)=g.1/\mA l a=ajF l g.2 g.1/\(Bz (sf l X) (aTR (mA l a) (toNat (Xj l X)))).1=uAt l g.2/\[]=aQY l (uAt l g.2) g.1)/\(g.1<=Rv l/\g.2<uL l)/\aPu l a=aPu l g.2)/\(∀(x:Nat×Nat),(x.1<=Rv l/\x.2<uL l)/\aPu l a=aPu l x.2->q85 (decide ((x.1:Int)<Rv l)) (aSi x.1 (Rv l) (dz 0 x.1 (length (KT l x)) (aar x) (anS (decide (Xk l x<gg (Dr l x))) (dz 0 x.1 (length (KT l x)) (aar x) (jz 0 (Xk l x) (gg (Dr l x))))/\q85 (aWT (decide (Xk l x<gg (Dr l x))) (Bz (Dr l x) (Xk l x)).1 (uAt l x.2)) (dz 0 x.1 (length (KT l x)) (aar x) (jz 0 (Xk l x) (gg (Dr l x))/\aYG (KU l x) (Bz (Dr l x) (Xk l x)).2/\dz 0 x.1 (length (KT l x)) (aar x) (mC (Xk l x+1)/\dz 0 x.1 (length (KT l x)) (aar x) (mC (x.1+1)/\(∃(i:Nat×Nat),aUT (x.1+1) i.1 (List.set (KT l x) (aar x) (Xk l x+1)=ajF l i.2 i.1/\uAt l x.2=uAt l i.2/\KU l x++(Bz (Dr l x) (Xk l x)).2=aQY l (uAt l i.2) i.1) ((i.1<=Rv l/\i.2<uL l)/\aPu l a=aPu l i.2) (S.len l) (af (S.len l) x.1)))))) (mC (x.1+1)) (∃(j:Nat×Nat),aUT (x.1+1) j.1 (KT l x=ajF l j.2 j.1/\uAt l x.2=uAt l j.2/\KU l x=aQY l (uAt l j.2) j.1) ((j.1<=Rv l/\j.2<uL l)/\aPu l a=aPu l j.2) (S.len l) (af (S.len l) x.1))))) (aZh (length (aPu l a)) (length [(uAt l x.2,KU l x)])) (∃(v:Nat),(aPu l a++[(uAt l x.2,KU l x)]=aPu l v/\KT l x=mA l v)/\v<=uL l/\q98 (uL l) v a)))))):=by
 refine au ?_;have b:Vg.hlen l:=C.1.1;apply SU;iterate 2 omega
 have:=c.1;omega;refine⟨0,?_⟩;apply cj3;rfl;exact a6z l;omega;intro m t;apply la;refine⟨(0,m),?_⟩;apply cj6;omega;rfl;iterate 2 omega
 rfl;intro d h;refine V.dI (λD=>?_) λF=>?_
 . with_reducible and_intros
   iterate 3 omega
   iterate 2
    rw[aTS];omega
   . intro A;try simp only[dt,tn] at A
     apply cj3;iterate 2 omega
     refine⟨(d.1+1,d.2),?_⟩;try dsimp only
     with_reducible and_intros
     omega;rw[<-h.2];exact a4Z A;iterate 2 omega
     exact h.2;simp only[af,S.len];omega
   intro w;try simp only[df,tn] at w
   apply cj6;intro E;try simp only[dt] at E
   trivial
   . intro H;try simp only[df] at H
     with_reducible and_intros
     omega
     iterate 2
      rw[aTS];omega
     exact a4Y l _ _;exact bac D w;omega;rw[<-h.2] at H |-;first|exact(aSM h.1.1 H).1|exact(aSM h.1.1 H).2.1|exact(aSM h.1.1 H).2.2.1|exact(aSM h.1.1 H).2.2.2
     omega
     iterate 2
      rw[<-h.2] at H |-;first|exact(aSM h.1.1 H).1|exact(aSM h.1.1 H).2.1|exact(aSM h.1.1 H).2.2.1|exact(aSM h.1.1 H).2.2.2
     exact a4Y l _ _;rw[<-h.2] at H |-;first|exact(aSM h.1.1 H).1|exact(aSM h.1.1 H).2.1|exact(aSM h.1.1 H).2.2.1|exact(aSM h.1.1 H).2.2.2
   iterate 2 omega
   refine⟨(d.1+1,d.2),?_⟩;try dsimp only
   with_reducible and_intros
   omega;rw[<-h.2];exact a42 w;iterate 2 omega
   exact h.2;simp only[af,S.len];omega
 refine V.dI (λI=>?_) λK=>?_;rw[<-h.2] at I;exact a8H c h.1.1 F I;with_reducible and_intros
 omega;first|exact(aSM h.1.1 K).1|exact(aSM h.1.1 K).2.1|exact(aSM h.1.1 K).2.2.1|exact(aSM h.1.1 K).2.2.2
 omega
 iterate 2
  rw[<-h.2] at K |-;first|exact(aSM h.1.1 K).1|exact(aSM h.1.1 K).2.1|exact(aSM h.1.1 K).2.2.1|exact(aSM h.1.1 K).2.2.2
 exact a4Y l _ _;rw[<-h.2] at K |-;first|exact(aSM h.1.1 K).1|exact(aSM h.1.1 K).2.1|exact(aSM h.1.1 K).2.2.1|exact(aSM h.1.1 K).2.2.2
 . refine⟨(0,m),?_⟩;with_reducible and_intros
   omega;exact a8G l m;rw[<-h.2] at K |-;exact(a2R c h.1.1 F K).2;rfl;omega;rw[<-h.2] at K;exact(a2R c h.1.1 F K).1;rfl
 intro f r;refine V.dI (λG=>?_) λu=>?_
 . with_reducible and_intros
   iterate 3 omega
   exact(aWg G).1;exact(aWg G).2;intro B;try simp only[dt,tn] at B
   apply cj8;omega;exact(aWg G).1;exact(aWg G).2;exact(a43 G).1;exact B;intro R;try simp only[df,tn] at R
   trivial
   . intro s;try simp only[V.aEl,dt,tn] at s
     with_reducible and_intros
     omega;exact(aWg G).1;exact(aWg G).2;exact(a43 G).1;exact s.1;have q:=a6y c (k:=f.2) G;exact b? (Nat.add_le_add q.1 q.2) (by decide);omega;exact(aWg G).1;exact(aWg G).2;exact(a7P c G).1;exact(a7P c G).2;omega;exact(aWg G).1;exact(aWg G).2;iterate 2 omega
     refine⟨(f.1+1,f.2),?_⟩;try dsimp only
     with_reducible and_intros
     omega;exact(a47 c r.1.2 G s.1 s.2).1;rfl;exact(a47 c r.1.2 G s.1 s.2).2;iterate 2 omega
     exact r.2;simp only[af,S.len];omega
   intro y;try simp only[V.V3,df,tn] at y
   apply cj3;iterate 2 omega
   refine⟨(f.1+1,f.2),?_⟩;try dsimp only
   with_reducible and_intros
   omega;exact(a2S c r.1.2 G (λq=>y.elim (λz=>z q.1) (λz=>z q.2))).1;rfl;exact(a2S c r.1.2 G (λq=>y.elim (λz=>z q.1) (λz=>z q.2))).2;iterate 2 omega
   exact r.2;simp only[af,S.len];omega
 apply la;have:=bae c t;simp;omega;refine⟨(m+1),?_⟩;apply cj2;have e:=a1b r.2 t (Nat.le_of_lt r.1.2);subst e;exact(a48 r.1.1 u r.1.2).1;have e:=a1b r.2 t (Nat.le_of_lt r.1.2);subst e;exact(a48 r.1.1 u r.1.2).2;have e:=a1b r.2 t (Nat.le_of_lt r.1.2);first|omega|(omega)
 have e:=a1b r.2 t (Nat.le_of_lt r.1.2);first|omega|(simp[af];omega)
def a7b(l:M (Int×Int×M (B8×U)))(m:apn l)(n:Vg.jE J.aOa l):q85 (alU (length l)) (q32 (aeY l) 0 0 [] 1) (∃(d:Nat),(0:Int)=d/\aVF l d) (∀(X:Nat),aVF l X->q85 (decide ((X:Int)<length l)) (jz 0 X (length l)/\aW (Xi l X).2.2/\aVp (Bool.not (eS (Xi l X).1 (Xi l X).2.1 (Xi l X).2.2)) (q32 (aeY l) 0 0 [] 1) X 1 (∃(a:Nat),aVk X a (aVF l a) (S.len l))) (∃(e:Nat),(1:Int)=e+1/\aWf l e) (∀(x:Nat),aWf l x->eN (decide ((x:Int)+1<length l)) (jz 0 (x+1) (length l)/\mC (x+1-1)/\aSi (x+1-1) (length l) (q85 (q72 (getD l (toNat (x+1)) (0,0,[])).1 (getD l (toNat (x+1-1)) (0,0,[])).2.1) (q32 (aeY l) 0 0 [] 7) (mC (x+1+1)) (∃(c:Nat),(x:Int)+1+1=c+1/\aWf l c/\q98 (S.len l) c x))) ((0:Int)<=0/\(0:Int)<length l) (mC (length l-1)) (jz 0 (length l-1) (length l)/\aVy l/\q32 (aeY l) (getD l (toNat 0) (0,0,[])).1 (getD l (toNat (length l-1)) (0,0,[])).2.1 (Wt l) 0))):=by
 refine au ?_;have B:Vg.hlen l:=n.1.1;apply la;simp_all[dt,a8I]
 intro q;simp only[df] at q;apply la;grind[a6A];intro a g;refine V.dI (λh=>?_) λs=>?_;apply cj8;iterate 2 omega
 exact m.2 _ (Eh (show a<l.length by omega));intro H;try simp only[nt] at H
 apply cj4;iterate 3 (rw[a5a h H])
 rw[a5a h H];intro j;try simp only[nf] at j
 apply cj3;iterate 2 omega
 refine⟨(a+1),?_⟩;try dsimp only
 apply cj1;omega;exact a6B g h j;simp only[af,S.len];omega;apply la;refine⟨0,?_⟩;apply la;omega;exact a6C g s;intro t f;refine V.dI (λi=>?_) λr=>?_
 . with_reducible and_intros
   iterate 6 omega
   intro k;try simp only[nt,df] at k
   apply cj4;iterate 3 (rw[a5b f i k])
   rw[a5b f i k];intro o;try simp only[nf,dt] at o
   apply cj3;iterate 2 omega
   refine⟨(t+1),?_⟩;try dsimp only
   apply cj1;omega;exact a6D f i o;simp only[af,S.len];omega
 with_reducible and_intros
 iterate 6 omega
 exact a8K f
 iterate 2
  rw[a2e f r];rfl
 rw[a2e f r];grind[a2e]
def a7c(S s:Int)(c:Vg.jE J.aER (S,s)):eN (arQ S 0 (arQ s 0 (decide (s<=S)))) (-1=aGD S s) (mC (s-S)) (∃(a:Nat),(s-S=a/\0=lg (s-S)-lg a)/\aVi S s a) (∀(x:Nat),aVi S s x->q76 (aXb x) (mC (lg (s-S)-lg x+1)/\(0:Int)<=x/\(0:Int)<2/\(∃(X:Nat),((x:Int)/2=X/\lg (s-S)-lg x+1=lg (s-S)-lg X)/\aVi S s X/\X<x)) (lg (s-S)-lg x=aGD S s)):=by
 refine au ?_;have A:Vg.hint s:=c.2.1;apply la;intro H;simp at H;exact a4V H;intro d;simp at d;apply cj2;iterate 2 omega
 refine⟨(toNat (s-S)),?_⟩;grind[a1A,a6w];intro X e;apply la;intro h;simp at h;apply cj8;have q:=a7O (s-S);have Q:=a4W e;have f:=a4U (X:Int) w!;omega
 have g:=a4U (s-S) w!;have i:=a6x (n:=(X:Int)) h;omega
 iterate 2 omega
 refine⟨(toNat ((↑X:Int)/(2:Int))),?_⟩;apply cj2;omega;exact a4X h;grind[a2d];omega;grind[df,a3Y]
def a7d(l:M (Int×Int))(e:Vg.jE J.ë l):mC (length l-2)/\(∃(X:Nat),(length l:Int)-2=S.len l-2-X/\aVd l X)/\(∀(x:Nat),aVd l x->q76 (decide ((0:Int)<=S.len l-2-x)) (jz 0 (S.len l-2-x) (length l)/\cV (mC (S.len l-2-x+1)/\aSi (S.len l-2-x+1) (length l) (cV (q85 (decide (aGD (getD l (toNat (S.len l-2-x)) (0,0)).1 (getD l (toNat (S.len l-2-x)) (0,0)).2<=aGD (getD l (toNat (S.len l-2-x+1)) (0,0)).1 (getD l (toNat (S.len l-2-x+1)) (0,0)).2)) (S.len l-2-x=(AD l).1/\true=(AD l).2) (mC (S.len l-2-x-1)) (∃(a:Nat),(S.len l:Int)-2-x-1=S.len l-2-a/\aVd l a/\q98 (S.len l) a x))))) (0=(AD l).1/\false=(AD l).2)):=by
 refine au ?_;have B:Vg.hlen l:=e.1.1;apply cj2;iterate 2 omega
 grind[af,S.len,n_0];intro X H;apply la
 . intro h;simp only[dt] at h;with_reducible and_intros
   omega;grind[af,S.len];trivial;omega;grind[af,S.len];omega;grind[af,S.len];trivial;intro c;simp only[dt] at c;apply la;rw[a5c H h c];rw[a5c H h c];intro d;simp only[df] at d;apply cj3;omega;grind[af,S.len];refine⟨(X+1),?_⟩;apply cj1;omega;exact baf H h d;grind[af,S.len]
 grind[df,a8L]
def a7e(l:M (Int×Int×M (B8×U)))(c:S.small l)(h:Vg.jE J.aOa l):(∃(X:Nat),((0:Int)=X/\[]=aUO l X)/\X<=length l)/\(∀(x:Nat),mZ (x<=length l) (decide ((x:Int)<length l)) 0 x (length l) (aMG (length (aUO l x)+length [((Ru l x).1,(Ru l x).2.1)])) (mC (x+1)/\(∃(a:Nat),aPz x a (aUO l x++[((Ru l x).1,(Ru l x).2.1)]=aUO l a) (a<=length l) (S.len l))) (aUO l x=fT l)):=by
 refine au ?_;have B:Vg.hlen l:=h.1.1;clear h;apply la;grind[aUO,fT];intro X d;apply la;intro H;try simp only[dt] at H
 apply a05;iterate 2 omega
 have:=a1c l X;simp only[J?,S.small] at *;omega;iterate 2 omega
 refine⟨(X+1),?_⟩;try dsimp only
 apply cj2;omega;exact a1B H;omega;simp only[af,S.len] at *;omega;grind[df,a2f]
def axu(l:B8)(h:S.small l):(l=[]->[]=l)/\aYE aUQ l/\[]++l=l:=by
 refine au ?_;apply cj1;grind;simp[S.small,Vg.pV,ln] at *;omega;rfl
def axv(l:M (B8×U))(h:S.small l):(l=[]->[]=l)/\aZh (length (Vg.pV FC)) (length l)/\[]++l=l:=by
 refine au ?_;apply cj1;grind;simp[S.small,Vg.pV,ln] at *;omega;rfl
def axw(a b:U)(g:Vg.jE J.aN9 (a,b)):q85 (q72 (fK a) (fK b)) (false=Kr a b) (∃(c:Nat),(0:Int)=c/\IY a b c) (∀(x:Nat),IY a b x->q76 (decide (x<fK a)) (jz 0 x (fK a)/\aWr 0 x (fK b) (q72 (getD a (toNat x) 0) (getD b (toNat x) 0)) (false=Kr a b) 1 (∃(X:Nat),aVk x X (IY a b X) (S.len a))) (true=Kr a b)):=by
 refine au ?_;have A:Vg.hlen a:=g.1.1;apply la;intro h;simp at h;exact(decide_eq_false (ZY h)).symm;intro H;simp at H;apply la;refine⟨(nat_lit 0:Nat),?_⟩;dsimp only;apply la;omega;exact apy H;intro X d;refine V.dI (λi=>?_) λj=>?_;apply cj7;iterate 4 omega
 intro e;simp at e;exact(e? (ZZ 0 e)).symm;intro f;simp at f;apply cj3;iterate 2 omega
 refine⟨(X+nat_lit 1),?_⟩;dsimp only;apply cj1;omega;exact Uo 0 d i f;simp[af,S.len,dX,oU] at *;omega;exact(decide_eq_true (ZX d j)).symm
def axx(a:B8)(A:U)(b:B8)(B:U):aVe (decide (a=b))/\fU (decide (a=b)) (Kr A B)=C6 a A b B:=by
 refine au ?_;simp_all[dt,df,C6,Kr,decide]
def axy(a b:M (B8×U))(g:Vg.Row.ok (Vg.TA.du [.dV (.slice [.str,.slice [.int .i64]]),.dV (.slice [.str,.slice [.int .i64]]),.fn (.func 214) [] []]) (a,b)):q85 (q72 (gg a) (gg b)) (false=iZ a b) (∃(c:Nat),(0:Int)=c/\mv a b c) (∀(x:Nat),mv a b x->q76 (decide (x<gg a)) (jz 0 x (gg a)/\aSi x (gg b) (cV (aVp (Bool.not (C6 (getD a (toNat x) ([],[])).1 (getD a (toNat x) ([],[])).2 (getD b (toNat x) ([],[])).1 (getD b (toNat x) ([],[])).2)) (false=iZ a b) x 1 (∃(X:Nat),aVk x X (mv a b X) (S.len a))))) (true=iZ a b)):=by
 refine au ?_;have A:Vg.hlen a:=g.1.1;apply la;intro h;simp at h;exact(decide_eq_false (ZY h)).symm;intro H;simp at H;apply la;refine⟨(nat_lit 0:Nat),?_⟩;dsimp only;apply la;omega;exact apy H;intro X d;refine V.dI (λi=>?_) λj=>?_
 . with_reducible and_intros
   iterate 4 omega
   trivial;intro e;simp at e;exact(e? (ZZ ([],[]) (avx e))).symm;intro f;simp at f;apply cj3;iterate 2 omega
   refine⟨(X+nat_lit 1),?_⟩;dsimp only;apply cj1;omega;exact Uo ([],[]) d i (avw f);simp[af,S.len,dX,oU] at *;omega
 exact(L? (ZX d j)).symm
def axz(a b:M (B8×U)):cV (iZ a b=iZ a b):=by
 refine au ?_;grind
def axA(Y:O)(y:M (Int×Int×M (B8×U))):q85 (arQ 1000 (mB Y) (decide ((64:Int)<length y))) (false=aY Y y) (∃(e:Nat),(0:Int)=e/\Ql Y y e) (∀(X:Nat),Ql Y y X->q85 (decide (X<mB Y)) (aWr 0 X (mB Y) (aZ2 2000 (ap2 Y X)) (false=aY Y y) 1 (∃(a:Nat),aVk X a (Ql Y y a) (S.len Y))) (∃(c:Nat),((0:Int)=c/\0=eu y c)/\wg Y y c) (∀(x:Nat),wg Y y x->q76 (decide ((x:Int)<length y)) (jz 0 x (length y)/\eN (q81 (q72 (Rx y x).1 (eu y x)) (q81 (decide ((Rx y x).2.1<=eu y x)) (decide (mB Y<(Rx y x).2.1)))) (false=aY Y y) True (aVe (anP (dp Y (Rx y x).1 (Rx y x).2.1).2)) (aVp (aPv (anP (dp Y (Rx y x).1 (Rx y x).2.1).2) (iZ (dp Y (Rx y x).1 (Rx y x).2.1).1.2.2 (Rx y x).2.2)) (false=aY Y y) x 1 (∃(d:Nat),aPz x d ((Rx y x).2.1=eu y d) (wg Y y d) (S.len y)))) (true=aY Y y))):=by
 refine au ?_;apply la;intro H;simp at H;exact aNb H;intro m;simp at m;apply la;refine⟨(nat_lit 0:Nat),?_⟩;dsimp only;apply la;omega;exact⟨w!,w!,xt _⟩;intro a h;refine V.dI (λg=>?_) λn=>?_;apply cj2;iterate 2 omega
 intro j;try simp only[dt,tn] at j
 exact aNc g j;intro q;try simp only[df,tn] at q
 apply cj3;iterate 2 omega
 refine⟨(a+nat_lit 1),?_⟩;try dsimp only
 apply cj1;omega;exact⟨h.1,h.2.1,P7 h.2.2 g w!⟩;simp only[af,S.len,dX,oU] at *;omega;apply la;refine⟨(nat_lit 0:Nat),?_⟩;dsimp only;apply cj3;omega;rfl;exact apz h n;intro r f;apply la;intro i;simp only[dt] at i;apply cj2;iterate 2 omega
 intro k;simp at k;exact NB i (aNd k);intro o;simp only[V.qF,nf,dt,tn,df] at o;apply cj9;trivial;intro s;trivial;intro G;trivial;intro l;simp at l;exact NB i (aNe f o l);intro R;simp at R;apply cj3;iterate 2 omega
 refine⟨(r+nat_lit 1),?_⟩;try dsimp only
 apply cj2;omega;exact Up _ _;exact Z0 f i (aNf f o R);simp[af,S.len,dX,oU] at *;omega;grind[df,ae1]
def axB(y:O)(Y:M (Int×Int×M (B8×U))):UT (Bool.not (aY y Y)) ([]=(ak y Y).1/\[]=(ak y Y).2) (y=(ak y Y).1/\Y=(ak y Y).2):=by
 refine au ?_;grind[nt,Z1,nf,iK]
def axC(Y:O)(y:M (Int×Int×M (B8×U)))(h:Vg.jE J.aOe (Y,y)):q85 (alU (length y)) (0=dD y) (mC (length y-1)) (aSi (length y-1) (length y) ((getD y (toNat (length y-1)) (0,0,[])).2.1=dD y)):=by
 refine au ?_;have w:Vg.hlen y:=h.2.1.1;refine V.dI (λH=>?_) λa=>?_;exact aGF H;apply cj6;iterate 4 omega
 exact aGG a
def axD(Y:O)(y:M (Int×Int×M (B8×U)))(H:xC Y y)(j:Vg.jE J.aOe (Y,y)):Ju 0 (mB Y) ((24:Nat):Int)/\Ju 0 (length y) ((40:Nat):Int)/\(∃(g:Nat),((0:Int)=g/\replicate (toNat (mB Y)) aUQ=eA aUQ Y g)/\dX Y g)/\(∀(c:Nat),dX Y c->q85 (decide (c<mB Y)) (jz 0 c (mB Y)/\S.small (yb Y (toNat c))/\dz 0 c (length (eA aUQ Y c)) (toNat c) (aVg c (∃(k:Nat),aPz c k (List.set (eA aUQ Y c) (toNat c) (yb Y (toNat c))=eA aUQ Y k) (dX Y k) (S.len Y)))) (∃(l:Nat),((0:Int)=l/\replicate (toNat (length y)) (0,0,[])=eA (0,0,[]) y l)/\dX y l) (∀(x:Nat),dX y x->q85 (decide ((x:Int)<length y)) (jz 0 x (length y)/\S.small (KY y x).2.2/\dz 0 x (length (eA (0,0,[]) y x)) (toNat x) ((∃(d:Nat×Nat×M aB),((0:Int)=d.1/\List.set (eA (0,0,[]) y x) (toNat x) ((KY y x).1,(KY y x).2.1,[])=d.2.2/\toNat x=d.2.1/\(KY y x).2.2=(aD y d.2.1).2.2)/\xD y d.2.2 d.2.1 d.1/\(x:Int)=d.2.1)/\(∀(X:Nat×Nat×M aB),xD y X.2.2 X.2.1 X.1/\(x:Int)=X.2.1->eN (decide (X.1<gg (KY y x).2.2)) (aSi X.1 (gg (KY y x).2.2) (dz 0 x (length X.2.2) (toNat x) (toNat x=X.2.1/\S.small (getD (KY y x).2.2 (toNat X.1) ([],[])).2/\dz 0 X.1 (length (aD y X.2.1).2.2) (toNat X.1) (mC (X.1+1)/\(∃(a:Nat×Nat×M aB),aUT (X.1+1) a.1 (X.2.2=a.2.2/\X.2.1=a.2.1/\List.set (aD y X.2.1).2.2 (toNat X.1) ((getD (aD y X.2.1).2.2 (toNat X.1) ([],[])).1,(getD (KY y x).2.2 (toNat X.1) ([],[])).2)=(aD y a.2.1).2.2) (xD y a.2.2 a.2.1 a.1/\(x:Int)=a.2.1) (oU y a.2.1) (af (oU y X.2.1) X.1)))))) (X.2.1<length X.2.2) (mC (x+1)) (∃(m:Nat),aPz x m (List.set X.2.2 X.2.1 ((getD X.2.2 X.2.1 (0,0,[])).1,(getD X.2.2 X.2.1 (0,0,[])).2.1,(aD y X.2.1).2.2)=eA (0,0,[]) y m) (dX y m) (S.len y))))) (eA aUQ Y c=Y) (eA (0,0,[]) y x=y))):=by
 refine au ?_;have D:Vg.hlen Y:=j.1.1;have w:Vg.hlen y:=j.2.1.1;clear j;with_reducible and_intros
 iterate 2 omega
 have:=H.1;omega;iterate 2 omega
 have:=H.2.1;omega;grind[ae2,af,S.len,dX,oU];intro g o;refine V.dI (λn=>?_) λr=>?_
 . with_reducible and_intros
   iterate 2 omega
   exact Z3 H _;omega;exact(Ej _ n).1;exact(Ej _ n).2;iterate 2 omega
   refine⟨(g+1),?_⟩;try dsimp only
   apply cj2;omega;exact Z2 _ n;simp only[af,S.len,dX,oU] at *;omega;simp only[af,S.len,dX,oU] at *;omega
 apply la;refine⟨0,?_⟩;try dsimp only
 apply cj3;omega;exact ae2 _ _;simp only[af,S.len,dX,oU] at *;omega;intro x s;apply la
 . intro i;try simp only[dt] at i
   with_reducible and_intros
   iterate 2 omega
   exact(Gx H _).1;omega;exact(Ej _ i).1;exact(Ej _ i).2
   . refine⟨(0,((toNat (↑x:Int)),(List.set (eA ((0:Int),(0:Int),[]) y x) (toNat (↑x:Int)) ((getD y (toNat (↑x:Int)) ((0:Int),(0:Int),[])).1,((getD y (toNat (↑x:Int)) ((0:Int),(0:Int),[])).2).1,[])))),?_⟩;try dsimp only
     with_reducible and_intros
     omega;rfl;omega;rfl;exact aGH i;omega
   intro a h;apply la
   . intro f;try simp only[dt,tn] at f
     with_reducible and_intros
     omega;trivial;omega;have q:=h.1.2.2.1;have Q:=h.2;omega
     have q:=h.1.2.2.1;have t:=h.1.1;have Q:=h.2;omega
     omega;exact(Gx H _).2 _;omega
     iterate 2
      have e:x=a.2.1:=w!;subst e;first|exact f|exact Int.ofNat_lt.1 f
     omega;have q:=(Gx H x).1;exact alm q f;refine⟨((a.1+1),((a.2.1),(a.2.2))),?_⟩;try dsimp only
     with_reducible and_intros
     omega;rfl;omega;have e:x=a.2.1:=w!;subst e;exact S.DT _ _ _;have e:x=a.2.1:=w!;subst e;exact aln h.1 f;omega;have e:x=a.2.1:=w!;subst e;exact alo f
   intro I;apply aZn;have q:=h.1.2.2.1;have Q:=h.2;omega
   iterate 2 omega
   refine⟨(x+1),?_⟩;try dsimp only
   apply cj2;omega;have e:x=a.2.1:=w!;subst e;exact apA h.1;simp only[af,S.len,dX,oU] at *;omega;simp only[af,S.len,dX,oU] at *;omega
 grind[df,alk]
def a7f(l:M (Int×Int×M (B8×U)))(i m s S:Int)(a:M (B8×U))(h:aWo l i m):(0<=i/\i=i/\i<=length l)/\0<length [(s,S,a)]/\aZh (length (take (toNat i) l)) (length [(s,S,a)])/\mC (i+m)/\aRM (i+m) (length l) (aZh (length (take (toNat i) l++[(s,S,a)])) (length (drop (toNat (i+m)) l))/\take (toNat i) l++[(s,S,a)]++drop (toNat (i+m)) l=Qf l (toNat i) (toNat m) (s,S,a)):=by
 refine au ?_;with_reducible and_intros
 exact h.2.1;rfl;obtain⟨q,Q,c,d⟩:=h;omega;grind;obtain⟨q,Q,c,d⟩:=h;grind
 iterate 4
  obtain⟨q,Q,c,d⟩:=h;omega
 obtain⟨q,Q,c,d⟩:=h;grind;unfold Qf;rw[show(i+m).toNat=i.toNat+m.toNat by have:=h.2;omega]
def axE(y:O)(Y:M (Int×Int×M (B8×U))):cV (cV (dD (ak y Y).2=iJ y Y)):=by
 refine au ?_;apply cj1;iterate 2 trivial
 rfl
def axF(y:O)(Y:M (Int×Int×M (B8×U)))(d:B8):UT (aZ2 2000 d) (ò (aQw y Y d) (ak y Y).1 (ak y Y).2 1) (Rk (decide ((1000:Int)<=length (ak y Y).1)) (ò (aQw y Y d) (ak y Y).1 (ak y Y).2 3) (xC (ak y Y).1 (ak y Y).2) (S.small d) (aHz (length (ak y Y).1+length [d])) (ò (aQw y Y d) ((ak y Y).1++[d]) (ak y Y).2 0)):=by
 refine au ?_;apply cj1;trivial;simp_all[dt,aNg]
 intro h;apply la;simp_all[dt,aNh]
 grind[df,Mr,S.small,tg,List.length_singleton,aEr]
def axG(y:O)(Y:M (Int×Int×M (B8×U))):cV (UT (decide (dD (ak y Y).2=mB (ak y Y).1)) (ò (bS y Y) (ak y Y).1 (ak y Y).2 5) (aVq (decide ((64:Int)<=length (ak y Y).2)) (ò (bS y Y) (ak y Y).1 (ak y Y).2 3) (eN (anP (KV y Y).2) (ò (bS y Y) (ak y Y).1 (ak y Y).2 (KV y Y).2) (xC (ak y Y).1 (ak y Y).2) (aZh (length (ak y Y).2) (length [((KV y Y).1.1,(KV y Y).1.2.1,(KV y Y).1.2.2)])) (ò (bS y Y) (ak y Y).1 ((ak y Y).2++[((KV y Y).1.1,(KV y Y).1.2.1,(KV y Y).1.2.2)]) 0)))):=by
 refine au ?_;apply cj4;iterate 2 trivial
 simp_all[dt,aNi]
 intro h;apply la;simp_all[dt,aNj]
 intro H;apply cj1;trivial;grind[nt,df,aEs];grind[Mr,tg,List.length_singleton,aNk]
def a7g(y:O)(Y:M (Int×Int×M (B8×U)))(i m:Int):aST (aV4 (decide (m<2)) (aV4 (decide (i<0)) (aV4 (decide (length (ak y Y).2<m)) (mC (length (ak y Y).2-m))))) (Rk (q81 (decide (m<2)) (q81 (decide (i<0)) (q81 (decide (length (ak y Y).2<m)) (decide (length (ak y Y).2-m<i))))) (ò (Ei y Y i m) (ak y Y).1 (ak y Y).2 1) (mC (i+m)) (FF 0 i (i+m) (length (ak y Y).2)) (apn (AR i m y Y)) (eN (anP (aeY (AR i m y Y)).2) (ò (Ei y Y i m) (ak y Y).1 (ak y Y).2 (aeY (AR i m y Y)).2) (xC (ak y Y).1 (ak y Y).2) (aWo (ak y Y).2 i m) (ò (Ei y Y i m) (ak y Y).1 (Qf (ak y Y).2 (toNat i) (toNat m) ((aeY (AR i m y Y)).1.1,(aeY (AR i m y Y)).1.2.1,(aeY (AR i m y Y)).1.2.2)) 0))):=by
 refine au ?_;apply cj9;trivial;grind;grind[df,tg];simp_all[V.Nb,dt,bag]
 intro h;simp at h;with_reducible and_intros
 omega;grind[tg];iterate 3 omega
 grind[a2T];grind[nt,df,a2T];simp_all[nf,dt,Mr,a2T,bah]
def a7h(y:O)(Y:M (Int×Int×M (B8×U))):aST (xC (ak y Y).1 (ak y Y).2) ((∃(X:M (Int×Int)),(ak y Y).2=bC (ak y Y).1 X/\aVx y Y X)/\(∀(x:M (Int×Int)),aVx y Y x->S.small (bC (ak y Y).1 x)/\cV (Rk (Bool.not (KW y Y x).2) ((ak y Y).1=(zj y Y).1/\bC (ak y Y).1 x=(zj y Y).2) (mC ((KW y Y x).1+2)) (FF 0 (KW y Y x).1 ((KW y Y x).1+2) (length (bC (ak y Y).1 x))) (apn (AS y Y x)) (q85 (anP (aeY (AS y Y x)).2) ((ak y Y).1=(zj y Y).1/\(ak y Y).2=(zj y Y).2) (aWo (bC (ak y Y).1 x) (KW y Y x).1 2) (∃(a:M (Int×Int)),Qf (bC (ak y Y).1 x) (toNat (KW y Y x).1) (toNat 2) ((aeY (AS y Y x)).1.1,(aeY (AS y Y x)).1.2.1,(aeY (AS y Y x)).1.2.2)=bC (ak y Y).1 a/\aVx y Y a/\length a<length x))))):=by
 refine au ?_;apply cj4;trivial;grind[Mr];refine⟨(fT (ak y Y).2),?_⟩;apply la;exact(tf y Y).eq;grind[bai];intro X h;apply cj4;exact baj h;trivial;intro c;apply la;rfl;grind[a6E];intro H;simp at H;with_reducible and_intros
 iterate 2
  have q:=a2U h H;omega
 simp_all[a2U]
 omega;simp_all[a2U]
 grind[a5e];grind[nt,df,a5e];grind[a5e]
def axH(y:O)(Y:M (Int×Int×M (B8×U)))(h:Vg.jE J.aOe (y,Y)):aST ((0:Int)<=0/\(0:Int)<=length (ak y Y).2/\length (ak y Y).2<=Jo ((40:Nat):Int)) ((∃(X:Nat),((0:Int)=X/\replicate (toNat 0) (0,0,0,[])=fC y Y X)/\X<=gL y Y)/\(∀(x:Nat),mZ (x<=gL y Y) (decide ((x:Int)<length (ak y Y).2)) 0 x (length (ak y Y).2) (aW (aaY y Y x).2.2) (aZh (length (fC y Y x)) (length [((KX y Y x).1,(KX y Y x).2.1,(KX y Y x).2.2.1,(KX y Y x).2.2.2)])/\mC (x+1)/\(∃(a:Nat),aPz x a (fC y Y x++[((KX y Y x).1,(KX y Y x).2.1,(KX y Y x).2.2.1,(KX y Y x).2.2.2)]=fC y Y a) (a<=gL y Y) (gL y Y))) (fC y Y x=ya y Y))):=by
 refine au ?_;have D:Vg.hlen y:=h.1.1;have w:Vg.hlen Y:=h.2.1.1;clear h;with_reducible and_intros
 trivial;iterate 2 omega
 grind[tg];refine⟨0,?_⟩;try dsimp only
 apply cj3;omega;rfl;omega;intro X c;apply la
 . intro H;try simp only[dt] at H
   with_reducible and_intros
   iterate 2 omega
   exact(zl y Y (k:=X) w!).2;have:=IZ y Y X;simp only[List.length_singleton];omega;omega;have:=(tg y Y).2.1;omega;refine⟨(X+1),?_⟩;try dsimp only
   apply cj2;omega;exact Z4 H;simp only[gL,af] at *;omega;simp only[gL,af] at *;omega
 grind[df,ae3]
def a7i(y:O)(Y:M (Int×Int×M (B8×U)))(a A c:Int)(d:B8):q76 (alU a) (cV ((aQw y Y d).1.1=(pH y Y a A c d).1.1/\(aQw y Y d).1.2=(pH y Y a A c d).1.2/\(aQw y Y d).2=(pH y Y a A c d).2)) (q76 (aZJ a) (cV ((bS y Y).1.1=(pH y Y a A c d).1.1/\(bS y Y).1.2=(pH y Y a A c d).1.2/\(bS y Y).2=(pH y Y a A c d).2)) (aVq (decide (a=2)) (cV ((Ei y Y A c).1.1=(pH y Y a A c d).1.1/\(Ei y Y A c).1.2=(pH y Y a A c d).1.2/\(Ei y Y A c).2=(pH y Y a A c d).2)) ((zj y Y).1=(pH y Y a A c d).1.1/\(zj y Y).2=(pH y Y a A c d).1.2/\0=(pH y Y a A c d).2))):=by
 refine au ?_;simp_all[dt,pH,df]
def a7j(l:M (Int×Int×Int×B8)):(∃(X:Nat),((0:Int)=X/\pM [] (mT ([],[]) l X) [])/\aVI l X)/\(∀(x:Nat),mZ (aVI l x) (fU (decide ((x:Int)<length l)) (decide ((x:Int)<40))) 0 x (length l) (anS (decide (q99 (K3 l x).2.2.2<=2500)) (aSi x (length l) True)) (mC (x+1)/\(∃(a:Nat),aPz x a (pM (bif decide (q99 (K3 l x).2.2.2<=2500) then(K5 l x).1 else(mT ([],[]) l x).1) (mT ([],[]) l a) (bif decide (q99 (K3 l x).2.2.2<=2500) then(K5 l x).2 else(mT ([],[]) l x).2)) (aVI l a) (S.len l))) (pM (mT ([],[]) l x).1 (eZ l) (mT ([],[]) l x).2)):=by
 refine au ?_;apply la;refine⟨(nat_lit 0:Nat),?_⟩;dsimp only;apply a06;omega;iterate 2 rfl
 exact bak l;intro X H;apply la;intro c;simp only[V.aEl,dt] at c;apply a11;iterate 2 omega
 intro d;apply cj3;iterate 2 omega
 trivial;intro e;trivial;iterate 2 omega
 refine⟨(X+nat_lit 1),?_⟩;dsimp only;apply SU;omega;exact S.a5h.1;exact S.a5h.2;exact a5f c;simp[af,S.len,dX,gL,pL,pD] at *;omega;intro h;simp only[V.V3,df] at h;apply la;rw[(a2V H h).1];rw[(a2V H h).1]
def axO(y:Int)(Y:B8)(a:M (Int×Int×Int×B8)):anS (decide (0<=y)) (anS (decide (y<=1000)) (aVe (decide (q99 Y=32))))/\fU (decide (0<=y)) (fU (decide (y<=1000)) (fU (decide (q99 Y=32)) (rE a y)))=cO y Y a:=by
 refine au ?_;grind[avI]
def axP(y:O)(Y:M (Int×Int×M (B8×U))):aST (aVe (Bool.not (aY y Y))) (eN (q81 (Bool.not (aY y Y)) (q72 (iJ y Y) (mB y))) (aZL (gI y Y) 7) (dj y) (S.small (S.leaves y)) (aVq (anP (yk (S.leaves y))) (aZL (gI y Y) (yk (S.leaves y))) (mB y=(gI y Y).1.1/\kI (S.leaves y)=(gI y Y).1.2.1/\ya y Y=(gI y Y).1.2.2/\0=(gI y Y).2))):=by
 refine au ?_;apply cj9;trivial;iterate 2 grind
 simp_all[V.Nb,nt,df,avJ]
 intro h;simp at h;apply cj4;grind[GF];exact(GF h.1).2;grind[nt,df,S.À];simp_all[nf,dt,Z9,S.À]
def axQ(v q:Int)(h:gi v=false/\q=0):q85 (alU q) (bY aUQ/\yW v=0/\mq aUQ v=S.num v) (q=0) ([]=S.num v):=by
 refine au ?_;apply la;grind[aEu];grind
def axR(v q:Int)(l:B8)(h:gi v=false/\q=0/\l.length<=35184372088832):q85 (alU q) (bY l/\yW v=0/\mq l v=l++S.num v) (q=0) (l=l++S.num v):=by
 refine au ?_;apply la;grind[aEu];grind
def axS(d l:B8)(h:l.length<=35184372088832/\d.length<=35184372088832):aYE l d/\l++d=l++d:=by
 refine au ?_;grind
def axT(Y:Int)(a:B8)(y:M (Int×Int×Int×B8))(d:Vg.jE J.aOk (Y,a,y)):cV (Rk (Bool.not (cO Y a y)) (1=(hW Y a y).2/\[]=(hW Y a y).1) (gi Y=false/\aWs) (bY (S.num Y)/\bY a) (gi (length y)=false/\(0:Int)=0/\bY (S.num Y++a)) ((∃(c:Nat),((0:Int)=c/\S.num Y++a++S.num (length y)=tE Y a y c/\aWs)/\Fp Y a y c)/\(∀(x:Nat),mZ (Fp Y a y x) (decide ((x:Int)<length y)) 0 x (length y) (gi (Rt y x).1=false/\(0:Int)=0/\bY (tE Y a y x)) ((gi (Rt y x).2.1=false/\(0:Int)=0/\bY (tE Y a y x++S.num (Rt y x).1))/\(bY (tE Y a y x++S.num (Rt y x).1++S.num (Rt y x).2.1)/\bY (Rt y x).2.2)/\mC (x+1)/\(∃(X:Nat),aPz x X (tE Y a y x++S.num (Rt y x).1++S.num (Rt y x).2.1++(Rt y x).2.2=tE Y a y X/\aWs) (Fp Y a y X) (S.len y))) (q76 (aI5 0) (0=(hW Y a y).2/\[]=(hW Y a y).1) (0=(hW Y a y).2/\tE Y a y x=(hW Y a y).1))))):=by
 refine au ?_;have A:Vg.hlen y:=d.2.2.1.1;clear d;apply cj1;trivial;grind[nt,aai];intro e;try simp at e
 with_reducible and_intros
 grind[jq,Qo];rfl;grind[cU];grind[jq];grind[sb,jq,Qo];rfl;grind[cU,jq,List.length_append];refine⟨0,?_⟩;try dsimp only
 apply a06;omega;grind[aEv];rfl;exact⟨e,Nat.zero_le _⟩;intro X h;apply la
 . intro H;try simp only[dt] at H
   with_reducible and_intros
   iterate 2 omega
   exact(GG h H).1;rfl;have:=Em h;omega;exact(GG h H).2.1;rfl;have q:=Em h;have Q:=cU (y.getD (toNat (X:Int)) (0,0,0,[])).2.1;simp only[J!];omega
   have q:=Em h;have Q:=cU (y.getD (toNat (X:Int)) (0,0,0,[])).2.1;have f:=cU (y.getD (toNat (X:Int)) (0,0,0,[])).2.2.1;simp only[J!];omega
   exact b? (Nat.le_of_eq (GG h H).2.2) (by decide);iterate 2 omega
   refine⟨(X+1),?_⟩;try dsimp only
   apply SU;omega;exact S.Á H;rfl;exact⟨h.1,w!⟩;simp only[af,S.len];omega
 simp_all[df,nt,nf,dt,NC,WB]
def axU(r:B8)(R a:Int)(h:r.length<=140737488355328):wK r/\(ag r R a).2=(ag r R a).2/\(ag r R a).1.1=r/\q7 (ag r R a).1.2 (ag r R a).1.2:=by
 refine au ?_;grind[Ek]
def axV(r:B8)(R a:Int)(h:r.length<=140737488355328):wK r/\(aF r R a).2=(aF r R a).2/\(aF r R a).1.1=r/\q7 (aF r R a).1.2 (aF r R a).1.2:=by
 refine au ?_;simp_all[Ek]
def axW(a:Int)(r:B8)(R c:Int)(h:r.length<=140737488355328):wK r/\wK r/\wK r/\a=a/\(ag r R c).2=(wj r R c a).2.2.1/\(aZY r R c).2=(wj r R c a).2.2.2.1/\(aF r (aZY r R c).1.2.1 (aZY r R c).1.2.2).2=(wj r R c a).2.2.2.2/\(ag r R c).2=(wj r R c a).2.2.1/\0=0/\0=0/\r=r/\q7 (aF r (aZY r R c).1.2.1 (aZY r R c).1.2.2).1.2 (wj r R c a).1:=by
 refine au ?_;with_reducible and_intros
 iterate 3 omega
 iterate 10 rfl
def axX(b:B8)(j:b.length<=140737488355328):wK b/\wK b/\wK b/\q85 (decide (64<(a0G b).2)) (aZL (hR b) 2) (∃(a:Nat),((0:Int)=a/\b=b/\(a0G b).1.2.1=(jP b a).1.1/\(a0G b).1.2.2=(jP b a).1.2/\0=(jP b a).2.1/\0=0/\0=0/\(ag b 0 0).2=(aVm b).1/\(a1s b).2=(aVm b).2.1/\[]=(jP b a).2.2)/\a<=pN b/\(aVm b).2.2<=64) (∀(x:Nat),x<=pN b/\(aVm b).2.2<=64->aVq (decide (x<(a0G b).2)) (wK b/\aZh (length (jP b x).2.2) (length (a2v b x))/\mC (x+1)/\(∃(X:Nat),aPz x X (b=b/\(aYQ b x).1.1=(jP b X).1.1/\(aYQ b x).1.2=(jP b X).1.2/\(aYQ b x).2.2.1=(jP b X).2.1/\0=0/\0=0/\(aVm b).1=(aVm b).1/\(aVm b).2.1=(aVm b).2.1/\(jP b x).2.2++a2v b x=(jP b X).2.2) (X<=pN b/\(aVm b).2.2<=64) (pN b))) (aVq (anP (S.done b (jP b x).1.1 (jP b x).1.2)) (aZL (hR b) (S.done b (jP b x).1.1 (jP b x).1.2)) (q76 (Bool.not (cO (aVm b).1 (aVm b).2.1 (jP b x).2.2)) (aZL (hR b) 2) ((aVm b).1=(hR b).1.1/\(aVm b).2.1=(hR b).1.2.1/\(jP b x).2.2=(hR b).1.2.2/\0=(hR b).2)))):=by
 refine au ?_;apply aZ4;iterate 3 omega
 intro h1;simp at h1;apply cj4;iterate 3 (rw[Z8 h1])
 rw[Z8 h1];intro h;simp only[df] at h;apply la
 . refine⟨(nat_lit 0:Nat),?_⟩;dsimp only;with_reducible and_intros
   omega;iterate 9 rfl
   omega;exact Int.not_lt.1 h
 intro X H;refine V.dI (λe=>?_) λc=>?_
 . apply aZi;omega;have q:=aGJ b X;have Q:=H.2;have i:(X:Int)<(iA b).1.2.2:=e;simp only[J?];omega
   omega;have Q:=H.2;have i:(X:Int)<(iA b).1.2.2:=e;omega
   refine⟨(X+nat_lit 1),?_⟩;try dsimp only
   with_reducible and_intros
   omega;iterate 9 rfl
   exact apJ e;omega;have q:=apJ e;simp only[af];omega
 apply cj1;trivial;intro f;simp at f;apply cj4;iterate 3 (rw[aEw h H.1 c f])
 rw[aEw h H.1 c f];intro d;simp at d;apply cj1;trivial;intro g;simp at g;apply cj4;iterate 3 (rw[aEx h H.1 c d g])
 rw[aEx h H.1 c d g];intro F;simp at F;apply cj4;iterate 3 (rw[aEy h H.1 c d F])
 rw[aEy h H.1 c d F]
def ax0(d:M (B8×U))(t:B8)(h:aW d/\S.small t):aW d/\aV4 (anP (dE d)) (S.small t)/\eN (aPv (anP (dE d)) (S.isTerm t)) (0=(wv d t).1.1/\[]=(wv d t).1.2.1/\[]=(wv d t).1.2.2.1/\[]=(wv d t).1.2.2.2.1/\[]=(wv d t).1.2.2.2.2.1/\[]=(wv d t).1.2.2.2.2.2/\1=(wv d t).2) (aW d) (mC (bo d t+1)) (dz 0 (bo d t+1) (length (bn d)) (toNat (bo d t+1)) (wK (G2 d t)/\dj (bn d)/\eX (S.leaves (bn d))/\q76 (fE d t) (aW d/\cV (bo d t+1=(wv d t).1.1/\(bg (G2 d t)).1.1=(wv d t).1.2.1/\(bg (G2 d t)).1.2.1=(wv d t).1.2.2.1/\(bg (G2 d t)).1.2.2=(wv d t).1.2.2.2.1/\oz (S.leaves (bn d)) (bo d t+1)=(wv d t).1.2.2.2.2.1/\jH (dN d t)=(wv d t).1.2.2.2.2.2/\0=(wv d t).2)) (bo d t+1=(wv d t).1.1/\(bg (G2 d t)).1.1=(wv d t).1.2.1/\(bg (G2 d t)).1.2.1=(wv d t).1.2.2.1/\(bg (G2 d t)).1.2.2=(wv d t).1.2.2.2.1/\oz (S.leaves (bn d)) (bo d t+1)=(wv d t).1.2.2.2.2.1/\[]=(wv d t).1.2.2.2.2.2/\0=(wv d t).2))):=by
 refine au ?_;have i:=h.1;apply cj9;omega;iterate 2 grind
 intro H;simp at H;apply a13
 iterate 6
  rw[afa w!];rfl
 grind[afa];intro a;simp at a;with_reducible and_intros
 omega
 iterate 2
  (have q:=S.Æ i (IM (And.left (by assumption))) t;omega)
 iterate 3 (simp_all[S.Æ,IM,And.left])
 (have q:=S.Æ i (IM (And.left (by assumption))) t;omega)
 iterate 2
  (have q:=S.Æ i (IM (And.left (by assumption))) t;grind)
 iterate 2 (simp_all[dE,S.isTerm,Qs,IM,aGP,Q!,R!])
def ax1(l:O)(m:S.small l):q85 (decide ((wO l:Int)<2)) (l=bU l) (∃(i:Nat),(1:Int)=i/\n4 l i) (∀(d:Nat),n4 l d->q76 (decide ((d:Int)<wO l)) (jz 0 d (wO l)/\tS d<wO l/\aVL (d-1) 0 (wO l) (toNat (d-1)) (wO l) (aVp (decide (yb l (tS d)=yb l (toNat (d-1)))) (aRM d (wO l) ((∃(a:Nat×Nat×O×Nat),((d:Int)=a.1/\(1:Int)=a.2.1/\l=a.2.2.1)/\jG l a.2.2.2 a.1 a.2.1 a.2.2.1/\(d:Int)=a.2.2.2)/\(∀(x:Nat×Nat×O×Nat),jG l x.2.2.2 x.1 x.2.1 x.2.2.1/\(d:Int)=x.2.2.2->eN (decide ((x.2.1:Int)<((wO l-tS d:Nat):Int))) (jz 0 x.2.1 ((wO l-tS d:Nat):Int)/\tS d+toNat x.2.1<abe x/\aVL (x.2.1-1) 0 ((wO l-tS d:Nat):Int) (tS d+toNat (x.2.1-1)) (abe x) (anS (jN d x) (jz 0 x.2.1 ((wO l-tS d:Nat):Int)/\tS d+toNat x.2.1<abe x/\jz 0 x.1 (abe x)/\A5 x<abe x/\mC (x.1+1))/\mC (x.2.1+1)/\(∃(e:Nat×Nat×O×Nat),((bif jN d x then(x.1:Int)+1 else(x.1:Int))=e.1/\(x.2.1:Int)+1=e.2.1/\(bif jN d x then List.set x.2.2.1 (A5 x) (yb x.2.2.1 (tS d+toNat x.2.1)) else x.2.2.1)=e.2.2.1)/\(jG l e.2.2.2 e.1 e.2.1 e.2.2.1/\(d:Int)=e.2.2.2)/\q98 (S.len l) e.2.1 x.2.1))) ((0:Int)<=x.1/\(x.1:Int)<=abe x) (A5 x+(abe x-A5 x)<=abe x) (((0:Int)<=x.1/\x.1<=mB (Lb x))/\take (A5 x) (Lb x)=bU l)))) d 1 (∃(j:Nat),aVk d j (n4 l j) (S.len l)))) (l=bU l)):=by
 refine au ?_;have I:l.length<=1099511627776:=m;refine V.dI (λn=>?_) λy=>?_;exact PY n;apply la;grind[aoV];intro a o;apply la
 . intro r;try simp only[dt] at r
   with_reducible and_intros
   iterate 5 omega
   have:=o.1;omega;iterate 2 omega
   . intro s;try simp only[dt,tn] at s
     apply cj2;iterate 2 omega
     refine⟨((a),(1,((l),(a)))),?_⟩;grind[aeQ];intro X h;apply la
     . intro t;try simp at t
       with_reducible and_intros
       iterate 2 omega
       have q:=h.1.1;have Q:=h.1.2.1;have f:=h.1.2.2.2.1;have g:=h.1.2.2.2.2.1;omega
       iterate 2 omega
       have q:=h.1.1;omega;omega;have q:=h.1.1;have Q:=h.1.2.1;have f:=h.1.2.2.2.1;have g:=h.1.2.2.2.2.1;omega
       . intro F;with_reducible and_intros
         iterate 2 omega
         have q:=h.1.1;have Q:=h.1.2.1;have f:=h.1.2.2.2.1;have g:=h.1.2.2.2.2.1;have k:=h.2;omega
         omega
         iterate 2
          have q:=h.1.1;have Q:=h.1.2.1;have f:=h.1.2.2.2.1;have g:=h.1.2.2.2.2.1;have k:=h.2;omega
         omega;have q:=h.1.1;have Q:=h.1.2.1;have f:=h.1.2.2.2.1;have g:=h.1.2.2.2.2.1;have k:=h.2;omega
       intro z;trivial;iterate 2 omega
       refine⟨((toNat (bif !Decidable.decide (getD (X.2.2.1) (toNat (↑a:Int)+toNat (↑(X.2.1):Int)) []=getD (X.2.2.1) (toNat (↑a:Int)+toNat ((↑(X.2.1):Int)-(1:Int))) []) then(↑(X.1):Int)+(1:Int) else(↑(X.1):Int))),((X.2.1+1),((bif !Decidable.decide (getD (X.2.2.1) (toNat (↑a:Int)+toNat (↑(X.2.1):Int)) []=getD (X.2.2.1) (toNat (↑a:Int)+toNat ((↑(X.2.1):Int)-(1:Int))) []) then List.set (X.2.2.1) (toNat (↑(X.1):Int)) (getD (X.2.2.1) (toNat (↑a:Int)+toNat (↑(X.2.1):Int)) []) else Prod.fst (X.2.2)),(a)))),?_⟩;try dsimp only
       with_reducible and_intros
       generalize (!decide (getD X.2.2.1 (toNat (a:Int)+toNat (X.2.1:Int)) []=getD X.2.2.1 (toNat (a:Int)+toNat ((X.2.1:Int)-1)) []))=c;cases c<;>simp<;>omega;omega;trivial;have q:=h.1.1;have E:X.2.2.2=a:=by have:=h.2;omega
       have H:=h.1;rw[E] at H;have u:toNat (a:Int)+toNat (X.2.1:Int)=a+X.2.1:=by omega
       have v:toNat (a:Int)+toNat ((X.2.1:Int)-1)=a+X.2.1-1:=by omega
       rw[u,v];by_cases hd:getD X.2.2.1 (a+X.2.1) []=getD X.2.2.1 (a+X.2.1-1) [];rw[L? hd];exact PZ H w! hd;rw[e? hd];exact T8 H w! hd;omega;simp only[af,S.len];omega
     intro K;apply a05;omega
     iterate 2
      have q:=h.1.2.1;have Q:=h.1.2.2.2.1;have f:=h.1.2.2.2.2.1;omega
     omega;have q:=h.1.2.1;have Q:=h.1.2.2.2.1;have f:=h.1.2.2.2.2.1;simp;omega;have q:=h.1.2.1;have Q:=h.1.2.2.2.1;have f:=h.1.2.2.2.2.1;grind[toNat,Mn,T9]
   intro w;try simp only[df,tn] at w
   apply cj3;iterate 2 omega
   refine⟨(a+1),?_⟩;grind[T6,af,S.len]
 grind[df,ZC]
def ax2(l:M (Int×B8))(c:dq l):(∃(x:Nat),((0:Int)=(↑x:Int)/\(0:Int)=c9 l x/\(0:Int)=nW l x)/\ja l x)/\∀(x:Nat),ja l x->(decide ((↑x:Int)<(↑(length l):Int))=true->((0:Int)<=(↑x:Int)/\(↑x:Int)<(↑(length l):Int))/\(decide ((getD l (toNat (↑x:Int)) ((0:Int),[])).1=(0:Int))=true->S.small ((getD l (toNat (↑x:Int)) ((0:Int),[])).2)/\((!S.isTerm ((getD l (toNat (↑x:Int)) ((0:Int),[])).2))=true->false=aZ l)/\((!S.isTerm ((getD l (toNat (↑x:Int)) ((0:Int),[])).2))=false->((-9223372036854775808:Int)<=c9 l x+(1:Int)/\c9 l x+(1:Int)<=(9223372036854775807:Int))/\((-9223372036854775808:Int)<=nW l x+(1:Int)/\nW l x+(1:Int)<=(9223372036854775807:Int))/\((-9223372036854775808:Int)<=(↑x:Int)+(1:Int)/\(↑x:Int)+(1:Int)<=(9223372036854775807:Int))/\∃(o:Nat),((↑x:Int)+(1:Int)=(↑o:Int)/\c9 l x+(1:Int)=c9 l o/\nW l x+(1:Int)=nW l o)/\ja l o/\af (S.len l) o<af (S.len l) x))/\(decide ((getD l (toNat (↑x:Int)) ((0:Int),[])).1=(0:Int))=false->(decide ((getD l (toNat (↑x:Int)) ((0:Int),[])).1=(1:Int))=true->((bif !decide ((getD l (toNat (↑x:Int)) ((0:Int),[])).2=[]) then true else decide (c9 l x<(2:Int)))=true->false=aZ l)/\((bif !decide ((getD l (toNat (↑x:Int)) ((0:Int),[])).2=[]) then true else decide (c9 l x<(2:Int)))=false->((-9223372036854775808:Int)<=c9 l x-(1:Int)/\c9 l x-(1:Int)<=(9223372036854775807:Int))/\((-9223372036854775808:Int)<=(↑x:Int)+(1:Int)/\(↑x:Int)+(1:Int)<=(9223372036854775807:Int))/\∃(o:Nat),((↑x:Int)+(1:Int)=(↑o:Int)/\c9 l x-(1:Int)=c9 l o/\nW l x=nW l o)/\ja l o/\af (S.len l) o<af (S.len l) x))/\(decide ((getD l (toNat (↑x:Int)) ((0:Int),[])).1=(1:Int))=false->(decide ((getD l (toNat (↑x:Int)) ((0:Int),[])).1=(2:Int))=true->((bif !decide ((getD l (toNat (↑x:Int)) ((0:Int),[])).2=[]) then true else decide (c9 l x<(2:Int)))=true->false=aZ l)/\((bif !decide ((getD l (toNat (↑x:Int)) ((0:Int),[])).2=[]) then true else decide (c9 l x<(2:Int)))=false->((-9223372036854775808:Int)<=c9 l x-(1:Int)/\c9 l x-(1:Int)<=(9223372036854775807:Int))/\((-9223372036854775808:Int)<=(↑x:Int)+(1:Int)/\(↑x:Int)+(1:Int)<=(9223372036854775807:Int))/\∃(o:Nat),((↑x:Int)+(1:Int)=(↑o:Int)/\c9 l x-(1:Int)=c9 l o/\nW l x=nW l o)/\ja l o/\af (S.len l) o<af (S.len l) x))/\(decide ((getD l (toNat (↑x:Int)) ((0:Int),[])).1=(2:Int))=false->(decide ((getD l (toNat (↑x:Int)) ((0:Int),[])).1=(3:Int))=true->((bif !decide ((getD l (toNat (↑x:Int)) ((0:Int),[])).2=[]) then true else decide (c9 l x<(2:Int)))=true->false=aZ l)/\((bif !decide ((getD l (toNat (↑x:Int)) ((0:Int),[])).2=[]) then true else decide (c9 l x<(2:Int)))=false->((-9223372036854775808:Int)<=c9 l x-(1:Int)/\c9 l x-(1:Int)<=(9223372036854775807:Int))/\((-9223372036854775808:Int)<=(↑x:Int)+(1:Int)/\(↑x:Int)+(1:Int)<=(9223372036854775807:Int))/\∃(o:Nat),((↑x:Int)+(1:Int)=(↑o:Int)/\c9 l x-(1:Int)=c9 l o/\nW l x=nW l o)/\ja l o/\af (S.len l) o<af (S.len l) x))/\(decide ((getD l (toNat (↑x:Int)) ((0:Int),[])).1=(3:Int))=false->false=aZ l)))))/\(decide ((↑x:Int)<(↑(length l):Int))=false->(bif decide (c9 l x=(1:Int)) then decide (nW l x<=(16:Int)) else false)=aZ l):=by
 have I:l.length<=1099511627776:=c.1;have e:=c;clear c;apply la;refine⟨0,?_⟩;try dsimp only
 apply a06;iterate 3 rfl
 exact aEz e.1;intro X a;apply la;intro h;try simp only[dt] at h
 apply cj2;iterate 2 omega
 intro d;try simp only[dt,tn] at d
 apply cj1;exact ap1 e _;intro f;try simp only[nt] at f
 exact S.Ê h d f;intro g;try simp only[nf] at g
 apply a11
 iterate 6
  have q:=gR l X;have Q:c9 l X=2*nW l X-X:=rfl;omega
 refine⟨(X+1),?_⟩;try dsimp only
 apply SU;have q:=gR l X;have Q:c9 l X=2*nW l X-X:=rfl;omega
 exact(zq (by assumption)).symm;exact(ND (by assumption)).symm;exact S.É a h d g;grind[af,S.len];intro H;try simp only[df,tn] at H
 apply la;intro i;try simp only[dt,tn] at i
 apply la;intro j;try simp at j
 exact Da h H (.inr (by assumption));intro F;try simp only[V.qF,nf,dt,tn,df] at F
 apply cj6
 iterate 4
  have q:=gR l X;have Q:c9 l X=2*nW l X-X:=rfl;omega
 refine⟨(X+1),?_⟩;try dsimp only
 apply SU;have q:=gR l X;have Q:c9 l X=2*nW l X-X:=rfl;omega
 exact(uH (by assumption)).symm;exact(Kv (by assumption)).symm;exact I2 a h H w! (by assumption);grind[af,S.len];intro s;apply la;intro k;try simp only[dt,tn] at k
 apply la;intro O;try simp at O
 exact Da h H (.inr (by assumption));intro r;try simp only[V.qF,nf,dt,tn,df] at r
 apply cj6
 iterate 4
  have q:=gR l X;have Q:c9 l X=2*nW l X-X:=rfl;omega
 refine⟨(X+1),?_⟩;try dsimp only
 apply SU;have q:=gR l X;have Q:c9 l X=2*nW l X-X:=rfl;omega
 exact(uH (by assumption)).symm;exact(Kv (by assumption)).symm;exact I2 a h H w! (by assumption);grind[af,S.len];intro G;apply la;intro m;try simp only[dt,tn] at m
 apply la;intro R;try simp at R
 exact Da h H (.inr (by assumption));intro n;try simp only[V.qF,nf,dt,tn,df] at n
 apply cj6
 iterate 4
  have q:=gR l X;have Q:c9 l X=2*nW l X-X:=rfl;omega
 refine⟨(X+1),?_⟩;try dsimp only
 apply SU;have q:=gR l X;have Q:c9 l X=2*nW l X-X:=rfl;omega
 exact(uH (by assumption)).symm;exact(Kv (by assumption)).symm;exact I2 a h H w! (by assumption);grind[af,S.len];grind[df,tn,Da];grind[df,afd]
def ax3(l:M (Int×B8))(f:S.small l):(∃(X:Nat),((0:Int)=X/\[]=bL l X)/\dX l X)/\(∀(x:Nat),dX l x->eN (decide ((x:Int)<length l)) (aWr 0 x (length l) (alU (getD l (toNat x) (0,[])).1) (aZf (bL l x) [(getD l (toNat x) (0,[])).2]/\mC (x+1)/\(∃(a:Nat),aUT (x+1) a (bL l x++[(getD l (toNat x) (0,[])).2]=bL l a) (dX l a) (S.len l) (af (S.len l) x))) 1 (∃(c:Nat),aUT (x+1) c (bL l x=bL l c) (dX l c) (S.len l) (af (S.len l) x))) (S.small (bL l x)) (S.small (fp (bL l x))) (bU (fp (bL l x))=al l)):=by
 refine au ?_;have i:l.length<=1099511627776:=f;apply la;grind[af,S.len,dX,aNu];intro X h;refine V.dI (λH=>?_) λg=>?_;apply cj2;iterate 2 (grind[af,S.len,dX])
 intro d;try simp only[dt,tn] at d
 apply aZn
 (have q:=apZ i h [];exact q.1)
 iterate 2 (grind[af,S.len,dX])
 refine⟨(X+1),?_⟩;try dsimp only
 apply cj2;grind[af,S.len,dX];exact apY H d;iterate 2 (grind[af,S.len,dX])
 intro e;try simp only[df,tn] at e
 apply cj3;iterate 2 (grind[af,S.len,dX])
 refine⟨(X+1),?_⟩;try dsimp only
 apply cj2;grind[af,S.len,dX];exact apU H e;iterate 2 (grind[af,S.len,dX])
 apply cj1
 (have q:=apZ i h [];exact q.2.1)
 (have q:=apZ i h [];exact q.2.2.1)
 grind[avW]
def ax4(b:B8)(a:S.small b):S.small b/\eN (alU (length (aS b))) ([]=hdT (aS b)) ((0:Int)<=0/\(0:Int)<length (aS b)) (toNat 0<length (aS b)) (ap2 (aS b) 0=hdT (aS b)):=by
 refine au ?_;apply cj1;omega;intro h;simp only[dt] at h;rw[show aS b=[] from P?.1 w!];rfl;intro H;simp only[df] at H;apply cj2;iterate 3 omega
 rfl
def ax5(s:Int)(b:B8)(a:Int)(h:s=0/\b=yo/\a=3):eN (decide (0<=s)) (FF 0 s a (q99 b)/\S.small (aVf s a b)/\length ([(-1,s,hdT (aS (aVf s a b)))]:M (Int×Int×B8))<=4398046511104/\-(1:Int)=-1/\b=b/\a=a/\[(-1,s,hdT (aS (aVf s a b)))]=S.Ë) (s=-1) (b=b) (a=a/\[]=S.Ë):=by
 refine au ?_;obtain⟨q,Q,c⟩:=h;subst q;subst Q;subst c;apply la
 . intro H;with_reducible and_intros
   iterate 2 omega
   decide;exact(show(drop 0 (take 3 yo)).length<=1099511627776 by decide);decide;iterate 4 rfl
 grind
def ax6(b:B8)(g:b=yo):S.small b/\(∃(X:Nat),((0:Int)=(X:Int)/\b=b/\(0:Int)=(X:Int)/\-(1:Int)=uI X)/\cC X (3:Nat))/\(∀(x:Nat),cC x (3:Nat)->eN (decide ((x:Int)<(length (S.decode b):Int))) (jz (0:Int) (x:Int) (length (S.decode b):Int)/\toNat (x:Int)<length (S.decode b)/\aST (aVe (S.letter (Xl b x))) (q85 (q81 (S.letter (Xl b x)) (S.digit (Xl b x))) (cV (mC ((x:Int)+q99 (im (Xl b x)))/\aVg (x:Int) (∃(a:Nat),aUT ((x:Int)+(1:Int)) a (b=b/\(x:Int)+q99 (im (Xl b x))=(a:Int)/\(bif decide (uI x<(0:Int)) then(x:Int) else uI x)=uI a) (cC a (3:Nat)) (3:Nat) (af (3:Nat) x)))) (uI x=(0:Int)/\b=yo/\(x:Int)=(3:Int)) (q76 (decide (Xl b x=(32:Int))) (aVg (x:Int) (aVg (x:Int) (∃(c:Nat),aUT ((x:Int)+(1:Int)) c (b=b/\False/\(x:Int)+(1:Int)=(c:Int)/\-(1:Int)=uI c) (cC c (3:Nat)) (3:Nat) (af (3:Nat) x)))) (q85 (bif decide (Xl b x=(40:Int)) then decide (Xl b x=(40:Int)) else bif decide (Xl b x=(41:Int)) then decide (Xl b x=(41:Int)) else bif decide (Xl b x=(124:Int)) then decide (Xl b x=(124:Int)) else bif decide (Xl b x=(38:Int)) then decide (Xl b x=(38:Int)) else decide (Xl b x=(33:Int))) (length S.Ë+length [(Xl b x,(x:Int),([]:B8))]<=(4398046511104:Nat)/\mC ((x:Int)+(1:Int))/\aVg (x:Int) (∃(d:Nat),aUT ((x:Int)+(1:Int)) d (b=b/\False/\(x:Int)+(1:Int)=(d:Int)/\-(1:Int)=uI d) (cC d (3:Nat)) (3:Nat) (af (3:Nat) x))) (length S.Ë+length [(-(3:Int),(x:Int),([]:B8))]<=(4398046511104:Nat)) (S.Ë++[(-(3:Int),(x:Int),([]:B8))]=kE))))) (uI x=(0:Int)/\b=yo/\(x:Int)=(3:Int)) (length S.Ë+length [(-(2:Int),q99 b,([]:B8))]<=(4398046511104:Nat)) (S.Ë++[(-(2:Int),q99 b,([]:B8))]=kE)):=by
 refine au ?_;subst g;apply cj1;exact(show S.yo.length<=1099511627776 by decide)
 . refine⟨0,?_⟩;with_reducible and_intros
   decide;rfl;iterate 2 decide
   exact S! _
 intro X f;refine V.dI (λh=>?_) λk=>?_
 . with_reducible and_intros
   iterate 3 omega
   trivial;intro i;trivial;intro j;trivial
   . intro l;with_reducible and_intros
     trivial;omega;rcases zr h with rfl|rfl|rfl<;>first|exact absurd H.1 (by decide)|decide
     omega;rcases zr h with rfl|rfl|rfl<;>first|exact absurd H.1 (by decide)|decide
     refine⟨(X+1),?_⟩;try dsimp only
     with_reducible and_intros
     omega;rfl
     iterate 2
      rcases zr h with rfl|rfl|rfl<;>first|exact absurd H.1 (by decide)|decide
     unfold cC;have :X<3:=by have:=zr h;omega
     omega;rcases zr h with rfl|rfl|rfl<;>first|exact absurd H.1 (by decide)|decide
   intro H;try simp only[V.qF] at H
   apply SU;rcases zr h with rfl|rfl|rfl<;>first|exact absurd H.1 (by decide)|decide
   with_reducible rfl
   rcases zr h with rfl|rfl|rfl<;>first|exact absurd H.1 (by decide)|decide
   intro m;apply cj6;omega;rcases zr h with rfl|rfl|rfl<;>first|exact absurd H.1 (by decide)|decide
   omega;rcases zr h with rfl|rfl|rfl<;>first|exact absurd H.1 (by decide)|decide
   refine⟨(X+1),?_⟩;try dsimp only
   apply aZo;omega;rfl;rcases zr h with rfl|rfl|rfl<;>first|exact absurd H.1 (by decide)|decide
   omega
   iterate 2
    rcases zr h with rfl|rfl|rfl<;>first|exact absurd H.1 (by decide)|decide
   rcases zr h with rfl|rfl|rfl<;>first|exact absurd H.1 (by decide)|decide
   intro n;apply la
   . intro F;with_reducible and_intros
     rcases zr h with rfl|rfl|rfl<;>first|exact absurd H.1 (by decide)|decide
     omega;rcases zr h with rfl|rfl|rfl<;>first|exact absurd H.1 (by decide)|decide
     omega;rcases zr h with rfl|rfl|rfl<;>first|exact absurd H.1 (by decide)|decide
     refine⟨(X+1),?_⟩;try dsimp only
     apply aZo;omega;rfl;rcases zr h with rfl|rfl|rfl<;>first|exact absurd H.1 (by decide)|decide
     omega
     iterate 2
      rcases zr h with rfl|rfl|rfl<;>first|exact absurd H.1 (by decide)|decide
     rcases zr h with rfl|rfl|rfl<;>first|exact absurd H.1 (by decide)|decide
   intro I;apply la;rcases zr h with rfl|rfl|rfl<;>first|exact absurd H.1 (by decide)|decide
   rcases zr h with rfl|rfl|rfl<;>first|exact absurd H.1 (by decide)|decide
 apply SU
 (have e:=ge3 f k;subst e;decide)
 rfl
 (have e:=ge3 f k;subst e;decide)
 iterate 2 decide
def ax7(e:M (Int×Int×B8))(n w:Int)(h:0<=n/\n<e.length):aSi n (length e) (q0 (getD e (toNat n) (0,0,[])) (BK e n) (e=e/\n=n/\w=w)):=by
 refine au ?_;with_reducible and_intros
 iterate 2 omega
 iterate 6 rfl
def ax8(e:M (Int×Int×B8))(n w:Int)(l:M (Int×B8))(h:0<=n/\n<e.length):aSi n (length e) (q0 (getD e (toNat n) (0,0,[])) (BK e n) (e=e/\n=n/\w=w/\l=l)):=by
 refine au ?_;with_reducible and_intros
 iterate 2 omega
 iterate 7 rfl
def ax9(d:Int)(e:M (Int×Int×B8))(n w:Int)(H:e=kE/\n=0/\w=0):aSi n (length e:Int) (q76 (decide ((BK e n).1=-(1:Int))) (Rk (decide ((16:Int)<=w)) ((8:Int)=(0:Int)/\e=e/\n=(1:Int)/\w=(1:Int)/\aRi) (mC (w+(1:Int))) (mC (n+(1:Int))) (aHz (length [((0:Int),(BK e n).2.2)])) ((0:Int)=(0:Int)/\e=e/\n+(1:Int)=(1:Int)/\w+(1:Int)=(1:Int)/\[((0:Int),(BK e n).2.2)]=jK)) (q76 (decide ((BK e n).1=(40:Int))) (aVp (decide ((8:Int)<=d)) ((8:Int)=(0:Int)/\e=e/\n=(1:Int)/\w=(1:Int)/\aRi) n (1:Int) False) (eN (decide ((BK e n).1=(33:Int))) ((9:Int)=(0:Int)/\e=e/\n=(1:Int)/\w=(1:Int)/\aRi) ((2:Int)=(0:Int)) (e=e) (n=(1:Int)/\w=(1:Int)/\aRi)))):=by
 refine au ?_;obtain⟨q,Q,a⟩:=H;subst q;subst Q;apply cj2;omega;decide
 . intro c;apply la;grind;intro f;with_reducible and_intros
   iterate 4 omega
   decide;iterate 2 rfl
   iterate 2 omega
   decide
 intro h;simp at h;refine V.dI (λg=>?_) λi=>?_;refine V.dI (λj=>?_) λk=>?_;apply aZ4;exact absurd rfl h;rfl;iterate 3 exact absurd rfl h
 apply cj3;iterate 2 omega
 exact absurd rfl h;refine V.dI (λl=>?_) λF=>?_;apply aZ4;exact absurd rfl h;rfl;iterate 3 exact absurd rfl h
 apply aZ4;exact absurd rfl h;rfl;iterate 3 exact absurd rfl h
def aya(d:Int)(e:M (Int×Int×B8))(n w:Int)(h:e=kE/\n=0/\w=0):(e=kE/\n=0/\w=0)/\q85 (aI5 0) ((0:Int)=0/\e=e/\(1:Int)=1/\a0v 1) (∃(x:Nat),(e=e/\(1:Int)=1/\a0v 1)/\x=0) (∀(X:Nat),X=0->aSi 1 (length e) (q76 (decide ((BK e 1).1=38)) (mC (1+1)/\False) (eN (decide ((BK e 1).1=33)) (mC (1+1)/\False) aWs (e=e) ((1:Int)=1/\a0v 1)))):=by
 refine au ?_;obtain⟨q,Q,a⟩:=h;subst q;subst Q;subst a;apply SU;iterate 3 rfl
 grind;intro f;apply la;grind;intro g i;apply cj2;omega;decide;intro H;apply cj3;iterate 2 omega
 exact absurd H (by decide);intro j;apply la;intro c;apply cj3;iterate 2 omega
 exact absurd c (by decide);grind
def ayb(d:Int)(e:M (Int×Int×B8))(n w:Int)(h:e=kE/\n=0/\w=0):(e=kE/\n=0/\w=0)/\q85 (aI5 0) ((0:Int)=0/\e=e/\(1:Int)=1/\a0v 1) (∃(x:Nat),(e=e/\(1:Int)=1/\a0v 1)/\x=0) (∀(X:Nat),X=0->aSi 1 (length e) (eN (decide ((BK e 1).1=124)) (mC (1+1)/\False) aWs (e=e) ((1:Int)=1/\a0v 1))):=by
 refine au ?_;obtain⟨q,Q,a⟩:=h;subst q;subst Q;subst a;apply SU;iterate 3 rfl
 grind;intro c;apply la;grind;intro f g;apply cj2;omega;decide;intro H;apply cj3;iterate 2 omega
 exact absurd H (by decide);grind
def ayc(b:B8)(a:b=yo):Rk (aZ2 2000 b) (aRi/\(0:Int)=0/\(8:Int)=0) (b=yo) (kE=kE/\(0:Int)=0/\aWs) (anS (alU 0) (jz 0 1 (length kE))) (q85 (anP (a2o 0 1 2)) (jz 0 (bif alU 0 then 1 else 1) (length (bif alU 0 then kE else kE))/\aRi/\(BK (bif alU 0 then kE else kE) (bif alU 0 then 1 else 1)).2.1=0/\a2o 0 1 2=0) ((bif alU 0 then jK else jK)=jK) ((0:Int)=0/\aWs)):=by
 refine au ?_;subst a;refine V.dI (λh=>?_) λc=>?_;apply cj1;exact absurd h (by decide);rfl;exact absurd h (by decide);with_reducible and_intros
 iterate 4 rfl
 intro d;apply la;omega;decide;grind;intro H;simp at H;apply cj8;iterate 2 decide
 iterate 2 (exact absurd (by decide) H)
 decide;grind
def ayf(l:M (Int×B8))(H:Vg.jE J.UO l):(∃(X:Nat),(0:Int)=X/\GH l X)/\(∀(x:Nat),GH l x->q76 (decide ((x:Int)<length l)) (aWr 0 x (length l) (aZ2 200 (getD l (toNat x) (0,[])).2) (true=oc l) 1 (∃(a:Nat),aVk x a (GH l a) (S.len l))) (decide ((60:Int)<length l)=oc l)):=by
 refine au ?_;have B:Vg.hlen l:=H.1.1;apply la;refine⟨(nat_lit 0:Nat),?_⟩;dsimp only;apply la;omega;exact⟨Nat.zero_le _,z!⟩;intro X c;apply la;intro h;simp only[dt] at h;apply cj2;iterate 2 omega
 intro d;simp at d;exact avT h (by assumption);intro e;simp only[df,tn] at e;apply cj3;iterate 2 omega
 refine⟨(X+nat_lit 1),?_⟩;dsimp only;apply cj1;omega;exact apS c h (by assumption);grind[af,S.len];grind[df,avU]
def ayg(v:Int)(d:Bool)(l:B8)(h:l.length<=35184372088832):bY aUQ/\aYE l (mq aUQ v)/\q81 (anP (yW v)) d=oA d (jL v)/\l++mq aUQ v=xQ l (jL v):=by
 refine au ?_;apply cj4;grind;grind[av1];grind[aNz];rw[aNy v];rfl
def ayh(b:B8)(m:Int)(d:Bool)(l:B8)(H:l.length<=35184372088832/\b.length<=1099511627776):Rk (aZ2 m b) (true=oA d (gn b m)/\l=xQ l (gn b m)) (oR aUQ b) (aYE l ([]++S.text b)) (d=oA d (gn b m)) (l++([]++S.text b)=xQ l (gn b m)):=by
 refine au ?_;refine V.dI (λh1=>?_) λh=>?_;apply la;rw[afn h1];exact(Bool.or_true d).symm;rw[afn h1];exact(B? l).symm;apply cj4;exact⟨S! _,w!⟩;have:=ap3 b;simp;omega;rw[ap8 h];exact(Bool.or_false d).symm;rw[ap8 h];rfl
def ayi(y:Int)(Y:B8)(a:M (Int×Int×Int×B8))(d:Bool)(l:B8)(h:l.length<=35184372088832):cV (eN (anP (hW y Y a).2) (true=oA d (kL y Y a)/\l=xQ l (kL y Y a)) (bY l/\qi (hW y Y a).1) (oA d (gn (hW y Y a).1 10000)=oA d (kL y Y a)) (xQ l (gn (hW y Y a).1 10000)=xQ l (kL y Y a))):=by
 refine au ?_;apply cj1;trivial;intro h1;simp at h1;apply la;rw[ap9 h1];exact(Bool.or_true d).symm;rw[ap9 h1];exact(List.append_nil l).symm;grind[av3]
def ayj(p:O)(d:Bool)(l:B8)(i:l.length<=17592186044416):eN (decide (64<mB p)) (true=oA d (jb p)/\l=xQ l (jb p)) (bY l) (∃(a:Nat),((0:Int)=a/\oA d (jL (mB p))=d/\xQ l (jL (mB p))=l++iv p a)/\aqZ p a) (∀(x:Nat),aqZ p x->q85 (decide (x<mB p)) (aSi x (mB p) (eN (q72 (length (ap2 p x)) 32) (true=oA d (jb p)/\l++iv p x=xQ l (jb p)) (a04 (l++iv p x) (length (ap2 p x))) (mC (x+1)) (∃(X:Nat),aPz x X (d=d/\l++iv p x++ap2 p x=l++iv p X) (aqZ p X) (S.len p)))) (d=oA d (jb p)) (l++iv p x=xQ l (jb p))):=by
 refine au ?_;refine V.dI (λh1=>?_) λg=>?_;apply la;rw[ap4 h1];exact(Bool.or_true d).symm;rw[ap4 h1];exact(List.append_nil l).symm;apply cj1;omega;refine⟨(nat_lit 0:Nat),?_⟩;dsimp only;apply a06;omega;rw[WJ w!];exact Bool.or_false d;grind[WJ,iv,S.bytesOf];exact aNw g;intro X h;refine V.dI (λH=>?_) λf=>?_;apply cj2;iterate 2 omega
 intro c;simp at c;apply la;rw[afh h H c];exact(Bool.or_true d).symm;rw[afh h H c];rfl;intro e;simp only[nf,dt,tn] at e;apply aZn;have q:=avZ h;rw[J!,tn];omega;iterate 2 omega
 refine⟨(X+nat_lit 1),?_⟩;dsimp only;apply SU;omega;rfl;rw[tn,List.append_assoc,(S.Ï h H e).2];exact(S.Ï h H e).1;simp[af,S.len];omega;apply la;rw[afi h f];exact(Bool.or_false d).symm;rw[afi h f];rfl
def ayk(c:Int)(p P a:B8)(e:O)(f:B8)(d:Bool)(l:B8)(h:l.length<=8796093022208/\f.length<=1099511627776):bY l/\cV (Rk (anP (kJ p P a)) (true=oA d (aof (c,p,P,a,e,f))/\xQ l (jL c)=xQ l (aof (c,p,P,a,e,f))) (bY (xQ l (jL c))/\qi (dw p P a)) (a3j (xQ (xQ l (jL c)) (gn (dw p P a) 200))) (bY (xQ (xQ (xQ l (jL c)) (gn (dw p P a) 200)) (jb e))/\qi f) (oA (oA (oA (oA d (jL c)) (gn (dw p P a) 200)) (jb e)) (gn f 4000)=oA d (aof (c,p,P,a,e,f))/\xQ (xQ (xQ (xQ l (jL c)) (gn (dw p P a) 200)) (jb e)) (gn f 4000)=xQ l (aof (c,p,P,a,e,f)))):=by
 refine au ?_;have A:=Qv c;have g:=zu (dw p P a) (m:=200) (by decide);have i:=Qw e;have j:=av4 p P a;apply cj4;omega;trivial;intro h1;simp at h1;apply la;rw[afo h1];exact(Bool.or_true d).symm;rw[afo h1];rfl;grind[S.bytesOf,List.length_append,aqa,oA,S.cat,Bool.or_assoc,List.append_assoc]
def ayl(d:Bool)(l:B8):q76 d ([]=Fv (l,d)/\1=Fw (l,d)) (q85 (aZ2 1048576 l) ([]=Fv (l,d)/\3=Fw (l,d)) (l=Fv (l,d)) (0=Fw (l,d))):=by
 refine au ?_;simp_all[dt,Fv,R!,Q!,Fw,df]
def aym(c:Int)(d:B8)(A:M (Int×Int×Int×B8))(a:M (M (Int×B8×B8×B8×O×B8)))(v:zt a)(s:Vg.jE J.MC (c,d,A,a)):bY [1]/\q85 (q72 (length a) (length A)) (aVj (xF c d A a) 1) (∃(j:Nat),((0:Int)=j/\oA false (kL c d A)=mU (gj c d A a j)/\xQ [1] (kL c d A)=S.bytesOf (gj c d A a j))/\oV A a j) (∀(X:Nat),oV A a X->aVq (decide ((X:Int)<length a)) (aSi X (length a) (eN (decide (16<aaH a X)) (aVj (xF c d A a) 1) (bY (S.bytesOf (gj c d A a X))) (∃(f:Nat×Nat),((0:Int)=f.1/\oA (mU (gj c d A a X)) (jL (aaH a X))=mU (gE c d A a f.2 f.1)/\xQ (S.bytesOf (gj c d A a X)) (jL (aaH a X))=S.bytesOf (gE c d A a f.2 f.1))/\arN A a f.2 f.1/\(X:Int)=f.2) (∀(x:Nat×Nat),arN A a x.2 x.1/\(X:Int)=x.2->aVp (decide (x.1<aaH a X)) (jz 0 x.1 (aaH a X)/\(length (S.bytesOf (gE c d A a x.2 x.1))<=8796093022208/\qi (aYm a X x).2.2.2.2.2)/\mC (x.1+1)/\(∃(h:Nat×Nat),aUT (x.1+1) h.1 (oA (mU (gE c d A a x.2 x.1)) (A3 a X x)=mU (gE c d A a h.2 h.1)/\xQ (S.bytesOf (gE c d A a x.2 x.1)) (A3 a X x)=S.bytesOf (gE c d A a h.2 h.1)) (arN A a h.2 h.1/\(X:Int)=h.2) (S.len (aks a h.2)) (af (S.len (aks a x.2)) x.1))) X 1 (∃(k:Nat),aPz X k (mU (gE c d A a x.2 x.1)=mU (gj c d A a k)/\S.bytesOf (gE c d A a x.2 x.1)=S.bytesOf (gj c d A a k)) (oV A a k) (S.len a))))) (a3l (xF c d A a) (S.bytesOf (gj c d A a X),mU (gj c d A a X)))):=by
 refine au ?_;have t:Vg.hlen A:=s.2.2.1.1;apply cj1;decide;grind[nt,df,aGR];intro u;simp at u;apply la;refine⟨(nat_lit 0:Nat),?_⟩;dsimp only;apply a06;omega;iterate 2 rfl
 grind[aNx];intro f l;refine V.dI (λm=>?_) λK=>?_
 . apply cj2;iterate 2 omega
   intro o;try simp at o
   apply la;rw[afk m o];rw[afk m o];intro r;try simp only[df,tn] at r
   apply cj1;exact Nat.le_trans (afm (n:=c) (g:=d) l) (by decide);refine⟨((nat_lit 0:Nat),(f)),?_⟩;try dsimp only
   apply SU;omega
   iterate 2
    rw[tn,WJ w!];rfl
   exact aGQ l m r;with_reducible rfl
   intro i H;apply la
   . intro F;try simp only[dt,tn] at F
     apply a11;omega;assumption;exact b? (ap7 (n:=c) (g:=d) H.1) (by decide);obtain⟨q,e⟩:=H;have E:i.2=f:=by omega
     rw[E] at q;exact ap6 q F;iterate 2 omega
     refine⟨((Prod.fst i+nat_lit 1),(f)),?_⟩;try dsimp only
     with_reducible and_intros
     omega;obtain⟨q,e⟩:=H;have E:i.2=f:=by omega
     rw[E,tn,tn];exact(aEB _ rfl _ _ rfl rfl).1;obtain⟨q,e⟩:=H;have E:i.2=f:=by omega
     rw[E,tn,tn];exact(aEB _ rfl _ _ rfl rfl).2;obtain⟨q,e⟩:=H;have E:i.2=f:=by omega
     rw[E] at q;exact ap5 q F;with_reducible rfl
     obtain⟨q,e⟩:=H;have E:i.2=f:=by omega
     rw[E];have w:(i.1:Int)<((aks a f).length:Int):=F;simp only[af,S.len];omega
   intro I;try simp only[df,tn] at I
   apply cj3;iterate 2 omega
   refine⟨(f+nat_lit 1),?_⟩;try dsimp only
   apply SU;omega
   iterate 2
    obtain⟨q,e⟩:=H;have E:i.2=f:=by omega
    rw[E] at q |-;rw[(afj (n:=c) (g:=d) q I).2]
   obtain⟨q,e⟩:=H;have E:i.2=f:=by omega
   rw[E] at q;exact(afj (n:=c) (g:=d) q I).1;simp only[af,S.len];omega
 apply cj1;trivial;rw[afl l K];rfl;rw[afl l K];rfl
def ayn(p:Int)(P:B8)(a:M (Int×Int×Int×B8))(d:Int)(c:B8)(e:O)(h:c.length<=1099511627776):bY [2]/\bY (xQ [2] (kL p P a))/\(bY (xQ (xQ [2] (kL p P a)) (jL d))/\qi c)/\a3j (xQ (xQ (xQ [2] (kL p P a)) (jL d)) (gn c 2000))/\cV (a3l (Kw p P a d c e) (xQ (xQ (xQ (xQ [2] (kL p P a)) (jL d)) (gn c 2000)) (jb e),oA (oA (oA (oA false (kL p P a)) (jL d)) (gn c 2000)) (jb e))):=by
 refine au ?_;have A:=Uu p P a;have f:=Qv d;have g:=zu c (m:=2000) (by decide);with_reducible and_intros
 grind;iterate 2 (grind[S.bytesOf,List.length_append,List.length_singleton])
 omega;grind[S.bytesOf,List.length_append,List.length_singleton];trivial;iterate 2 rfl
def a7k(s:Int)(a:B8)(c:M (Int×Int×Int×B8))(d:Int)(e:B8)(f:M (Int×Int×Int×B8))(g:O):bY [3]/\bY (xQ [3] (kL s a c))/\a3j (xQ (xQ [3] (kL s a c)) (kL d e f))/\cV (a3l (aYI s a c d e f g) (xQ (xQ (xQ [3] (kL s a c)) (kL d e f)) (jb g),oA (oA (oA false (kL s a c)) (kL d e f)) (jb g))):=by
 refine au ?_;have A:=Uu s a c;have h:=Uu d e f;apply a0M;grind;iterate 2 (grind[S.bytesOf,List.length_append,List.length_singleton])
 trivial;iterate 2 rfl
def ayo(b:B8)(c:UInt8)(h:jd b c=0):q76 (decide (1048576<q99 b)) (False/\(3:Int)=0/\False) (q85 (alU (q99 b)) (False/\(4:Int)=0/\False) ((0:Int)<=0/\0<q99 b) (Rk (q72 (aTm b 0 0) (a0s c)) (False/\(2:Int)=0/\False) (0=0) aWs (b=b) ((1:Int)=1/\aWs))):=by
 refine au ?_;apply la;intro H;simp_all[dt,afp]
 intro a;apply la;intro d;simp_all[dt,afq]
 grind[df,nt,aqb]
def ayp(b:B8)(c:UInt8)(H:¬jd b c=0):q76 (decide (1048576<q99 b)) (3=jd b c) (q85 (alU (q99 b)) (4=jd b c) ((0:Int)<=0/\0<q99 b) (q85 (q72 (aTm b 0 0) (a0s c)) (2=jd b c) False (0=jd b c))):=by
 refine au ?_;apply la;simp_all[dt,afp]
 intro a;apply la;simp_all[dt,afq]
 intro h;simp only[df] at h;apply cj2;iterate 2 omega
 grind[nt,df,aqb];intro d;simp_all[nf,dt,aGT]
def ayq(r:B8)(R a:Int)(h:r.length<=140737488355328):wK r/\(ag r R a).2=(ag r R a).2/\(ag r R a).1.1=r/\q7 (ag r R a).1.2 (ag r R a).1.2:=by
 refine au ?_;grind[Ek]
def ayr(m:Int)(r:B8)(R a:Int)(h:r.length<=140737488355328):wK r/\(ao r R a m).2=(ao r R a m).2/\(ao r R a m).1.1=r/\q7 (ao r R a m).1.2 (ao r R a m).1.2:=by
 refine au ?_;grind[CV]
def ays(m:Int)(r:B8)(R a:Int)(h:r.length<=140737488355328):wK r/\eN (decide (m<(ag r R a).2)) (0=(fj r R a m).2/\r=r/\(ag r R a).1.2.1=(fj r R a m).1.1/\2=(fj r R a m).1.2) ((ag r R a).2=(fj r R a m).2) (r=r) (q2 (ag r R a).1.2 (fj r R a m).1):=by
 refine au ?_;simp_all[dt,av6,df,aGU]
def ayt(r:B8)(R a:Int)(h:r.length<=140737488355328):wK r/\q85 (anP (ao r R a 10000).1.2.2) (0=(ajM r R a).2.1/\[]=(ajM r R a).2.2.1/\[]=(ajM r R a).2.2.2/\r=r/\q2 (ao r R a 10000).1.2 (ajM r R a).1) (wK (ao r R a 10000).2) (q4 (hR (ao r R a 10000).2).1 (ajM r R a).2 (r=r/\(ao r R a 10000).1.2.1=(ajM r R a).1.1/\(hR (ao r R a 10000).2).2=(ajM r R a).1.2)):=by
 refine au ?_;apply cj1;omega;grind[nt,df,aGV];grind[I5,av7]
def ayu(r:B8)(R a:Int)(h:r.length<=140737488355328):wK r/\q85 (anP (ao r R a 200).1.2.2) ([]=(lI r R a).2.1/\[]=(lI r R a).2.2.1/\[]=(lI r R a).2.2.2/\r=r/\q2 (ao r R a 200).1.2 (lI r R a).1) (wK (ao r R a 200).2) ((bg (ao r R a 200).2).1.1=(lI r R a).2.1/\(bg (ao r R a 200).2).1.2.1=(lI r R a).2.2.1/\(bg (ao r R a 200).2).1.2.2=(lI r R a).2.2.2/\r=r/\(ao r R a 200).1.2.1=(lI r R a).1.1/\(bg (ao r R a 200).2).2=(lI r R a).1.2):=by
 refine au ?_;apply cj1;omega;grind[nt,df,aGW];grind[I5,av8]
def ayv(r:B8)(R a:Int)(f:r.length<=140737488355328):wK r/\(∃(X:Nat),((0:Int)=X/\[]=(iw r R a X).2/\r=r/\(fj r R a 64).1.1=(iw r R a X).1.1/\(fj r R a 64).1.2=(iw r R a X).1.2)/\cC X (qT r R a))/\(∀(x:Nat),cC x (qT r R a)->eN (decide (x<(fj r R a 64).2)) (wK r/\aZf (iw r R a x).2 [(a0x r R a x).2]/\mC (x+1)/\(∃(c:Nat),a0t x c ((iw r R a x).2++[(a0x r R a x).2]=(iw r R a c).2/\(a0x r R a x).1.1=r/\q2 (a0x r R a x).1.2 (iw r R a c).1) (qT r R a))) ((iw r R a x).2=(aur r R a).2) (r=r) ((iw r R a x).1.1=(aur r R a).1.1/\(iw r R a x).1.2=(aur r R a).1.2)):=by
 refine au ?_;apply cj1;omega;refine⟨(nat_lit 0:Nat),?_⟩;dsimp only;apply a14;omega;iterate 4 rfl
 exact S! _;intro X h;refine V.dI (λd=>?_) λH=>?_;apply aZi;omega;have:=WK r R a X;have:=WL r R a;have q:X<=qT r R a:=h
 rw[J?];omega;omega;have:=WL r R a;have q:X<=qT r R a:=h
 omega;refine⟨(X+nat_lit 1),?_⟩;dsimp only;apply aZo;omega;exact rfl;exact(Ek _ _ _).2;iterate 2 exact rfl
 exact aao d;have e:qT r R a=(fj r R a 64).2.toNat:=rfl;simp[af];omega;apply cj4;have e:=Qx h H;rw[e];rfl;rfl;have e:=Qx h H;rw[e];rfl;have e:=Qx h H;rw[e];rfl
def ayw(r:B8)(R a:Int)(h:r.length<=140737488355328):wK r/\wK r/\wK r/\wK r/\(ag r R a).2=(jc r R a).2.1/\(KP r R a).2.1=(jc r R a).2.2.1/\(KP r R a).2.2.1=(jc r R a).2.2.2.1/\(KP r R a).2.2.2=(jc r R a).2.2.2.2.1/\(aZM r R a).2=(jc r R a).2.2.2.2.2.1/\(ao r (aZM r R a).1.1 (aZM r R a).1.2 4000).2=(jc r R a).2.2.2.2.2.2/\r=r/\q2 (ao r (aZM r R a).1.1 (aZM r R a).1.2 4000).1.2 (jc r R a).1:=by
 refine au ?_;with_reducible and_intros
 iterate 4 omega
 iterate 9 rfl
def ayx(b:B8)(i:b.length<=140737488355328/\jd b 1=0):jd b 1=0/\eN (aI5 0) (q44 (aI b) 0 [] [] [] 0) (wK b) (∃(f:Nat),((0:Int)=f/\b=b/\q45 (ajM b 1 0).1 (kp b f).1 (q4 (ajM b 1 0).2 (aH b).2 ([]=(kp b f).2)))/\cC f (aN b)) (∀(c:Nat),cC c (aN b)->aVq (decide ((c:Int)<length (ajM b 1 0).2.2.2)) (wK b/\(∃(x:Nat×Nat),((0:Int)=x.1/\[]=(I4 b x.2 x.1).2/\b=b/\q45 (fj b (kp b c).1.1 (kp b c).1.2 16).1 (I4 b x.2 x.1).1 (q4 (aH b).2 (aH b).2 ((kp b c).2=(kp b x.2).2)))/\(cC x.1 (qU b x.2)/\x.2+1<=aN b)/\(c:Int)=x.2)/\(∀(X:Nat×Nat),(cC X.1 (qU b X.2)/\X.2+1<=aN b)/\(c:Int)=X.2->eN (decide (X.1<(fj b (kp b c).1.1 (kp b c).1.2 16).2)) (wK b/\length (yy b X).2+length (RC b X)<=1353245080339/\mC (X.1+1)/\(∃(d:Nat×Nat),aUT (X.1+1) d.1 ((yy b X).2++RC b X=(I4 b d.2 d.1).2/\b=b/\q45 (aYl b X).1 (I4 b d.2 d.1).1 (q4 (aH b).2 (aH b).2 ((kp b X.2).2=(kp b d.2).2))) ((cC d.1 (qU b d.2)/\d.2+1<=aN b)/\(c:Int)=d.2) (qU b d.2) (af (qU b X.2) X.1))) (aHz (length (kp b X.2).2+length [(yy b X).2])) (mC (c+1)) (∃(a:Nat),a0t c a (b=b/\q45 (yy b X).1 (kp b a).1 (q4 (aH b).2 (aH b).2 ((kp b X.2).2++[(yy b X).2]=(kp b a).2))) (aN b)))) (q76 (anP (S.done b (kp b c).1.1 (kp b c).1.2)) (q44 (aI b) 0 [] [] [] (S.done b (kp b c).1.1 (kp b c).1.2)) (q44 (aI b) (aH b).2.1 (aH b).2.2.1 (aH b).2.2.2 (kp b c).2 0))):=by
 refine au ?_;have u:=i.2;apply cj1;omega;grind;intro j;apply cj1;omega
 . refine⟨(nat_lit 0:Nat),?_⟩;dsimp only;with_reducible and_intros
   omega;iterate 7 rfl
   exact S! _
 intro x g;refine V.dI (λH=>?_) λF=>?_
 . apply cj1;omega
   . refine⟨((nat_lit 0:Nat),(x)),?_⟩;try dsimp only
     with_reducible and_intros
     omega;exact rfl;rfl;iterate 2 exact rfl
     iterate 3 rfl
     with_reducible rfl
     exact S! _;exact WM H;with_reducible rfl
   intro a h;refine V.dI (λk=>?_) λl=>?_
   . apply aZi;omega;rw[av9,J?];have:=aqd b a.2;have :a.1<=qU b a.2:=h.1.1
     omega;omega;have:=aqd b a.2;have :a.1<=qU b a.2:=h.1.1
     omega;refine⟨((Prod.fst a+nat_lit 1),(x)),?_⟩;try dsimp only
     with_reducible and_intros
     omega;have e:a.2=x:=by have:=h.2;omega
     rw[e];exact rfl;rfl
     iterate 2
      have e:a.2=x:=by have:=h.2;omega
      rw[e];exact rfl
     iterate 3 rfl
     have e:a.2=x:=by have:=h.2;omega
     rw[e];exact aao (by assumption);omega;with_reducible rfl
     have e:a.2=x:=by have:=h.2;omega
     rw[e];have q:=aao (by assumption);have w:qU b x=(fj b (kp b x).1.1 (kp b x).1.2 16).2.toNat:=rfl
     simp only[af];omega
   apply aZn;rw[awa,J?];have:=aap b;have:=h.1.2;omega
   omega;have:=aap b;have:=WM H;omega
   refine⟨(x+nat_lit 1),?_⟩;try dsimp only
   with_reducible and_intros
   omega;rfl
   iterate 2
    have e:a.2=x:=by have:=h.2;omega
    rw[e];have q:a.1=qU b x:=Qx (e▸h.1.1) (by assumption)
    rw[q];exact rfl
   iterate 3 rfl
   have e:a.2=x:=by have:=h.2;omega
   rw[e];have q:a.1=qU b x:=Qx (e▸h.1.1) (by assumption)
   rw[q];exact rfl;exact WM H;have:=WM H;simp only[af];omega
 apply cj1;trivial;intro I;simp at I;apply aZ4;iterate 4 (rw[aqe u (aaq g (by assumption)) (by assumption)])
 rw[aqe u (aaq g (by assumption)) (by assumption)];grind[aED,aaq]
def ayy(b:B8)(h:¬jd b 1=0):aYD (jd b 1=0) (q76 (anP (jd b 1)) (q44 (aI b) 0 [] [] [] (jd b 1)) False):=by
 refine au ?_;simp_all[nt,df,aEC,nf,dt]
def ayz(b:B8)(a:b.length<=140737488355328/\jd b 2=0):jd b 2=0/\q85 (aI5 0) (q46 (bx b) 0 [] [] 0 [] [] 0) (wK b) (wK b/\wK b/\wK b/\UT (anP (S.done b (AY b).1.1 (AY b).1.2)) (q46 (bx b) 0 [] [] 0 [] [] (S.done b (AY b).1.1 (AY b).1.2)) (q46 (bx b) (ajM b 1 0).2.1 (ajM b 1 0).2.2.1 (ajM b 1 0).2.2.2 (AZ b).2 (aav b).2 (AY b).2 0)):=by
 refine au ?_;have u:=a.2;apply cj1;omega;grind;intro c;apply a13;iterate 4 omega
 trivial;intro h;simp at h;apply a13;iterate 6 (rw[aqf u h])
 rw[aqf u h];rfl;intro H;simp at H;apply a13
 iterate 6
  rw[aqg u H];rfl
 rw[aqg u H]
def ayA(b:B8)(h:¬jd b 2=0):aYD (jd b 2=0) (q76 (anP (jd b 2)) (q46 (bx b) 0 [] [] 0 [] [] (jd b 2)) False):=by
 refine au ?_;simp_all[nt,df,aGX,nf,dt]
def aXn(b:B8)(a:b.length<=140737488355328/\jd b 3=0):jd b 3=0/\q85 (aI5 0) (q47 (S.Ě b) 0 [] [] 0 [] [] [] 0) (wK b) (wK b/\wK b/\UT (anP (S.done b (aZZ b).1.1 (aZZ b).1.2)) (q47 (S.Ě b) 0 [] [] 0 [] [] [] (S.done b (aZZ b).1.1 (aZZ b).1.2)) (q47 (S.Ě b) (ajM b 1 0).2.1 (ajM b 1 0).2.2.1 (ajM b 1 0).2.2.2 (RD b).2.1 (RD b).2.2.1 (RD b).2.2.2 (aZZ b).2 0)):=by
 refine au ?_;have u:=a.2;apply cj1;omega;grind;intro c;apply a0M;iterate 3 omega
 trivial
 . intro h;simp at h;with_reducible and_intros
   iterate 7 (rw[S.str_1 u h])
   rw[S.str_1 u h];rfl
 intro H;simp at H;with_reducible and_intros
 iterate 7
  rw[aVS u H];rfl
 rw[aVS u H]
def aXo(b:B8)(h:¬jd b 3=0):aYD (jd b 3=0) (q76 (anP (jd b 3)) (q47 (S.Ě b) 0 [] [] 0 [] [] [] (jd b 3)) False):=by
 refine au ?_;simp_all[nt,df,aYY,nf,dt]
def ayD(y:Int)(Y:B8)(a:M (Int×Int×Int×B8)):cV (q85 (anP (hW y Y a).2) (aVj (qV y Y a) (hW y Y a).2) (az (hW y Y a).1) (l7 3 (hW y Y a).1=(qV y Y a).1/\0=(qV y Y a).2)):=by
 refine au ?_;simp_all[nt,df,aGZ,nf,dt,awc]
def ayE(a b:B8):decide (a=b)=Qy a b:=by
 rfl
def ayF(y:O)(Y:M (Int×Int×M (B8×U))):cV (aVq (anP (gI y Y).2) (aVj (fk y Y) 7) (q43 (qV (gI y Y).1.1 (gI y Y).1.2.1 (gI y Y).1.2.2) (fk y Y))):=by
 refine au ?_;simp_all[nt,df,aG0,nf,dt,awd]
def ayG(t:B8)(d:M (B8×U))(e:Int)(h:aW d/\aK d=true/\S.isTerm t=true/\e=0):(aW d/\S.small t)/\length (AW d t)<=1353245080339/\d=d/\(bif alU e then(wv d t).2 else e)=0/\AW d t=[aod d t]:=by
 refine au ?_;grind[Mv,List.length_singleton,Qs]
def ayH(t:B8)(d:M (B8×U))(e:Int)(l:M (Int×B8×B8×B8×O×B8))(h:aW d/\aK d=true/\S.isTerm t=true/\e=0/\l.length<=100000):(aW d/\S.small t)/\length l+length (AX d t)<=1353245080339/\d=d/\(bif alU e then(wv d t).2 else e)=0/\l++AX d t=l++[aod d t]:=by
 refine au ?_;grind[Mv,List.length_singleton,Qs]
def ayI(d:M (B8×U))(e:Int)(t:O)(f:Qz d t/\e=0)(c:Vg.aEo J.aEZ d)(h:Vg.fD.ok J.aEX (e,(t,()))):(∃(X:Nat),((0:Int)=X/\d=d/\[]=sd d t X/\e=0/\t=t)/\dX t X)/\(∀(x:Nat),dX t x->eN (decide (x<mB t)) (jz 0 x (mB t)/\(aW d/\aK d/\S.isTerm (ap2 t x)/\(0:Int)=0/\length (sd d t x)<=100000)/\aVg x (∃(a:Nat),aPz x a (d=d/\sd d t x++[aod d (ap2 t x)]=sd d t a/\(0:Int)=0/\t=t) (dX t a) (S.len t))) (sd d t x=SQ d t) aWs (t=t)):=by
 refine au ?_;have A:Vg.hlen d:=c.1.1;have g:Vg.hint e:=h.1.1;have i:Vg.hlen t:=h.2.1.1.1;clear c h;obtain⟨u,q⟩:=f;subst q;apply la;refine⟨0,?_⟩;try dsimp only
 apply a14;omega;iterate 4 rfl
 exact S! _;intro X j;apply la
 . intro H;try simp only[dt] at H
   with_reducible and_intros
   iterate 2 omega
   exact u.1;exact u.2.1;exact aG1 u H;rfl;have:=awe d t X;have:=u.2.2.1;omega
   iterate 2 omega
   refine⟨(X+1),?_⟩;try dsimp only
   apply aZo;omega;rfl;exact aql H;iterate 2 rfl
   unfold dX;omega;simp only[af,S.len];omega
 grind[df,awf]
def ayJ(Y:O)(y:M (Int×Int×M (B8×U)))(l:M (Int×B8))(e:dq l)(f:Vg.jE J.arw (Y,y,l)):cV (q85 (anP (gI Y y).2) (aVj (rF Y y l) 7) (dq l) (eN (Bool.not (aZ l)) (aVj (rF Y y l) 1) (S.small l) (∃(X:Nat),((0:Int)=X/\(gI Y y).2=0/\al l=al l/\(gI Y y).1.1=S.len Y/\(gI Y y).1.2.1=S.root (S.leaves Y)/\(gI Y y).1.2.2=ya Y y/\[]=oB y (al l) X)/\dX y X/\cy Y y/\aZ l) (∀(x:Nat),mZ (dX y x/\cy Y y/\aZ l) (decide ((x:Int)<length y)) 0 x (length y) (Qz (getD y (toNat x) (0,0,[])).2.2 (al l)/\aWs) (aHz (length (oB y (al l) x)+length [SQ (getD y (toNat x) (0,0,[])).2.2 (al l)])/\mC (x+1)/\(∃(a:Nat),aPz x a ((0:Int)=0/\al l=al l/\(S.len Y:Int)=S.len Y/\S.root (S.leaves Y)=S.root (S.leaves Y)/\ya Y y=ya Y y/\oB y (al l) x++[SQ (getD y (toNat x) (0,0,[])).2.2 (al l)]=oB y (al l) a) (dX y a/\cy Y y/\aZ l) (S.len y))) (q85 (aI5 0) (aVj (rF Y y l) 0) (zt (oB y (al l) x)) (q43 (xF (S.len Y) (S.root (S.leaves Y)) (ya Y y) (oB y (al l) x)) (rF Y y l)))))):=by
 refine au ?_;have w:Vg.hlen y:=f.2.1.1;apply cj1;trivial;grind[nt,df,aG2];intro H;simp at H;apply cj1;omega;grind[nt,awj];intro g;simp at g;apply cj1;exact e.1
 . refine⟨(nat_lit 0:Nat),?_⟩;dsimp only;with_reducible and_intros
   iterate 2 omega
   rfl;exact(uJ H).2.1;iterate 2 (simp_all[uJ])
   rfl;exact Nat.zero_le _;grind[uJ];omega
 intro c h;refine V.dI (λd=>?_) λi=>?_
 . with_reducible and_intros
   iterate 2 omega
   exact awi h.2.1 h.2.2 d;rfl;have:=awg y (al l) c;have:=Ux h.2.1;rw[J?];omega
   iterate 2 omega
   refine⟨(c+nat_lit 1),?_⟩;try dsimp only
   with_reducible and_intros
   omega;iterate 5 rfl
   exact aqm d;unfold dX;omega;exact h.2.1;omega;simp only[af,S.len];omega
 apply la;intro j;apply la;grind;grind;grind[awk]
def ayK(y:O)(Y:M (Int×Int×M (B8×U)))(i:Int):UT (anP (gI y Y).2) (aVj (oC y Y i) 7) (eN (Rl i 0 (mB y)) (aVj (oC y Y i) 5) (dj y) (eX (S.leaves y)) (eN (anP (tF (S.leaves y) i)) (aVj (oC y Y i) (tF (S.leaves y) i)) (jz 0 i (mB y)) (qi (ap2 y i)) (q43 (Kw (gI y Y).1.1 (gI y Y).1.2.1 (gI y Y).1.2.2 i (ap2 y i) (oz (S.leaves y) i)) (oC y Y i)))):=by
 refine au ?_;apply cj1;trivial;grind[nt,df,aG3];intro h;simp at h;apply la;simp_all[V.Nb,dt,awl]
 intro H;apply cj4;exact(GI (uJ h).1).1;exact(GI (uJ h).1).2.1;grind[nt,df,afv];grind[afv]
def a7l(y:O)(Y:M (Int×Int×M (B8×U)))(z:O)(Z:M (Int×Int×M (B8×U)))(e:Vg.jE J.aE1 (y,Y,z,Z)):cV (aVq (anP (gI y Y).2) (aVj (aRL y Y z Z) 7) (q76 (anP (gI z Z).2) (aVj (aRL y Y z Z) 7) (q85 (decide (mB z<mB y)) (aVj (aRL y Y z Z) 1) (∃(X:Nat),(0:Int)=X/\aWv y z X) (∀(x:Nat),aWv y z x->eN (decide (x<mB y)) (aSi x (mB y) (aSi x (mB z) (cV (aVp (Bool.not (Qy (yb y (toNat x)) (yb z (toNat x)))) (aVj (aRL y Y z Z) 1) x 1 (∃(d:Nat),aVk x d (aWv y z d) (S.len y)))))) (dj z) (eX (S.leaves z)) (aVq (anP (aUY (S.leaves z) (mB y))) (aVj (aRL y Y z Z) (aUY (S.leaves z) (mB y))) (q43 (aYI (gI y Y).1.1 (gI y Y).1.2.1 (gI y Y).1.2.2 (gI z Z).1.1 (gI z Z).1.2.1 (gI z Z).1.2.2 (ajK (S.leaves z) (mB y))) (aRL y Y z Z))))))):=by
 refine au ?_;have D:Vg.hlen y:=e.1.1;apply cj1;trivial;grind[nt,df,a5n];intro H;simp at H;apply cj1;trivial;grind[nt,df,a5n];intro h;simp at h;apply la;simp_all[dt,a1f,a6K]
 intro g;simp at g;apply la;grind[ban];intro j a;refine V.dI (λc=>?_) λk=>?_
 . with_reducible and_intros
   iterate 4 omega
   trivial;intro f;try simp only[nt] at f
   apply la;rw[a1f H h (a2X a c f)];rw[a1f H h (a2X a c f)];intro i;try simp only[nf] at i
   apply cj3;iterate 2 omega
   refine⟨(j+1),?_⟩;try dsimp only
   apply cj1;omega;exact a5o a c i;simp only[af,S.len];omega
 apply cj4;exact(GI (uJ h).1).1;exact(GI (uJ h).1).2.1;intro o;simp at o;apply la;exact absurd (a1g H h (a1h a k)).2 o;exact absurd (a1g H h (a1h a k)).2 o;grind[a1g,a1h]
def ayM(i n:Int)(H:ob i n):(∃(X:Int×Int×M Bool),(i=X.1/\n=X.2.1/\[]=X.2.2)/\j4 i n X)/\(∀(x:Int×Int×M Bool),j4 i n x->q76 (aXb x.2.1) (cV (eN (decide (x.1<S.split x.2.1)) (cE (length x.2.2+length [false])/\(∃(a:Int×Int×M Bool),(x.1=a.1/\S.split x.2.1=a.2.1/\x.2.2++[false]=a.2.2)/\j4 i n a/\toNat a.2.1<toNat x.2.1)) (cE (length x.2.2+length [true])) (mC (x.1-S.split x.2.1)) (mC (x.2.1-S.split x.2.1)/\(∃(c:Int×Int×M Bool),(x.1-S.split x.2.1=c.1/\x.2.1-S.split x.2.1=c.2.1/\x.2.2++[true]=c.2.2)/\j4 i n c/\toNat c.2.1<toNat x.2.1)))) (x.2.2=cq i n)):=by
 refine au ?_;apply la;refine⟨((i),((n),([]))),?_⟩;grind[aNA];intro X d;apply la
 . intro e;apply cj1;trivial;intro f;apply la;grind[QA,lc,ln];refine⟨((X.1),((S.split (X.2.1)),(X.2.2++[Bool.false]))),?_⟩;grind[aNB,QA];intro h;simp at h;with_reducible and_intros
   grind[QA,lc,ln];omega;iterate 3 (grind[QA])
   refine⟨((X.1-S.split (X.2.1)),((X.2.1-S.split (X.2.1)),(X.2.2++[Bool.true]))),?_⟩;grind[aNC,QA]
 grind[df,S.sd_end]
def ayN(d:B8)(i n:Int)(p:O)(g:eX p)(h:Vg.jE J.aOw (d,i,n,p)):eN (q81 (aWa d) (arQ n 1 (arQ 1099511627776 n (Rl i 0 n)))) ([]=jO d i n p/\1=cB d i n p) (ob i n) (aVe (q72 (mB p) (arP i n))) (q85 (aPv (q72 (mB p) (arP i n)) (cP p)) ([]=jO d i n p/\6=cB d i n p) (∃(a:Nat),((0:Int)=a/\d=cL d i n p a)/\cB d i n p=0/\a<=S.len p) (∀(x:Nat),cB d i n p=0/\x<=S.len p->q85 (decide (x<mB p)) (mC (arP i n-1)/\aVL (arP i n-1-x) 0 (arP i n) (toNat (arP i n-1-x)) (arP i n) (((G4 i n x->aSi x (mB p) True)/\(G4 i n x=false->aSi x (mB p) True))/\mC (x+1)/\(∃(X:Nat),((x:Int)+1=X/\(bif G4 i n x then bz (ap2 p x) (cL d i n p x) else bz (cL d i n p x) (ap2 p x))=cL d i n p X)/\(cB d i n p=0/\X<=S.len p)/\q98 (S.len p) X x))) (cL d i n p x=jO d i n p) (0=cB d i n p))):=by
 refine au ?_;have A:Vg.hlen p:=h.2.2.2.1.1;apply la;grind[aG4];intro H;simp at H;apply cj9;grind[afw];iterate 2 grind
 grind[awn];intro c;simp at c;apply la;grind[aND,aG5];intro e j;apply la
 . intro f;simp at f;with_reducible and_intros
   iterate 7 omega
   iterate 2 grind
   iterate 2 omega
   refine⟨(e+nat_lit 1),?_⟩;dsimp only;apply cj6;omega
   ((exact S.Ð x! w!))
   omega;iterate 2 (grind[af,S.len])
 grind[df,aau,afw,auv,awo]
def ayO(b:B8)(u:b.length<=140737488355328):wK b/\q76 (anP (ag b 0 0).1.2.2) (nD (cu b) (ag b 0 0).1.2.2) (q85 (decide (1000<(ag b 0 0).2)) (nD (cu b) 2) (∃(c:Nat×Int×Int×Int×U),((0:Int)=c.1/\-1=c.2.2.2.1/\[]=c.2.2.2.2/\(ag b 0 0).1.1=b/\(ag b 0 0).1.2.1=c.2.1/\(ag b 0 0).1.2.2=c.2.2.1)/\wA b c.1 c.2) (∀(x:Nat×Int×Int×Int×U),wA b x.1 x.2->aVq (decide (x.1<(ag b 0 0).2)) (wK b/\eN (anP (tQ b x).1.2.2) (nD (cu b) (tQ b x).1.2.2) (mC (999-x.2.2.2.1)) (mC (999-x.2.2.2.1-1)) (Rk (decide (999-x.2.2.2.1-1<(tQ b x).2)) (nD (cu b) 2) (mC ((tQ b x).2+1)) (mC (x.2.2.2.1+((tQ b x).2+1))) (aYG x.2.2.2.2 [x.2.2.2.1+((tQ b x).2+1)]) (mC (x.1+1)/\(∃(a:Nat×Int×Int×Int×U),((x.1:Int)+1=a.1/\x.2.2.2.1+((tQ b x).2+1)=a.2.2.2.1/\x.2.2.2.2++[x.2.2.2.1+((tQ b x).2+1)]=a.2.2.2.2/\(tQ b x).1.1=b/\(tQ b x).1.2.1=a.2.1/\(tQ b x).1.2.2=a.2.2.1)/\wA b a.1 a.2/\q98 1000 a.1 x.1)))) (q76 (anP (S.done b x.2.1 x.2.2.1)) (nD (cu b) (S.done b x.2.1 x.2.2.1)) (x.2.2.2.2=(cu b).1/\0=(cu b).2)))):=by
 refine au ?_;apply cj1;grind;intro l;simp at l;apply la;exact(afE l).1;exact(afE l).2;intro i;simp at i;refine V.dI (λs=>?_) λt=>?_;apply la;exact(S.Ó i s).1;exact(S.Ó i s).2;apply la
 . refine⟨(0,(((((ag b (0:Int) (0:Int)).1).2).1),(((((ag b (0:Int) (0:Int)).1).2).2),(((-1:Int)),([]))))),?_⟩;with_reducible and_intros
   grind;iterate 2 rfl
   grind[Ek];iterate 2 rfl
   exact aNH i t
 intro X h;refine V.dI (λH=>?_) λk=>?_
 . apply cj1;omega;intro m;try simp only[nt,df] at m
   apply la;exact(afF h H m).1;exact(afF h H m).2;intro j;try simp only[nf,dt] at j
   apply cj7
   iterate 4
    (have q:=h.2.2.2.2.1;have Q:=h.2.2.2.2.2.1;have d:=h.2.2.2.2.2.2;have e:=h.2.2.1;have f:=qZ b X.2.1 X.2.2.1;have g:=h.1;omega)
   intro F;try simp only[dt] at F
   apply la;exact(afG h H j w!).1;exact(afG h H j w!).2;intro I;try simp only[df] at I
   with_reducible and_intros
   iterate 4
    (have q:=h.2.2.2.2.1;have Q:=h.2.2.2.2.2.1;have d:=h.2.2.2.2.2.2;have e:=h.2.2.1;have f:=qZ b X.2.1 X.2.2.1;have g:=h.1;omega)
   (have q:=h.2.2.2.2.1;have Q:=h.2.2.2.2.2.1;have d:=h.2.2.2.2.2.2;have e:=h.2.2.1;have f:=qZ b X.2.1 X.2.2.1;have g:=h.1;have n:(oe b).2=(ag b 0 0).2:=rfl;rw[J?];omega)
   (have q:=h.2.2.2.2.1;have Q:=h.2.2.2.2.2.1;have d:=h.2.2.2.2.2.2;have e:=h.2.2.1;have f:=qZ b X.2.1 X.2.2.1;have g:=h.1;omega)
   (have q:=h.2.2.2.2.1;have Q:=h.2.2.2.2.2.1;have d:=h.2.2.2.2.2.2;have e:=h.2.2.1;have f:=qZ b X.2.1 X.2.2.1;have g:=h.1;have n:(oe b).2=(ag b 0 0).2:=rfl;omega)
   refine⟨((X.1+1),(((((ag b (X.2.1) (X.2.2.1)).1).2).1),(((((ag b (X.2.1) (X.2.2.1)).1).2).2),((X.2.2.2.1+((ag b (X.2.1) (X.2.2.1)).2+(1:Int))),(X.2.2.2.2++[X.2.2.2.1+((ag b (X.2.1) (X.2.2.1)).2+(1:Int))]))))),?_⟩;try dsimp only
   with_reducible and_intros
   (have q:=h.2.2.2.2.1;have Q:=h.2.2.2.2.2.1;have d:=h.2.2.2.2.2.2;have e:=h.2.2.1;have f:=qZ b X.2.1 X.2.2.1;have g:=h.1;have n:(oe b).2=(ag b 0 0).2:=rfl;omega)
   iterate 2 with_reducible rfl
   exact(Ek b _ _).1;iterate 2 with_reducible rfl
   exact aqv h H j w!
   (have q:=h.2.2.2.2.1;have Q:=h.2.2.2.2.2.1;have d:=h.2.2.2.2.2.2;have e:=h.2.2.1;have f:=qZ b X.2.1 X.2.2.1;have g:=h.1;have n:(oe b).2=(ag b 0 0).2:=rfl;simp only[af];omega)
 apply cj1;trivial;intro o;simp at o;apply la;rw[Jg h k,R! o];rw[Jg h k,R! o];intro r;simp at r;apply la;rw[Jg h k,Q! r];rw[Jg h k,Q! r]
def ayP(n:Int)(p q:Bool):fU p q=Br p q:=by
 refine au ?_;grind[Br]
def ayQ(n:Int)(p q:Bool):q81 p q=QB p q:=by
 refine au ?_;rfl
def ayR(n:Int)(p q:Bool):fU p (Bool.not q)=Bs p q:=by
 refine au ?_;grind[Bs]
def ayS(a b:U):aYF (∃(i:U×U×U),a3p i a b Br) (∀(X:U×U×U),mG Br a b X->q76 (q81 (aRO (fK X.1)) (aRO (fK X.2.1))) (anS (aRO (fK X.1)) (Jw (alU (fK X.2.1)) 0 (fK X.1) (fK X.2.1))/\anS (aRO (fK X.2.1)) (Jw (alU (fK X.1)) 0 (fK X.2.1) (fK X.1))/\anS (aYR X) (gW 0 (fK X.1) 1)/\anS (aaZ X) (gW 0 (fK X.2.1) 1)/\UT (Br (aYR X) (aaZ X)) (aYG X.2.2 [Rn (aaZ X) (Dt X) (aYR X) (getD X.1 (toNat 0) 0) 0]/\(∃(c:U×U×U),q42 c (aVz (aYR X) 1 X.1) (aVz (aaZ X) 1 X.2.1) (X.2.2++[Rn (aaZ X) (Dt X) (aYR X) (getD X.1 (toNat 0) 0) 0])/\mG Br a b c/\je c<je X)) (∃(d:U×U×U),q42 d (aVz (aYR X) 1 X.1) (aVz (aaZ X) 1 X.2.1) X.2.2/\mG Br a b d/\je d<je X)) (X.2.2=AK a b)):=by
 refine au ?_;refine⟨trivial,trivial,⟨(tA a,tA b,[]),⟨Er a,Er b,rfl⟩,aqr ..⟩,λx h=>⟨λe=>?_,λe=>WQ rfl h e⟩⟩;have q:=aaz rfl h e;refine⟨⟨λf=>⟨λ_=>trivial,λj=>⟨⟨Int.le_refl _,of_decide_eq_true f⟩,Int.le_refl _,x!⟩⟩,λ_=>trivial⟩,⟨λf=>⟨λ_=>trivial,λj=>⟨⟨Int.le_refl _,of_decide_eq_true f⟩,Int.le_refl _,x!⟩⟩,λ_=>trivial⟩,⟨λH=>⟨⟨Int.le_refl _,(mw H).1⟩,by decide,(mw H).2⟩,λ_=>trivial⟩,⟨λH=>⟨⟨Int.le_refl _,(mw H).1⟩,by decide,(mw H).2⟩,λ_=>trivial⟩,trivial,λg=>⟨x!,(pK (jQ x.1 x.2.1) x.1,pK (jQ x.2.1 x.1) x.2.1,x.2.2++[Jd x.1 x.2.1]),⟨rfl,rfl,rfl⟩,q.2.1 g,q.2.2.2.1⟩,λg=>⟨(pK (jQ x.1 x.2.1) x.1,pK (jQ x.2.1 x.1) x.2.1,x.2.2),⟨rfl,rfl,rfl⟩,q.2.2.1 g,q.2.2.2.2⟩⟩
def ayT(a b:U):aYF (∃(i:U×U×U),a3p i a b QB) (∀(X:U×U×U),mG QB a b X->q76 (q81 (aRO (fK X.1)) (aRO (fK X.2.1))) (anS (aRO (fK X.1)) (Jw (alU (fK X.2.1)) 0 (fK X.1) (fK X.2.1))/\anS (aRO (fK X.2.1)) (Jw (alU (fK X.1)) 0 (fK X.2.1) (fK X.1))/\anS (aa1 X) (gW 0 (fK X.1) 1)/\anS (aa2 X) (gW 0 (fK X.2.1) 1)/\UT (QB (aa1 X) (aa2 X)) (aYG X.2.2 (rm X)/\(∃(c:U×U×U),q42 c (aVz (aa1 X) 1 X.1) (aVz (aa2 X) 1 X.2.1) (X.2.2++rm X)/\mG QB a b c/\je c<je X)) (∃(d:U×U×U),q42 d (aVz (aa1 X) 1 X.1) (aVz (aa2 X) 1 X.2.1) X.2.2/\mG QB a b d/\je d<je X)) (X.2.2=qX a b)):=by
 refine au ?_;refine⟨trivial,trivial,⟨(tA a,tA b,[]),⟨Er a,Er b,rfl⟩,aqr ..⟩,λx h=>⟨λe=>?_,λe=>WQ rfl h e⟩⟩;have q:=aaz rfl h e;refine⟨⟨λf=>⟨λ_=>trivial,λj=>⟨⟨Int.le_refl _,of_decide_eq_true f⟩,Int.le_refl _,x!⟩⟩,λ_=>trivial⟩,⟨λf=>⟨λ_=>trivial,λj=>⟨⟨Int.le_refl _,of_decide_eq_true f⟩,Int.le_refl _,x!⟩⟩,λ_=>trivial⟩,⟨λH=>⟨⟨Int.le_refl _,(mw H).1⟩,by decide,(mw H).2⟩,λ_=>trivial⟩,⟨λH=>⟨⟨Int.le_refl _,(mw H).1⟩,by decide,(mw H).2⟩,λ_=>trivial⟩,trivial,λg=>⟨x!,(pK (jQ x.1 x.2.1) x.1,pK (jQ x.2.1 x.1) x.2.1,x.2.2++[Jd x.1 x.2.1]),⟨rfl,rfl,rfl⟩,q.2.1 g,q.2.2.2.1⟩,λg=>⟨(pK (jQ x.1 x.2.1) x.1,pK (jQ x.2.1 x.1) x.2.1,x.2.2),⟨rfl,rfl,rfl⟩,q.2.2.1 g,q.2.2.2.2⟩⟩
def ayU(a b:U):aYF (∃(i:U×U×U),a3p i a b Bs) (∀(X:U×U×U),mG Bs a b X->q76 (q81 (aRO (fK X.1)) (aRO (fK X.2.1))) (anS (aRO (fK X.1)) (Jw (alU (fK X.2.1)) 0 (fK X.1) (fK X.2.1))/\anS (aRO (fK X.2.1)) (Jw (alU (fK X.1)) 0 (fK X.2.1) (fK X.1))/\anS (Rz X) (gW 0 (fK X.1) 1)/\anS (Ry X) (gW 0 (fK X.2.1) 1)/\UT (Bs (Rz X) (Ry X)) (aYG X.2.2 (sh X)/\(∃(c:U×U×U),q42 c (aVz (Rz X) 1 X.1) (aVz (Ry X) 1 X.2.1) (X.2.2++sh X)/\mG Bs a b c/\je c<je X)) (∃(d:U×U×U),q42 d (aVz (Rz X) 1 X.1) (aVz (Ry X) 1 X.2.1) X.2.2/\mG Bs a b d/\je d<je X)) (X.2.2=I8 a b)):=by
 refine au ?_;refine⟨trivial,trivial,⟨(tA a,tA b,[]),⟨Er a,Er b,rfl⟩,aqr ..⟩,λx h=>⟨λe=>?_,λe=>WQ rfl h e⟩⟩;have q:=aaz rfl h e;refine⟨⟨λf=>⟨λ_=>trivial,λj=>⟨⟨Int.le_refl _,of_decide_eq_true f⟩,Int.le_refl _,x!⟩⟩,λ_=>trivial⟩,⟨λf=>⟨λ_=>trivial,λj=>⟨⟨Int.le_refl _,of_decide_eq_true f⟩,Int.le_refl _,x!⟩⟩,λ_=>trivial⟩,⟨λH=>⟨⟨Int.le_refl _,(mw H).1⟩,by decide,(mw H).2⟩,λ_=>trivial⟩,⟨λH=>⟨⟨Int.le_refl _,(mw H).1⟩,by decide,(mw H).2⟩,λ_=>trivial⟩,trivial,λg=>⟨x!,(pK (jQ x.1 x.2.1) x.1,pK (jQ x.2.1 x.1) x.2.1,x.2.2++[Jd x.1 x.2.1]),⟨rfl,rfl,rfl⟩,q.2.1 g,q.2.2.2.1⟩,λg=>⟨(pK (jQ x.1 x.2.1) x.1,pK (jQ x.2.1 x.1) x.2.1,x.2.2),⟨rfl,rfl,rfl⟩,q.2.2.1 g,q.2.2.2.2⟩⟩
def ayV(a b:U):cV (AK a b=AK a b):=by
 refine au ?_;grind
def ayW(a b:U):cV (qX a b=qX a b):=by
 refine au ?_;grind
def ayX(a b:U):cV (I8 a b=I8 a b):=by
 refine au ?_;grind
def ayY(s:B8):Bool.not (decide (s=s))=false:=by
 grind
def ayZ(a b:B8):aST (aVe false) ((bif false then q81 (Bool.not false) (Op.bytesLess a b) else Op.bytesLess a b)=Op.bytesLess a b):=by
 refine au ?_;grind
def ay0(x:O)(t:B8)(H:yq x):(∃(a:Int×Int),(0=a.1/\mB x=a.2)/\qY x t a.1 a.2)/\(∀(X:Int×Int),qY x t X.1 X.2->eN (decide (X.1<X.2)) (mC (X.1+X.2)/\aRM 1 64 (mC (aWM X)/\aSi (aWM X) (mB x) (aST (anS (Op.bytesLess (ap2 x (aWM X)) t) (mC (aWM X+1))) (∃(c:Int×Int),((bif Op.bytesLess (ap2 x (aWM X)) t then aWM X+1 else X.1)=c.1/\(bif Op.bytesLess (ap2 x (aWM X)) t then X.2 else aWM X)=c.2)/\qY x t c.1 c.2/\aLW (c.2-c.1) (X.2-X.1))))) (anS (decide (X.1<mB x)) (aSi X.1 (mB x) (q85 (decide (ap2 x X.1=t)) True (jz 0 X.1 (mB x)) (cV (aVe false))))) ((bif decide (X.1<mB x) then bif decide (ap2 x X.1=t) then X.1 else bif false then X.1 else X.1 else X.1)=mH x t) (fU (decide (X.1<mB x)) (q81 (decide (ap2 x X.1=t)) (bif false then false else false))=Bt x t)):=by
 refine au ?_;apply la;refine⟨(((0:Int)),((↑(length x):Int))),?_⟩;apply cj3;iterate 2 rfl
 exact⟨Int.le_refl _,w!,Int.le_refl _,λk l=>by omega,λk l v=>by omega⟩;intro a h;refine V.dI (λd=>?_) λm=>?_
 . with_reducible and_intros
   iterate 2
    obtain⟨e,g,Q,f,i,j⟩:=Je H h d;omega
   iterate 2 omega
   iterate 3 grind
   obtain⟨e,g,Q,f,i,j⟩:=Je H h d;omega;trivial;intro o;apply la;grind;obtain⟨e,g,Q,f,i,j⟩:=Je H h d;omega;grind;refine⟨((bif Op.bytesLess (getD x (toNat ((a.1+a.2)%(18446744073709551616:Int)/(2:Int)^toNat (1:Int))) []) t then(a.1+a.2)%(18446744073709551616:Int)/(2:Int)^toNat (1:Int)+(1:Int) else Prod.fst a),(bif Op.bytesLess (getD x (toNat ((a.1+a.2)%(18446744073709551616:Int)/(2:Int)^toNat (1:Int))) []) t then Prod.snd a else(a.1+a.2)%(18446744073709551616:Int)/(2:Int)^toNat (1:Int))),?_⟩;apply cj2;iterate 2 rfl
   obtain⟨e,g,Q,f,i,j⟩:=Je H h d;rw[e];exact(aHa H h Q f).1;obtain⟨e,g,Q,f,i,j⟩:=Je H h d;grind
 apply cj2;intro n;simp at n;apply cj2;have q:=h.1;omega;omega;grind;intro r;apply cj8;have q:=h.1;omega;omega;trivial;iterate 2 grind
 grind;grind[afz];exact awq H h m
def ay1(s:B8)(t:O)(f:M U)(h:Df t f):yq t/\eN (Bool.not (Bt t s)) ([]=od t f s) (jz 0 (mH t s) (length f)) (S.small (aWV f (toNat (mH t s)))) (aWV f (toNat (mH t s))=od t f s):=by
 refine au ?_;apply cj1;exact h.1;grind[nt,awr];intro H;apply cj2;omega;have q:=(aaA h (s:=s) x!).1;omega;exact(aaA h x!).2.1;exact(aaA h x!).2.2
def ay2(s:B8)(l:M U)(h:sH l):a3n (aWE l-1) (aWE l-1-1) (aWE l) 0 (toNat (aWE l-1-1)) (aWE l) (toNat (aWE l-1)) [AK (aWV l (toNat (aWE l-1-1))) (aWV l (toNat (aWE l-1)))] l 1:=by
 refine au ?_;obtain⟨P,p⟩:=h;have a:l.length<=1099511627776:=p;have e:toNat ((l.length:Int)-1-1)=l.length-2:=by omega
 have E:toNat ((l.length:Int)-1)=l.length-1:=by omega
 with_reducible and_intros
 iterate 14 omega
 trivial;grind[List.length_singleton];rw[e,E];rfl
def ay3(s:B8)(l:M U)(h:sH l):a3n (aWG l-1) (aWG l-1-1) (aWG l) 0 (toNat (aWG l-1-1)) (aWG l) (toNat (aWG l-1)) [qX (aWV l (toNat (aWG l-1-1))) (aWV l (toNat (aWG l-1)))] l 2:=by
 refine au ?_;obtain⟨P,p⟩:=h;have a:l.length<=1099511627776:=p;have e:toNat ((l.length:Int)-1-1)=l.length-2:=by omega
 have E:toNat ((l.length:Int)-1)=l.length-1:=by omega
 with_reducible and_intros
 iterate 14 omega
 trivial;grind[List.length_singleton];rw[e,E];rfl
def ay4(s:B8)(l:M U)(h:sH l):a3n (aWF l-1) (aWF l-1-1) (aWF l) 0 (toNat (aWF l-1-1)) (aWF l) (toNat (aWF l-1)) [I8 (aWV l (toNat (aWF l-1-1))) (aWV l (toNat (aWF l-1)))] l 3:=by
 refine au ?_;obtain⟨P,p⟩:=h;have a:l.length<=1099511627776:=p;have e:toNat ((l.length:Int)-1-1)=l.length-2:=by omega
 have E:toNat ((l.length:Int)-1)=l.length-1:=by omega
 with_reducible and_intros
 iterate 14 omega
 trivial;grind[List.length_singleton];rw[e,E];rfl
def ay5(s:B8)(t:O)(f l:M U)(h:Df t f/\S.small l):Df t f/\aHz (length l+length [od t f s])/\[t]=[t]/\0=0/\[f]=[f]/\0=0/\l++[od t f s]=Jc l (od t f s):=by
 refine au ?_;apply a13;grind;grind[S.small,List.length_singleton];iterate 5 rfl
def ay6(l:M (Int×B8))(t:O)(f:M U)(H:GJ l t f)(o:Vg.Row.ok (Vg.TA.du [.dV (.slice [.int .i64,.str]),.agg [.fn (.func 103) [] [.var [.slice [.str]],.var [.slice [.slice [.int .i64]]]],.fn (.func 107) [] [],.fn (.func 108) [] [],.fn (.func 109) [] []]]) (l,t,f)):(∃(X:Nat),((0:Int)=X/\[]=jU (od t f) l X/\[t]=[t]/\0=0/\[f]=[f]/\0=0)/\pI l (jU (od t f) l X) X)/\(∀(x:Nat),pI l (aVu f l t x) x->eN (decide ((x:Int)<length l)) (aSi x (length l) (((aVl l x).1=0->(aVl l x).1=0/\(Df t f/\S.small (aVu f l t x))/\aVg x (∃(c:Nat),aUT (x+1) c (Jc (aVu f l t x) (od t f (aVl l x).2)=jU (od t f) l c/\[t]=[t]/\0=0/\[f]=[f]/\0=0) (pI l (jU (od t f) l c) c) (S.len l) (af (S.len l) x)))/\((aVl l x).1=1->(aVl l x).1=1/\sH (aVu f l t x)/\aVg x (∃(d:Nat),aUT (x+1) d (tI 1 (aVu f l t x)=jU (od t f) l d/\[t]=[t]/\0=0/\[f]=[f]/\0=0) (pI l (jU (od t f) l d) d) (S.len l) (af (S.len l) x)))/\((aVl l x).1=2->(aVl l x).1=2/\sH (aVu f l t x)/\aVg x (∃(e:Nat),aUT (x+1) e (tI 2 (aVu f l t x)=jU (od t f) l e/\[t]=[t]/\0=0/\[f]=[f]/\0=0) (pI l (jU (od t f) l e) e) (S.len l) (af (S.len l) x)))/\((aVl l x).1=3->(aVl l x).1=3/\sH (aVu f l t x)/\aVg x (∃(g:Nat),aUT (x+1) g (tI 3 (aVu f l t x)=jU (od t f) l g/\[t]=[t]/\0=0/\[f]=[f]/\0=0) (pI l (jU (od t f) l g) g) (S.len l) (af (S.len l) x)))/\(aYD ((aVl l x).1=0) (aYD ((aVl l x).1=1) (aYD ((aVl l x).1=2) (aYD ((aVl l x).1=3) True)))->False))) ((0:Int)<=0/\(0:Int)<length (aVu f l t x)) (toNat 0<length (aVu f l t x)) (aWV (aVu f l t x) (toNat 0)=Dd l t f)):=by
 refine au ?_;have B:Vg.hlen l:=o.1.1;apply la;grind[aws,aNG];intro X a;refine V.dI (λh=>?_) λm=>?_
 . with_reducible and_intros
   iterate 2 omega
   . intro n;with_reducible and_intros
     omega;exact H.2.2;exact alD H a;iterate 2 omega
     refine⟨(X+1),?_⟩;try dsimp only
     with_reducible and_intros
     omega;exact S.Ò h n;iterate 4 rfl
     exact aqt a h n;simp only[af,S.len];omega
   . intro i;apply aZi;omega;exact NH H a h (by rw[show(cM l X).1=1 from i];decide);iterate 2 omega
     refine⟨(X+1),?_⟩;try dsimp only
     with_reducible and_intros
     omega;exact NG h i (by decide);iterate 4 rfl
     exact QH H a h i (by decide);simp only[af,S.len];omega
   . intro j;apply aZi;omega;exact NH H a h (by rw[show(cM l X).1=2 from j];decide);iterate 2 omega
     refine⟨(X+1),?_⟩;try dsimp only
     with_reducible and_intros
     omega;exact NG h j (by decide);iterate 4 rfl
     exact QH H a h j (by decide);simp only[af,S.len];omega
   . intro k;apply aZi;omega;exact NH H a h (by rw[show(cM l X).1=3 from k];decide);iterate 2 omega
     refine⟨(X+1),?_⟩;try dsimp only
     with_reducible and_intros
     omega;exact NG h k (by decide);iterate 4 rfl
     exact QH H a h k (by decide);simp only[af,S.len];omega
   intro r;have q:0<=(getD l (toNat (X:Int)) (0,[])).1/\(getD l (toNat (X:Int)) (0,[])).1<=3:=⟨(Jf H.1 h).1,(Jf H.1 h).2.1⟩;grind
 apply cj2;omega
 iterate 2
  have:=afB H a m;omega
 rw[(afB H a m).2];rfl
def ay7(l:M (Int×B8))(f:M U)(a:dq l)(j:Vg.jE J.aOE (l,f)):dq l/\anG (Bool.not (aZ l)) (nD (iM l f) 1) (S.small l) (q72 (length f) (mB (al l))) (∃(e:Nat),(0:Int)=e/\GK f e) (∀(X:Nat),GK f X->q85 (decide ((X:Int)<length f)) (aSi X (length f) (cV (aVp (aQ8 (aWV f (toNat X))) (nD (iM l f) 1) X 1 (∃(g:Nat),aVk X g (GK f g) (S.len f))))) (GJ l (al l) f) (Dd l (al l) f=(iM l f).1/\0=(iM l f).2)):=by
 refine au ?_;have A:Vg.hlen f:=j.2.1.1;apply cj1;omega;intro n;apply la;exact(KA (by simp_all[S.lO,Bool.false_and])).1;exact(KA (by simp_all[S.lO,Bool.false_and])).2;intro h;simp at h;apply cj1;exact a.1;intro o;apply la;exact(KA (by simp[S.lO,h,Bool.true_and];grind)).1;exact(KA (by simp[S.lO,h,Bool.true_and];grind)).2;intro k;simp at k;apply la;refine⟨(nat_lit 0:Nat),?_⟩;dsimp only;apply la;omega;exact⟨Nat.zero_le _,λx q=>by grind⟩;intro m H;refine V.dI (λc=>?_) λF=>?_;apply cj8;iterate 2 omega
 trivial;intro d;try simp only[nt] at d
 apply la;exact(KA (by simp only[S.lO,afD c d,Bool.and_false])).1;exact(KA (by simp only[S.lO,afD c d,Bool.and_false])).2;intro i;try simp only[nf] at i
 apply cj3;iterate 2 omega
 refine⟨(m+nat_lit 1),?_⟩;try dsimp only
 apply cj1;omega;exact aqu H c i;simp only[af,S.len];omega;apply cj1;exact⟨h,a.1,UA a.1,w!,V!.1 (WS H (by assumption))⟩;exact(afC (by simp only[S.lO,h,WS H (by assumption),Bool.true_and,Bool.and_true];exact L? w!)).1;exact(afC (by simp only[S.lO,h,WS H (by assumption),Bool.true_and,Bool.and_true];exact L? w!)).2
def ay8(c:Int)(P d a:B8)(f:O)(p t:B8)(e:Int)(h:az p):anS (decide (P=t)) (anS (alU e) (az p))/\fU (decide (P=t)) (aWT (alU e) (l7 2 p) a)=I9 t e P a p:=by
 refine au ?_;simp_all[dt,df,I9]
def ay9(c:Int)(a p d:B8)(e:O)(P t:B8):fU (Op.bytesLess a t) (bif Bool.not (a3k p t) then alU (q99 P) else fU (decide (p=[])) (alU (q99 P)))=Ja t a p P:=by
 refine au ?_;grind[aHc,Ja,Op.bytesLess,decide]
def aza(t:B8)(P:Int)(a c d:B8)(e:O)(p:B8)(h:p.length<=140737488355328):wK p/\[t]=[t]/\0=0/\[(cu p).2]=[(cu p).2]/\0=0/\(cu p).1=(cu p).1/\[t]=[t]/\0=0:=by
 refine au ?_;grind
def azb(r:B8)(n:Int)(t:B8)(e:Int)(P a c:B8)(d:O)(p:B8)(f:wB t d p):aV4 (aWa r) (aV4 (decide (n<1)) (aV4 (decide (1099511627776<n)) (S.small t)))/\aVq (q81 (aWa r) (q81 (decide (n<1)) (aPv (decide (1099511627776<n)) (S.isTerm t)))) (nD (jr r n t (e,P,a,c,d,p)) 1) (eN (anP (kJ P a c)) (nD (jr r n t (e,P,a,c,d,p)) 6) (az (dw P a c)) (eX d) (eN (aPv (anP (cB (S.leaf (dw P a c)) e n d)) (decide (jO (S.leaf (dw P a c)) e n d=r))) (nD (jr r n t (e,P,a,c,d,p)) 6) (wK p) (∃(k:Nat),(0:Int)=k/\og r n t (e,P,a,c,d,p) k) (∀(x:Nat),og r n t (e,P,a,c,d,p) x->q76 (decide ((x:Int)<((2:Nat):Int))) (((x:Int)=((0:Nat):Int)->(x:Int)=((0:Nat):Int)/\az p/\aVp (I9 t (cu p).2 P c p) ((cu p).1=(jr r n t (e,P,a,c,d,p)).1/\0=(jr r n t (e,P,a,c,d,p)).2) x 1 (∃(g:Nat),(x:Int)+1=g/\og r n t (e,P,a,c,d,p) g/\af 2 g<af 2 x))/\(x=aZK->x=aZK/\cV (aVp (Ja t P a p) (nD (jr r n t (e,P,a,c,d,p)) 0) x 1 (∃(i:Nat),(x:Int)+1=i/\og r n t (e,P,a,c,d,p) i/\af 2 i<af 2 x)))/\(aYD ((x:Int)=((0:Nat):Int)) (aYD (x=aZK) True)->False)) (nD (jr r n t (e,P,a,c,d,p)) 6)))):=by
 refine au ?_;apply cj2;grind;intro s;apply la;grind;intro v;apply la;grind;intro w;exact f.1;intro y;grind[awt,awu];intro z;apply cj1;trivial;grind[nt,df,aqw,WV,awv];intro F;apply cj4;grind[aaB];exact f.2.1;intro I;grind[aqw,WV,aww];intro K;apply cj1;have:=f.2.2.2;grind[S.small];grind[aHe,WV,aHd];intro X R;apply la;intro G;try simp only[dt] at G
 apply cj1;intro m;apply cj4;exact(by assumption);exact f.2.2.1;intro l;apply la;exact(afH R l).1;exact(afH R l).2;intro o;apply cj3;iterate 2 omega
 refine⟨(X+1),?_⟩;try dsimp only
 apply cj1;omega;exact aHf R m o;simp only[af];omega;intro j;apply cj4;exact(by assumption);trivial;intro h;apply la;exact(afI R j h).1;exact(afI R j h).2;intro u;apply cj3;iterate 2 omega
 refine⟨(X+1),?_⟩;try dsimp only
 apply cj1;omega;exact aHg R j u;simp only[af];omega;intro H;have q:(X:Int)=((0:Nat):Int)\/(X:Int)=((1:Nat):Int):=by omega
 exact q.elim H.1 H.2.1;grind[df,awx]
def aXq(u v:B8):cV (bz u v=bz u v):=by
 refine au ?_;grind
def aXr(i j:Int)(u v:B8)(p:O)(g:at5 i j p)(A:Vg.jE J.î (i,j,u,v,p)):(∃(c:Int×Int),(i=c.1/\j=c.2)/\aFJ i j c)/\(∀(d:Int×Int),aFJ i j d->0<=d.1/\(0:Int)<=1/\q85 (decide (Vg.aT d.1 1=1)) (aRM 1 64 (aRM 1 64 (∃(r:Int×Int),(aSn d.1 1=r.1/\aSn d.2 1=r.2)/\aFJ i j r/\aLW r.1 d.1))) ((0:Int)<=0/\0<mB p) (((0:Int)<=0/\0<mB p)/\aRM 1 (mB p) ((∃(k:Nat×Int×Int×B8×B8),((0:Int)=k.1/\d.1=k.2.1/\d.2=k.2.2.1/\ap2 p 0=k.2.2.2.1/\ap2 p 0=k.2.2.2.2)/\aue i j p k)/\(∀(x:Nat×Int×Int×B8×B8),aue i j p x->q76 (decide (x.1<mB (aZU p))) (jz 0 x.1 (mB (aZU p))/\q76 (alU x.2.2.1) (false=atF i j u v p) (0<=x.2.1/\(0:Int)<=1/\aVq (fU (alU (Vg.aT x.2.1 1)) (q72 x.2.1 x.2.2.1)) (aST (aW9 1) (aRM 1 64 (mC (x.1+1)/\(∃(l:Nat×Int×Int×B8×B8),aUT (x.1+1) l.1 (aSn x.2.1 1=l.2.1/\aSn x.2.2.1 1=l.2.2.1/\x.2.2.2.1=l.2.2.2.1/\bz x.2.2.2.2 (ap2 (aZU p) x.1)=l.2.2.2.2) (aue i j p l) (S.len p) (af (S.len p) x.1))))) (aST (∃(s:Int×Int×Nat),(x.2.1=s.1/\x.2.2.1=s.2.1)/\aFK i j s/\(x.1:Int)=s.2.2) (∀(a:Int×Int×Nat),aFK i j a/\(x.1:Int)=a.2.2->0<=a.1/\(0:Int)<=1/\q85 (fU (alU (Vg.aT a.1 1)) (anP a.1)) (aRM 1 64 (aRM 1 64 (∃(n:Int×Int×Nat),(aSn a.1 1=n.1/\aSn a.2.1 1=n.2.1)/\(aFK i j n/\(x.1:Int)=n.2.2)/\aLW n.1 a.1))) (aW9 1) (aRM 1 64 (mC (x.1+1)/\(∃(m:Nat×Int×Int×B8×B8),aUT (x.1+1) m.1 (aSn a.1 1=m.2.1/\aSn a.2.1 1=m.2.2.1/\bz (ap2 (aZU p) x.1) x.2.2.2.1=m.2.2.2.1/\bz (ap2 (aZU p) x.1) x.2.2.2.2=m.2.2.2.2) (aue i j p m) (S.len p) (af (S.len p) x.1)))))))) (fU (alU x.2.2.1) (aWT (decide (x.2.2.2.1=u)) x.2.2.2.2 v)=atF i j u v p))))):=by
 refine au ?_;have B:Vg.hlen p:=A.2.2.2.2.1.1;apply la;refine⟨((i),(j)),?_⟩;apply cj3;iterate 2 omega
 exact aY3 g;intro c H;apply cj4;exact H.1;omega;intro t;simp at t;apply cj6;iterate 4 omega
 refine⟨((c.1/(2:Int)^toNat (1:Int)),(c.2/(2:Int)^toNat (1:Int))),?_⟩;apply cj2;iterate 2 omega
 exact aU7 H (by rw[<-aMP H.1];exact t);have q:=aMP H.1;rw[aFL];have:=H.1;omega
 intro w;simp at w;with_reducible and_intros
 omega;have:=g.2.2.1;omega;omega;have:=g.2.2.1;omega;omega;have:=g.2.2.1;omega;refine⟨(0,((c.1),((c.2),((getD p (toNat (0:Int)) []),(getD p (toNat (0:Int)) []))))),?_⟩;dsimp only;apply a14;iterate 3 omega
 iterate 2 rfl
 exact aVV g H (by rw[<-aMP H.1];exact w);intro x h;refine V.dI (λf=>?_) λC=>?_
 . apply cj2;iterate 2 omega
   intro y;try simp only[dt] at y
   exact aU8 h (S.dl f) y;intro z;try simp only[df] at z
   apply cj4;exact h.1.1;omega
   . intro F;try simp at F
     with_reducible and_intros
     trivial;iterate 5 omega
     have:=S.dl f;omega;refine⟨((x.1+1),((x.2.1/(2:Int)^toNat (1:Int)),((x.2.2.1/(2:Int)^toNat (1:Int)),((x.2.2.2.1),(bz (x.2.2.2.2) (getD (drop (toNat (1:Int)) p) (toNat (↑(x.1):Int)) [])))))),?_⟩;try dsimp only
     apply aZo;iterate 3 omega
     iterate 2 with_reducible rfl
     rw[aFL,aFL,dgD];exact aU9 h (S.dl f) (by have:=F.1;rw[aMP h.1.1] at this;omega) F.2;simp only[af,S.len];have:=S.dl f;omega
   intro I;apply cj4;iterate 2 trivial
   refine⟨((x.2.1),((x.2.2.1),(x.1))),?_⟩;try dsimp only
   apply cj2;iterate 2 omega
   have q:=aMP h.1.1;exact aY4 h z x!;omega;intro X o;apply cj4;exact o.1.1.1;omega;intro R;try simp at R
   apply cj6;iterate 4 omega
   refine⟨((X.1/(2:Int)^toNat (1:Int)),((X.2.1/(2:Int)^toNat (1:Int)),(x.1))),?_⟩;try dsimp only
   apply cj6;iterate 2 omega
   have e:X.2.2=x.1:=by have:=o.2;omega
   rw[aFL,aFL,<-e];exact aVa o.1 (by rw[<-aMP o.1.1.1];exact R.1) R.2;omega;rw[aFL];have q:=o.1.1.1;have:=R.2;omega
   intro G;apply a11;iterate 5 omega
   have:=S.dl f;omega;refine⟨((x.1+1),((X.1/(2:Int)^toNat (1:Int)),((X.2.1/(2:Int)^toNat (1:Int)),((bz (getD (drop (toNat (1:Int)) p) (toNat (↑(x.1):Int)) []) (x.2.2.2.1)),(bz (getD (drop (toNat (1:Int)) p) (toNat (↑(x.1):Int)) []) (x.2.2.2.2)))))),?_⟩;try dsimp only
   apply aZo;iterate 3 omega
   iterate 2 with_reducible rfl
   have q:=aMP o.1.1.1;have Q:=Int.emod_two_eq X.1;rw[aFL,aFL,dgD];exact aVW h (S.dl f) o.1 (by have:=o.2;omega) x!;simp only[af,S.len];have:=S.dl f;omega
 rw[<-aWW g h (dl' C)];cases decide (x.2.2.1=0)<;>cases decide (x.2.2.2.1=u)<;>rfl
def aXs(m n:Int)(u v:B8)(p:O)(h:aIk m n p)(H:Vg.jE J.î (m,n,u,v,p)):q76 (alU m) (anS (alU (length p)) (S.small aUQ)/\aWT (alU (length p)) u (S.sum aUQ)=S.accepted m n u v p) (q85 (decide (m=n)) (aWT (alU (length p)) u v=S.accepted m n u v p) (mC (m-1)) (0<=m/\0<=m-1/\q76 (alU (Vg.aT m (m-1))) (aMG (length [u]+length p)/\Rk (alU (mB ([u]++p))) (false=S.accepted m n u v p) (mC (m-1)) (mC (n-1)) (at5 (m-1) (n-1) ([u]++p)) (atF (m-1) (n-1) u v ([u]++p)=S.accepted m n u v p)) (Rk (alU (length p)) (false=S.accepted m n u v p) (mC (m-1)) (mC (n-1)) (at5 (m-1) (n-1) p) (atF (m-1) (n-1) u v p=S.accepted m n u v p)))):=by
 refine au ?_;have a:Vg.hint m:=H.1;have A:Vg.hint n:=H.2.1;clear H;refine V.dI (λc=>?_) λe=>?_;apply cj3;intro d;try simp only[dt] at d
 exact Nat.zero_le _;grind;exact a0h c;refine V.dI (λf=>?_) λg=>?_;grind[aY5];with_reducible and_intros
 have q:=h.1;omega;omega
 iterate 2
  have q:=h.1;omega
 intro i;apply cj1;have:=h.2.2.2;grind[eX,List.length_singleton];grind;intro j;apply cj7;have q:=h.1;omega;omega;have Q:=h.2.1;omega;omega;grind[aUc];grind[a0i];intro F;refine V.dI (λI=>?_) λk=>?_;grind[aWX];apply cj7;have q:=h.1;omega;omega;have Q:=h.2.1;omega;omega;grind[aUc];grind[aYd]
def aXt(m n:Int)(u v:B8)(p:O)(i:eX p)(j:Vg.jE J.î (m,n,u,v,p)):q85 (arQ m 0 (arQ n m (arQ 1099511627776 n (q81 (aWa u) (aWa v))))) (1=J7 m n u v p) (∃(a:Nat),(0:Int)=a/\sZ p a) (∀(x:Nat),sZ p x->q85 (decide (x<mB p)) (aWr 0 x (mB p) (aWa (ap2 p x)) (6=J7 m n u v p) 1 (∃(X:Nat),aVk x X (sZ p X) (S.len p))) (aIk m n p) (q76 (Bool.not (S.accepted m n u v p)) (6=J7 m n u v p) (0=J7 m n u v p))):=by
 refine au ?_;have A:Vg.hlen p:=j.2.2.2.2.1.1;apply la;intro H;simp at H;exact aWY H;intro h;simp only[V.qF,df,nf,dt] at h;apply la;grind[avg];intro X c;refine V.dI (λd=>?_) λk=>?_;apply cj2;iterate 2 omega
 intro e;simp at e;rw[aTa h,R!];rw[aWZ d e];simp;intro f;simp at f;apply cj3;iterate 2 omega
 refine⟨(X+nat_lit 1),?_⟩;dsimp only;apply cj1;omega;exact aVY c d f;simp[af,S.len];omega;apply cj1;exact⟨w!,w!,w!,i⟩;intro g;simp at g;rw[aTa h,if_neg];rw[g];simp;intro F;simp at F;rw[aTa h,if_pos ⟨aW0 c k,F⟩]
def azd(h:Int)(H:B8)(a:M (Int×Int×Int×B8))(r:B8):cV (aWT (alU (qV h H a).2) (qV h H a).1 r=EH h H a r):=by
 refine au ?_;grind[awm]
def aze(h:Int)(H:B8)(a:M (Int×Int×Int×B8))(r:B8): [(h,H,a)]=[(h,H,a)]/\0=0/\[r]=[r]/\0=0:=by
 grind
def azf(A:Int)(c:B8)(d:M (Int×Int×Int×B8))(a:M (M (Int×B8×B8×B8×O×B8)))(i:Int)(t:O)(h:0<=i/\i<(S.len a:Nat)):aSi i (length a) (decide (length (getD a (toNat i) [])=mB t)=qW a i t):=by
 refine au ?_;grind[qW,S.len]
def azg(P:Int)(a:B8)(c:M (Int×Int×Int×B8))(p:Int)(d:B8)(e:O)(i:Int):decide (p=i)=decide (p=i):=by
 rfl
def azh(l:U)(s a:Int)(h:Vg.jE J.aN8 (l,s,a)):(∃(X:Nat),(0:Int)=X/\yp l s a X/\X<=S.len l)/\(∀(x:Nat),yp l s a x/\x<=S.len l->q76 (decide (x<fK l)) (aWr 0 x (fK l) (Rl (aVC l x) s a) (false=xG l s a) 1 (∃(c:Nat),aVk x c (yp l s a c/\c<=S.len l) (S.len l))) (true=xG l s a)):=by
 refine au ?_;have B:Vg.hlen l:=h.1.1;have A:Vg.hint s:=h.2.1;have d:Vg.hint a:=h.2.2.1;clear h;apply la;grind[yp,AJ,Ep,I7,af,S.len];intro X g;apply la;intro H;try simp only[dt] at H
 apply cj2;iterate 2 omega
 intro e;try simp only[V.Nb,dt,tn] at e
 grind[yp,AJ,Ep,I7,af,S.len];intro f;try simp only[V.qF,df,tn] at f
 apply cj3;iterate 2 omega
 refine⟨(X+1),?_⟩;try dsimp only
 apply aZn;omega;iterate 3 (grind[yp,AJ,Ep,I7,af,S.len])
 grind[df,AJ,Ep,I7]
def azi(a:Int)(c:B8)(d:M (Int×Int×Int×B8))(e:Int)(p:B8)(P:O)(i:Int)(h:eX P/\az p):Jq p (eX P/\aWT (alU (cB (S.leaf p) i a P)) (jO (S.leaf p) i a P) c=Ky a c p P i):=by
 refine au ?_;grind[Ky]
def azj(r:B8)(i:Int)(b:B8)(h:b.length<1099511627776):q85 (aWa r) (aVj (uc r i b) 1) (wK b) (eN (anP (bx b).2) (aVj (uc r i b) (bx b).2) True (aST aZb (EH (bx b).1.1 (aWn b).1 (aWn b).2.1 r->aST aZb (decide ((aWn b).2.2.1=i)->(eX (aXk b).2/\az (aXk b).1)/\aZb/\(Ky (bx b).1.1 (aWn b).1 (aXk b).1 (aXk b).2 i->True)))) (q76 (anP (aTq b i r)) (aVj (uc r i b) (aTq b i r)) ((aXk b).1=(uc r i b).1/\0=(uc r i b).2))):=by
 refine au ?_;apply la;grind[nt,df,aG6];intro H;apply cj1;omega;grind[nt,df,aG7];intro a;with_reducible and_intros
 iterate 2 trivial
 rfl;simp_all[dt,aqp]
 grind[nt,df,aqq,afx];grind[aqq,afx]
def azk(c d g:Int)(G w:B8)(A:Int)(t:B8)(u:M (Int×Int×Int×B8))(a:M (M (Int×B8×B8×B8×O×B8)))(i j:Int)(x:M Value)(q:Nat)(l:U)(H:QJ w a i j/\UB j q x.length l/\ud (c,d,g,G) w a i j=true):aSi i (length a) (jz 0 j (length (getD a (toNat i) []))/\wB w (aWD a i j).2.2.2.2.1 (aWD a i j).2.2.2.2.2/\aVe (anP (aZS a g G i j w).2)/\Rk (aPv (anP (aZS a g G i j w).2) (xG (aZS a g G i j w).1 c d)) (false/\x=x/\q=q/\l=QK l (wV (c,d,g,G) w a i j).1) (jz 0 j (Vg.aE.Cj x)) (toNat j<Vg.aE.Cj x) (toNat j=q) (aYG l (aZS a g G i j w).1/\dz 0 j (Vg.aE.Cj x) (toNat j) (toNat j=q/\aZb/\x=x/\q=q/\l++(aZS a g G i j w).1=QK l (wV (c,d,g,G) w a i j).1))):=by
 refine au ?_;obtain⟨⟨k,p,m⟩,⟨P,v,n⟩,y⟩:=H;have z:(wV (c,d,g,G) w a i j).2=0/\xG (wV (c,d,g,G) w a i j).1 c d=true:=by grind[ud]
 have e:0<=j/\j<(x.length:Int):=⟨p.1,w!⟩;have h:toNat j<x.length:=by omega
 have o:(wV (c,d,g,G) w a i j).1.length<=1000:=UC _ _ _ _;have r:l.length<=1099511627776:=n;have f:l.length+(wV (c,d,g,G) w a i j).1.length<=17592186044416:=by omega
 refine⟨k,p,m,⟨λ_=>trivial,λ_=>trivial⟩,λs=>?_,λB=>⟨e,h,P.symm,f,e,h,P.symm,rfl,rfl,rfl,rfl⟩⟩;change (bif !decide ((wV (c,d,g,G) w a i j).2=0) then true else !xG (wV (c,d,g,G) w a i j).1 c d)=true at s;grind
def azl(c d g:Int)(G w:B8)(A:Int)(k:B8)(m:M (Int×Int×Int×B8))(a:M (M (Int×B8×B8×B8×O×B8)))(i j:Int)(x:M Value)(q:Nat)(l:U)(h:QJ w a i j/\UB j q x.length l/\ud (c,d,g,G) w a i j=false):aSi i (length a) (jz 0 j (length (getD a (toNat i) []))/\wB w (aWC a i j).2.2.2.2.1 (aWC a i j).2.2.2.2.2/\aVe (anP (a0D a g G i j w).2)/\Rk (aPv (anP (a0D a g G i j w).2) (xG (a0D a g G i j w).1 c d)) (false=false/\x=x/\q=q/\l=l) (jz 0 j (Vg.aE.Cj x)) (toNat j<Vg.aE.Cj x) (toNat j=q) (aYG l (a0D a g G i j w).1/\dz 0 j (Vg.aE.Cj x) (toNat j) (toNat j=q/\true=false/\False/\False))):=by
 refine au ?_;obtain⟨⟨p,P,e⟩,⟨n,o,r⟩,f⟩:=h;refine⟨p,P,e,⟨λ_=>trivial,λ_=>trivial⟩,λs=>⟨rfl,rfl,rfl,rfl⟩,λH=>?_⟩;change (bif !decide ((wV (c,d,g,G) w a i j).2=0) then true else !xG (wV (c,d,g,G) w a i j).1 c d)=false at H;change (decide ((wV (c,d,g,G) w a i j).2=0)&&xG (wV (c,d,g,G) w a i j).1 c d)=false at f;grind
def azm(r:B8)(l:M (Int×B8))(b:B8)(h:b.length<1099511627776/\dq l):aV4 (aWa r) (dq l)/\q85 (aPv (aWa r) (aZ l)) (nD (fJ r l b) 1) (wK b) (eN (anP (aI b).2) (nD (fJ r l b) (aI b).2) (S.small l) (Ju 0 (mB (al l)) ((24:Nat):Int)) (aST (∃(j:Nat),((0:Int)=j/\[λ(q:Vg.Z)=>(True,Vg.AV.bool (EH (aI b).1.1 (aXj b) (aVD b) r),q)]=S.conds 36 3 r (aI b).1.1 (aXj b) (aVD b) (aWm b) (al l) j)/\afK b j) (∀(x:Nat),afK b x->q85 (decide ((x:Int)<length (aVD b))) (jz 0 x (length (aVD b))/\a1X (a1p b l r x)/\(∃(d:Nat×Nat),((0:Int)=d.2/\Vg.aE.cat (a1p b l r x) [λ(o:Vg.Z)=>(jz 0 x (S.len (aWm b)),Vg.AV.bool (qW (aWm b) x (al l)),o)]=ra 36 3 r (aI b).1.1 (aXj b) (aVD b) (aWm b) (al l) d.1 d.2)/\WW b (al l) d.1 d.2/\(x:Int)=d.1)/\(∀(a:Nat×Nat),WW b (al l) a.1 a.2/\(x:Int)=a.1->aVp (decide (a.2<mB (al l))) (jz 0 a.2 (mB (al l))/\a1X (a1q b l r a)/\mC (a.2+1)/\(∃(X:Nat×Nat),((a.2:Int)+1=X.2/\Vg.aE.cat (a1q b l r a) [GM 36 3 ((a0C b x).1,(a0C b x).2.1,(a0C b x).2.2.1,(a0C b x).2.2.2) (ap2 (al l) a.2) (aWm b) x a.2]=ra 36 3 r (aI b).1.1 (aXj b) (aVD b) (aWm b) (al l) X.1 X.2)/\(WW b (al l) X.1 X.2/\(x:Int)=X.1)/\q98 (S.len (al l)) X.2 a.2)) x 1 (∃(k:Nat),aPz x k (a1q b l r a=S.conds 36 3 r (aI b).1.1 (aXj b) (aVD b) (aWm b) (al l) k) (afK b k) (S.len (aVD b))))) (Vg.aE.LO (toNat (mB (al l)))=Vg.aE.LO (toNat (mB (al l)))/\(aZR b l r x).1) (q85 (anP (bif (aZR b l r x).2.1 then 0 else 6)) (nD (fJ r l b) (bif (aZR b l r x).2.1 then 0 else 6)) (dq l) ((iM l (Vg.aE.rows (aZR b l r x).2.2)).1=(fJ r l b).1/\(iM l (Vg.aE.rows (aZR b l r x).2.2)).2=(fJ r l b).2))))):=by
 refine au ?_;apply cj2;iterate 2 grind
 grind[awA,aHh];intro c;try simp at c
 apply cj1;omega;grind[nt,df,awB,QP];intro H;simp at H;with_reducible and_intros
 exact h.2.1;iterate 2 omega
 grind[qe];trivial;refine⟨0,?_⟩;try dsimp only
 apply cj3;omega;rfl;exact⟨S! _,H⟩;intro X f;refine V.dI (λs=>?_) λR=>?_;apply cj8;iterate 2 omega
 have q:=afM h.1 h.2 H c.2 f.1;show length _+1<=_;rw[GN];omega;refine⟨((X),0),?_⟩;try dsimp only
 apply cj2;omega;rfl;exact⟨w!,S! _,H⟩;omega;intro g i;apply la;intro K;try simp only[dt] at K
 apply a05;iterate 2 omega
 have q:=afM h.1 h.2 H c.2 (Nat.le_of_lt i.1.1);have Q:=i.1.2.1;have t:=qe c.2;show length _+1<=_;rw[WZ];omega;omega;have q:=qe c.2;omega;refine⟨((X),(g.2+1)),?_⟩;try dsimp only
 apply cj6;omega;have e:X=g.1:=by have:=i.2;omega
 rw[<-e];exact SR X g.2;have:=i.1.1;exact⟨w!,w!,H⟩;omega;simp only[af,S.len];omega;intro O;try simp only[df] at O
 apply cj3;omega;have q:=afL h.1 h.2 H;omega;refine⟨(X+1),?_⟩;try dsimp only
 apply cj2;omega;have e:X=g.1:=by have:=i.2;omega
 have E:g.2=(al l).length:=by have:=i.1.2.1;omega
 rw[<-e,E];rfl;exact⟨w!,H⟩;simp only[af,S.len];omega;apply cj2;rfl;exact(Jh h.1 h.2 H (by have:=f.1;omega)).pre;intro G;try simp at G
 apply la;exact(aqA (QP c) H (Jh h.1 h.2 H (by have:=f.1;omega)) G).1;exact(aqA (QP c) H (Jh h.1 h.2 H (by have:=f.1;omega)) G).2;intro m;try simp at m
 apply cj1;exact h.2;rw[afN (QP c) H (Jh h.1 h.2 H (by have:=f.1;omega)) m];rw[afN (QP c) H (Jh h.1 h.2 H (by have:=f.1;omega)) m]
def aXu(c:Int)(d:B8)(e:M (Int×Int×Int×B8))(s:Int)(S:B8)(a:M (Int×Int×Int×B8))(f:O)(t:B8):aST (alU (qV s S a).2=alU (qV s S a).2) ((qV s S a).1=(qV s S a).1):=by
 refine au ?_;grind
def aXv(S:Int)(a:B8)(e:M (Int×Int×Int×B8))(c:Int)(d:B8)(f:M (Int×Int×Int×B8))(s:O)(h:eX s):eX s/\alU (J7 S c a d s)=alU (J7 S c a d s):=by
 refine au ?_;grind
def aXw(r b:B8)(d:b.length<1099511627776):q85 (aWa r) (aYN (anq r b) 1) (wK b) (eN (anP (S.Ě b).2) (aYN (anq r b) (S.Ě b).2) True (aST aZb (a1n b r->eX (aZP b).2.2/\aZb/\(a1o b->aST aZb (alU (aZQ b).2->True)))) (q76 (anP (a2t b r)) (aYN (anq r b) (a2t b r)) ((bif a1n b r then bif a1o b then bif alU (aZQ b).2 then(aZQ b).1 else(aZQ b).1 else([]:B8) else([]:B8))=(anq r b).1/\(S.Ě b).1.2.2.2.1=(anq r b).2.1/\0=(anq r b).2.2))):=by
 refine au ?_;apply la;grind[nt,df,aY6];intro a;try simp at a
 apply cj1;omega;grind[nt,df,aY7];intro c;try simp at c
 with_reducible and_intros
 iterate 2 trivial
 rfl;simp_all[aQW,dt]
 . intro h;try simp only[nt,df] at h
   apply cj1
   iterate 2
    . have e:aMF r (S.Ě b).1=false:=by
       cases q:aMF r (S.Ě b).1 with
       |false=>rfl
       |true=>exact absurd ((aVZ _ _ _).trans (Q! q)) h
      grind[aSk]
   have e:aMF r (S.Ě b).1=false:=by
    cases q:aMF r (S.Ě b).1 with
    |false=>rfl
    |true=>exact absurd ((aVZ _ _ _).trans (Q! q)) h
   rw[aSk a c,e,aVZ];grind
 intro H;try simp only[nf,dt] at H
 apply cj1;have e:aMF r (S.Ě b).1=true:=aTb H;have E:=aTb H;simp_all[B!,aSk,Q!]
 iterate 2 (simp_all[aMF,S.Ě,aTb,aSk,Q!])
def azn(c C:B8)(h:iy c C):aST (anS (Bool.not (Qy c C)) (S.small c/\S.small C)) (aWT (Bool.not (Qy c C)) (S.sum c) (S.sum C)=QT c C):=by
 refine au ?_;grind[nt,QT,iy,nf]
def azo(b:B8)(h:S.small b):(b=[]->[]=b)/\aYE aUQ b/\[]++b=b:=by
 refine au ?_;grind[S.small,S.len]
def azp(a b:B8)(h:iy a b):S.small a/\S.small b/\iy a b/\q76 (Bool.not (QT a b)) (aVo (bt a b)) (a=(bt a b).1.1/\b=(bt a b).1.2/\true=(bt a b).2):=by
 refine au ?_;grind[bt,ix,iy,nt,nf]
def azq(l:O)(h:S.small l):S.small l/\kI l=kI l:=by
 grind
def azr(a b:B8):cV (bz a b=bz a b):=by
 refine au ?_;grind
def azs(l:O)(h:S.small l):aST (0<=S.split (mB l)/\S.split (mB l)<=mB l) (S.small (take (a0B l) l)/\aRM (S.split (mB l)) (mB l) (S.small (drop (a0B l) l)/\Jq (a2s l) (bB 1 (a2s l)=wE l))):=by
 refine au ?_;with_reducible and_intros
 trivial;exact(Et _).1;exact(Et _).2;grind[UI];exact(Et _).1;exact(Et _).2;simp_all[UI]
 exact aqK;rfl
def azt(a b:B8)(h:xJ a b):Jq a (Jq b (iy (bB 2 a) (bB 2 b)/\q11 (bt (bB 2 a) (bB 2 b)) (QU 2 a b))):=by
 refine au ?_;apply a0M;exact h.1;exact h.2;grind[NJ];iterate 3 rfl
def azu(a b:B8)(h:xJ a b):Jq a (Jq b (iy (bB 3 a) (bB 3 b)/\q11 (bt (bB 3 a) (bB 3 b)) (QU 3 a b))):=by
 refine au ?_;apply a0M;exact h.1;exact h.2;grind[NJ];iterate 3 rfl
def azv(a b:B8)(h:iy a b):iy a b/\q11 (bt a b) (bt a b):=by
 refine au ?_;grind
def azw(a b:B8): [a]=[a]/\0=0/\[b]=[b]/\0=0:=by
 grind
def azx(l:O)(i:Int)(f:B8)(p:O)(h:mI l f p)(t:Vg.jE J.aZk (l,i,f,p)):eN (Rl i 0 (mB l)) (aVo (jY l i f p)) (az f) (eX p) (eN (anP (cB (S.leaf f) i (mB l) p)) (aVo (jY l i f p)) (dj l) (∃(m:O×M Bool×O×Int),(S.leaves l=m.2.2.1/\i=m.2.2.2/\[]=m.1/\[]=m.2.1)/\AO l i f p m) (∀(X:O×M Bool×O×Int),AO l i f p X->Rk (aXb (mB X.2.2.1)) (S.small X.2.2.1/\aHz (length X.1+length [wE X.2.2.1])/\aST (cE (length X.2.1+length [decide (aVs X<=X.2.2.2)])) (q76 (decide (X.2.2.2<aVs X)) (0<=aVs X/\aVs X<=mB X.2.2.1) (aRM (aVs X) (mB X.2.2.1) (mC (X.2.2.2-aVs X)))/\(∃(k:O×M Bool×O×Int),((bif decide (X.2.2.2<aVs X) then take (toNat (aVs X)) X.2.2.1 else drop (toNat (aVs X)) X.2.2.1)=k.2.2.1/\(bif decide (X.2.2.2<aVs X) then X.2.2.2 else X.2.2.2-aVs X)=k.2.2.2/\X.1++[wE X.2.2.1]=k.1/\X.2.1++[decide (aVs X<=X.2.2.2)]=k.2.1)/\AO l i f p k/\S.len k.2.2.1<S.len X.2.2.1))) (mC (mB p+1)) (Ju 0 (mB p+1) aU6) (az f) ((∃(n:Nat),((0:Int)=n/\S.leaf f=cL (S.leaf f) i (S.len l) p n/\Vg.aE.JY (toNat (mB p+1))=rG l i f p n)/\xK p n)/\(∀(x:Nat),xK p x->q85 (decide (x<mB p)) (jz 0 x (mB p)/\mC (mB p-1)/\aVL (mB p-1-x) 0 (length X.2.1) (aWj p x) (length X.2.1) (mC (mB p-1)/\mC (mB p-1-x)/\Jq (aZO f i l p X x++aZN f i l p X x) (mC (mB p-1)/\aVL (mB p-1-x) 0 (length X.1) (aWj p x) (length X.1) (cV (jz 0 (mB p-1-x) (Vg.aE.len (rG l i f p x))/\aWj p x<Vg.aE.len (rG l i f p x)/\aST (mC (x+1)) (∃(o:Nat),aPz x o (bz (aZO f i l p X x) (aZN f i l p X x)=cL (S.leaf f) i (S.len l) p o/\Vg.aE.put (rG l i f p x) (aWj p x) (iy (bB 1 (aZO f i l p X x++aZN f i l p X x)) (yb X.1 (aWj p x))) (an7 (bt (bB 1 (aZO f i l p X x++aZN f i l p X x)) (yb X.1 (aWj p x))).1 (bt (bB 1 (aZO f i l p X x++aZN f i l p X x)) (yb X.1 (aWj p x))))=rG l i f p o) (xK p o) (S.len p))))))) (az f) (jz 0 i (mB l)/\az (ap2 l i)/\cV (jz 0 (mB p) (Vg.aE.len (rG l i f p x))/\toNat (mB p)<Vg.aE.len (rG l i f p x)/\(a0A f i l p x).1/\(a0A f i l p x).2.1=(jY l i f p).1.1/\(a0A f i l p x).2.2.1=(jY l i f p).1.2/\(a0A f i l p x).2.2.2=(jY l i f p).2)))))):=by
 refine au ?_;have A:Vg.hlen p:=t.2.2.2.1.1;clear t;apply la;intro y;try simp at y
 apply cj1
 iterate 2
  rw[aqL w!];rfl
 rw[aqL w!];rfl;intro z;try simp at z
 apply cj4;exact h.2.1;exact h.2.2;intro r;try simp at r
 apply cj1
 iterate 2
  rw[W3 r];rfl
 rw[W3 r];rfl;intro D;apply cj1;exact h.1;refine⟨(([]),(([]),((S.leaves l),(i)))),?_⟩;grind[aNM];intro x H;refine V.dI (λu=>?_) λF=>?_
 . with_reducible and_intros
   grind[AP];grind[AP,lc,ln];trivial;grind[AP,lc,ln];intro B;try simp only[dt] at B
   grind[AP];intro C;try simp only[df] at C
   apply cj2;iterate 2 (grind[AP])
   omega;obtain⟨e,b,G,I,_⟩:=AP H u;have Q:=H.2.2.1;have K:=H.2.2.2.1;grind[S.small];refine⟨((Prod.fst x++[wE (Prod.fst (Prod.snd (Prod.snd x)))]),((Prod.fst (Prod.snd x)++[Decidable.decide (S.split (↑(length (Prod.fst (Prod.snd (Prod.snd x)))):Int)<=Prod.snd (Prod.snd (Prod.snd x)))]),((bif Decidable.decide (Prod.snd (Prod.snd (Prod.snd x))<S.split (↑(length (Prod.fst (Prod.snd (Prod.snd x)))):Int)) then take (toNat (S.split (↑(length (Prod.fst (Prod.snd (Prod.snd x)))):Int))) (Prod.fst (Prod.snd (Prod.snd x))) else drop (toNat (S.split (↑(length (Prod.fst (Prod.snd (Prod.snd x)))):Int))) (Prod.fst (Prod.snd (Prod.snd x)))),(bif Decidable.decide (Prod.snd (Prod.snd (Prod.snd x))<S.split (↑(length (Prod.fst (Prod.snd (Prod.snd x)))):Int)) then Prod.snd (Prod.snd (Prod.snd x)) else Prod.snd (Prod.snd (Prod.snd x))-S.split (↑(length (Prod.fst (Prod.snd (Prod.snd x)))):Int))))),?_⟩;try dsimp only
   with_reducible and_intros
   iterate 4 rfl
   grind[S.ß];exact(S.ß H u).2
 with_reducible and_intros
 omega
 (have q:p.length<=1099511627776:=h.2.2;omega)
 iterate 2 omega
 (have q:p.length<=1099511627776:=h.2.2;omega)
 (exact h.2.1)
 refine⟨(nat_lit 0:Nat),?_⟩;try dsimp only
 apply a06;iterate 3 rfl
 exact S! _;intro s L;refine V.dI (λN=>?_) λR=>?_
 . with_reducible and_intros
   iterate 7 omega
   iterate 2
    (have q:p.length<=1099511627776:=h.2.2;obtain⟨c,a,g,d,E,j,v,w⟩:=re H F;omega)
   iterate 4 omega
   (have q:p.length<=1099511627776:=h.2.2;obtain⟨c,a,g,d,E,j,v,w⟩:=re H F;exact aHj E w! _)
   iterate 5 omega
   iterate 2
    (have q:p.length<=1099511627776:=h.2.2;obtain⟨c,a,g,d,E,j,v,w⟩:=re H F;omega)
   trivial;omega;iterate 2 (grind[re,Eu])
   trivial;iterate 2 omega
   refine⟨(s+nat_lit 1),?_⟩;try dsimp only
   apply SU;rfl;obtain⟨c,a,g,d,E,j⟩:=re H F;exact aHk E w! a d;obtain⟨c,a,g,d,E,j⟩:=re H F;exact awL w! a c rfl rfl rfl rfl;iterate 2 (grind[re,xK,af,S.len])
 with_reducible and_intros
 (exact h.2.1)
 iterate 2 omega
 (exact h.1.2 _ x!)
 trivial;omega;iterate 2 (grind[re,Eu])
 obtain⟨c,a,g,d,E,j⟩:=re H F;have e:s=p.length:=by grind[xK]
 subst e;exact awM E h
 iterate 2
  obtain⟨c,a,g,d,E,j⟩:=re H F;have e:s=p.length:=by grind[xK]
  subst e;rw[NK E];rfl
 obtain⟨c,a,g,d,E,j⟩:=re H F;have e:s=p.length:=by grind[xK]
 subst e;rw[NK E];rfl
def azy(d:M (B8×U))(t:B8)(f:Int)(P a c:B8)(p:O)(e:B8)(h:Dg d t p e):aW d/\eN (anP (dE d)) (aVo (fv d t (f,P,a,c,p,e))) (aW d) (wB t p e) (eN (anP (jr (pG d) (mB (bn d)) t (f,P,a,c,p,e)).2) (aVo (fv d t (f,P,a,c,p,e))) True (mI (bn d) (dw P a c) p) (q76 (jY (bn d) f (dw P a c) p).2 ((jY (bn d) f (dw P a c) p).1.1=(fv d t (f,P,a,c,p,e)).1.1/\(jY (bn d) f (dw P a c) p).1.2=(fv d t (f,P,a,c,p,e)).1.2/\true=(fv d t (f,P,a,c,p,e)).2) (q85 (ö P t) (aVo (fv d t (f,P,a,c,p,e))) (aW d) (aST (xJ e (jH (dN d t))) (q11 (QU 2 e (jH (dN d t))) (fv d t (f,P,a,c,p,e))))))):=by
 refine au ?_;apply cj1;exact h.1;grind[nt,df,fv,ix];intro H;apply cj4;exact h.1;exact h.2;grind[nt,df,fv,ix];intro g;apply cj4;trivial;grind[aaG];grind[fv,ix];intro i;apply la;grind[nt,df,fv,ix];intro j;apply a0M;exact h.1;trivial;exact⟨h.2.2.2.1,afT _⟩;iterate 3 (grind[fv,ix])
def azz(a:Int)(c:B8)(d:M (Int×Int×Int×B8))(p:O)(P:M (Int×Int×M (B8×U))):cV (aYF ((hW a c d).1=th a c d) ((hW (gI p P).1.1 (gI p P).1.2.1 (gI p P).1.2.2).1=zv p P)):=by
 refine au ?_;grind[th,zv]
def azA(p:Int)(P:B8)(a:M (Int×Int×Int×B8))(c:O)(d:M (Int×Int×M (B8×U))):cV (cV (Qy (th p P a) (zv c d)=Bw p P a c d)):=by
 refine au ?_;grind[Bw]
def azB(p:Int)(P:B8)(a:M (Int×Int×Int×B8))(c:O)(d:M (Int×Int×M (B8×U))):aST (xJ (th p P a) (zv c d)) (q11 (QU 3 (th p P a) (zv c d)) (sI p P a c d)):=by
 refine au ?_;apply aZ4;trivial;exact⟨NL ..,NL ..⟩;iterate 3 rfl
def azC(f:Int)(g:B8)(i:M (Int×Int×Int×B8))(j:O)(a:M (Int×Int×M (B8×U)))(A:O)(c:M (M (Int×B8×B8×B8×O×B8)))(t:uK f g i j a A c)(o:Vg.jE J.aP6 (f,g,i,j,a,A,c)):cV (q85 (Bool.not (Bw f g i j a)) (aVo (lf f g i j a A c)) (∃(r:Nat),(0:Int)=r/\KD a A c r) (∀(x:Nat),mZ (KD a A c x) (decide ((x:Int)<length a)) 0 x (length a) (∃(X:Nat×Nat),(0:Int)=X.1/\aVH a A c X.2 X.1/\(x:Int)=X.2) (∀(d:Nat×Nat),aVH a A c d.2 d.1/\(x:Int)=d.2->aVp (decide (d.1<mB A)) (aSi d.1 (mB A) (aSi x (length c) (jz 0 d.1 (length (getD c (toNat x) []))/\Dg (getD a (toNat x) (0,0,[])).2.2 (yb A (toNat d.1)) (getD (getD c (toNat x) []) (toNat d.1) (0,[],[],[],[],[])).2.2.2.2.1 (getD (getD c (toNat x) []) (toNat d.1) (0,[],[],[],[],[])).2.2.2.2.2/\q85 (a1l a A c x d).2 ((a1l a A c x d).1.1=(lf f g i j a A c).1.1/\(a1l a A c x d).1.2=(lf f g i j a A c).1.2/\true=(lf f g i j a A c).2) (mC (d.1+1)) (∃(k:Nat×Nat),(d.1:Int)+1=k.1/\(aVH a A c k.2 k.1/\(x:Int)=k.2)/\q98 (S.len A) k.1 d.1)))) x 1 (∃(e:Nat),aVk x e (KD a A c e) (S.len a))) (aVo (lf f g i j a A c)))):=by
 refine au ?_;have u:Vg.hlen a:=o.2.2.2.2.1.1;have v:Vg.hlen A:=o.2.2.2.2.2.1.1;apply cj1;trivial;intro y;apply cj1
 iterate 2
  rw[lf,if_neg x!];rfl
 rw[lf,if_neg x!];rfl;intro H;simp at H;apply la;refine⟨(nat_lit 0:Nat),?_⟩;dsimp only;apply la;omega;exact⟨Nat.zero_le _,t H,rfl⟩;intro X l;refine V.dI (λz=>?_) λK=>?_
 . apply cj2;iterate 2 omega
   refine⟨((nat_lit 0:Nat),(X)),?_⟩;try dsimp only
   apply cj1;omega;exact⟨w!,S! _,l.2.1,l.2.2,rfl⟩;rfl;intro e h;refine V.dI (λB=>?_) λI=>?_
   . with_reducible and_intros
     iterate 3 omega
     (obtain⟨h,q⟩:=h;obtain rfl :X=e.2:=w!;obtain⟨s,Q,m⟩:=QW h w!;omega)
     omega
     (obtain⟨h,q⟩:=h;obtain rfl :X=e.2:=w!;obtain⟨s,Q,m⟩:=QW h w!;have w:e.1<(c.getD e.2 []).length:=Q;exact Int.ofNat_lt.2 w)
     (obtain⟨h,q⟩:=h;obtain rfl :X=e.2:=w!;obtain⟨s,Q,m⟩:=QW h w!;exact m)
     intro n;apply cj1
     iterate 2
      obtain⟨h,q⟩:=h;obtain rfl :X=e.2:=by omega
      rw[<-afV H h w! n];rfl
     obtain⟨h,q⟩:=h;obtain rfl :X=e.2:=by omega
     rw[<-afV H h w! n];exact n.symm;intro F;apply cj3;iterate 2 omega
     refine⟨((Prod.fst e+nat_lit 1),(X)),?_⟩;try dsimp only
     apply aZn;omega;obtain⟨h,q⟩:=h;obtain rfl :X=e.2:=by omega
     exact aHl h w! F;with_reducible rfl
     grind[af,S.len]
   apply cj3;iterate 2 omega
   refine⟨(X+nat_lit 1),?_⟩;try dsimp only
   apply cj1;omega;obtain⟨h,q⟩:=h;obtain rfl :X=e.2:=by omega
   exact aqR h w!;grind[af,S.len]
 apply cj1
 iterate 2
  rw[afW H l w!];rfl
 rw[afW H l w!];rfl
def azD(d:Int)(e:B8)(f:M (Int×Int×Int×B8))(a:O)(g:M (Int×Int×M (B8×U)))(h:Int)(A:B8)(c:O)(H:mI a A c):cV (q85 (Bool.not (Bw d e f a g)) (aVo (QV d e f a g h A c)) (mI a A c) (q11 (jY a h A c) (QV d e f a g h A c))):=by
 refine au ?_;grind[nt,QV,ix,nf]
def azE(y:O)(Y:M (Int×Int×M (B8×U)))(l:M (Int×B8))(b:B8)(c:b.length<1099511627776/\dq l):cV (anG (anP (fk y Y).2) (aVo (dJ y Y l b)) (ME (length b)/\dq l) (anP (fJ (fk y Y).1 l b).2) (cE (length b)) (eN (anP (aI b).2) (aVo (dJ y Y l b)) (S.small l) (US [λ(x:Vg.Z)=>(True,an7 (aWI b y Y).1 (aWI b y Y),x),λ(X:Vg.Z)=>(uK (aS3 b).1 (aS3 b).2.1 (aS3 b).2.2.1 y Y (al l) (aS3 b).2.2.2,an7 (aWH b l y Y).1 (aWH b l y Y),X)]) (a1V [λ(d:Vg.Z)=>(True,an7 (aWI b y Y).1 (aWI b y Y),d),λ(e:Vg.Z)=>(uK (aS3 b).1 (aS3 b).2.1 (aS3 b).2.2.1 y Y (al l) (aS3 b).2.2.2,an7 (aWH b l y Y).1 (aWH b l y Y),e)]=(dJ y Y l b).1.1/\(aSV [λ(f:Vg.Z)=>(True,an7 (aWI b y Y).1 (aWI b y Y),f),λ(g:Vg.Z)=>(uK (aS3 b).1 (aS3 b).2.1 (aS3 b).2.2.1 y Y (al l) (aS3 b).2.2.2,an7 (aWH b l y Y).1 (aWH b l y Y),g)]).1=(dJ y Y l b).1.2/\(aSV [λ(i:Vg.Z)=>(True,an7 (aWI b y Y).1 (aWI b y Y),i),λ(j:Vg.Z)=>(uK (aS3 b).1 (aS3 b).2.1 (aS3 b).2.2.1 y Y (al l) (aS3 b).2.2.2,an7 (aWH b l y Y).1 (aWH b l y Y),j)]).2=(dJ y Y l b).2))):=by
 refine au ?_;apply cj1;trivial;grind[nt,df,dJ,ix];intro h;simp at h;apply cj2;omega;grind;grind[nt,df,dJ,ix];intro H;simp at H;apply cj1;omega;grind[nt,df,dJ,ix];intro a;simp at a;apply aZ4;exact c.2.1;exact⟨trivial,λ_=>⟨afY c.1 c.2 h H a,λ_=>trivial⟩⟩
 iterate 2
  rw[W9 h H a];rfl
 rw[W9 h H a];rfl
def azF(y:O)(Y:M (Int×Int×M (B8×U)))(i:Int)(b:B8)(c:b.length<1099511627776):cV (anG (anP (fk y Y).2) (aVo (mX y Y i b)) (ME (length b)) (anP (uc (fk y Y).1 i b).2) (cE (length b)) (q85 (anP (bx b).2) (aVo (mX y Y i b)) (US [λ(x:Vg.Z)=>(True,an7 (aWJ b y Y).1 (aWJ b y Y),x),λ(X:Vg.Z)=>(mI y (aZW b) (aZX b),an7 (aWK b i y Y).1 (aWK b i y Y),X)]) (a1V [λ(d:Vg.Z)=>(True,an7 (aWJ b y Y).1 (aWJ b y Y),d),λ(e:Vg.Z)=>(mI y (aZW b) (aZX b),an7 (aWK b i y Y).1 (aWK b i y Y),e)]=(mX y Y i b).1.1/\(aSV [λ(f:Vg.Z)=>(True,an7 (aWJ b y Y).1 (aWJ b y Y),f),λ(g:Vg.Z)=>(mI y (aZW b) (aZX b),an7 (aWK b i y Y).1 (aWK b i y Y),g)]).1=(mX y Y i b).1.2/\(aSV [λ(j:Vg.Z)=>(True,an7 (aWJ b y Y).1 (aWJ b y Y),j),λ(k:Vg.Z)=>(mI y (aZW b) (aZX b),an7 (aWK b i y Y).1 (aWK b i y Y),k)]).2=(mX y Y i b).2))):=by
 refine au ?_;apply cj1;trivial;grind[nt,df,mX,ix];intro h;simp at h;apply cj1;omega;grind[nt,df,mX,ix];intro H;simp at H;apply cj1;omega;grind[nt,df,mX,ix];intro a;simp at a;apply cj4;exact⟨trivial,λ_=>⟨aHm c h,λ_=>trivial⟩⟩
 iterate 2
  rw[afZ h H a];rfl
 rw[afZ h H a];rfl
def azG(m:Nat)(a:O)(k:Int)(b x y:O)(l:k.toNat+1<m+1)(h:ap0 a k b x y)(H:Vg.jE J.aWd (a,k,b,x,y)):õ 0 k a b (õ 0 k x y ((S.len (take (toNat k) a)<m/\aui (take (toNat k) a) (take (toNat k) b) (take (toNat k) x) (take (toNat k) y))/\q11 (akf (take (toNat k) a) (take (toNat k) b)) (akf (tkI a k) (tkI b k)))):=by
 refine au ?_;have A:Vg.hlen a:=H.1.1;have c:Vg.hint k:=H.2.1;have I:Vg.hlen b:=H.2.2.1.1;have d:Vg.hlen x:=H.2.2.2.1.1;have e:Vg.hlen y:=H.2.2.2.2.1.1;clear H;with_reducible and_intros
 iterate 8
  (obtain⟨q,Q,f,g⟩:=aMR h.1;have i:=h.2.1;have j:=h.2.2;omega)
 (obtain⟨q,Q,f,g⟩:=aMR h.1;have i:=h.2.1;have j:=h.2.2;simp only[S.len,C?];omega)
 exact aV1 h;iterate 3 rfl
def azH(m:Nat)(a:O)(k:Int)(b x y:O)(l:S.len a-k.toNat+1<m+1)(h:ap0 a k b x y)(H:Vg.jE J.aWd (a,k,b,x,y)):õ 0 k a b (õ 0 k x y ((S.len (drop (toNat k) a)<m/\aui (drop (toNat k) a) (drop (toNat k) b) (drop (toNat k) x) (drop (toNat k) y))/\q11 (akf (drop (toNat k) a) (drop (toNat k) b)) (akf (dpI a k) (dpI b k)))):=by
 refine au ?_;have A:Vg.hlen a:=H.1.1;have c:Vg.hint k:=H.2.1;have I:Vg.hlen b:=H.2.2.1.1;have d:Vg.hlen x:=H.2.2.2.1.1;have e:Vg.hlen y:=H.2.2.2.2.1.1;clear H;with_reducible and_intros
 iterate 8
  (obtain⟨q,Q,f,g⟩:=aMR h.1;have i:=h.2.1;have j:=h.2.2;omega)
 (obtain⟨q,Q,f,g⟩:=aMR h.1;have i:=h.2.1;have j:=h.2.2;simp only[S.len,N?] at *;omega)
 exact aV2 h;iterate 3 rfl
def azI(m:Nat)(a b x y:O)(d:S.len a<m+1)(h:aui a b x y)(c:Vg.jE J.aWe (a,b,x,y)):Rk (aZJ (mB a)) (((0:Int)<=0/\0<mB a)/\Jq (ap2 a 0) (((0:Int)<=0/\0<mB b)/\Jq (ap2 b 0) (iy (bB 0 (ap2 a 0)) (bB 0 (ap2 b 0))/\q11 (bt (bB 0 (ap2 a 0)) (bB 0 (ap2 b 0))) (akf a b)))) True (S.small x) (S.small y) (aST (US [λ(e:Vg.Z)=>(iy (wE x) (wE y),an7 (aWB x y).1 (aWB x y),e),λ(f:Vg.Z)=>(aWz a+1<m+1/\ap0 a (aQa a) b x y,an7 (aWA a b).1 (aWA a b),f),λ(g:Vg.Z)=>(S.len a-aWz a+1<m+1/\ap0 a (aQa a) b x y,an7 (aWy a b).1 (aWy a b),g)]) (a1V [λ(i:Vg.Z)=>(iy (wE x) (wE y),an7 (aWB x y).1 (aWB x y),i),λ(j:Vg.Z)=>(aWz a+1<m+1/\ap0 a (aQa a) b x y,an7 (aWA a b).1 (aWA a b),j),λ(k:Vg.Z)=>(S.len a-aWz a+1<m+1/\ap0 a (aQa a) b x y,an7 (aWy a b).1 (aWy a b),k)]=(akf a b).1.1/\(aSV [λ(l:Vg.Z)=>(iy (wE x) (wE y),an7 (aWB x y).1 (aWB x y),l),λ(r:Vg.Z)=>(aWz a+1<m+1/\ap0 a (aQa a) b x y,an7 (aWA a b).1 (aWA a b),r),λ(o:Vg.Z)=>(S.len a-aWz a+1<m+1/\ap0 a (aQa a) b x y,an7 (aWy a b).1 (aWy a b),o)]).1=(akf a b).1.2/\(aSV [λ(r:Vg.Z)=>(iy (wE x) (wE y),an7 (aWB x y).1 (aWB x y),r),λ(s:Vg.Z)=>(aWz a+1<m+1/\ap0 a (aQa a) b x y,an7 (aWA a b).1 (aWA a b),s),λ(X:Vg.Z)=>(S.len a-aWz a+1<m+1/\ap0 a (aQa a) b x y,an7 (aWy a b).1 (aWy a b),X)]).2=(akf a b).2)):=by
 refine au ?_;have A:Vg.hlen a:=c.1.1;have I:Vg.hlen b:=c.2.1.1;have t:Vg.hlen x:=c.2.2.1.1;have u:Vg.hlen y:=c.2.2.2.1.1;clear c;apply la
 . intro v;try simp only[dt] at v
   with_reducible and_intros
   iterate 2 omega
   exact(aRR h).1;omega;have q:=aMR h;omega;exact(aRR h).2.1;exact NJ 0 ⟨(aRR h).1,(aRR h).2.1⟩
   iterate 2
    rw[aQ3 w!];rfl
   rw[aQ3 w!];rfl
 intro H;try simp only[df] at H
 with_reducible and_intros
 trivial;exact(aRR h).2.2.1;exact(aRR h).2.2.2;trivial;exact⟨aUg ..,λ_=>⟨⟨(aYe h H d).1,aV6 h H⟩,λ_=>⟨⟨(aYe h H d).2,aV6 h H⟩,λ_=>trivial⟩⟩⟩
 iterate 2
  rw[<-aV7 h H True True True];rfl
 rw[<-aV7 h H True True True];rfl
def azJ(a b:O)(d:dj a/\dj b)(h:Vg.jE J.aMT (a,b)):Rk (q81 (q72 (mB a) (mB b)) (alU (mB a))) (aVo (auw a b)) (dj a) (dj b) (aui a b (S.leaves a) (S.leaves b)) (q11 (akf a b) (auw a b)):=by
 refine au ?_;have A:Vg.hlen a:=h.1.1;have I:Vg.hlen b:=h.2.1.1;clear h;apply la;intro H;try simp only[V.Nb,nt,df,dt] at H
 apply cj1;iterate 3 (grind[auw,ix,aui])
 intro c;try simp only[V.qF,nf,dt,df] at c
 apply a0M;iterate 6 (grind[auw,ix,aui])
def azK(a:O)(i j:Int)(b:O)(H:aI1 a i j b)(h:Vg.jE J.a5G (a,i,j,b)):FF 0 i j (mB a)/\FF 0 i j (mB b)/\(dj (drop (toNat i) (take (toNat j) a))/\dj (drop (toNat i) (take (toNat j) b)))/\q11 (auw (drop (toNat i) (take (toNat j) a)) (drop (toNat i) (take (toNat j) b))) (auw (ajL a i j) (ajL b i j)):=by
 refine au ?_;have A:Vg.hlen a:=h.1.1;have c:Vg.hint i:=h.2.1;have d:Vg.hint j:=h.2.2.1;have I:Vg.hlen b:=h.2.2.2.1.1;clear h;with_reducible and_intros
 iterate 6
  obtain⟨q,Q,e,f,g,k⟩:=H;omega
 exact aPn H.1 ..;exact aPn H.2.1 ..;iterate 3 rfl
def aXx(a b:O)(i j:Int)(h:Vg.jE J.a5H (a,b,i,j)): [a]=[a]/\0=0/\[i]=[i]/\0=0/\[j]=[j]/\0=0/\[b]=[b]/\0=0:=by
 have A:Vg.hlen a:=h.1.1;have I:Vg.hlen b:=h.2.1.1;have c:Vg.hint i:=h.2.2.1;have d:Vg.hint j:=h.2.2.2.1;clear h;with_reducible and_intros
 iterate 8 rfl
def azL:aVo ix:=by
 refine au ?_;apply cj1;iterate 3 (grind[ix])
def aXy(m n:Int)(H:aF7 m n)(d:Vg.jE J.aE2 (m,n)):(∃(X:M (Int×Int×Int×Int×Bool)×Int×Int×Int),(0=X.2.1/\m=X.2.2.1/\n=X.2.2.2/\[]=X.1)/\awP m n X)/\(∀(x:M (Int×Int×Int×Int×Bool)×Int×Int×Int),awP m n x->q85 (decide (x.2.2.1<x.2.2.2)) (aST (aZh (length x.1) (length [(x.2.1,x.2.2.1,x.2.2.2,aVO x,aYP x)])) (anS (aYP x) (mC (x.2.1+aVO x)/\mC (x.2.2.1-aVO x)/\mC (x.2.2.2-aVO x))/\(∃(a:M (Int×Int×Int×Int×Bool)×Int×Int×Int),((bif aYP x then x.2.1+aVO x else x.2.1)=a.2.1/\(bif aYP x then x.2.2.1-aVO x else x.2.2.1)=a.2.2.1/\(bif aYP x then x.2.2.2-aVO x else aVO x)=a.2.2.2/\x.1++[(x.2.1,x.2.2.1,x.2.2.2,aVO x,aYP x)]=a.1)/\awP m n a/\aLW a.2.2.2 x.2.2.2))) (x.1=aFO m n) (x.2.1=aFP m n)):=by
 refine au ?_;have A:Vg.hint m:=d.1;have f:Vg.hint n:=d.2.1;clear d;apply la
 . refine⟨(([]),(((0:Int)),((m),(n)))),?_⟩;try dsimp only
   with_reducible and_intros
   iterate 4 with_reducible rfl
   exact a0o H
 intro X h;apply la
 . intro c;try simp only[dt] at c
   apply aZi;trivial;have q:=a0p H h;simp only[J?];omega;intro g;try simp only[dt] at g
   apply cj7
   iterate 5
    obtain⟨Q,i,j,k⟩:=aV0 H h c;obtain⟨_,_,l,o,r,s,t,_⟩:=h;have q:=H.2.2;omega
   obtain⟨Q,i,j,k⟩:=aV0 H h c;obtain⟨_,_,l,o,r,s,t,_⟩:=h;have q:=H.2.2;omega;intro u;try simp only[df] at u
   trivial;refine⟨((Prod.fst X++[(Prod.fst (Prod.snd X),Prod.fst (Prod.snd (Prod.snd X)),Prod.snd (Prod.snd (Prod.snd X)),S.split (Prod.snd (Prod.snd (Prod.snd X))),Decidable.decide (S.split (Prod.snd (Prod.snd (Prod.snd X)))<Prod.fst (Prod.snd (Prod.snd X))))]),((bif Decidable.decide (S.split (Prod.snd (Prod.snd (Prod.snd X)))<Prod.fst (Prod.snd (Prod.snd X))) then Prod.fst (Prod.snd X)+S.split (Prod.snd (Prod.snd (Prod.snd X))) else Prod.fst (Prod.snd X)),((bif Decidable.decide (S.split (Prod.snd (Prod.snd (Prod.snd X)))<Prod.fst (Prod.snd (Prod.snd X))) then Prod.fst (Prod.snd (Prod.snd X))-S.split (Prod.snd (Prod.snd (Prod.snd X))) else Prod.fst (Prod.snd (Prod.snd X))),(bif Decidable.decide (S.split (Prod.snd (Prod.snd (Prod.snd X)))<Prod.fst (Prod.snd (Prod.snd X))) then Prod.snd (Prod.snd (Prod.snd X))-S.split (Prod.snd (Prod.snd (Prod.snd X))) else S.split (Prod.snd (Prod.snd (Prod.snd X))))))),?_⟩;try dsimp only
   with_reducible and_intros
   iterate 4 with_reducible rfl
   exact(aSQ H h c).1;exact(aSQ H h c).2
 intro e;try simp only[df] at e
 apply la;exact(aUf h e).1;exact(aUf h e).2
def aXz(a b p:O)(u:aFQ a b p)(z:Vg.jE J.a5I (a,b,p)):dj a/\dj b/\aV4 (alU (mB a)) (eN (decide (mB b<mB a)) True (S.small (S.leaves a)) (S.small (S.leaves b)) (eX p))/\Rk (q81 (alU (mB a)) (q81 (decide (mB b<mB a)) (anP (J7 (mB a) (mB b) (kI (S.leaves a)) (kI (S.leaves b)) p)))) (aVo (aul a b p)) (aF7 (mB a) (mB b)) (S.small (S.leaves a)) (anS (aRO (aVM a b)) (gW 0 (mB p) 1)) (Ju 0 (aVb a b) aU6/\Ju 0 (aVb a b) aU6/\(∃(v:Nat),((0:Int)=v/\(bif aRO (aVM a b) then ap2 p 0 else kI (S.leaves a))=an8 a b p v/\(bif aRO (aVM a b) then ap2 p 0 else kI (S.leaves a))=anp a b p v/\Vg.aE.JY (toNat (aVb a b))=an3 a b p v/\Vg.aE.JY (toNat (aVb a b))=anH a b p v)/\v<=aWx a b p)/\(∀(x:Nat),x<=aWx a b p->eN (decide (x<mB (aU2 a b p))) (jz 0 x (mB (aU2 a b p))/\mC (aVb a b-1)/\mC (aVb a b-1-x)/\jz 0 (aVb a b-1-x) (aVb a b)/\mC ((aU1 a b x).1+(aU1 a b x).2.2.1)/\FF 0 (aU1 a b x).1 ((aU1 a b x).1+(aU1 a b x).2.2.1) (mB (S.leaves b))/\S.small (aXi a b x)/\dz 0 (aVb a b-1-x) (Vg.aE.len (an3 a b p x)) (aWi a b x) (q85 (aU1 a b x).2.2.2.2 (Jq (ap2 (aU2 a b p) x++an8 a b p x) (mC ((aU1 a b x).1+(aU1 a b x).2.1)/\FF 0 (aU1 a b x).1 ((aU1 a b x).1+(aU1 a b x).2.1) (mB (S.leaves a))/\S.small (a0z a b x)/\cV (dz 0 (aVb a b-1-x) (Vg.aE.len (a1m a b p x)) (aWi a b x) (Jq (ap2 (aU2 a b p) x++anp a b p x) (cV (dz 0 (aVb a b-1-x) (Vg.aE.len (anH a b p x)) (aWi a b x) (aYF (mC (x+1)) (∃(w:Nat),aUT (x+1) w (bz (ap2 (aU2 a b p) x) (an8 a b p x)=an8 a b p w/\bz (ap2 (aU2 a b p) x) (anp a b p x)=anp a b p w/\Vg.aE.put (a1m a b p x) (aWi a b x) (iy (bB 1 (ap2 (aU2 a b p) x++an8 a b p x)) (wE (a0z a b x))) (an7 (bt (bB 1 (ap2 (aU2 a b p) x++an8 a b p x)) (wE (a0z a b x))).1 (bt (bB 1 (ap2 (aU2 a b p) x++an8 a b p x)) (wE (a0z a b x))))=an3 a b p w/\Vg.aE.put (anH a b p x) (aWi a b x) (iy (bB 1 (ap2 (aU2 a b p) x++anp a b p x)) (wE (aXi a b x))) (an7 (bt (bB 1 (ap2 (aU2 a b p) x++anp a b p x)) (wE (aXi a b x))).1 (bt (bB 1 (ap2 (aU2 a b p) x++anp a b p x)) (wE (aXi a b x))))=anH a b p w) (w<=aWx a b p) (aWx a b p) (af (aWx a b p) x))))))))) (az (anp a b p x++ap2 (aU2 a b p) x)) (cV (dz 0 (aVb a b-1-x) (Vg.aE.len (anH a b p x)) (aWi a b x) (aST (mC (x+1)) (∃(y:Nat),aUT (x+1) y (an8 a b p x=an8 a b p y/\bz (anp a b p x) (ap2 (aU2 a b p) x)=anp a b p y/\a1m a b p x=an3 a b p y/\Vg.aE.put (anH a b p x) (aWi a b x) (iy (bB 1 (anp a b p x++ap2 (aU2 a b p) x)) (wE (aXi a b x))) (an7 (bt (bB 1 (anp a b p x++ap2 (aU2 a b p) x)) (wE (aXi a b x))).1 (bt (bB 1 (anp a b p x++ap2 (aU2 a b p) x)) (wE (aXi a b x))))=anH a b p y) (y<=aWx a b p) (aWx a b p) (af (aWx a b p) x))))))) (Vg.aE.len (an3 a b p x)+length (anH a b p x)<=17592186044416) (∃(C:Nat),((0:Int)=C/\Vg.aE.cat (an3 a b p x) (anH a b p x)=anw a b p C)/\leP (ep a b) C) (∀(c:Nat),leP (ep a b) c->Rk (decide (c<aVb a b)) (aWr 0 c (aVb a b) (aYO a b c).2.2.2.2 (mC (a0y a b c)/\aST (a1X (anw a b p c)) (aVg c (∃(D:Nat),aUT (c+1) D (Vg.aE.cat (anw a b p c) [λ(U:Vg.Z)=>(aI1 a (aYO a b c).1 (a0y a b c) b,an7 (a2r a b c).1 (a2r a b c),U)]=anw a b p D) (leP (ep a b) D) (S.len (ep a b)) (af (S.len (ep a b)) c)))) 1 (∃(s:Nat),aUT (c+1) s (anw a b p c=anw a b p s) (leP (ep a b) s) (S.len (ep a b)) (af (S.len (ep a b)) c))) True (a1X (anw a b p c)) (US (Vg.aE.cat (anw a b p c) [λ(W:Vg.Z)=>(aI1 a (aVM a b) (mB a) b,an7 (aWw a b).1 (aWw a b),W)])) (a1V (Vg.aE.cat (anw a b p c) [λ(Y:Vg.Z)=>(aI1 a (aVM a b) (mB a) b,an7 (aWw a b).1 (aWw a b),Y)])=(aul a b p).1.1/\(aSV (Vg.aE.cat (anw a b p c) [λ(E:Vg.Z)=>(aI1 a (aVM a b) (mB a) b,an7 (aWw a b).1 (aWw a b),E)])).1=(aul a b p).1.2/\(aSV (Vg.aE.cat (anw a b p c) [λ(F:Vg.Z)=>(aI1 a (aVM a b) (mB a) b,an7 (aWw a b).1 (aWw a b),F)])).2=(aul a b p).2)))):=by
 refine au ?_;have arT:Vg.hlen a:=z.1.1;have I6:Vg.hlen b:=z.2.1.1;have aO4:Vg.hlen p:=z.2.2.1.1;clear z;rw[show aFO (a.length:Int) (b.length:Int)=ep a b from rfl,show aFP (a.length:Int) (b.length:Int)=ccF a b from rfl,show(bif decide ((0:Int)<ccF a b) then drop (toNat 1) p else p)=ccP a b p from rfl];with_reducible and_intros
 exact u.1;exact u.2.1;intro h1;try simp only[dt] at h1
 trivial;intro h2;try simp only[df] at h2
 apply la;intro h3;try simp only[dt] at h3
 trivial;intro h4;try simp only[df] at h4
 apply cj1;exact aF2 (by rw[nA];exact u.1.1);exact aF2 (by rw[nA];exact u.2.1.1);exact u.2.2;intro G;try simp only[V.Nb,dt,nt,df] at G
 apply cj1
 iterate 2
  rw[aYf G];rfl
 rw[aYf G];rfl;intro H;try simp only[V.qF,df,nf,dt] at H
 with_reducible and_intros
 have q:=aog (aj1 H);exact⟨w!,w!,w!⟩;exact aF2 (by rw[nA];exact u.1.1);intro I;try simp only[dt] at I
 apply cj2;omega;have q:=(arO (aj1 H)).2.2.2.1 (L? I);omega;omega;have q:=(arO (aj1 H)).2.2.2.1 (L? I);omega;intro h8;try simp only[df] at h8
 trivial;iterate 2 omega
 have q:=aog (aj1 H);omega;iterate 2 omega
 have q:=aog (aj1 H);omega;refine⟨(nat_lit 0:Nat),?_⟩;try dsimp only
 apply a14;omega;iterate 4 rfl
 omega;intro s P;apply la
 . intro i;try simp only[dt] at i
   with_reducible and_intros
   iterate 3 omega
   have q:=aog (aj1 H);unfold leP at *;omega
   (have h:=aj1 H;obtain⟨Q,d,e,f⟩:=auz h i;obtain⟨r,R,g,j,k⟩:=auy h i rfl;obtain⟨t,T,l,m,n,o,_⟩:=aog h;omega)
   have q:=aog (aj1 H);unfold leP at *;omega
   (have h:=aj1 H;obtain⟨Q,d,e,f⟩:=auz h i;obtain⟨r,R,g,j,k⟩:=auy h i rfl;obtain⟨t,T,l,m,n,o,_⟩:=aog h;omega)
   omega
   iterate 5
    (have h:=aj1 H;obtain⟨Q,d,e,f⟩:=auz h i;obtain⟨r,R,g,j,k⟩:=auy h i rfl;obtain⟨t,T,l,m,n,o,_⟩:=aog h;omega)
   obtain⟨Q,d,e,_⟩:=aog (aj1 H);exact aF2 (by simp only[N?,C?];omega)
   (have h:=aj1 H;obtain⟨Q,d,e,f⟩:=auz h i;obtain⟨r,R,g,j,k⟩:=auy h i rfl;obtain⟨t,T,l,m,n,o,_⟩:=aog h;omega)
   iterate 2
    (have h:=aj1 H;obtain⟨Q,d,e,f⟩:=auz h i;obtain⟨r,R,g,j,k⟩:=auy h i rfl;obtain⟨t,T,l,m,n,o,_⟩:=aog h;simp only[Vg.aE.len,Vg.aE.put,List.length_set] at *;omega)
   . intro K;with_reducible and_intros
     exact(aTi (aj1 H) i).1
     iterate 5
      (have h:=aj1 H;obtain⟨Q,d,e,f⟩:=auz h i;obtain⟨r,R,g,j,k⟩:=auy h i rfl;obtain⟨t,T,l,m,n,o,_⟩:=aog h;omega)
     obtain⟨Q,d,e,_⟩:=aog (aj1 H);exact aF2 (by simp only[N?,C?];omega);trivial
     (have h:=aj1 H;obtain⟨Q,d,e,f⟩:=auz h i;obtain⟨r,R,g,j,k⟩:=auy h i rfl;obtain⟨t,T,l,m,n,o,_⟩:=aog h;omega)
     iterate 2
      (have h:=aj1 H;obtain⟨Q,d,e,f⟩:=auz h i;obtain⟨r,R,g,j,k⟩:=auy h i rfl;obtain⟨t,T,l,m,n,o,_⟩:=aog h;simp only[Vg.aE.len,Vg.aE.put,List.length_set] at *;omega)
     exact(aTi (aj1 H) i).2.1;trivial
     (have h:=aj1 H;obtain⟨Q,d,e,f⟩:=auz h i;obtain⟨r,R,g,j,k⟩:=auy h i rfl;obtain⟨t,T,l,m,n,o,_⟩:=aog h;omega)
     iterate 2
      (have h:=aj1 H;obtain⟨Q,d,e,f⟩:=auz h i;obtain⟨r,R,g,j,k⟩:=auy h i rfl;obtain⟨t,T,l,m,n,o,_⟩:=aog h;simp only[Vg.aE.len,Vg.aE.put,List.length_set] at *;omega)
     iterate 2 trivial
     omega
     (have h:=aj1 H;obtain⟨Q,d,e,f⟩:=auz h i;obtain⟨r,R,g,j,k⟩:=auy h i rfl;obtain⟨t,T,l,m,n,o,_⟩:=aog h;omega)
     refine⟨(s+nat_lit 1),?_⟩;try dsimp only
     apply aZo;omega;have q:=aSp (aj1 H) i;rw[if_pos K] at q;exact(congrArg Prod.fst q).symm;have q:=aSp (aj1 H) i;rw[if_pos K] at q;exact(congrArg Prod.snd q).symm;rw[(aSq (aj1 H) i).1,aQD,if_pos K];exact List.set_set ..;rw[(aSq (aj1 H) i).2,aQZ,if_pos K];rfl;iterate 2 (grind[af,S.len])
   intro A;with_reducible and_intros
   exact(aTi (aj1 H) i).2.2;trivial
   (have h:=aj1 H;obtain⟨Q,d,e,f⟩:=auz h i;obtain⟨r,R,g,j,k⟩:=auy h i rfl;obtain⟨t,T,l,m,n,o,_⟩:=aog h;omega)
   iterate 2
    (have h:=aj1 H;obtain⟨Q,d,e,f⟩:=auz h i;obtain⟨r,R,g,j,k⟩:=auy h i rfl;obtain⟨t,T,l,m,n,o,_⟩:=aog h;simp only[Vg.aE.len,Vg.aE.put,List.length_set] at *;omega)
   trivial;omega
   (have h:=aj1 H;obtain⟨Q,d,e,f⟩:=auz h i;obtain⟨r,R,g,j,k⟩:=auy h i rfl;obtain⟨t,T,l,m,n,o,_⟩:=aog h;omega)
   refine⟨(s+nat_lit 1),?_⟩;try dsimp only
   apply aZo;omega;have q:=aSp (aj1 H) i;rw[A] at q;exact(congrArg Prod.fst q).symm;have q:=aSp (aj1 H) i;rw[A] at q;exact(congrArg Prod.snd q).symm;rw[(aSq (aj1 H) i).1,aQD,A];rfl;rw[(aSq (aj1 H) i).2,aQZ,A];rfl;iterate 2 (grind[af,S.len])
 intro L;try simp only[df] at L
 apply cj1;have q:=aUi (aj1 H) P L;have d:Vg.aE.len (an3 a b p s)=(an3 a b p s).length:=rfl;have Q:=aog (aj1 H);omega;refine⟨(nat_lit 0:Nat),?_⟩;try dsimp only
 apply cj3;omega;obtain⟨rfl,_⟩:=aUi (aj1 H) P L;exact(aZc a b p).symm;exact S! _;intro X M;apply la
 . intro B;try simp only[dt] at B
   apply cj2;iterate 2 omega
   . intro þ;with_reducible and_intros
     iterate 2
      have q:=aZd (aj1 H) B rfl;have Q:=aog (aj1 H);omega
     trivial;have q:=aV8 (aj1 H) X;have Q:=aog (aj1 H);have d:Vg.aE.len (anw a b p X)=(anw a b p X).length:=rfl;omega;omega;have q:=aog (aj1 H);omega;refine⟨(X+nat_lit 1),?_⟩;try dsimp only
     apply cj2;omega;rw[aV9 B,if_pos þ];rfl;unfold leP at *;omega;grind[af,S.len]
   intro ÿ;apply cj3;omega;have q:=aog (aj1 H);omega;refine⟨(X+nat_lit 1),?_⟩;try dsimp only
   apply cj2;omega;rw[aV9 B,ÿ];rfl;unfold leP at *;omega;grind[af,S.len]
 intro N;try simp only[df] at N
 apply a0M;trivial;have q:=aV8 (aj1 H) X;have Q:=aog (aj1 H);have d:Vg.aE.len (anw a b p X)=(anw a b p X).length:=rfl;omega;obtain rfl :X=(ep a b).length:=by unfold leP at M;omega
 exact aW7 (aj1 H) u
 iterate 2
  obtain rfl :X=(ep a b).length:=by unfold leP at M;omega
  rw[aUj (aj1 H)];rfl
 obtain rfl :X=(ep a b).length:=by unfold leP at M;omega
 rw[aUj (aj1 H)];rfl
def aXA(c:Int)(d:B8)(e:M (Int×Int×Int×B8))(S:O)(f:M (Int×Int×M (B8×U)))(g:Int)(i:B8)(j:M (Int×Int×Int×B8))(a:O)(F:M (Int×Int×M (B8×U)))(s:O)(z:aOi c d e S f g i j a F s)(h:Vg.jE J.a5J (c,d,e,S,f,g,i,j,a,F,s)):aST (aVe (Bool.not (Bw c d e S f))) (q85 (aPv (Bool.not (Bw c d e S f)) (Bw g i j a F)) (aVo (at6 c d e S f g i j a F s)) (aFQ S a s) (q11 (aul S a s) (at6 c d e S f g i j a F s))):=by
 refine au ?_;have A:Vg.hint c:=h.1;have k:Vg.hlen d:=h.2.1;have l:Vg.hlen e:=h.2.2.1.1;have m:Vg.hlen S:=h.2.2.2.1.1;have n:Vg.hlen f:=h.2.2.2.2.1.1;have o:Vg.hint g:=h.2.2.2.2.2.1;have q:Vg.hlen i:=h.2.2.2.2.2.2.1;have r:Vg.hlen j:=h.2.2.2.2.2.2.2.1.1;have t:Vg.hlen a:=h.2.2.2.2.2.2.2.2.1.1;have u:Vg.hlen F:=h.2.2.2.2.2.2.2.2.2.1.1;have v:Vg.hlen s:=h.2.2.2.2.2.2.2.2.2.2.1.1;clear h;apply cj9;trivial;intro H;try simp only[nt] at H
 trivial;intro w;try simp only[nf] at w
 trivial;intro x;try simp only[V.Nb,nt] at x
 apply cj1;iterate 3 (grind[at6,ix,aOi])
 intro y;try simp only[V.qF,nf] at y
 apply cj4;assumption;iterate 3 (grind[at6,ix,aOi])
def aXB(x:O)(X:M (Int×Int×M (B8×U)))(y:O)(Y:M (Int×Int×M (B8×U)))(b:B8)(k:b.length<1099511627776)(h:Vg.jE J.a5K (x,X,y,Y,b)):True/\((!decide ((fk x X).2=(0:Int)))=true->[]=((alN x X y Y b).1).1/\[]=((alN x X y Y b).1).2/\false=(alN x X y Y b).2)/\((!decide ((fk x X).2=(0:Int)))=false->True/\((!decide ((fk y Y).2=(0:Int)))=true->[]=((alN x X y Y b).1).1/\[]=((alN x X y Y b).1).2/\false=(alN x X y Y b).2)/\((!decide ((fk y Y).2=(0:Int)))=false->length b<(1099511627776:Nat)/\((bif !decide (((anq ((fk x X).1) b).2).2=(0:Int)) then true else !decide ((anq ((fk x X).1) b).1=(fk y Y).1))=true->[]=((alN x X y Y b).1).1/\[]=((alN x X y Y b).1).2/\false=(alN x X y Y b).2)/\((bif !decide (((anq ((fk x X).1) b).2).2=(0:Int)) then true else !decide ((anq ((fk x X).1) b).1=(fk y Y).1))=false->length b<=(140737488355328:Nat)/\((!decide ((S.Ě b).2=(0:Int)))=true->[]=((alN x X y Y b).1).1/\[]=((alN x X y Y b).1).2/\false=(alN x X y Y b).2)/\((!decide ((S.Ě b).2=(0:Int)))=false->(Vg.aE.first [λ(z:Vg.Z)=>(True,Vg.AV.bk [Vg.AV.agg [Vg.AV.sl [Vg.Ty.int Go.IntKind.u8] (((sI (((S.Ě b).1).1) ((((S.Ě b).1).2).1) (((((S.Ě b).1).2).2).1) x X).1).1),Vg.AV.sl [Vg.Ty.int Go.IntKind.u8] (((sI (((S.Ě b).1).1) ((((S.Ě b).1).2).1) (((((S.Ě b).1).2).2).1) x X).1).2)],Vg.AV.bool ((sI (((S.Ě b).1).1) ((((S.Ě b).1).2).1) (((((S.Ě b).1).2).2).1) x X).2)],z),λ(z:Vg.Z)=>(True,Vg.AV.bk [Vg.AV.agg [Vg.AV.sl [Vg.Ty.int Go.IntKind.u8] (((sI ((((((S.Ě b).1).2).2).2).1) (((((((S.Ě b).1).2).2).2).2).1) ((((((((S.Ě b).1).2).2).2).2).2).1) y Y).1).1),Vg.AV.sl [Vg.Ty.int Go.IntKind.u8] (((sI ((((((S.Ě b).1).2).2).2).1) (((((((S.Ě b).1).2).2).2).2).1) ((((((((S.Ě b).1).2).2).2).2).2).1) y Y).1).2)],Vg.AV.bool ((sI ((((((S.Ě b).1).2).2).2).1) (((((((S.Ě b).1).2).2).2).2).1) ((((((((S.Ě b).1).2).2).2).2).2).1) y Y).2)],z),λ(z:Vg.Z)=>(aOi (((S.Ě b).1).1) ((((S.Ě b).1).2).1) (((((S.Ě b).1).2).2).1) x X ((((((S.Ě b).1).2).2).2).1) (((((((S.Ě b).1).2).2).2).2).1) ((((((((S.Ě b).1).2).2).2).2).2).1) y Y ((((((((S.Ě b).1).2).2).2).2).2).2),Vg.AV.bk [Vg.AV.agg [Vg.AV.sl [Vg.Ty.int Go.IntKind.u8] (((at6 (((S.Ě b).1).1) ((((S.Ě b).1).2).1) (((((S.Ě b).1).2).2).1) x X ((((((S.Ě b).1).2).2).2).1) (((((((S.Ě b).1).2).2).2).2).1) ((((((((S.Ě b).1).2).2).2).2).2).1) y Y ((((((((S.Ě b).1).2).2).2).2).2).2)).1).1),Vg.AV.sl [Vg.Ty.int Go.IntKind.u8] (((at6 (((S.Ě b).1).1) ((((S.Ě b).1).2).1) (((((S.Ě b).1).2).2).1) x X ((((((S.Ě b).1).2).2).2).1) (((((((S.Ě b).1).2).2).2).2).1) ((((((((S.Ě b).1).2).2).2).2).2).1) y Y ((((((((S.Ě b).1).2).2).2).2).2).2)).1).2)],Vg.AV.bool ((at6 (((S.Ě b).1).1) ((((S.Ě b).1).2).1) (((((S.Ě b).1).2).2).1) x X ((((((S.Ě b).1).2).2).2).1) (((((((S.Ě b).1).2).2).2).2).1) ((((((((S.Ě b).1).2).2).2).2).2).1) y Y ((((((((S.Ě b).1).2).2).2).2).2).2)).2)],z)]).1/\((Vg.aE.first [λ(z:Vg.Z)=>(True,Vg.AV.bk [Vg.AV.agg [Vg.AV.sl [Vg.Ty.int Go.IntKind.u8] (((sI (((S.Ě b).1).1) ((((S.Ě b).1).2).1) (((((S.Ě b).1).2).2).1) x X).1).1),Vg.AV.sl [Vg.Ty.int Go.IntKind.u8] (((sI (((S.Ě b).1).1) ((((S.Ě b).1).2).1) (((((S.Ě b).1).2).2).1) x X).1).2)],Vg.AV.bool ((sI (((S.Ě b).1).1) ((((S.Ě b).1).2).1) (((((S.Ě b).1).2).2).1) x X).2)],z),λ(z:Vg.Z)=>(True,Vg.AV.bk [Vg.AV.agg [Vg.AV.sl [Vg.Ty.int Go.IntKind.u8] (((sI ((((((S.Ě b).1).2).2).2).1) (((((((S.Ě b).1).2).2).2).2).1) ((((((((S.Ě b).1).2).2).2).2).2).1) y Y).1).1),Vg.AV.sl [Vg.Ty.int Go.IntKind.u8] (((sI ((((((S.Ě b).1).2).2).2).1) (((((((S.Ě b).1).2).2).2).2).1) ((((((((S.Ě b).1).2).2).2).2).2).1) y Y).1).2)],Vg.AV.bool ((sI ((((((S.Ě b).1).2).2).2).1) (((((((S.Ě b).1).2).2).2).2).1) ((((((((S.Ě b).1).2).2).2).2).2).1) y Y).2)],z),λ(z:Vg.Z)=>(aOi (((S.Ě b).1).1) ((((S.Ě b).1).2).1) (((((S.Ě b).1).2).2).1) x X ((((((S.Ě b).1).2).2).2).1) (((((((S.Ě b).1).2).2).2).2).1) ((((((((S.Ě b).1).2).2).2).2).2).1) y Y ((((((((S.Ě b).1).2).2).2).2).2).2),Vg.AV.bk [Vg.AV.agg [Vg.AV.sl [Vg.Ty.int Go.IntKind.u8] (((at6 (((S.Ě b).1).1) ((((S.Ě b).1).2).1) (((((S.Ě b).1).2).2).1) x X ((((((S.Ě b).1).2).2).2).1) (((((((S.Ě b).1).2).2).2).2).1) ((((((((S.Ě b).1).2).2).2).2).2).1) y Y ((((((((S.Ě b).1).2).2).2).2).2).2)).1).1),Vg.AV.sl [Vg.Ty.int Go.IntKind.u8] (((at6 (((S.Ě b).1).1) ((((S.Ě b).1).2).1) (((((S.Ě b).1).2).2).1) x X ((((((S.Ě b).1).2).2).2).1) (((((((S.Ě b).1).2).2).2).2).1) ((((((((S.Ě b).1).2).2).2).2).2).1) y Y ((((((((S.Ě b).1).2).2).2).2).2).2)).1).2)],Vg.AV.bool ((at6 (((S.Ě b).1).1) ((((S.Ě b).1).2).1) (((((S.Ě b).1).2).2).1) x X ((((((S.Ě b).1).2).2).2).1) (((((((S.Ě b).1).2).2).2).2).1) ((((((((S.Ě b).1).2).2).2).2).2).1) y Y ((((((((S.Ě b).1).2).2).2).2).2).2)).2)],z)]).2).1=((alN x X y Y b).1).1/\(((Vg.aE.first [λ(z:Vg.Z)=>(True,Vg.AV.bk [Vg.AV.agg [Vg.AV.sl [Vg.Ty.int Go.IntKind.u8] (((sI (((S.Ě b).1).1) ((((S.Ě b).1).2).1) (((((S.Ě b).1).2).2).1) x X).1).1),Vg.AV.sl [Vg.Ty.int Go.IntKind.u8] (((sI (((S.Ě b).1).1) ((((S.Ě b).1).2).1) (((((S.Ě b).1).2).2).1) x X).1).2)],Vg.AV.bool ((sI (((S.Ě b).1).1) ((((S.Ě b).1).2).1) (((((S.Ě b).1).2).2).1) x X).2)],z),λ(z:Vg.Z)=>(True,Vg.AV.bk [Vg.AV.agg [Vg.AV.sl [Vg.Ty.int Go.IntKind.u8] (((sI ((((((S.Ě b).1).2).2).2).1) (((((((S.Ě b).1).2).2).2).2).1) ((((((((S.Ě b).1).2).2).2).2).2).1) y Y).1).1),Vg.AV.sl [Vg.Ty.int Go.IntKind.u8] (((sI ((((((S.Ě b).1).2).2).2).1) (((((((S.Ě b).1).2).2).2).2).1) ((((((((S.Ě b).1).2).2).2).2).2).1) y Y).1).2)],Vg.AV.bool ((sI ((((((S.Ě b).1).2).2).2).1) (((((((S.Ě b).1).2).2).2).2).1) ((((((((S.Ě b).1).2).2).2).2).2).1) y Y).2)],z),λ(z:Vg.Z)=>(aOi (((S.Ě b).1).1) ((((S.Ě b).1).2).1) (((((S.Ě b).1).2).2).1) x X ((((((S.Ě b).1).2).2).2).1) (((((((S.Ě b).1).2).2).2).2).1) ((((((((S.Ě b).1).2).2).2).2).2).1) y Y ((((((((S.Ě b).1).2).2).2).2).2).2),Vg.AV.bk [Vg.AV.agg [Vg.AV.sl [Vg.Ty.int Go.IntKind.u8] (((at6 (((S.Ě b).1).1) ((((S.Ě b).1).2).1) (((((S.Ě b).1).2).2).1) x X ((((((S.Ě b).1).2).2).2).1) (((((((S.Ě b).1).2).2).2).2).1) ((((((((S.Ě b).1).2).2).2).2).2).1) y Y ((((((((S.Ě b).1).2).2).2).2).2).2)).1).1),Vg.AV.sl [Vg.Ty.int Go.IntKind.u8] (((at6 (((S.Ě b).1).1) ((((S.Ě b).1).2).1) (((((S.Ě b).1).2).2).1) x X ((((((S.Ě b).1).2).2).2).1) (((((((S.Ě b).1).2).2).2).2).1) ((((((((S.Ě b).1).2).2).2).2).2).1) y Y ((((((((S.Ě b).1).2).2).2).2).2).2)).1).2)],Vg.AV.bool ((at6 (((S.Ě b).1).1) ((((S.Ě b).1).2).1) (((((S.Ě b).1).2).2).1) x X ((((((S.Ě b).1).2).2).2).1) (((((((S.Ě b).1).2).2).2).2).1) ((((((((S.Ě b).1).2).2).2).2).2).1) y Y ((((((((S.Ě b).1).2).2).2).2).2).2)).2)],z)]).2).2).1=((alN x X y Y b).1).2/\(((Vg.aE.first [λ(z:Vg.Z)=>(True,Vg.AV.bk [Vg.AV.agg [Vg.AV.sl [Vg.Ty.int Go.IntKind.u8] (((sI (((S.Ě b).1).1) ((((S.Ě b).1).2).1) (((((S.Ě b).1).2).2).1) x X).1).1),Vg.AV.sl [Vg.Ty.int Go.IntKind.u8] (((sI (((S.Ě b).1).1) ((((S.Ě b).1).2).1) (((((S.Ě b).1).2).2).1) x X).1).2)],Vg.AV.bool ((sI (((S.Ě b).1).1) ((((S.Ě b).1).2).1) (((((S.Ě b).1).2).2).1) x X).2)],z),λ(z:Vg.Z)=>(True,Vg.AV.bk [Vg.AV.agg [Vg.AV.sl [Vg.Ty.int Go.IntKind.u8] (((sI ((((((S.Ě b).1).2).2).2).1) (((((((S.Ě b).1).2).2).2).2).1) ((((((((S.Ě b).1).2).2).2).2).2).1) y Y).1).1),Vg.AV.sl [Vg.Ty.int Go.IntKind.u8] (((sI ((((((S.Ě b).1).2).2).2).1) (((((((S.Ě b).1).2).2).2).2).1) ((((((((S.Ě b).1).2).2).2).2).2).1) y Y).1).2)],Vg.AV.bool ((sI ((((((S.Ě b).1).2).2).2).1) (((((((S.Ě b).1).2).2).2).2).1) ((((((((S.Ě b).1).2).2).2).2).2).1) y Y).2)],z),λ(z:Vg.Z)=>(aOi (((S.Ě b).1).1) ((((S.Ě b).1).2).1) (((((S.Ě b).1).2).2).1) x X ((((((S.Ě b).1).2).2).2).1) (((((((S.Ě b).1).2).2).2).2).1) ((((((((S.Ě b).1).2).2).2).2).2).1) y Y ((((((((S.Ě b).1).2).2).2).2).2).2),Vg.AV.bk [Vg.AV.agg [Vg.AV.sl [Vg.Ty.int Go.IntKind.u8] (((at6 (((S.Ě b).1).1) ((((S.Ě b).1).2).1) (((((S.Ě b).1).2).2).1) x X ((((((S.Ě b).1).2).2).2).1) (((((((S.Ě b).1).2).2).2).2).1) ((((((((S.Ě b).1).2).2).2).2).2).1) y Y ((((((((S.Ě b).1).2).2).2).2).2).2)).1).1),Vg.AV.sl [Vg.Ty.int Go.IntKind.u8] (((at6 (((S.Ě b).1).1) ((((S.Ě b).1).2).1) (((((S.Ě b).1).2).2).1) x X ((((((S.Ě b).1).2).2).2).1) (((((((S.Ě b).1).2).2).2).2).1) ((((((((S.Ě b).1).2).2).2).2).2).1) y Y ((((((((S.Ě b).1).2).2).2).2).2).2)).1).2)],Vg.AV.bool ((at6 (((S.Ě b).1).1) ((((S.Ě b).1).2).1) (((((S.Ě b).1).2).2).1) x X ((((((S.Ě b).1).2).2).2).1) (((((((S.Ě b).1).2).2).2).2).1) ((((((((S.Ě b).1).2).2).2).2).2).1) y Y ((((((((S.Ě b).1).2).2).2).2).2).2)).2)],z)]).2).2).2=(alN x X y Y b).2)))):=by
 have A:Vg.hlen x:=h.1.1;have e:Vg.hlen X:=h.2.1.1;have D:Vg.hlen y:=h.2.2.1.1;have w:Vg.hlen Y:=h.2.2.2.1.1;have I:Vg.hlen b:=h.2.2.2.2.1.1;clear h;apply cj1;trivial;intro f;try simp only[nt,df] at f
 apply cj1;iterate 3 (grind[alN,ix])
 intro H;try simp only[nf,dt] at H
 apply cj1;trivial;intro g;try simp only[nt,df] at g
 apply cj1;iterate 3 (grind[alN,ix])
 intro a;try simp only[nf,dt] at a
 apply cj1;omega;intro i;try simp only[V.Nb,nt,df] at i
 apply cj1;iterate 3 (grind[alN,ix])
 intro c;try simp only[V.qF,nf,dt] at c
 apply cj1;omega;intro j;try simp only[nt,df] at j
 apply cj1;iterate 3 (grind[alN,ix])
 intro d;try simp only[nf,dt] at d
 apply cj4;exact⟨trivial,λ_=>⟨trivial,λ_=>⟨⟨aPt H,aPt a,aQW b⟩,λ_=>trivial⟩⟩⟩
 iterate 2
  rw[aSr H a c d];rfl
 rw[aSr H a c d];rfl
def aXD:0<length ([104,97,121]:B8)/\cV (aYF (0<length ([104,97,121]:B8)) ([104,97,121]=yo/\dq jK/\aST a2q (a2q/\ME (length (oC aZI aZH 0).1)/\cV (fU (lG a2p.1 [0]) (fU (alU a2p.2) (fU (Bool.not (dJ aZI aZH jK a1k).2) (Bool.not (mX aZI aZH 0 (oC aZI aZH 0).1).2)))=true)))):=by
 refine au ?_;with_reducible and_intros
 decide;iterate 3 trivial
 iterate 2 decide
 exact aqn;trivial
 (rw[Xa];exact S.Xb.1)
 exact aqn
 (rw[Xa];exact S.Xb.1)
 exact aqn
 (rw[Xa];exact S.Xb.2)
 trivial
 (rw[Xa];exact awQ)
def a7m(l m:M (Int×Int×Int×B8))(q:M (Int×B8))(i:Int)(h:Vg.jE J.a1j (l,m,q,i)):cV (aVq (oc q) (cV aZb) (aST (∃(a:Nat),((0:Int)=a/\(K8 l).1=(hx l).1/\(K8 l).2=(hx l).2/\pM (K8 l).1 (aEE l m a) (K8 l).2)/\aVI m a) (∀(x:Nat),aVI m x->eN (fU (decide ((x:Int)<length m)) (decide ((x:Int)<40))) (jz 0 x (length m)/\anS (decide (q99 (aa6 m x).2.2.2<=2500)) (aSi x (length m) True)/\aVg x (∃(X:Nat),aPz x X ((hx l).1=(hx l).1/\(hx l).2=(hx l).2/\pM (bif decide (q99 (aa6 m x).2.2.2<=2500) then(aa5 l m x).1 else(aEE l m x).1) (aEE l m X) (bif decide (q99 (aa6 m x).2.2.2<=2500) then(aa5 l m x).2 else(aEE l m x).2)) (aVI m X) (S.len m))) True (dq q) (aYF (ME (length (rF (hx l).1 (hx l).2 q).1)/\dq q) (ME (length (oC (hx l).1 (hx l).2 i).1)/\ME (length (aRL (hx l).1 (hx l).2 (RE l m x).1 (RE l m x).2).1)/\anS (Bool.not (dJ (hx l).1 (hx l).2 q (rF (hx l).1 (hx l).2 q).1).2) (anS (Xo i l) (aVe (K6 l m x)))/\fU (Bool.not (dJ (hx l).1 (hx l).2 q (rF (hx l).1 (hx l).2 q).1).2) (fU (Xo i l) (q81 (K6 l m x) false))))))):=by
 refine au ?_;have B:Vg.hlen l:=h.1.1;have A:Vg.hlen m:=h.2.1.1;have b:Vg.hlen q:=h.2.2.1.1;have d:Vg.hint i:=h.2.2.2.1;clear h;apply cj1;trivial;intro s;apply la;trivial;rfl;intro c;apply cj4;iterate 2 trivial
 refine⟨(nat_lit 0:Nat),?_⟩;try dsimp only
 apply a14;iterate 5 rfl
 exact⟨S! _,S! _⟩;intro X H;apply la;intro e;try simp only[V.aEl,dt] at e
 apply a11;iterate 2 omega
 intro f;try simp only[dt,tn] at f
 apply cj3;iterate 2 omega
 trivial;intro j;try simp only[df,tn] at j
 trivial;iterate 2 omega
 refine⟨(X+nat_lit 1),?_⟩;try dsimp only
 apply aZo;iterate 3 rfl
 exact(a1I l m X).1;exact(a1I l m X).2;exact⟨w!,w!⟩;simp only[af,S.len];omega;intro k;try simp only[V.V3,df] at k
 with_reducible and_intros
 trivial;exact Db c;iterate 2 trivial
 exact(a5C l m q i H.2).1;exact Db c;exact(a5C l m q i H.2).2.1;exact(a5C l m q i H.2).2.2;intro n;try simp only[nt] at n
 apply la;intro F;try simp only[nt] at F
 apply la;intro I;try simp only[nt] at I
 trivial;intro K;try simp only[nf] at K
 trivial;intro o;try simp only[nf] at o
 trivial;intro r;try simp only[nf] at r
 trivial;have g:=a6X l m q i H.2;rw[g.1,g.2.1,g.2.2];rfl
end Go
namespace Go.J
open S
open Go Vg
def E0:Env:={T:=gm,sig:=λ_=>none,lM:=G0}
abbrev FR:=Prop×AV×M AB
abbrev LR:=Nat->Option bO
def iN(k:Nat):AV:=.int .i64 (k:Int)
def aPf:aq1->FR:=λ(x,k)=>(ux x k,.int .u32 (S.rotl x k:Int),[])
def aFi:Env:=cS 373 q0p aPf E0
def aPg:aEJ->FR:=λ_=>(True,.agg [.int .u32 1779033703,.int .u32 3144134277,.int .u32 1013904242,.int .u32 2773480762,.int .u32 1359893119,.int .u32 2600822924,.int .u32 528734635,.int .u32 1541459225,.nil,.int .i64 0],[])
def aFj:Env:=cS 149 q1p aPg aFi
def aPh:a5E->FR:=λ(s1,s2,S,a,b,c,d,e,s,f)=>(True,.bool (qI s f),[])
def aFk:Env:=cS 261 lL aPh aFj
def aPi:aEK->FR:=λ(u,U,a,b,c,d,e,u8,p)=>(Wd (u,U,a,b,c,d,e,u8) p,.agg (ax KJ (S.block (u,U,a,b,c,d,e,u8) p)),[])
def aPj:aEK->LR:=λ(u,U,a,b,c,d,e,u8,p)=>λ
    |0=>some ⟨Nat,[(26,iN)],[(5,λk=>.arr [.int .u32] (bf p k))],[],[],[],λk=>cC k 16,λk=>af 16 k⟩
    |2=>some ⟨Nat,[(7,iN)],[(5,λk=>.arr [.int .u32] (bf p k))],[],[],[],λk=>16<=k/\k<=64,λk=>af 64 k⟩
    |4=>some ⟨Nat,[(124,iN),(12,λk=>.int .u32 (gz (S.sched p 64) (u,U,a,b,c,d,e,u8) k).1),(13,λk=>.int .u32 (gz (S.sched p 64) (u,U,a,b,c,d,e,u8) k).2.1),(14,λk=>.int .u32 (gz (S.sched p 64) (u,U,a,b,c,d,e,u8) k).2.2.1),(15,λk=>.int .u32 (gz (S.sched p 64) (u,U,a,b,c,d,e,u8) k).2.2.2.1),(16,λk=>.int .u32 (gz (S.sched p 64) (u,U,a,b,c,d,e,u8) k).2.2.2.2.1),(17,λk=>.int .u32 (gz (S.sched p 64) (u,U,a,b,c,d,e,u8) k).2.2.2.2.2.1),(18,λk=>.int .u32 (gz (S.sched p 64) (u,U,a,b,c,d,e,u8) k).2.2.2.2.2.2.1),(19,λk=>.int .u32 (gz (S.sched p 64) (u,U,a,b,c,d,e,u8) k).2.2.2.2.2.2.2)],[],[],[],[],λk=>cC k 64,λk=>af 64 k⟩
    |_=>none
def aFl:Env:=cS 340 q3p aPi aFk
def aJP:aEK->FR:=λ(u,U,a,c,d,e,f,u8,b)=>(yg (u,U,a,c,d,e,f,u8),.bk [.agg (ax KJ (((cb (u,U,a,c,d,e,f,u8) b,kY b)).1)),.sl [.int .u8] (((cb (u,U,a,c,d,e,f,u8) b,kY b)).2)],[])
def aJQ:aEK->LR:=λ(u,U,a,c,d,e,f,u8,b)=>λ
    |0=>some ⟨Nat,[(1,λk=>.sl [.int .u8] (ka b k))],[(2,λk=>.cells [.int .u32 (S.proc (u,U,a,c,d,e,f,u8) b k).1,.int .u32 (S.proc (u,U,a,c,d,e,f,u8) b k).2.1,.int .u32 (S.proc (u,U,a,c,d,e,f,u8) b k).2.2.1,.int .u32 (S.proc (u,U,a,c,d,e,f,u8) b k).2.2.2.1,.int .u32 (S.proc (u,U,a,c,d,e,f,u8) b k).2.2.2.2.1,.int .u32 (S.proc (u,U,a,c,d,e,f,u8) b k).2.2.2.2.2.1,.int .u32 (S.proc (u,U,a,c,d,e,f,u8) b k).2.2.2.2.2.2.1,.int .u32 (S.proc (u,U,a,c,d,e,f,u8) b k).2.2.2.2.2.2.2])],[],[],[],λk=>64*k<=b.length,λk=>af (S.blocks b) k⟩
    |_=>none
def arW:Env:=cS 262 q3p aJP aFl
def aJR:aq2->FR:=λ(s1,s2,s,S,a,c,d,e,f,F,b)=>(Wc (s1,s2,s,S,a,c,d,e) f F b,.agg [.int .u32 (cb (s1,s2,s,S,a,c,d,e) b).1,.int .u32 (cb (s1,s2,s,S,a,c,d,e) b).2.1,.int .u32 (cb (s1,s2,s,S,a,c,d,e) b).2.2.1,.int .u32 (cb (s1,s2,s,S,a,c,d,e) b).2.2.2.1,.int .u32 (cb (s1,s2,s,S,a,c,d,e) b).2.2.2.2.1,.int .u32 (cb (s1,s2,s,S,a,c,d,e) b).2.2.2.2.2.1,.int .u32 (cb (s1,s2,s,S,a,c,d,e) b).2.2.2.2.2.2.1,.int .u32 (cb (s1,s2,s,S,a,c,d,e) b).2.2.2.2.2.2.2,.sl [.int .u8] (kY b),.int .i64 (pW b)],[])
def arX:Env:=cS 148 q4p aJR arW
def aJS:a5E->FR:=λ(s1,s2,s,a,b,c,d,e,f,F)=>(Nw (s1,s2,s,a,b,c,d,e) f F,.str (dig (cb (s1,s2,s,a,b,c,d,e) (S.tail f F))),[])
def aJT:a5E->LR:=λ(s1,s2,a,b,c,d,e,g,s,f)=>λ
    |0=>some ⟨Nat,[(3,λk=>.own 300)],[(300,λk=>.row 5 [.int .u8] (gB s k) false)],[(Vg.Loc.slot 3,300)],[101700,101701,101702,43,104300,102000,17,102001,102002,20,104301,104302,301],[],λk=>cI s k,λk=>af (ij (S.len s)) k⟩
    |2=>some ⟨Nat,[(32,iN),(3,λk=>.own 301)],[(301,λk=>.row 5 [.int .u8] (pA s f k) false)],[(Vg.Loc.slot 3,301)],[300,101700,101701,101702,102700,102701,102702,102000,17,102001,102002,20,27],[],λk=>cC k 8,λk=>af 8 k⟩
    |4=>some ⟨Nat,[(54,iN),(8,λk=>.own 302)],[(302,λk=>.row 5 [.int .u8] (oQ (cb (s1,s2,a,b,c,d,e,g) (S.tail s f)) k) false)],[(Vg.Loc.slot 8,302)],[52],[],λk=>cC k 8,λk=>af 8 k⟩
    |_=>none
def arY:Env:=cS 147 lL aJS arX
def aJU:af5->FR:=λb=>(S.small b,.str (S.sum b),[])
def arZ:Env:=cS 61 q5p aJU arY
def aJY:af5->FR:=λb=>(b.length<=140737488355328,.own 0,[.row 5 [.int .u8] (b) false])
def ar3:Env:=cS 333 q5p aJY arZ
def aJZ:aNX->aq4->pb:=λv (l,())=>⟨IA l v,.own 60000,[none],[.row 5 [.int .u8] (l++S.num v) false]⟩
def aJ0:aNX->aq4->LR:=λv (l,())=>λ
    |0=>some ⟨B8×Int,[(1,λk=>.int .i64 k.2),(0,λk=>.own 300)],[(300,λk=>.row 5 [.int .u8] k.1 false)],[(Vg.Loc.slot 0,300)],[50000],[],λk=>uy l v k.1 k.2,λk=>k.2.toNat⟩
    |_=>none
def ar4:Env:=cH 354 [true,false] q6p q0q aJZ ar3
def aJ1:qg->aq4->pb:=λs (l,())=>⟨oR l s,.own 60000,[none],[.row 5 [.int .u8] (l++S.text s) false]⟩
def ar5:Env:=cH 332 [true,false] EJ q0q aJ1 ar4
def aJ2:UM->FR:=λ(b,v)=>(b.length<=35184372088832,.bk [.own 0,.int .i64 (((mq b v,yW v)).2:Int)],[.row 5 [.int .u8] (((mq b v,yW v)).1) false])
def ar6:Env:=cS 297 q8p aJ2 ar5
def aJ3:aEL->FR:=λ(b,s)=>(oR b s,.own 0,[.row 5 [.int .u8] (b++S.text s) false])
def ar7:Env:=cS 232 q9p aJ3 ar6
def aJ4:aHB->FR:=λ(r,R,a)=>(True,.bool (S.inside r R),[])
def ar8:Env:=cS 229 aN0 aJ4 ar7
def aJ5:aHB->FR:=λ(r,R,a)=>(r.length<=140737488355328,.agg (ax KI ((r,R,bV r R a))),[])
def ar9:Env:=cS 341 aN0 aJ5 ar8
def aJ6:UM->FR:=λ(b,p)=>(dK b p,.bk (ax [.int .i64,.int .i64,.int .i64] (aQ b p)),[])
def aJ7:UM->LR:=λ(b,p)=>λ
    |0=>some ⟨Nat,[(7,λk=>.int .i64 (gP b p k)),(8,iN)],[],[],[],[],λk=>ke b p k,λk=>af 9 k⟩
    |_=>none
def asa:Env:=cS 342 q8p aJ6 ar9
def aJ8:Q7->FR:=λ(b,p,g)=>(dK b p,.bk (ax [.str,.int .i64,.int .i64] (akd b p g)),[])
def asb:Env:=cS 343 é aJ8 asa
def aJ9:Xe->FR:=λ(r,R,a,g)=>(r.length<=140737488355328,.bk [.agg (ax KI ((ao r R a g).1)),.str ((ao r R a g).2)],[])
def asc:Env:=cS 264 aq5 aJ9 asb
def aKa:aHB->FR:=λ(r,R,a)=>(r.length<=140737488355328,.bk [.agg (ax KI ((ag r R a).1)),.int .i64 ((ag r R a).2:Int)],[])
def asd:Env:=cS 263 aN0 aKa asc
def aKb:aHB->FR:=λ(r,R,a)=>(r.length<=140737488355328,.bk [.agg (ax KI ((aF r R a).1)),.str ((aF r R a).2)],[])
def ase:Env:=cS 265 aN0 aKb asd
def aKc:aHB->FR:=λ(r,R,a)=>(True,.int .i64 (S.done r R a:Int),[])
def asf:Env:=cS 119 aN0 aKc ase
def aKi:Q8->FR:=λ(kind,parts)=>(oS parts,.own 0,[.row 5 [.int .u8] (gQ kind parts) false])
def aKj:Q8->LR:=λ(kind,parts)=>λ
    |0=>some ⟨Nat,[(12,iN),(5,λk=>.own 300)],[(300,λk=>.row 5 [.int .u8] (nY kind parts k) false)],[(Vg.Loc.slot 5,300)],[9],[],λk=>gU parts k,λk=>af (S.len parts) k⟩
    |_=>none
def asl:Env:=cS 267 UN aKi asf
def aKk:af5->FR:=λb=>(az b,.own 0,[.row 5 [.int .u8] (bB 0 b) false])
def asm:Env:=cS 156 q5p aKk asl
def aKl:aHC->FR:=λ(l,r)=>(az (l++r),.own 0,[.row 5 [.int .u8] (bB 1 (l++r)) false])
def asn:Env:=cS 270 aEM aKl asm
def aKm:af5->FR:=λb=>(az b,.own 0,[.row 5 [.int .u8] (bB 2 b) false])
def aso:Env:=cS 334 q5p aKm asn
def aKn:af5->FR:=λb=>(az b,.own 0,[.row 5 [.int .u8] (bB 3 b) false])
def asp:Env:=cS 258 q5p aKn aso
def aKo:af5->FR:=λb=>(az b,.str (S.leaf b),[])
def asq:Env:=cS 66 q5p aKo asp
def aKp:aHC->FR:=λ(l,r)=>(True,.bk (ax aYL ((bz l r,vT l r))),[])
def asr:Env:=cS 266 aEM aKp asq
def aKq:af5->FR:=λb=>(az b,.str (l7 2 b),[])
def ass:Env:=cS 235 q5p aKq asr
def aKr:af5->FR:=λb=>(az b,.str (l7 3 b),[])
def ast:Env:=cS 191 q5p aKr ass
def aKs:aHD->FR:=λc=>(True,.bool (cA c),[])
def asu:Env:=cS 314 aN1 aKs ast
def aKt:aHD->FR:=λc=>(True,.int .i64 (akc c:Int),[])
def asv:Env:=cS 315 aN1 aKt asu
def aKu:aHD->FR:=λc=>(0<=c,.int .u8 ((S.more c).toNat:Int),[])
def asw:Env:=cS 316 aN1 aKu asv
def aKv:aHD->FR:=λc=>(True,.bk [.own 0,.int .i64 (((im c,Bp c)).2:Int)],[.row 5 [.int .u8] (((im c,Bp c)).1) false])
def asx:Env:=cS 224 aN1 aKv asw
def aKw:af5->FR:=λb=>(0<b.length,.bk (ax aMS (bh b)),[])
def aKx:af5->LR:=λb=>λ
    |1=>some ⟨Nat,[(42,iN),(4,λk=>.int .i64 (bW b k))],[],[],[],[],λk=>pY b k,λk=>af 4 k⟩
    |_=>none
def asy:Env:=cS 313 q5p aKw asx
def aKy:af5->FR:=λb=>(S.small b,.own 0,[.row 3 [.int .i64] (S.decode b) false])
def aKz:af5->LR:=λb=>λ
    |0=>some ⟨B8×U,[(0,λk=>.sl [.int .u8] k.1),(3,λk=>.own 300)],[(300,λk=>.row 3 [.int .i64] k.2 false)],[(Vg.Loc.slot 3,300)],[],[],λk=>an9 b k.1 k.2,λk=>S.len k.1⟩
    |_=>none
def asz:Env:=cS 221 q5p aKy asy
def aKA:aHD->FR:=λc=>(True,.bool (S.letter c),[])
def aKB:aHD->LR:=λc=>λ
    |0=>some ⟨Nat,[(6,iN)],[],[],[],[],λk=>pX c k,λk=>af 9 k⟩
    |_=>none
def asA:Env:=cS 222 aN1 aKA asz
def aKC:aHD->FR:=λc=>(True,.bool (S.digit c),[])
def asB:Env:=cS 223 aN1 aKC asA
def aKD:aHD->FR:=λc=>(True,.int .i64 (aX c:Int),[])
def aKE:aHD->LR:=λc=>λ
    |0=>some ⟨Nat,[(6,iN)],[],[],[],[],λk=>qK c k,λk=>af 7 k⟩
    |_=>none
def asC:Env:=cS 364 aN1 aKD asB
def aKP:aaK->FR:=λu=>(SM u,.str (fe u),[])
def aKQ:aaK->LR:=λu=>λ
    |0=>some ⟨Nat×B8,[(10,λk=>.int .i64 ((k.1:Nat):Int)),(3,λk=>.own 300)],[(300,λk=>.row 5 [.int .u8] k.2 false)],[(Vg.Loc.slot 3,300)],[],[],λk=>lE u k.1 k.2,λk=>af (S.len u) k.1⟩
    |_=>none
def asL:Env:=cS 318 aq6 aKP asC
def aKR:af5->FR:=λb=>(S.small b,.own 0,[.row 9 [.str] (aS b) false])
def aKS:af5->LR:=λb=>λ
    |0=>some ⟨Nat×O×U,[(10,λk=>.int .i64 ((k.1:Nat):Int)),(3,λk=>.own 300),(4,λk=>.own 301)],[(300,λk=>.row 9 [.str] k.2.1 false),(301,λk=>.row 3 [.int .i64] k.2.2 false)],[(Vg.Loc.slot 3,300),(Vg.Loc.slot 4,301)],[104000,104001,104002,40],[],λk=>aoa (S.decode b) k.1 k.2.1 k.2.2,λk=>af (S.len (S.decode b)) k.1⟩
    |_=>none
def asM:Env:=cS 226 q5p aKR asL
def aKT:GS->FR:=λs=>(S.small s,.bool (S.isTerm s),[])
def asN:Env:=cS 114 Q9 aKT asM
def aK8:GS->FR:=λs=>(True,.bool false,[])
def asW:Env:=cS 335 Q9 aK8 asN
def aK9:aHC->FR:=λ(a,b)=>(True,.int .i64 (lS a b:Int),[])
def asX:Env:=cS 359 aEM aK9 asW
def aLa:aq7->MB->pb:=λ(a,b) ((),())=>⟨True,.bool (decide (a=b)),[some (.cells [.fn (.func 359) [] []])],[]⟩
def asY:Env:=cH 382 [false,false,true] aEN q1q aLa asX
def aLb:aHE->aN4->pb:=λ_ (l,((),()))=>⟨S.small l,.own 60000,[none,some (.cells [.fn (.func 359) [] []])],[.row 9 [.str] (bU l) false]⟩
def aLc:aHE->aN4->LR:=λ_ (l,((),()))=>λ
    |0=>some ⟨Nat,[(5,iN)],[(50001,λk=>.cells [.fn (.func 359) [] []])],[],[],[],λk=>n4 l k,λk=>af (S.len l) k⟩
    |2=>some ⟨Nat×Nat×O×Nat,[(5,λk=>.int .i64 ((k.1:Nat):Int)),(7,λk=>.int .i64 ((k.2.1:Nat):Int))],[(50000,λk=>.row 9 [.str] k.2.2.1 false),(50001,λk=>.cells [.fn (.func 359) [] []])],[],[],[(30,λk=>.int .i64 ((k.2.2.2:Nat):Int))],λk=>jG l k.2.2.2 k.1 k.2.1 k.2.2.1,λk=>af (S.len l) k.2.1⟩
    |_=>none
def asZ:Env:=cH 381 [true,true] aN2 q2q aLb asY
def aLd:aaL->FR:=λl=>(S.small l,.own 0,[.row 9 [.str] (l) false])
def as1:Env:=cS 379 aEO aLd asZ
def aLe:aaK->FR:=λl=>(S.small l,.own 0,[.row 3 [.int .i64] (l) false])
def as2:Env:=cS 128 aq6 aLe as1
def aLf:se->aEP->pb:=λ_ (l,())=>⟨S.small l,.bk [],[some (.row 9 [.str] (fp l) false)],[]⟩
def as3:Env:=cH 380 [true,true] Di q3q aLf as2
def aLg:tM->xN->pb:=λl ()=>⟨S.small l,.own 60000,[],[.row 9 [.str] (bU (fp l)) false]⟩
def as4:Env:=cH 358 [false,true] Dj BL aLg as3
def as5:af5->FR:=λb=>(S.small b,.own 0,[.row 9 [.str] (S.sorted (aS b)) false])
def as6:Env:=cS 300 q5p as5 as4
def aLh:aaL->FR:=λl=>(True,.bool (cP l),[])
def aLi:aaL->LR:=λl=>λ
    |0=>some ⟨Nat,[(7,iN)],[],[],[],[],λk=>sZ l k,λk=>af (S.len l) k⟩
    |_=>none
def as7:Env:=cS 154 aEO aLh as6
def aLj:aHC->FR:=λ(a,b)=>(True,.str (bz a b),[])
def as8:Env:=cS 155 aEM aLj as7
def aLk:GU->aEP->pb:=λ_ (s,())=>⟨y9 s,.own 60000,[none],[.row 9 [.str] (S.comb s) false]⟩
def as9:Env:=cH 309 [true] ê q3q aLk as8
def aLl:aHF->FR:=λl=>(dj l,.sl [.str] (S.leaves l),[])
def aLm:aHF->LR:=λl=>λ
    |0=>some ⟨Nat,[(8,iN),(3,λk=>.own 300)],[(300,λk=>.row 9 [.str] (fg l k) false)],[(Vg.Loc.slot 3,300)],[],[],λk=>gU l k,λk=>af (S.len l) k⟩
    |_=>none
def ata:Env:=cS 99 aN3 aLl as9
def aLn:aaL->FR:=λl=>(eW l,.str (S.root l),[])
def aLo:aaL->LR:=λl=>λ
    |0=>some ⟨Nat×O,[(12,λk=>.int .i64 ((k.1:Nat):Int)),(3,λk=>.own 300)],[(300,λk=>.row 9 [.str] k.2 false)],[(Vg.Loc.slot 3,300)],[302,35,103500,103501,103502,304],[],λk=>qN l k.1 k.2,λk=>af (S.len l) k.1⟩
    |2=>some ⟨Nat×Nat×O×Nat,[(5,λk=>.int .i64 ((k.2.1:Nat):Int)),(3,λk=>.own 302)],[(302,λk=>.row 9 [.str] k.2.2.1 false)],[(Vg.Loc.slot 3,302)],[35,103500,103501,103502,102100,102101,21,102102,300,304],[(4,λk=>.int .i64 ((k.2.2.2:Nat):Int))],λk=>ph l k.2.2.2 k.1 k.2.1 k.2.2.1,λk=>k.2.1⟩
    |4=>some ⟨O,[(3,λk=>.own 304)],[(304,λk=>.row 9 [.str] k false)],[(Vg.Loc.slot 3,304)],[102100,102101,21,102102,102901,102900,102902,29,300,302],[],λk=>qO l k,λk=>S.len k⟩
    |_=>none
def atb:Env:=cS 212 aEO aLn ata
def aLp:aaL->FR:=λl=>(S.small l,.bk (ax aYL ((kI l,yk l))),[])
def atc:Env:=cS 200 aEO aLp atb
def aLw:aHD->FR:=λn=>(True,.int .i64 (S.split n:Int),[])
def aLx:aHD->LR:=λn=>λ
    |0=>some ⟨Nat×Int,[(3,λk=>.int .i64 k.2)],[],[],[],[],λk=>jy n k.2 k.1,λk=>(n-k.2).toNat⟩
    |_=>none
def atg:Env:=cS 211 aN1 aLw atc
def aLy:GU->aEP->pb:=λ_ (l,())=>⟨S.small l,.bk [],[some (.row 9 [.str] (Qq l) false)],[]⟩
def ath:Env:=cH 213 [true] ê q3q aLy atg
def aLz:aq8->FR:=λ(l,i)=>(eX l,.bk (ax [.slice [.str],.int .i64] ((oz l i,tF l i))),[])
def aLA:aq8->LR:=λ(l,i)=>λ
    |0=>some ⟨O×Int×O,[(0,λk=>.sl [.str] k.1),(1,λk=>.int .i64 k.2.1),(6,λk=>.own 300)],[(300,λk=>.row 9 [.str] k.2.2 false)],[(Vg.Loc.slot 6,300)],[],[],λk=>gD l i k,λk=>S.len k.1⟩
    |_=>none
def ati:Env:=cS 98 aN5 aLz ath
def a9l:aaL->FR:=λl=>(S.small l,.str (kI l),[])
def a5Q:Env:=cS 310 aEO a9l ati
def a9m:aHG->FR:=λ(l,n,p)=>(aUU l n,.own 0,[.row 9 [.str] (ajH l n p) false])
def a9n:aHG->Nat:=λ(l,n,p)=>S.len l
def a5R:Env:=cS 216 aN6 a9m a5Q
def a9o:aq8->FR:=λ(l,m)=>(eX l,.bk (ax [.slice [.str],.int .i64] ((ajK l m,aUY l m))),[])
def a5S:Env:=cS 101 aN5 a9o a5R
def aLB:aaK->FR:=λl=>(True,.bool (aV l),[])
def aLC:aaK->LR:=λl=>λ
    |0=>some ⟨Nat,[(8,iN),(3,λk=>.int .i64 (cD l k))],[],[],[],[],λk=>mu l k,λk=>af (S.len l) k⟩
    |_=>none
def atj:Env:=cS 125 aq6 aLB a5S
def aLD:aaK->FR:=λl=>(True,.bk [.own 0,.int .i64 (((jH l,qP l)).2:Int)],[.row 5 [.int .u8] (((jH l,qP l)).1) false])
def aLE:aaK->LR:=λl=>λ
    |0=>some ⟨Nat,[(22,iN),(6,λk=>.int .i64 (cD l k)),(4,λk=>.own 300)],[(300,λk=>.row 5 [.int .u8] (b6 l k) false)],[(Vg.Loc.slot 4,300)],[101700,101701,101702,17],[],λk=>k<=l.length,λk=>af (S.len l) k⟩
    |_=>none
def atk:Env:=cS 205 aq6 aLD atj
def aLF:aaK->FR:=λl=>(True,.bk (ax aYL ((vY l,qP l))),[])
def atl:Env:=cS 308 aq6 aLF atk
def aLG:aHH->ara->pb:=λ(n,p,q) ((s1,s2),())=>⟨True,.bool (yl n s1 s2),[some (.cells [.int .i64 s1,.int .i64 s2])],[]⟩
def atm:Env:=cH 384 [false,false,false,true] aN7 q5q aLG atl
def azM:KK->ara->pb:=λ(a,b) ((s1,s2),())=>⟨b.length=0,.own 60000,[some (.cells [.int .i64 s1,.int .i64 s2])],[.row 3 [.int .i64] (P2 a s1 s2) false]⟩
def azN:KK->ara->LR:=λ(a,b) ((s1,s2),())=>λ
    |0=>some ⟨U×U,[(0,λk=>.sl [.int .i64] k.1),(1,λk=>.sl [.int .i64] sF),(7,λk=>.own 300)],[(300,λk=>.row 3 [.int .i64] k.2 false),(50000,λk=>.cells [.int .i64 s1,.int .i64 s2])],[(Vg.Loc.slot 7,300)],[],[],λk=>nv a s1 s2 k.1 k.2,λk=>S.len k.1⟩
    |_=>none
def agd:eQ:=bZ af6 q5q azM
def XB:eQ:=agd
def age:Env:=Env.bT 242 [false,false,true] XB atm
def azO:aq9->FR:=λ(l,s1,s2)=>(True,.own 0,[.row 3 [.int .i64] (P2 l s1 s2) false])
def agf:Env:=cS 363 aN8 azO age
def azS:aHI->FR:=λ(a,b)=>(True,.bool (lG a b),[])
def azT:aHI->LR:=λ(a,b)=>λ
    |0=>some ⟨Nat,[(5,iN)],[],[],[],[],λk=>xr a b k,λk=>af (S.len a) k⟩
    |_=>none
def agj:Env:=cS 17 aN9 azS agf
def azU:arb->FR:=λd=>(aW d,.bool (aK d),[])
def azV:arb->LR:=λd=>λ
    |0=>some ⟨Nat,[(7,iN)],[],[],[],[],λk=>Mg d k,λk=>af (S.len d) k⟩
    |_=>none
def agk:Env:=cS 307 aEQ azU agj
def azW:aaM->FR:=λ(l,L,a)=>(True,.bk (ax aaJ ((dw l L a,kJ l L a))),[])
def agl:Env:=cS 123 arc azW agk
def azX:af5->FR:=λb=>(b.length<=140737488355328,.bk [.agg (ax [.str,.str,.str] ((bg b).1)),.int .i64 ((bg b).2:Int)],[])
def agm:Env:=cS 204 q5p azX agl
def azY:arb->FR:=λd=>(aW d,.bk [.own 0,.int .i64 (((bn d,dE d)).2:Int)],[.row 27 oX (((bn d,dE d)).1) false])
def azZ:arb->LR:=λd=>λ
    |0=>some ⟨Nat,[(16,iN),(4,λk=>.own 300)],[(300,λk=>.row 27 oX (eM d k) false)],[(Vg.Loc.slot 4,300)],[],[],λk=>k<=d.length+1,λk=>af (S.len d+1) k⟩
    |_=>none
def agn:Env:=cS 202 aEQ azY agm
def az0:arb->FR:=λd=>(aW d,.bk (ax aYL ((pG d,dE d))),[])
def ago:Env:=cS 259 aEQ az0 agn
def az1:GV->FR:=λ(d,t)=>(aW d,.bk (ax [.int .i64,.bool] ((bo d t,fE d t))),[])
def az2:GV->LR:=λ(d,t)=>λ
    |0=>some ⟨Nat,[(14,iN),(6,λk=>.int .i64 (dB d t k))],[],[],[],[],λk=>k<=d.length,λk=>af (S.len d) k⟩
    |_=>none
def agp:Env:=cS 203 Ra az1 ago
def az3:GV->FR:=λ(d,t)=>(aW d,.sl [.int .i64] (dN d t),[])
def agq:Env:=cS 206 Ra az3 agp
def az4:wI->FR:=λ(docs,s1,s2)=>(True,.bk (ax [.slice zw,.int .i64] (lH docs s1 s2)),[])
def agr:Env:=cS 193 Rb az4 agq
def aAg:ard->FR:=λ(s1,s2)=>(True,.bool (me s1 s2),[])
def agz:Env:=cS 362 aER aAg agr
def aAh:Xf->FR:=λ(s1,s2,s)=>(aW s,.bool (eS s1 s2 s),[])
def aAi:Xf->LR:=λ(s1,s2,s)=>λ
    |0=>some ⟨Nat,[(18,iN)],[],[],[],[],λk=>xv s1 s2 s k,λk=>af (S.len s) k⟩
    |_=>none
def agA:Env:=cS 303 are aAh agz
def aAj:Xf->FR:=λ(s1,s2,s)=>(aW s,.bk [.agg (ax xM ((tB s1 s2 s).1)),.int .i64 ((tB s1 s2 s).2:Int)],[])
def agB:Env:=cS 306 are aAj agA
def aAk:Dk->FR:=λ(s1,s2,s,S)=>(True,.bool (ow s1 s2 s S),[])
def agC:Env:=cS 378 Rc aAk agB
def aAl:wI->FR:=λ(docs,s1,s2)=>(True,.bk [.agg (ax oq ((dp docs s1 s2).1)),.int .i64 ((dp docs s1 s2).2:Int)],[])
def agD:Env:=cS 89 Rb aAl agC
def aAm:aaN->FR:=λ(l,n)=>(True,.bool (rE l n),[])
def aAn:aaN->LR:=λ(l,n)=>λ
    |0=>some ⟨Nat,[(14,iN),(5,λk=>.int .i64 (S.rowAt l k:Int))],[],[],[],[],λk=>S.yU l k,λk=>af (S.len l) k⟩
    |_=>none
def agE:Env:=cS 353 arf aAm agD
def a7n:aHK->FR:=λl=>(aVy l,.sl zw (Wt l),[])
def a7o:aHK->LR:=λl=>λ
    |0=>some ⟨Nat,[(3,λk=>.own 300)],[(300,λk=>.row 308 zw (aPu l k) false),(13,λk=>.row 3 [.int .i64] (mA l k) false)],[(Vg.Loc.slot 3,300)],[302],[],λk=>k<=uL l,λk=>af (uL l) k⟩
    |2=>some ⟨Nat×Nat,[(16,λk=>.int .i64 ((k.1:Nat):Int)),(5,λk=>.int .i64 (aSh l (mA l k.2) k.1))],[],[],[],[(4,λk=>.sl [.int .i64] (mA l k.2))],λk=>k.1<=l.length/\k.2<=uL l,λk=>af (S.len l) k.1⟩
    |4=>some ⟨Nat×Nat,[(74,λk=>.int .i64 ((k.1:Nat):Int))],[(13,λk=>.row 3 [.int .i64] (ajF l k.2 k.1) false),(8,λk=>.cells [.str (uAt l k.2),.own 302]),(302,λk=>.row 3 [.int .i64] (aQY l (uAt l k.2) k.1) false)],[(Vg.Loc.cell 8 1,302)],[],[(3,λk=>.sl zw (aPu l k.2))],λk=>k.1<=l.length/\k.2<uL l,λk=>af (S.len l) k.1⟩
    |_=>none
def a3q:Env:=cS 304 aOa a7n agE
def a7p:aHK->FR:=λl=>(apn l,.bk [.agg (ax oq ((aeY l).1)),.int .i64 ((aeY l).2:Int)],[])
def a7q:aHK->LR:=λl=>λ
    |0=>some ⟨Nat,[(14,iN)],[],[],[],[],λk=>aVF l k,λk=>af (S.len l) k⟩
    |2=>some ⟨Nat,[(6,λk=>.int .i64 ((k:Int)+1))],[],[],[],[],λk=>aWf l k,λk=>af (S.len l) k⟩
    |_=>none
def a3r:Env:=cS 195 aOa a7p a3q
def a7r:ard->FR:=λ(s1,s2)=>(True,.int .i64 (aGD s1 s2:Int),[])
def a7s:ard->LR:=λ(s1,s2)=>λ
    |0=>some ⟨Nat,[(4,iN),(3,λn=>.int .i64 (lg (s2-s1)-lg n))],[],[],[],[],λn=>aVi s1 s2 n,λn=>n⟩
    |_=>none
def a3s:Env:=cS 305 aER a7r a3r
def a7t:Re->FR:=λl=>(True,.bk (ax [.int .i64,.bool] (AD l)),[])
def a7u:Re->LR:=λl=>λ
    |0=>some ⟨Nat,[(4,λk=>.int .i64 (((S.len l:Nat):Int)-2-(k:Int)))],[],[],[],[],λk=>aVd l k,λk=>af (S.len l) k⟩
    |_=>none
def a3t:Env:=cS 197 ë a7t a3s
def a7v:aHK->FR:=λl=>(S.small l,.sl aMS (fT l),[])
def a7w:aHK->LR:=λl=>λ
    |0=>some ⟨Nat,[(8,iN),(3,λk=>.own 300)],[(300,λk=>.row 84 aMS (aUO l k) false)],[(Vg.Loc.slot 3,300)],[],[],λk=>k<=l.length,λk=>af (S.len l) k⟩
    |_=>none
def a3u:Env:=cS 198 aOa a7v a3t
def aAx:af5->FR:=λl=>(S.small l,.own 0,[.row 5 [.int .u8] (l) false])
def agM:Env:=cS 110 q5p aAx a3u
def aAy:arb->FR:=λl=>(S.small l,.own 0,[.row 308 zw (l) false])
def agN:Env:=cS 194 aEQ aAy agM
def aAz:aHI->FR:=λ(a,b)=>(True,.bool (Kr a b),[])
def aAA:aHI->LR:=λ(a,b)=>λ
    |0=>some ⟨Nat,[(13,iN)],[],[],[],[],λk=>IY a b k,λk=>af (S.len a) k⟩
    |_=>none
def agO:Env:=cS 357 aN9 aAz agN
def aAB:aHL->FR:=λ(a,a2,b,B)=>(True,.bool (C6 a a2 b B),[])
def agP:Env:=cS 356 aOb aAB agO
def aAC:arh->xN->pb:=λ(a,b) ()=>⟨True,.bool (iZ a b),[],[]⟩
def aAD:arh->xN->LR:=λ(a,b) ()=>λ
    |0=>some ⟨Nat,[(17,iN)],[],[],[],[],λk=>mv a b k,λk=>af (S.len a) k⟩
    |_=>none
def agQ:Env:=cH 355 [false,false,true] aOc BL aAC agP
def aAE:aHM->FR:=λ(a,b)=>(True,.bool (iZ a b),[])
def agR:Env:=cS 299 aOd aAE agQ
def aAF:aHN->FR:=λ(y,Y)=>(True,.bool (aY y Y),[])
def aAG:aHN->LR:=λ(Y,y)=>λ
    |0=>some ⟨Nat,[(23,iN)],[],[],[],[],λk=>Ql Y y k,λk=>af (S.len Y) k⟩
    |2=>some ⟨Nat,[(34,iN),(5,λk=>.int .i64 (eu y k))],[],[],[],[],λk=>wg Y y k,λk=>af (S.len y) k⟩
    |_=>none
def agS:Env:=cS 192 aOe aAF agR
def aAH:aHN->FR:=λ(y,Y)=>(True,.agg (ax Q6 (ak y Y)),[])
def agT:Env:=cS 87 aOe aAH agS
def aAI:aHN->FR:=λ(Y,y)=>(True,.int .i64 (dD y:Int),[])
def agU:Env:=cS 88 aOe aAI agT
def aAJ:aHN->FR:=λ(y,Y)=>(xC y Y,.agg [.own 0,.own 1],[.row 27 oX y false,.row 89 oq Y false])
def aAK:aHN->LR:=λ(Y,y)=>λ
    |0=>some ⟨Nat,[(22,iN)],[(13,λk=>.row 27 oX (eA [] Y k) false)],[],[],[],λk=>dX Y k,λk=>af (S.len Y) k⟩
    |2=>some ⟨Nat,[(37,iN)],[(17,λk=>.row 89 oq (eA (0,0,[]) y k) false)],[],[],[],λk=>dX y k,λk=>af (S.len y) k⟩
    |4=>some ⟨Nat×Nat×M aB,[(55,λk=>.int .i64 ((k.1:Nat):Int))],[(17,λk=>.iE 89 (some 104900) oq k.2.2 k.2.1),(104900,λk=>.row 308 zw (aD y k.2.1).2.2 false)],[],[],[(6,λk=>.int .i64 ((k.2.1:Nat):Int))],λk=>xD y k.2.2 k.2.1 k.1,λk=>af (oU y k.2.1) k.1⟩
    |_=>none
def agV:Env:=cS 90 aOe aAJ agU
def a7x:ari->FR:=λ(l,i,m,s1,s2,s)=>(aWo l i m,.own 0,[.row 89 oq (Qf l i.toNat m.toNat (s1,s2,s)) false])
def a3v:Env:=cS 196 aOf a7x agV
def aAL:aHN->FR:=λ(y,Y)=>(True,.int .i64 (iJ y Y:Int),[])
def agW:Env:=cS 199 aOe aAL a3v
def aAM:iz->FR:=λ(y,Y,d)=>(True,.bk [.agg (ax Q6 ((aQw y Y d).1)),.int .i64 ((aQw y Y d).2:Int)],[])
def agX:Env:=cS 40 lV aAM agW
def aAN:aHN->FR:=λ(y,Y)=>(True,.bk [.agg (ax Q6 ((bS y Y).1)),.int .i64 ((bS y Y).2:Int)],[])
def agY:Env:=cS 31 aOe aAN agX
def a7y:ark->FR:=λ(y,Y,i,m)=>(True,.bk [.agg (ax Q6 ((Ei y Y i m).1)),.int .i64 ((Ei y Y i m).2:Int)],[])
def a3w:Env:=cS 91 arj a7y agY
def a7z:aHN->FR:=λ(y,Y)=>(True,.agg (ax Q6 (zj y Y)),[])
def a7A:aHN->LR:=λ(y,Y)=>λ
    |0=>some ⟨M (Int×Int),[],[(3,λL=>.cells [.own 101100,.own 300]),(300,λL=>.row 89 oq (bC (ak y Y).1 L) false)],[(Vg.Loc.cell 3 1,300)],[101101],[],λL=>aVx y Y L,λL=>L.length⟩
    |_=>none
def a3x:Env:=cS 92 aOe a7z a3w
def aAO:aHN->FR:=λ(y,Y)=>(True,.sl xM (ya y Y),[])
def aAP:aHN->LR:=λ(y,Y)=>λ
    |0=>some ⟨Nat,[(17,iN),(3,λk=>.own 300)],[(300,λk=>.row 109 xM (fC y Y k) false)],[(Vg.Loc.slot 3,300)],[13],[],λk=>k<=gL y Y,λk=>af (gL y Y) k⟩
    |_=>none
def agZ:Env:=cS 201 aOe aAO a3x
def a7B:GW->FR:=λ(y,Y,a,a2,a3,a4)=>(True,.bk [.agg (ax Q6 ((pH y Y a a2 a3 a4).1)),.int .i64 ((pH y Y a a2 a3 a4).2:Int)],[])
def a3y:Env:=cS 32 Rf a7B agZ
def a7C:arl->FR:=λl=>(True,.agg (ax Q6 (eZ l)),[])
def a7D:arl->LR:=λl=>λ
    |0=>some ⟨Nat,[(4,iN)],[(3,λk=>.cells [.sl oX (mT ([],[]) l k).1,.sl oq (mT ([],[]) l k).2])],[],[],[],λk=>aVI l k,λk=>af (S.len l) k⟩
    |_=>none
def a3z:Env:=cS 30 af7 a7C a3y
def aA1:aHO->FR:=λ(y,Y,a)=>(True,.bool (cO y Y a),[])
def ag6:Env:=cS 295 aOk aA1 a3z
def aA2:aHN->FR:=λ(y,Y)=>(True,.bk [.agg (ax Xd ((gI y Y).1)),.int .i64 ((gI y Y).2:Int)],[])
def ag7:Env:=cS 93 aOe aA2 ag6
def aA3:wJ->aOh->pb:=λv (q,((),()))=>⟨gi v=false/\q=0,.bk [],[some (.cells [.int .i64 0]),some (.cells [.own 60000])],[.row 5 [.int .u8] (S.num v) false]⟩
def ag8:eQ:=bZ Bx q6q aA3
def XC:eQ:=ag8
def ag9:Env:=Env.bT 296 [false,true,true] XC ag7
def aA4:wJ->aOj->pb:=λv (q,((),(l,())))=>⟨gi v=false/\q=0/\l.length<=35184372088832,.bk [],[some (.cells [.int .i64 0]),some (.cells [.own 60000]),none],[.row 5 [.int .u8] (l++S.num v) false]⟩
def aha:eQ:=bZ Bx q7q aA4
def ahb:eQ:=aun aha XC
def ahc:Env:=Env.bT 296 [false,true,true] ahb ag9
def aA5:aHP->aOl->pb:=λd ((),(l,()))=>⟨l.length<=35184372088832/\d.length<=35184372088832,.bk [],[some (.cells [.own 60000]),none],[.row 5 [.int .u8] (l++d) false]⟩
def ahd:Env:=cH 298 [false,true] aOm q8q aA5 ahc
def aA6:aHO->FR:=λ(y,Y,a)=>(True,.bk [.own 0,.int .i64 ((hW y Y a).2:Int)],[.row 5 [.int .u8] ((hW y Y a).1) false])
def aA7:aHO->LR:=λ(Y,a,y)=>λ
    |0=>some ⟨Nat,[(31,iN)],[(4,λk=>.cells [.own 300]),(300,λk=>.row 5 [.int .u8] (tE Y a y k) false),(5,λk=>.cells [.int .i64 0])],[(Vg.Loc.cell 4 0,300)],[102700],[],λk=>Fp Y a y k,λk=>af (S.len y) k⟩
    |_=>none
def ahe:Env:=cS 190 aOk aA6 ahd
def aA8:tN->FB->pb:=λ_ ((r,R,a),())=>⟨r.length<=140737488355328,.int .i64 (ag r R a).2,[some (.cells [.sl [.int .u8] r,.int .i64 (ag r R a).1.2.1,.int .i64 (ag r R a).1.2.2])],[]⟩
def ahf:Env:=cH 319 [true] Jl Xg aA8 ahe
def aA9:tN->FB->pb:=λ_ ((r,R,a),())=>⟨r.length<=140737488355328,.str (aF r R a).2,[some (.cells [.sl [.int .u8] r,.int .i64 (aF r R a).1.2.1,.int .i64 (aF r R a).1.2.2])],[]⟩
def ahg:Env:=cH 320 [true] Jl Xg aA9 ahf
def aBa:aHR->aHQ->pb:=λ_ (a,((),((),((r,R,b),()))))=>⟨r.length<=140737488355328,.agg [.int .i64 a,.int .i64 (wj r R b a).2.2.1,.int .i64 (wj r R b a).2.2.2.1,.str (wj r R b a).2.2.2.2],[some (.cells [.int .i64 (wj r R b a).2.2.1]),some (.cells [.fn (.func 319) [] [.ref 50003 0]]),some (.cells [.fn (.func 320) [] [.ref 50003 0]]),some (.cells [.sl [.int .u8] r,.int .i64 (wj r R b a).1.1,.int .i64 (wj r R b a).1.2])],[]⟩
def ahh:Env:=cH 321 [true,true,true] aOo aOn aBa ahg
def aBb:af5->FR:=λb=>(b.length<=140737488355328,.bk [.agg (ax Xd ((hR b).1)),.int .i64 ((hR b).2:Int)],[])
def aBc:af5->LR:=λb=>λ
    |0=>some ⟨Nat,[(29,iN)],[(4,λk=>.cells [.sl [.int .u8] b,.int .i64 (jP b k).1.1,.int .i64 (jP b k).1.2]),(7,λk=>.cells [.int .i64 (jP b k).2.1]),(5,λk=>.cells [.fn (.func 319) [] [.ref 4 0]]),(6,λk=>.cells [.fn (.func 320) [] [.ref 4 0]]),(9,λk=>.cells [.int .i64 (iA b).1.1,.str (iA b).1.2.1,.own 300]),(300,λk=>.row 109 xM (jP b k).2.2 false)],[(Vg.Loc.cell 9 2,300)],[],[],λk=>k<=pN b/\(iA b).1.2.2<=64,λk=>af (pN b) k⟩
    |_=>none
def ahi:Env:=cS 227 q5p aBb ahh
def aBf:GV->FR:=λ(d,t)=>(aW d/\S.small t,.bk [.agg (ax ue ((wv d t).1)),.int .i64 ((wv d t).2:Int)],[])
def ahl:Env:=cS 96 Ra aBf ahi
def aBg:GU->aEP->pb:=λ_ (l,())=>⟨S.small l,.bk [],[some (.row 9 [.str] (fp l) false)],[]⟩
def ahm:Env:=cH 120 [true] ê q3q aBg ahl
def aBh:GU->aEP->pb:=λ_ (l,())=>⟨S.small l,.own 60000,[none],[.row 9 [.str] (bU l) false]⟩
def aBi:GU->aEP->LR:=λ_ (l,())=>λ
    |0=>some ⟨Nat,[(3,iN)],[],[],[],[],λk=>n4 l k,λk=>af (S.len l) k⟩
    |2=>some ⟨Nat×Nat×O×Nat,[(3,λk=>.int .i64 ((k.1:Nat):Int)),(5,λk=>.int .i64 ((k.2.1:Nat):Int))],[(50000,λk=>.row 9 [.str] k.2.2.1 false)],[],[],[(27,λk=>.int .i64 ((k.2.2.2:Nat):Int))],λk=>jG l k.2.2.2 k.1 k.2.1 k.2.2.1,λk=>af (S.len l) k.2.1⟩
    |_=>none
def ahn:Env:=cH 121 [true] ê q3q aBh ahm
def aBj:Dl->FR:=λl=>(dq l,.bool (aZ l),[])
def aBk:Dl->LR:=λl=>λ
    |0=>some ⟨Nat,[(9,iN),(3,λk=>.int .i64 (c9 l k)),(4,λk=>.int .i64 (nW l k))],[],[],[],[],λk=>ja l k,λk=>af (S.len l) k⟩
    |_=>none
def aho:Env:=cS 43 UO aBj ahn
def aBl:Dl->FR:=λl=>(S.small l,.sl [.str] (al l),[])
def aBm:Dl->LR:=λl=>λ
    |0=>some ⟨Nat,[(8,iN),(3,λk=>.own 300)],[(300,λk=>.row 9 [.str] (bL l k) false)],[(Vg.Loc.slot 3,300)],[],[],λk=>dX l k,λk=>af (S.len l) k⟩
    |_=>none
def ahp:Env:=cS 45 UO aBl aho
def aBn:af5->FR:=λb=>(S.small b,.str (hdT (aS b)),[])
def ahq:Env:=cS 220 q5p aBn ahp
def aBo:aHU->aHS->pb:=λ_ (st,((),(b,(at_,()))))=>⟨st=0/\b=yo/\at_=3,.bk [],[some (.cells [.int .i64 (-1)]),some (.cells [.own 60000]),some (.cells [.sl [.int .u8] b]),some (.cells [.int .i64 at_])],[.row 209 mJ S.Ë false]⟩
def ahr:Env:=cH 219 [true,true,true,true] aOq aOp aBo ahq
def aBp:af5->FR:=λb=>(b=yo,.sl mJ kE,[])
def aBq:af5->LR:=λb=>λ
    |0=>some ⟨Nat,[(15,iN)],[(1,λk=>.cells [.sl [.int .u8] b]),(3,λk=>.cells [.nil]),(4,λk=>.cells [.int .i64 ((k:Nat):Int)]),(5,λk=>.cells [.int .i64 (uI k)])],[],[],[],λk=>cC k 3,λk=>af 3 k⟩
    |_=>none
def ahs:Env:=cS 111 q5p aBp ahr
def aBr:tN->KL->pb:=λ_ ((e,n,w),())=>⟨0<=n/\n<e.length,.agg [.int .i64 (BK e n).1,.int .i64 (BK e n).2.1,.str (BK e n).2.2],[some (.cells [.sl mJ e,.int .i64 n,.int .i64 w,.nil])],[]⟩
def aht:eQ:=bZ Jl ì aBr
def XD:eQ:=aht
def ahu:Env:=Env.bT 113 [true] XD ahs
def aBs:tN->aHT->pb:=λ_ ((e,n,w),(l,()))=>⟨0<=n/\n<e.length,.agg [.int .i64 (BK e n).1,.int .i64 (BK e n).2.1,.str (BK e n).2.2],[some (.cells [.sl mJ e,.int .i64 n,.int .i64 w,.own 50001]),some (.row 81 GQ l false)],[]⟩
def ahv:eQ:=bZ Jl aES aBs
def ahw:eQ:=aun ahv XD
def ahx:Env:=Env.bT 113 [true] ahw ahu
def aBt:aHV->KL->pb:=λd ((e,n,w),())=>⟨e=kE/\n=0/\w=0,.int .i64 0,[some (.cells [.sl mJ e,.int .i64 1,.int .i64 1,.own 60000])],[.row 81 GQ jK false]⟩
def ahy:Env:=cH 317 [true,false] aOr ì aBt ahx
def aBu:aHV->KL->pb:=λd ((e,n,w),())=>⟨e=kE/\n=0/\w=0,.int .i64 0,[some (.cells [.sl mJ e,.int .i64 1,.int .i64 1,.own 60000])],[.row 81 GQ jK false]⟩
def aBv:aHV->KL->LR:=λd ((e,n,w),())=>λ
    |0=>some ⟨Nat,[],[(50000,λk=>.cells [.sl mJ e,.int .i64 1,.int .i64 1,.own 300]),(300,λk=>.row 81 GQ jK false)],[(Vg.Loc.cell 50000 3,300)],[101000],[],λk=>k=0,λk=>k⟩
    |_=>none
def ahz:Env:=cH 225 [true,false] aOr ì aBu ahy
def aBw:aHV->KL->pb:=λd ((e,n,w),())=>⟨e=kE/\n=0/\w=0,.int .i64 0,[some (.cells [.sl mJ e,.int .i64 1,.int .i64 1,.own 60000])],[.row 81 GQ jK false]⟩
def aBx:aHV->KL->LR:=λd ((e,n,w),())=>λ
    |0=>some ⟨Nat,[],[(50000,λk=>.cells [.sl mJ e,.int .i64 1,.int .i64 1,.own 300]),(300,λk=>.row 81 GQ jK false)],[(Vg.Loc.cell 50000 3,300)],[100900],[],λk=>k=0,λk=>k⟩
    |_=>none
def ahA:Env:=cH 112 [true,false] aOr ì aBw ahz
def aBy:af5->FR:=λb=>(b=yo,.bk (ax [.slice GQ,.int .i64,.int .i64] ((jK,0,0))),[])
def ahB:Env:=cS 42 q5p aBy ahA
def aBD:Dl->FR:=λl=>(True,.bool (oc l),[])
def aBE:Dl->LR:=λl=>λ
    |0=>some ⟨Nat,[(3,iN)],[],[],[],[],λk=>GH l k,λk=>af (S.len l) k⟩
    |_=>none
def ahE:Env:=cS 9 UO aBD ahB
def aBF:aHV->GX->pb:=λv (d,(l,()))=>⟨l.length<=35184372088832,.bk [],[some (.cells [.own 60000,.bool (oA d (jL v))]),none],[.row 5 [.int .u8] (l++S.bytesOf (jL v)) false]⟩
def ahF:Env:=cH 208 [true,false] aOr UP aBF ahE
def aBG:arn->GX->pb:=λ(b,m) (d,(l,()))=>⟨l.length<=35184372088832/\b.length<=1099511627776,.bk [],[some (.cells [.own 60000,.bool (oA d (gn b m))]),none],[.row 5 [.int .u8] (l++S.bytesOf (gn b m)) false]⟩
def ahG:Env:=cH 214 [true,false,false] aOs UP aBG ahF
def aBH:aHW->GX->pb:=λ(y,Y,a) (d,(l,()))=>⟨l.length<=35184372088832,.bk [],[some (.cells [.own 60000,.bool (oA d (kL y Y a))]),none],[.row 5 [.int .u8] (l++S.bytesOf (kL y Y a)) false]⟩
def ahH:Env:=cH 207 [true,false] aOt UP aBH ahG
def aBI:aro->GX->pb:=λp (d,(l,()))=>⟨l.length<=17592186044416,.bk [],[some (.cells [.own 60000,.bool (oA d (jb p))]),none],[.row 5 [.int .u8] (l++S.bytesOf (jb p)) false]⟩
def aBJ:aro->GX->LR:=λp (d,(l,()))=>λ
    |0=>some ⟨Nat,[(18,iN)],[(50000,λk=>.cells [.own 300,.bool d]),(300,λk=>.row 5 [.int .u8] (l++iv p k) false)],[(Vg.Loc.cell 50000 0,300)],[101500],[],λk=>aqZ p k,λk=>af (S.len p) k⟩
    |_=>none
def ahI:Env:=cH 215 [true,false] aET UP aBI ahH
def aBK:aHX->GX->pb:=λ(P,a,b,c,e,p) (d,(l,()))=>⟨l.length<=8796093022208/\p.length<=1099511627776,.bk [],[some (.cells [.own 60000,.bool (oA d (aof (P,a,b,c,e,p)))]),none],[.row 5 [.int .u8] (l++S.bytesOf (aof (P,a,b,c,e,p))) false]⟩
def ahJ:Env:=cH 209 [true,false] aOu UP aBK ahI
def aBL:tN->GX->pb:=λ_ (d,(l,()))=>⟨True,.bk [.sl [.int .u8] (Fv (l,d)),.int .i64 (Fw (l,d))],[none,none],[]⟩
def ahK:Env:=cH 210 [true] Jl UP aBL ahJ
def aBM:arp->FR:=λ(a,a2,a3,a4)=>(zt a4,.bk (ax aaJ (xF a a2 a3 a4)),[])
def aBN:arp->LR:=λ(a,a2,a3,a4)=>λ
    |0=>some ⟨Nat,[(25,iN)],[(4,λk=>.cells [.own 300,.bool (mU (gj a a2 a3 a4 k))]),(300,λk=>.row 5 [.int .u8] (S.bytesOf (gj a a2 a3 a4 k)) false)],[(Vg.Loc.cell 4 0,300)],[101300,302],[],λk=>oV a3 a4 k,λk=>af (S.len a4) k⟩
    |2=>some ⟨Nat×Nat,[(37,λk=>.int .i64 ((k.1:Nat):Int))],[(4,λk=>.cells [.own 302,.bool (mU (gE a a2 a3 a4 k.2 k.1))]),(302,λk=>.row 5 [.int .u8] (S.bytesOf (gE a a2 a3 a4 k.2 k.1)) false)],[(Vg.Loc.cell 4 0,302)],[103400,300],[(25,λk=>.int .i64 ((k.2:Nat):Int))],λk=>arN a3 a4 k.2 k.1,λk=>af (S.len (aks a4 k.2)) k.1⟩
    |_=>none
def ahL:Env:=cS 97 MC aBM ahK
def aBO:Rg->FR:=λ(P,a,b,c,p,d)=>(p.length<=1099511627776,.bk (ax aaJ (Kw P a b c p d)),[])
def ahM:Env:=cS 100 í aBO ahL
def a7E:arq->FR:=λ(s1,s2,s,S,a,b,c)=>(True,.bk (ax aaJ (aYI s1 s2 s S a b c)),[])
def a3A:Env:=cS 102 af8 a7E ahM
def XE:ars->xN->pb:=λ(b,c) ()=>⟨jd b c=0,.bk [.ref 60000 0,.int .i64 0],[],[.cells [.sl [.int .u8] b,.int .i64 1,.int .i64 0]]⟩
def ahN:eQ:=bZ aEW BL XE
def XF:eQ:=ahN
def ahO:Env:=Env.bT 115 [false,false] XF a3A
def XG:ars->xN->pb:=λ(b,c) ()=>⟨¬jd b c=0,.bk [.lh,.int .i64 (jd b c)],[],[]⟩
def ahP:eQ:=bZ aEW BL XG
def ahQ:eQ:=aun ahP XF
def ahR:Env:=Env.bT 115 [false,false] ahQ ahO
def aBP:tN->FB->pb:=λ_ ((r,R,a),())=>⟨r.length<=140737488355328,.int .i64 (ag r R a).2,[some (.cells [.sl [.int .u8] r,.int .i64 (ag r R a).1.2.1,.int .i64 (ag r R a).1.2.2])],[]⟩
def ahS:Env:=cH 150 [true] Jl Xg aBP ahR
def aBQ:aHV->FB->pb:=λm ((r,R,a),())=>⟨r.length<=140737488355328,.str (ao r R a m).2,[some (.cells [.sl [.int .u8] r,.int .i64 (ao r R a m).1.2.1,.int .i64 (ao r R a m).1.2.2])],[]⟩
def ahT:Env:=cH 151 [true,false] aOr Xg aBQ ahS
def aBR:aHV->FB->pb:=λm ((r,R,a),())=>⟨r.length<=140737488355328,.int .i64 (fj r R a m).2,[some (.cells [.sl [.int .u8] r,.int .i64 (fj r R a m).1.1,.int .i64 (fj r R a m).1.2])],[]⟩
def ahU:Env:=cH 117 [true,false] aOr Xg aBR ahT
def aBS:tN->FB->pb:=λ_ ((r,R,a),())=>⟨r.length<=140737488355328,.agg [.int .i64 (ajM r R a).2.1,.str (ajM r R a).2.2.1,.sl xM (ajM r R a).2.2.2],[some (.cells [.sl [.int .u8] r,.int .i64 (ajM r R a).1.1,.int .i64 (ajM r R a).1.2])],[]⟩
def ahV:Env:=cH 116 [true] Jl Xg aBS ahU
def aBT:tN->FB->pb:=λ_ ((r,R,a),())=>⟨r.length<=140737488355328,.agg [.str (lI r R a).2.1,.str (lI r R a).2.2.1,.str (lI r R a).2.2.2],[some (.cells [.sl [.int .u8] r,.int .i64 (lI r R a).1.1,.int .i64 (lI r R a).1.2])],[]⟩
def ahW:Env:=cH 228 [true] Jl Xg aBT ahV
def aBU:tN->FB->pb:=λ_ ((r,R,a),())=>⟨r.length<=140737488355328,.sl [.str] (aur r R a).2,[some (.cells [.sl [.int .u8] r,.int .i64 (aur r R a).1.1,.int .i64 (aur r R a).1.2])],[]⟩
def aBV:tN->FB->LR:=λ_ ((r,R,a),())=>λ
    |0=>some ⟨Nat,[(7,iN),(3,λk=>.own 300)],[(300,λk=>.row 9 [.str] (iw r R a k).2 false),(50000,λk=>.cells [.sl [.int .u8] r,.int .i64 (iw r R a k).1.1,.int .i64 (iw r R a k).1.2])],[(Vg.Loc.slot 3,300)],[],[],λk=>cC k (qT r R a),λk=>af (qT r R a) k⟩
    |_=>none
def ahX:Env:=cH 152 [true] Jl Xg aBU ahW
def aBW:tN->FB->pb:=λ_ ((r,R,a),())=>⟨r.length<=140737488355328,.agg [.int .i64 (jc r R a).2.1,.str (jc r R a).2.2.1,.str (jc r R a).2.2.2.1,.str (jc r R a).2.2.2.2.1,.sl [.str] (jc r R a).2.2.2.2.2.1,.sl [.int .u8] (jc r R a).2.2.2.2.2.2],[some (.cells [.sl [.int .u8] r,.int .i64 (jc r R a).1.1,.int .i64 (jc r R a).1.2])],[]⟩
def NN:Env:=cH 118 [true] Jl Xg aBW ahX
def aBX:af5->FR:=λb=>(b.length<=140737488355328/\jd b 1=0,.bk [.agg (ax wG ((aI b).1)),.int .i64 ((aI b).2:Int)],[])
def aBY:af5->LR:=λb=>λ
    |0=>some ⟨Nat,[(25,iN)],[(101100,λk=>.cells [.sl [.int .u8] b,.int .i64 (kp b k).1.1,.int .i64 (kp b k).1.2]),(6,λk=>.cells [.int .i64 (aH b).2.1,.str (aH b).2.2.1,.sl xM (aH b).2.2.2,.own 300]),(300,λk=>.row 110 [.slice ue] (kp b k).2 false)],[(Vg.Loc.cell 6 3,300)],[301],[],λk=>cC k (aN b),λk=>af (aN b) k⟩
    |2=>some ⟨Nat×Nat,[(29,λk=>.int .i64 ((k.1:Nat):Int)),(7,λk=>.own 301)],[(301,λk=>.row 115 ue (I4 b k.2 k.1).2 false),(101100,λk=>.cells [.sl [.int .u8] b,.int .i64 (I4 b k.2 k.1).1.1,.int .i64 (I4 b k.2 k.1).1.2]),(6,λk=>.cells [.int .i64 (aH b).2.1,.str (aH b).2.2.1,.sl xM (aH b).2.2.2,.own 300]),(300,λk=>.row 110 [.slice ue] (kp b k.2).2 false)],[(Vg.Loc.slot 7,301)],[],[(25,λk=>.int .i64 ((k.2:Nat):Int))],λk=>cC k.1 (qU b k.2)/\k.2+1<=aN b,λk=>af (qU b k.2) k.1⟩
    |_=>none
def aBZ:Env:=Env.bT 115 [false,false] (bZ aEW BL XE) NN
def aB0:af5->FR:=λb=>(¬jd b 1=0,.bk [.agg (ax wG ((aI b).1)),.int .i64 ((aI b).2:Int)],[])
def aB1:Env:=Env.bT 115 [false,false] (bZ aEW BL XG) NN
def aB2:af5->FR:=λb=>(b.length<=140737488355328,.bk [.agg (ax wG ((aI b).1)),.int .i64 ((aI b).2:Int)],[])
def NO:Env:=cS 44 q5p aB2 NN
def aB3:af5->FR:=λb=>(b.length<=140737488355328/\jd b 2=0,.bk [.agg (ax Dh ((bx b).1)),.int .i64 ((bx b).2:Int)],[])
def aB4:Env:=Env.bT 115 [false,false] (bZ aEW BL XE) NO
def aB5:af5->FR:=λb=>(¬jd b 2=0,.bk [.agg (ax Dh ((bx b).1)),.int .i64 ((bx b).2:Int)],[])
def aB6:Env:=Env.bT 115 [false,false] (bZ aEW BL XG) NO
def aB7:af5->FR:=λb=>(b.length<=140737488355328,.bk [.agg (ax Dh ((bx b).1)),.int .i64 ((bx b).2:Int)],[])
def ahY:Env:=cS 62 q5p aB7 NO
def aXH:af5->FR:=λb=>(b.length<=140737488355328/\jd b 3=0,.bk [.agg (ax è ((S.Ě b).1)),.int .i64 ((S.Ě b).2:Int)],[])
def aXI:Env:=Env.bT 115 [false,false] (bZ aEW BL XE) ahY
def aXJ:af5->FR:=λb=>(¬jd b 3=0,.bk [.agg (ax è ((S.Ě b).1)),.int .i64 ((S.Ě b).2:Int)],[])
def aXK:Env:=Env.bT 115 [false,false] (bZ aEW BL XG) ahY
def aXL:af5->FR:=λb=>(b.length<=140737488355328,.bk [.agg (ax è ((S.Ě b).1)),.int .i64 ((S.Ě b).2:Int)],[])
def aUt:Env:=cS 77 q5p aXL ahY
def aCb:aHO->FR:=λ(y,Y,a)=>(True,.bk (ax aYL (qV y Y a)),[])
def ah1:Env:=cS 85 aOk aCb aUt
def aCc:aru->FR:=λ(a,b)=>(True,.bool (Qy a b),[])
def ah2:Env:=cS 60 aEY aCc ah1
def aCd:aHN->FR:=λ(y,Y)=>(True,.bk (ax aYL (fk y Y)),[])
def ah3:Env:=cS 41 aOe aCd ah2
def aCe:aH0->aHY->pb:=λt (d,(e,((),())))=>⟨aW d/\aK d=true/\S.isTerm t=true/\e=0,.bk [],[some (.cells [.sl zw d]),some (.cells [.int .i64 0]),some (.cells [.own 60000])],[.row 115 ue [aod d t] false]⟩
def ah4:eQ:=bZ aOv aEU aCe
def XH:eQ:=ah4
def ah5:Env:=Env.bT 95 [false,true,true,true] XH ah3
def aCf:aH0->aHZ->pb:=λt (d,(e,((),(l,()))))=>⟨aW d/\aK d=true/\S.isTerm t=true/\e=0/\l.length<=100000,.bk [],[some (.cells [.sl zw d]),some (.cells [.int .i64 0]),some (.cells [.own 60000]),none],[.row 115 ue (l++[aod d t]) false]⟩
def ah6:eQ:=bZ aOv aEV aCf
def ah7:eQ:=aun ah6 XH
def ah8:Env:=Env.bT 95 [false,true,true,true] ah7 ah5
def aCg:arv->art->pb:=λd (e,(ts,()))=>⟨Qz d ts/\e=0,.sl ue (SQ d ts),[some (.cells [.int .i64 0]),some (.cells [.sl [.str] ts])],[]⟩
def aCh:arv->art->LR:=λd (e,(ts,()))=>λ
    |0=>some ⟨Nat,[(12,iN)],[(3,λk=>.cells [.sl zw d]),(5,λk=>.cells [.own 300]),(300,λk=>.row 115 ue (sd d ts k) false),(50000,λk=>.cells [.int .i64 0]),(50001,λk=>.cells [.sl [.str] ts])],[(Vg.Loc.cell 5 0,300)],[],[],λk=>dX ts k,λk=>af (S.len ts) k⟩
    |_=>none
def ah9:Env:=cH 94 [false,true,true] aEZ aEX aCg ah8
def aCi:aaO->FR:=λ(y,Y,l)=>(dq l,.bk (ax aaJ (rF y Y l)),[])
def aCj:aaO->LR:=λ(Y,y,l)=>λ
    |0=>some ⟨Nat,[(31,iN)],[(7,λk=>.cells [.int .i64 0]),(8,λk=>.cells [.sl [.str] (al l)]),(10,λk=>.cells [.int .i64 ((S.len Y:Nat):Int),.str (S.root (S.leaves Y)),.sl xM (ya Y y),.own 300]),(300,λk=>.row 110 [.slice ue] (oB y (al l) k) false)],[(Vg.Loc.cell 10 3,300)],[],[],λk=>dX y k/\cy Y y=true/\aZ l=true,λk=>af (S.len y) k⟩
    |_=>none
def aia:Env:=cS 33 arw aCi ah9
def aCk:arx->FR:=λ(y,Y,i)=>(True,.bk (ax aaJ (oC y Y i)),[])
def aib:Env:=cS 34 aE0 aCk aia
def a7F:ary->FR:=λ(y,Y,z,z2)=>(True,.bk (ax aaJ (aRL y Y z z2)),[])
def a7G:ary->LR:=λ(y,Y,z,z2)=>λ
    |0=>some ⟨Nat,[(36,iN)],[],[],[],[],λk=>aWv y z k,λk=>af (S.len y) k⟩
    |_=>none
def a3B:Env:=cS 35 aE1 a7F aib
def aCm:arz->FR:=λ(i,n)=>(ob i n,.own 0,[.row 4 [.bool] (cq i n) false])
def aCn:arz->LR:=λ(i,n)=>λ
    |0=>some ⟨Int×Int×M Bool,[(0,λk=>.int .i64 k.1),(1,λk=>.int .i64 k.2.1),(5,λk=>.own 300)],[(300,λk=>.row 4 [.bool] k.2.2 false)],[(Vg.Loc.slot 5,300)],[],[],λk=>j4 i n k,λk=>k.2.1.toNat⟩
    |_=>none
def aid:Env:=cS 153 aE2 aCm a3B
def aCo:arA->FR:=λ(d,i,n,p)=>(eX p,.bk (ax aYL ((jO d i n p,cB d i n p))),[])
def aCp:arA->LR:=λ(d,i,n,p)=>λ
    |0=>some ⟨Nat,[(49,iN),(11,λk=>.str (cL d i n p k))],[],[],[],[],λk=>cB d i n p=0/\k<=(S.len p:Nat),λk=>af (S.len p) k⟩
    |_=>none
def aie:Env:=cS 65 aOw aCo aid
def aCq:af5->FR:=λb=>(b.length<=140737488355328,.bk (ax a1i (cu b)),[])
def aCr:af5->LR:=λb=>λ
    |0=>some ⟨Nat×Int×Int×Int×U,[(24,λk=>.int .i64 ((k.1:Nat):Int)),(7,λk=>.int .i64 k.2.2.2.1),(6,λk=>.own 300)],[(300,λk=>.row 3 [.int .i64] k.2.2.2.2 false),(4,λk=>.cells [.sl [.int .u8] b,.int .i64 k.2.1,.int .i64 k.2.2.1])],[(Vg.Loc.slot 6,300)],[],[],λk=>wA b k.1 k.2,λk=>af 1000 k.1⟩
    |_=>none
def aif:Env:=cS 233 q5p aCq aie
def aCs:aH1->FR:=λ(n,p,q)=>(True,.bool (Br p q),[])
def aih:Env:=cS 243 aOx aCs aif
def aCt:aH1->FR:=λ(n,p,q)=>(True,.bool (QB p q),[])
def aii:Env:=cS 244 aOx aCt aih
def aCu:aH1->FR:=λ(n,p,q)=>(True,.bool (Bs p q),[])
def aij:Env:=cS 245 aOx aCu aii
def aCv:Xh->xN->pb:=λ(a,b) ()=>⟨True,.own 60000,[],[.row 3 [.int .i64] (AK a b) false]⟩
def aCw:Xh->xN->LR:=λ(a,b) ()=>λ
    |0=>some ⟨U×U×U,[(0,λk=>.sl [.int .i64] k.1),(1,λk=>.sl [.int .i64] k.2.1),(7,λk=>.own 300)],[(300,λk=>.row 3 [.int .i64] k.2.2 false)],[(Vg.Loc.slot 7,300)],[],[],λk=>mG Br a b k,λk=>je k⟩
    |_=>none
def aik:eQ:=bZ Rh BL aCv
def XI:eQ:=aun aik XB
def ail:Env:=Env.bT 242 [false,false,true] XI aij
def aCx:arB->xN->pb:=λ(a,b) ()=>⟨True,.own 60000,[],[.row 3 [.int .i64] (qX a b) false]⟩
def aCy:arB->xN->LR:=λ(a,b) ()=>λ
    |0=>some ⟨U×U×U,[(0,λk=>.sl [.int .i64] k.1),(1,λk=>.sl [.int .i64] k.2.1),(7,λk=>.own 300)],[(300,λk=>.row 3 [.int .i64] k.2.2 false)],[(Vg.Loc.slot 7,300)],[],[],λk=>mG QB a b k,λk=>je k⟩
    |_=>none
def aim:eQ:=bZ aOz BL aCx
def XJ:eQ:=aun aim XI
def ain:Env:=Env.bT 242 [false,false,true] XJ ail
def aCz:arC->xN->pb:=λ(a,b) ()=>⟨True,.own 60000,[],[.row 3 [.int .i64] (I8 a b) false]⟩
def aCA:arC->xN->LR:=λ(a,b) ()=>λ
    |0=>some ⟨U×U×U,[(0,λk=>.sl [.int .i64] k.1),(1,λk=>.sl [.int .i64] k.2.1),(7,λk=>.own 300)],[(300,λk=>.row 3 [.int .i64] k.2.2 false)],[(Vg.Loc.slot 7,300)],[],[],λk=>mG Bs a b k,λk=>je k⟩
    |_=>none
def aio:eQ:=bZ aE6 BL aCz
def aip:eQ:=aun aio XJ
def aiq:Env:=Env.bT 242 [false,false,true] aip ain
def aCB:aHI->FR:=λ(a,b)=>(True,.own 0,[.row 3 [.int .i64] (AK a b) false])
def air:Env:=cS 130 aN9 aCB aiq
def aCC:aHI->FR:=λ(a,b)=>(True,.own 0,[.row 3 [.int .i64] (qX a b) false])
def ais:Env:=cS 131 aN9 aCC air
def aCD:aHI->FR:=λ(a,b)=>(True,.own 0,[.row 3 [.int .i64] (I8 a b) false])
def ait:Env:=cS 132 aN9 aCD ais
def aCE:GS->FR:=λs=>(True,.bool false,[])
def aiu:Env:=cS 238 Q9 aCE ait
def aCF:aHC->FR:=λ(a,b)=>(True,.bool (Op.bytesLess a b),[])
def aiv:Env:=cS 237 aEM aCF aiu
def aCG:aH6->FR:=λ(x,t)=>(yq x,.bk (ax [.int .i64,.bool] (((mH x t:Int),Bt x t))),[])
def aCH:aH6->LR:=λ(x,t)=>λ
    |0=>some ⟨Int×Int,[(7,λk=>.int .i64 k.1),(8,λk=>.int .i64 k.2)],[],[],[],[],λk=>qY x t k.1 k.2,λk=>(k.2-k.1).toNat⟩
    |_=>none
def aiw:Env:=cS 127 aOA aCG aiv
def aCI:aH7->FR:=λ(s,t,f)=>(Df t f,.sl [.int .i64] (od t f s),[])
def aix:Env:=cS 126 aOB aCI aiw
def aCJ:aH8->aH2->pb:=λs ((),((),(l,())))=>⟨sH l,.bk [],[some (.cells [.own 60000]),some (.cells [.fn (.func 130) [] []]),none],[.row 36 wH (tI 1 l) false]⟩
def aiy:eQ:=bZ aOC aE3 aCJ
def XK:eQ:=aiy
def aiz:Env:=Env.bT 240 [false,true,true] XK aix
def aCK:aH8->aH3->pb:=λs ((),((),(l,())))=>⟨sH l,.bk [],[some (.cells [.own 60000]),some (.cells [.fn (.func 131) [] []]),none],[.row 36 wH (tI 2 l) false]⟩
def aiA:eQ:=bZ aOC aE4 aCK
def XL:eQ:=aun aiA XK
def aiB:Env:=Env.bT 240 [false,true,true] XL aiz
def aCL:aH8->aH4->pb:=λs ((),((),(l,())))=>⟨sH l,.bk [],[some (.cells [.own 60000]),some (.cells [.fn (.func 132) [] []]),none],[.row 36 wH (tI 3 l) false]⟩
def aiC:eQ:=bZ aOC aE5 aCL
def aiD:eQ:=aun aiC XL
def aiE:Env:=Env.bT 240 [false,true,true] aiD aiB
def aCM:aH8->aH5->pb:=λs ((),((t,f),(l,())))=>⟨Df t f/\S.small l,.bk [],[some (.cells [.own 60000]),some (.cells [.fn (.func 126) [] [.dc [.slice [.str]] t 0,.dc [.slice wH] f 0],.fn (.func 130) [] [],.fn (.func 131) [] [],.fn (.func 132) [] []]),none],[.row 36 wH (Jc l (od t f s)) false]⟩
def aiF:Env:=cH 241 [false,true,true] aOC aOy aCM aiE
def aCN:arD->xN->pb:=λ(l,t,f) ()=>⟨GJ l t f,.sl [.int .i64] (Dd l t f),[],[]⟩
def aCO:arD->xN->LR:=λ(l,t,f) ()=>λ
    |0=>some ⟨Nat,[(28,iN)],[(5,λk=>.cells [.own 300]),(300,λk=>.row 36 wH (jU (od t f) l k) false),(3,λk=>.cells [.fn (.func 126) [] [.dc [.slice [.str]] t 0,.dc [.slice wH] f 0],.fn (.func 130) [] [],.fn (.func 131) [] [],.fn (.func 132) [] []]),(16,λk=>.cells [.fn (.func 130) [] []]),(20,λk=>.cells [.fn (.func 131) [] []]),(24,λk=>.cells [.fn (.func 132) [] []])],[(Vg.Loc.cell 5 0,300)],[],[],λk=>pI l (jU (od t f) l k) k,λk=>af (S.len l) k⟩
    |_=>none
def aiG:Env:=cH 129 [false,true] aOD BL aCN aiF
def aCP:aH9->FR:=λ(l,f)=>(dq l,.bk (ax a1i (iM l f)),[])
def aCQ:aH9->LR:=λ(l,f)=>λ
    |0=>some ⟨Nat,[(22,iN)],[],[],[],[],λk=>GK f k,λk=>af (S.len f) k⟩
    |_=>none
def aiH:Env:=cS 52 aOE aCP aiG
def aCR:aIa->FR:=λ(b,P,c,a,d,p,t,e)=>(az p,.bool (I9 t e P a p),[])
def aiI:Env:=cS 234 aOF aCR aiH
def aCS:aIb->FR:=λ(b,p,P,c,d,a,t)=>(True,.bool (Ja t p P a),[])
def aiJ:Env:=cS 236 aOG aCS aiI
def aCT:arE->xN->pb:=λ(t,P,a,b,c,d,p) ()=>⟨p.length<=140737488355328,.own 60000,[],[.bm 229 2 2 [.fn (.func 234) [] [.dc [.str] t 0,.dc [.int .i64] (cu p).2 0],.sl [.int .i64] (cu p).1,.fn (.func 236) [] [.dc [.str] t 0],.nil]]⟩
def aiK:Env:=cH 124 [false,false] aE7 BL aCT aiJ
def aCU:aIc->FR:=λ(root,n,t,a,b,c,d,p,P)=>(wB t p P,.bk (ax a1i (jr root n t (a,b,c,d,p,P))),[])
def aCV:aIc->LR:=λ(root,n,t,p,P,a,b,c,d)=>λ
    |0=>some ⟨Nat,[(61,iN)],[],[],[],[],λk=>og root n t (p,P,a,b,c,d) k,λk=>af 2 k⟩
    |_=>none
def aiL:Env:=cS 49 aOH aCU aiK
def aXN:aHC->FR:=λ(u,v)=>(True,.str (bz u v),[])
def aUv:Env:=cS 352 aEM aXN aiL
def aXO:aaP->FR:=λ(i,j,u,v,p)=>(at5 i j p,.bool (atF i j u v p),[])
def aXP:aaP->LR:=λ(i,j,u,v,p)=>λ
    |0=>some ⟨Int×Int,[(0,λk=>.int .i64 k.1),(1,λk=>.int .i64 k.2)],[],[],[],[],λk=>aFJ i j k,λk=>k.1.toNat⟩
    |2=>some ⟨Nat×Int×Int×B8×B8,[(31,λk=>.int .i64 ((k.1:Nat):Int)),(0,λk=>.int .i64 k.2.1),(1,λk=>.int .i64 k.2.2.1),(11,λk=>.str k.2.2.2.1),(12,λk=>.str k.2.2.2.2)],[],[],[],[],λk=>aue i j p k,λk=>af (S.len p) k.1⟩
    |4=>some ⟨Int×Int×Nat,[(0,λk=>.int .i64 k.1),(1,λk=>.int .i64 k.2.1)],[],[],[],[(31,λk=>.int .i64 ((k.2.2:Nat):Int))],λk=>aFK i j k,λk=>k.1.toNat⟩
    |_=>none
def aUw:Env:=cS 294 î aXO aUv
def aXQ:aaP->FR:=λ(m,n,u,v,p)=>(aIk m n p,.bool (S.accepted m n u v p),[])
def aUx:Env:=cS 189 î aXQ aUw
def aXR:aaP->FR:=λ(m,n,u,v,p)=>(eX p,.int .i64 (J7 m n u v p:Int),[])
def aXS:aaP->LR:=λ(m,n,u,v,p)=>λ
    |0=>some ⟨Nat,[(36,iN)],[],[],[],[],λk=>sZ p k,λk=>af (S.len p) k⟩
    |_=>none
def aUy:Env:=cS 83 î aXR aUx
def aCW:aId->FR:=λ(h1,h,H,root)=>(True,.bool (EH h1 h H root),[])
def aiM:Env:=cS 122 aE8 aCW aUy
def aCX:arF->FR:=λ(h1,h,H,root)=>(True,.fn (.func 122) [] [.dc Xd (h1,h,H) 0,.dc [.str] root 0],[])
def aiN:Env:=cS 46 aOI aCX aiM
def aCY:aIe->FR:=λ(a,a2,a3,a4,i,t)=>(0<=i/\i<(S.len a4:Nat),.bool (qW a4 i t),[])
def aiO:Env:=cS 47 aOJ aCY aiN
def aCZ:aIf->FR:=λ(P,a,b,p,c,d,i)=>(True,.bool (decide (p=i)),[])
def aiP:Env:=cS 63 aOK aCZ aiO
def aC0:aq9->FR:=λ(l,s1,s2)=>(True,.bool (xG l s1 s2),[])
def aC1:aq9->LR:=λ(l,s1,s2)=>λ
    |0=>some ⟨Nat,[(9,iN)],[],[],[],[],λk=>yp l s1 s2 k/\k<=(S.len l:Nat),λk=>af (S.len l) k⟩
    |_=>none
def aiQ:Env:=cS 50 aN8 aC0 aiP
def aC2:aIf->FR:=λ(a,b,c,d,p,P,i)=>(eX P/\az p,.bool (Ky a b p P i),[])
def aiR:Env:=cS 64 aOK aC2 aiQ
def aiS:Env:=Env.bT 51 [true] (Ix 3) aiR
def aC3:arG->FR:=λ(root,i,b)=>(b.length<1099511627776,.bk (ax aaJ (((uc root i b).1,(uc root i b).2))),[])
def aiT:Env:=cS 21 aE9 aC3 aiS
def XM:aIg->aaQ->pb:=λ(g1,g2,g3,g4,w,a,a2,a3,a4,i,j) ((),((xs,q),(l,())))=>⟨QJ w a4 i j/\UB j q xs.length l/\ud (g1,g2,g3,g4) w a4 i j=true,.bool true,[some (.cells [.own 50001]),some (.eG 36 (some 60000) xs q),none],[.row 3 [.int .i64] (QK l (wV (g1,g2,g3,g4) w a4 i j).1) false]⟩
def XN:eQ:=bZ aOL ï XM
def XO:eQ:=XN
def aiU:Env:=Env.bT 48 [false,false,false,false,false,true] XO aiT
def XP:aIg->aaQ->pb:=λ(g1,g2,g3,g4,w,a,a2,a3,a4,i,j) ((),((xs,q),(l,())))=>⟨QJ w a4 i j/\UB j q xs.length l/\ud (g1,g2,g3,g4) w a4 i j=false,.bool false,[some (.cells [.own 50001]),some (.eG 36 (some 50002) xs q),some (.row 3 [.int .i64] l false)],[]⟩
def XQ:eQ:=bZ aOL ï XP
def aiV:eQ:=aun XQ XO
def aiW:Env:=Env.bT 48 [false,false,false,false,false,true] aiV aiU
def aiX:aaR->CF:=λ(g1,g2,g3,g4,w,a,a2,a3,a4,i,j)=>GM 36 3 (g1,g2,g3,g4) w a4 i j
def aiY:Env:=Env.J7 48 (Pv arH aiX) aiW
def aC4:arI->FR:=λ(root,l,b)=>(b.length<1099511627776/\dq l,.bk (ax a1i (((fJ root l b).1,(fJ root l b).2))),[])
def aC5:arI->LR:=λ(root,l,b)=>λ
    |0=>some ⟨Nat,[(48,iN),(12,λk=>.own 300)],[(300,λk=>.dO 35 (some 11) (S.conds 36 3 root (aI b).1.1 (aI b).1.2.1 (aI b).1.2.2.1 (aI b).1.2.2.2 (al l) k))],[(Vg.Loc.slot 12,300)],[43,301],[],λk=>afK b k,λk=>af (S.len (aI b).1.2.2.1) k⟩
    |2=>some ⟨Nat×Nat,[(59,λk=>.int .i64 ((k.2:Nat):Int)),(12,λk=>.own 301)],[(301,λk=>.dO 35 (some 11) (ra 36 3 root (aI b).1.1 (aI b).1.2.1 (aI b).1.2.2.1 (aI b).1.2.2.2 (al l) k.1 k.2))],[(Vg.Loc.slot 12,301)],[105600,105601,105602,43,56,300],[(48,λk=>.int .i64 ((k.1:Nat):Int))],λk=>WW b (al l) k.1 k.2,λk=>af (S.len (al l)) k.2⟩
    |_=>none
def aiZ:Env:=cS 13 aFa aC4 aiY
def aUz:aIh->aZj->pb:=λ(s1,s2,b,s,S,a,c) (t,())=>⟨True,.bool (decide ((qV s S a).2=0)),[some (.cells [.str (qV s S a).1])],[]⟩
def aSF:eQ:=bZ aOM aYh aUz
def aUA:eQ:=aSF
def aUB:Env:=Env.bT 84 [false,true] aUA aiZ
def aUC:arJ->CF:=λ(s1,s2,c,S,a,b,d)=>λz=>match z with|.s _=>(True,.bool (decide ((qV S a b).2=0)),.s (qV S a b).1)|z=>(False,.bool false,z)
def aUD:Env:=Env.J7 84 (Pv ð aUC) aUB
def aXT:arJ->FR:=λ(s1,s2,b,S,a,c,s)=>(eX s,.bool (decide (J7 s1 S s2 a s=0)),[])
def aUE:Env:=cS 82 ð aXT aUD
def aXU:aIi->FR:=λ(root,b)=>(b.length<1099511627776,.bk (ax [.str,.int .i64,.int .i64] (((anq root b).1,(anq root b).2.1,(anq root b).2.2))),[])
def aUF:Env:=cS 28 aON aXU aUE
def aC6:arK->FR:=λ(c1,c2)=>(iy c1 c2,.bool (QT c1 c2),[])
def ai0:Env:=cS 20 aFb aC6 aUF
def aC7:af5->FR:=λb=>(S.small b,.sl [.int .u8] b,[])
def ai1:Env:=cS 339 q5p aC7 ai0
def aC8:aru->FR:=λ(a,b)=>(iy a b,.bk [.agg (ax oY ((bt a b).1)),.bool ((bt a b).2)],[])
def ai2:Env:=cS 257 aEY aC8 ai1
def aC9:aaL->FR:=λl=>(S.small l,.str (kI l),[])
def ai3:Env:=cS 288 aEO aC9 ai2
def aDa:aHC->FR:=λ(a,b)=>(True,.str (bz a b),[])
def ai4:Env:=cS 271 aEM aDa ai3
def aDb:aaL->FR:=λl=>(S.small l,.sl [.int .u8] (wE l),[])
def ai5:Env:=cS 268 aEO aDb ai4
def aDc:aru->FR:=λ(a,b)=>(xJ a b,.bk [.agg (ax oY ((QU 2 a b).1)),.bool ((QU 2 a b).2)],[])
def ai6:Env:=cS 260 aEY aDc ai5
def aDd:aru->FR:=λ(a,b)=>(xJ a b,.bk [.agg (ax oY ((QU 3 a b).1)),.bool ((QU 3 a b).2)],[])
def ai7:Env:=cS 143 aEY aDd ai6
def aDe:af9->FR:=λ(a,b)=>(iy a b,.bk [.agg (ax oY ((bt a b).1)),.bool ((bt a b).2)],[])
def ai8:Env:=cS 344 arL aDe ai7
def aDf:aru->FR:=λ(a,b)=>(True,.fn (.func 344) [] [.dc oX a 0,.dc oX b 0],[])
def ai9:Env:=cS 269 aEY aDf ai8
def aja:Env:=Env.bT 272 [true] (D7) ai9
def aDg:aXc->FR:=λ(l,i,f,p)=>(mI l f p,.bk [.agg (ax oY ((jY l i f p).1)),.bool ((jY l i f p).2)],[])
def aDh:aXc->LR:=λ(l,i,f,p)=>λ
    |0=>some ⟨O×M Bool×O×Int,[(12,λk=>.own 300),(13,λk=>.own 301),(14,λk=>.sl [.str] k.2.2.1),(15,λk=>.int .i64 k.2.2.2)],[(300,λk=>.row 27 oX k.1 false),(301,λk=>.row 4 [.bool] k.2.1 false)],[(Vg.Loc.slot 12,300),(Vg.Loc.slot 13,301)],[],[],λk=>AO l i f p k,λk=>S.len k.2.2.1⟩
    |2=>some ⟨Nat,[(87,iN),(19,λk=>.str (cL (S.leaf f) i (S.len l) p k))],[(82,λk=>.dO 365 none (rG l i f p k))],[],[],[],λk=>xK p k,λk=>af (S.len p) k⟩
    |_=>none
def ajb:Env:=cS 157 aZk aDg aja
def aDi:aXd->FR:=λ(d,t,a,b,c,e,p,P)=>(Dg d t p P,.bk [.agg (ax oY ((fv d t (a,b,c,e,p,P)).1)),.bool ((fv d t (a,b,c,e,p,P)).2)],[])
def ajc:Env:=cS 146 aZl aDi ajb
def ajd:Env:=Env.bT 57 [true] (D7) ajc
def aDj:aXe->FR:=λ(p,P,a,b,c)=>(True,.bk (ax oY ((th p P a,zv b c))),[])
def aje:Env:=cS 144 aZm aDj ajd
def aDk:aXe->FR:=λ(p,P,a,b,c)=>(True,.bool (Bw p P a b c),[])
def ajf:Env:=cS 145 aZm aDk aje
def aDl:aXe->FR:=λ(p,P,a,b,c)=>(True,.bk [.agg (ax oY ((sI p P a b c).1)),.bool ((sI p P a b c).2)],[])
def ajg:Env:=cS 58 aZm aDl ajf
def aDm:aQS->FR:=λ(a,a2,a3,a4,a5,A,b)=>(uK a a2 a3 a4 a5 A b,.bk [.agg (ax oY ((lf a a2 a3 a4 a5 A b).1)),.bool ((lf a a2 a3 a4 a5 A b).2)],[])
def aDn:aQS->LR:=λ(b,a2,a3,a4,a5,a,A)=>λ
    |0=>some ⟨Nat,[(20,iN)],[],[],[],[],λk=>KD a5 a A k,λk=>af (S.len a5) k⟩
    |2=>some ⟨Nat×Nat,[(28,λk=>.int .i64 ((k.1:Nat):Int))],[],[],[],[(20,λk=>.int .i64 ((k.2:Nat):Int))],λk=>aVH a5 a A k.2 k.1,λk=>af (S.len a) k.1⟩
    |_=>none
def ajh:Env:=cS 59 aP6 aDm ajg
def aDo:aUk->FR:=λ(b,a2,a3,a4,a5,c,a,A)=>(mI a4 a A,.bk [.agg (ax oY ((QV b a2 a3 a4 a5 c a A).1)),.bool ((QV b a2 a3 a4 a5 c a A).2)],[])
def aji:Env:=cS 67 aTl aDo ajh
def aDp:aXf->FR:=λ(y,Y,l,b)=>(b.length<1099511627776/\dq l,.bk [.agg (ax oY ((dJ y Y l b).1)),.bool ((dJ y Y l b).2)],[])
def ajj:Env:=cS 19 aWb aDp aji
def aDq:aXg->FR:=λ(y,Y,i,b)=>(b.length<1099511627776,.bk [.agg (ax oY ((mX y Y i b).1)),.bool ((mX y Y i b).2)],[])
def ajk:Env:=cS 22 aWc aDq ajj
def aDr:aUl->FR:=λ(a,k,b,x,y)=>(ap0 a k b x y,.bk [.agg (ax oY ((akf (tkI a k) (tkI b k)).1)),.bool ((akf (tkI a k) (tkI b k)).2)],[])
def aXV:aUl->Nat:=λ(a,k,b,x,y)=>k.toNat+1
def ajl:Env:=cS 387 aWd aDr ajk
def aDt:aUl->FR:=λ(a,k,b,x,y)=>(ap0 a k b x y,.bk [.agg (ax oY ((akf (dpI a k) (dpI b k)).1)),.bool ((akf (dpI a k) (dpI b k)).2)],[])
def aDu:aUl->Nat:=λ(a,k,b,x,y)=>S.len a-k.toNat+1
def ajm:Env:=cS 388 aWd aDt ajl
def aDv:aXh->FR:=λ(a,b,x,y)=>(aui a b x y,.bk [.agg (ax oY ((akf a b).1)),.bool ((akf a b).2)],[])
def aXW:aXh->Nat:=λ(a,b,x,y)=>S.len a
def ajn:Env:=cS 377 aWe aDv ajm
def aDx:aUm->FR:=λ(a,b)=>(dj a/\dj b,.bk [.agg (ax oY ((auw a b).1)),.bool ((auw a b).2)],[])
def ajo:Env:=cS 351 aMT aDx ajn
def aDy:a6Y->FR:=λ(a,i,j,b)=>(aI1 a i j b,.bk [.agg (ax oY ((auw (ajL a i j) (ajL b i j)).1)),.bool ((auw (ajL a i j) (ajL b i j)).2)],[])
def ajp:Env:=cS 350 a5G aDy ajo
def aXX:a6Z->FR:=λ(a,b,i,j)=>(True,.fn (.func 350) [] [.dc [.slice oX] a 0,.dc [.int .i64] i 0,.dc [.int .i64] j 0,.dc [.slice oX] b 0],[])
def aUG:Env:=cS 291 a5H aXX ajp
def ajq:aEJ->FR:=λ_=>(True,.bk [.agg (ax oY S.ix.1),.bool S.ix.2],[])
def aDz:Env:=cS 290 q1p ajq aUG
def aXY:arz->FR:=λ(m,n)=>(aF7 m n,.bk (ax [.slice [.int .i64,.int .i64,.int .i64,.int .i64,.bool],.int .i64] ((aFO m n,aFP m n))),[])
def aXZ:arz->LR:=λ(m,n)=>λ
    |0=>some ⟨M (Int×Int×Int×Int×Bool)×Int×Int×Int,[(6,λk=>.own 300),(7,λk=>.int .i64 k.2.1),(0,λk=>.int .i64 k.2.2.1),(1,λk=>.int .i64 k.2.2.2)],[(300,λk=>.row 386 [.int .i64,.int .i64,.int .i64,.int .i64,.bool] k.1 false)],[(Vg.Loc.slot 6,300)],[],[],λk=>awP m n k,λk=>k.2.2.2.toNat⟩
    |_=>none
def aUH:Env:=cS 289 aE2 aXY aDz
def aX0:a3h->FR:=λ(a,b,p)=>(aFQ a b p,.bk [.agg (ax oY ((aul a b p).1)),.bool ((aul a b p).2)],[])
def aX1:a3h->LR:=λ(a,b,p)=>λ
    |0=>some ⟨Nat,[(78,iN),(12,λk=>.str (an8 a b p k)),(13,λk=>.str (anp a b p k))],[(72,λk=>.dO 365 none (an3 a b p k)),(75,λk=>.dO 365 none (anH a b p k))],[],[],[],λk=>k<=S.len (ccP a b p),λk=>af (S.len (ccP a b p)) k⟩
    |2=>some ⟨Nat,[(155,iN),(21,λk=>.own 300)],[(300,λk=>.dO 365 none (anw a b p k))],[(Vg.Loc.slot 21,300)],[115200,115201,115202,183,152,118300,118301,118302],[],λk=>leP (ep a b) k,λk=>af (S.len (ep a b)) k⟩
    |_=>none
def aUI:Env:=cS 184 a5I aX0 aUH
def aX2:a61->FR:=λ(s1,s2,S,a,b,c,d,e,f,F,s)=>(aOi s1 s2 S a b c d e f F s,.bk [.agg (ax oY ((at6 s1 s2 S a b c d e f F s).1)),.bool ((at6 s1 s2 S a b c d e f F s).2)],[])
def aUJ:Env:=cS 78 a5J aX2 aUI
def aX3:a62->FR:=λ(x,X,y,Y,b)=>(b.length<1099511627776,.bk [.agg (ax oY ((alN x X y Y b).1)),.bool ((alN x X y Y b).2)],[])
def aUK:Env:=cS 25 a5K aX3 aUJ
def aX5:aEJ->FR:=λ_=>(True,.bool true,[])
def aUM:Env:=cS 12 q1p aX5 aUK
def a3C:a3i->FR:=λ(l,m,q,i)=>(True,.bool true,[])
def a7H:a3i->LR:=λ(l,m,q,i)=>λ
    |0=>some ⟨Nat,[(11,iN)],[(9,λk=>.cells [.sl oX (hx l).1,.sl oq (hx l).2]),(10,λk=>.cells [.sl oX (aEE l m k).1,.sl oq (aEE l m k).2])],[],[],[],λk=>aVI m k,λk=>af (S.len m) k⟩
    |_=>none
def a7I:Env:=cS 7 a1j a3C aUM
end Go.J
