import Derived.Test.YtmonnkdlphjngaaGreatDoorPartB
set_option linter.unusedVariables false
set_option linter.unusedSimpArgs false
section
namespace Go.S
def bR(c:Int):Bool:=decide (0<=c)&&(decide (c<=1114111)&&(decide (c<55296) || decide (57343<c)))
def en(c:Int):Int:=if c<128 then 1 else if c<2048 then 2 else if c<65536 then 3 else 4
def u8(c:Int):UInt8:=UInt8.ofNat c.toNat
def more(c:Int):UInt8:=u8 (128+c%64)
def enc(c:Int):B8:=if c<128 then [u8 c] else if c<2048 then [u8 (192+c/64),more c] else if c<65536 then [u8 (224+c/4096),more (c/64),more c]
 else [u8 (240+c/262144),more (c/4096),more (c/64),more c]
def fV(c:Int):B8:=if bR c then enc c else []
def xO(c:Int):Int:=if bR c then 0 else 1
def dD(b:B8):Int:=((b.getD 0 0).toNat:Int)
def uN(b:B8):Nat:=if dD b<128 then 1 else if dD b/32=6 then 2 else if dD b/16=14 then 3 else if dD b/8=30 then 4 else 0
def uC(b:B8):Int:=if dD b/32=6 then dD b%32 else if dD b/16=14 then dD b%16 else dD b%8
def ca(b:B8):Nat->Int
 |0=>uC b
 |k+1=>ca b k*64+((b.getD (k+1) 0).toNat:Int)%64
def vg(b:B8)(n:Nat):Bool:=((b.drop 1).take (n-1)).all fun x=>x.toNat/64==2
def aX(b:B8):Int×Int:=
 if uN b=1 then(dD b,1)
 else if uN b=0\/b.length<uN b\/vg b (uN b)=false\/bR (ca b (uN b-1))=false\/en (ca b (uN b-1))≠uN b then(65533,1)
 else(ca b (uN b-1),uN b)
def uh:Nat->B8->List Int
 |0,_=> []
 |f+1,b=>if b.isEmpty then [] else(aX b).1::uh f (b.drop (aX b).2.toNat)
def decode(b:B8):List Int:=uh b.length b
def o8:List (Int×Int):= [(65,90),(97,122),(192,214),(216,246),(248,255),(913,929),(931,937),(945,969),(1024,1119)]
def mR:List (Int×Int×Int):= [(65,90,32),(192,214,32),(216,222,32),(913,929,32),(931,937,32),(1024,1039,80),(1040,1071,32)]
def mS(c:Int)(s:Int×Int):Bool:=decide (s.1<=c)&&decide (c<=s.2)
def letter(c:Int):Bool:=o8.any (mS c)
def digit(c:Int):Bool:=decide (48<=c)&&decide (c<=57)
def bc(c:Int):Int:=match mR.find? (fun s=>mS c (s.1,s.2.1)) with
 |some s=>c+s.2.2
 |none=>c
def oA(c:Int)(k:Nat):Prop :=k<=9/\∀s∈o8.take k,mS c s=false
def o9(c:Int)(k:Nat):Prop :=k<=7/\∀s∈mR.take k,mS c (s.1,s.2.1)=false
def oB(b:B8)(k:Nat):Prop :=(2<=uN b/\k+1<=uN b/\uN b<=b.length)/\∀x∈(b.drop 1).take k,x.toNat/64=2
def jW(b r:B8)(l:List Int):Prop :=l++decode r=decode b/\r.length+l.length<=b.length
theorem cy(b:B8)(m:Int)(h1:1<=m)(h:m<=b.length):(List.drop (Int.toNat 1) (List.take (Int.toNat m) b)).length=m.toNat-1:=by
 grind
theorem kj(b:B8)(m:Int)(x:Nat)(h:(x:Int)+1<m):List.getD (List.drop (Int.toNat 1) (List.take (Int.toNat m) b)) (Int.toNat (x:Int)) 0=b.getD (x+1) 0:=by
 grind
theorem mT(b:B8)(m:Int)(x:Nat)(h:(x:Int)+1<m):List.getD (List.drop (Int.toNat 1) (List.take (Int.toNat m) b)) x 0=b.getD (x+1) 0:=kj b m x h
section
variable {b:B8} {n x:Nat}
theorem sY(h1:¬((b.getD (Int.toNat 0) 0).toNat:Int)<128)(h2:((b.getD (Int.toNat 0) 0).toNat:Int)/2^Int.toNat 5=6):uN b=2:=by
 have e:((b.getD (Int.toNat 0) 0).toNat:Int)=dD b:=rfl;grind[Int.toNat,uN]
theorem sZ(h1:¬((b.getD (Int.toNat 0) 0).toNat:Int)<128)(h2:¬((b.getD (Int.toNat 0) 0).toNat:Int)/2^Int.toNat 5=6)(h3:((b.getD (Int.toNat 0) 0).toNat:Int)/2^Int.toNat 4=14):uN b=3:=by
 have e:((b.getD (Int.toNat 0) 0).toNat:Int)=dD b:=rfl;grind[Int.toNat,uN]
theorem ta(h1:¬((b.getD (Int.toNat 0) 0).toNat:Int)<128)(h2:¬((b.getD (Int.toNat 0) 0).toNat:Int)/2^Int.toNat 5=6)(h3:¬((b.getD (Int.toNat 0) 0).toNat:Int)/2^Int.toNat 4=14)
  (h4:((b.getD (Int.toNat 0) 0).toNat:Int)/2^Int.toNat 3=30):uN b=4:=by
 have e:((b.getD (Int.toNat 0) 0).toNat:Int)=dD b:=rfl;grind[Int.toNat,uN]
theorem uf1(h1:((b.getD (Int.toNat 0) 0).toNat:Int)<128):aX b=(((b.getD (Int.toNat 0) 0).toNat:Int),1):=by
 have hn:uN b=1:=by
  exact R! h1
 simp [aX,hn,K?];rfl
theorem uf0(h1:¬((b.getD (Int.toNat 0) 0).toNat:Int)<128)(h2:¬((b.getD (Int.toNat 0) 0).toNat:Int)/2^Int.toNat 5=6)(h3:¬((b.getD (Int.toNat 0) 0).toNat:Int)/2^Int.toNat 4=14)
  (h4:¬((b.getD (Int.toNat 0) 0).toNat:Int)/2^Int.toNat 3=30):aX b=(65533,1):=by
 have hn:uN b=0:=by
  have e:((b.getD (Int.toNat 0) 0).toNat:Int)=dD b:=rfl;grind[Int.toNat,uN]
 grind[aX]
theorem Qo(hn:uN b=n)(h2:2<=n)(h:b.length<n\/vg b n=false\/bR (ca b (n-1))=false\/en (ca b (n-1))≠n):aX b=(65533,1):=by
 grind[aX]
theorem sh(hn:uN b=n)(h2:2<=n)(h:(b.length:Int)<n):aX b=(65533,1):=Qo hn h2 (.inl w!)
theorem VV(hn:uN b=n)(h2:2<=n)(h:¬(b.length:Int)<n):oB b 0:=⟨w!,z!⟩
theorem aIm(h2:((b.getD (Int.toNat 0) 0).toNat:Int)/2^Int.toNat 5=6):Vg.aP ((b.getD (Int.toNat 0) 0).toNat:Int) 31=ca b 0:=by
 rw [CW _ w!];have e:((b.getD (Int.toNat 0) 0).toNat:Int)=dD b:=rfl;grind[Int.toNat,ca,uC]
theorem aIn(h2:¬((b.getD (Int.toNat 0) 0).toNat:Int)/2^Int.toNat 5=6)(h3:((b.getD (Int.toNat 0) 0).toNat:Int)/2^Int.toNat 4=14):Vg.aP ((b.getD (Int.toNat 0) 0).toNat:Int) 15=ca b 0:=by
 rw [VN _ w!];have e:((b.getD (Int.toNat 0) 0).toNat:Int)=dD b:=rfl;grind[Int.toNat,ca,uC]
theorem aIo(h2:¬((b.getD (Int.toNat 0) 0).toNat:Int)/2^Int.toNat 5=6)(h3:¬((b.getD (Int.toNat 0) 0).toNat:Int)/2^Int.toNat 4=14):Vg.aP ((b.getD (Int.toNat 0) 0).toNat:Int) 7=ca b 0:=by
 rw [aeq _ w!];have e:((b.getD (Int.toNat 0) 0).toNat:Int)=dD b:=rfl;grind[Int.toNat,ca,uC]
theorem SS(b:B8):∀k,k<=4->0<=ca b k/\ca b k*64^(4-k)<=536870911
 |0,_=>by grind[ca,uC]
 |k+1,h=>by
  have ih:=SS b k w!;simp [ca];have :k=0\/k=1\/k=2\/k=3:=by omega
  grind
theorem bN(h:oB b x):x<=3/\0<=ca b x/\ca b x<=536870911/\2<=uN b/\uN b<=4/\x+1<=uN b/\uN b<=b.length:=by
 have h4:uN b<=4:=by grind[uN]
 have hx:x<=3:=by have :=h.1;omega
 have :=SS b x w!
 have hp:(1:Int)<=64^(4-x):=by
  have :x=0\/x=1\/x=2\/x=3:=by omega
  grind
 have hm:ca b x*1<=ca b x*64^(4-x):=Int.mul_le_mul_of_nonneg_left hp this.1;exact⟨hx,this.1,w!,h.1.1,h4,h.1.2.1,h.1.2.2⟩
theorem VW(h1:1<=x)(h:x<b.length)(m:Nat)(hm:x<=m):b.getD x 0∈(b.drop 1).take m:=by
 have kU:x-1<((b.drop 1).take m).length:=by grind
 have :((b.drop 1).take m)[x-1]=b.getD x 0:=by
  grind
 grind
theorem vT(hn:uN b=n)(h:oB b x)(hx:x+1<n)(hb:¬((b.getD (x+1) 0).toNat:Int)/2^Int.toNat 6=2):aX b=(65533,1):=by
 have fv:=bN h;grind[Qo,vg,List.all_eq_true,VW]
theorem Qp(h:oB b x)(hb:((b.getD (x+1) 0).toNat:Int)/2^Int.toNat 6=2)(hx:x+1<uN b):oB b (x+1):=by
 refine⟨by have :=h.1;omega,fun y hy=> ?_⟩;have fv:=bN h;have hl:x<(b.drop 1).length:=by grind
 rw [ar _ x 0 hl] at hy;rcases F!.1 hy with hy|hy
 . exact h.2 y hy
 grind
theorem VX(h:oB b x)(hx:x+1<uN b):Vg.cu (ca b x*2^Int.toNat 6) (Vg.aP ((b.getD (x+1) 0).toNat:Int) 63)=ca b (x+1):=by
 have :=bN h;rw [KG _ w!,show Int.toNat 6=6 by rfl,gB _ _ 6 this.2.1 w! w!];rfl
theorem SU(h:oB b x)(hx:x+1=uN b):vg b (uN b)=true :=by
 simp only [vg,W!,<-hx,Nat.add_sub_cancel];intro y hy;simpa using h.2 y hy
theorem aqo {c:Bool}(hn:uN b=n)(h:oB b x)(hx:x+1=n)(hc:(bif !bR (ca b x) then true else !decide (en (ca b x)=(n:Int)))=c):aX b=if c=true then(65533,1) else(ca b x,(n:Int)):=by
 have hb:=bN h;grind[SU,aX,Nat.add_sub_cancel]
end
theorem aqp(c:Int):Vg.cu (c%64) 128=((more c).toNat:Int):=by
 grind[KH,more,u8,UInt8.toNat_ofNat']
theorem fB {c:Int}(h:bR c=true):0<=c/\c<=1114111:=by
 simp_all[bR,B!,H!]
theorem VY(x:UInt8):UInt8.ofNat (Int.toNat (x.toNat:Int))=x:=by simp
theorem Z6(c:Int)(h0:0<=c)(h:c<128): [UInt8.ofNat (Int.toNat (c%256))]=enc c:=by
 simp [enc,R! h,u8,show c%256=c by omega]
theorem aqq(d:Int)(h0:0<=d)(h:d<32):Vg.cu 192 d=192+d:=by
 rw [show(192:Int)=6*2^5 by rfl,gB 6 d 5 w! h0 h]
theorem aqr(d:Int)(h0:0<=d)(h:d<16):Vg.cu 224 d=224+d:=by
 rw [show(224:Int)=14*2^4 by rfl,gB 14 d 4 w! h0 h]
theorem aqs(d:Int)(h0:0<=d)(h:d<8):Vg.cu 240 d=240+d:=by
 rw [show(240:Int)=30*2^3 by rfl,gB 30 d 3 w! h0 h]
theorem aqt(c:Int)(h0:0<=c)(h:128<=c/\c<2048): [UInt8.ofNat (Int.toNat (Vg.cu 192 (c/2^Int.toNat 6%256))),UInt8.ofNat (Int.toNat ((more c).toNat:Int))]=enc c:=by
 simp [enc,if_neg (by omega :¬c<128),if_pos h.2,VY,u8,show Int.toNat 6=6 by rfl];grind[aqq]
theorem aqu(c:Int)(h0:0<=c)(h:2048<=c/\c<65536): [UInt8.ofNat (Int.toNat (Vg.cu 224 (c/2^Int.toNat 12%256))),UInt8.ofNat (Int.toNat ((more (c/2^Int.toNat 6)).toNat:Int)),UInt8.ofNat (Int.toNat ((more c).toNat:Int))]=enc c:=by
 simp [enc,if_neg (by omega :¬c<128),if_neg (by omega :¬c<2048),if_pos h.2,VY,u8,show Int.toNat 6=6 by rfl,show Int.toNat 12=12 by rfl];grind[aqr]
theorem aqv(c:Int)(h0:0<=c)(h1:c<=1114111)(h:65536<=c): [UInt8.ofNat (Int.toNat (Vg.cu 240 (c/2^Int.toNat 18%256))),UInt8.ofNat (Int.toNat ((more (c/2^Int.toNat 12)).toNat:Int)),UInt8.ofNat (Int.toNat ((more (c/2^Int.toNat 6)).toNat:Int)),UInt8.ofNat (Int.toNat ((more c).toNat:Int))]=enc c:=by
 simp [enc,if_neg (by omega :¬c<128),if_neg (by omega :¬c<2048),if_neg (by omega :¬c<65536),VY,u8,show Int.toNat 6=6 by rfl,show Int.toNat 12=12 by rfl,show Int.toNat 18=18 by rfl];grind[aqs]
theorem p9(b:B8)(h:0<b.length):1<=(aX b).2/\(aX b).2<=b.length/\0<=(aX b).1/\(aX b).1<=1114111:=by
 unfold aX;split
 . have :=(b.getD 0 0).toNat_lt;grind[dD]
 . split
   . omega
   . rename_i h1 h2;simp at h2;have :=fB h2.2.2.2.1;omega
theorem Et:∀(f g:Nat) (b:B8),b.length<=f->b.length<=g->uh f b=uh g b
 |0,0,b,_,_=>rfl
 |0,g+1,b,h,_=>by
  grind[List.eq_nil_of_length_eq_zero,uh]
 |f+1,0,b,_,h=>by
  grind[List.eq_nil_of_length_eq_zero,uh]
 |f+1,g+1,b,h1,h2=>by
  simp only [uh];cases hb:b.isEmpty with
  |true=>rfl
  |false=>
   have hl:0<b.length:=by
    grind
   have :=p9 b hl;rw [Et f g _ (by rw [B?];omega) (by rw [B?];omega)]
theorem SV:decode []= []:=rfl
theorem xm(b:B8)(h:0<b.length):decode b=(aX b).1::decode (b.drop (aX b).2.toNat):=by
 have hb:=p9 b h;unfold decode;obtain⟨n,hn⟩:∃n,b.length=n+1:=⟨b.length-1,w!⟩;rw [hn];simp only [uh];have :b.isEmpty=false :=by grind
 rw [this];simp only [Bool.false_eq_true,if_false];rw [Et n _ _ x! (Nat.le_refl _)]
theorem aBx(b:B8):jW b b []:=⟨rfl,z!⟩
theorem Qq {b r:B8} {l:List Int}(h:jW b r l)(hr:0<(r.length:Int)):1<=(aX r).2/\(aX r).2<=r.length/\r.length+l.length<=b.length:=by
 have :=p9 r w!;exact⟨this.1,this.2.1,h.2⟩
theorem Oi {b r:B8} {l:List Int}(h:jW b r l)(hr:0<(r.length:Int)):jW b (r.drop (aX r).2.toNat) (l++ [(aX r).1]):=by
 have hb:=p9 r w!;refine⟨?_,?_⟩
 . rw [U!,List.singleton_append,<-xm r w!];exact h.1
 . have :=h.2;grind
theorem SX {b r:B8} {l:List Int}(h:jW b r l)(hr:¬0<(r.length:Int)):l=decode b:=by
 have :r= []:=List.eq_nil_of_length_eq_zero w!;have :=h.1;grind[SV]
theorem oC(b:B8):(decode b).length<=b.length:=by
 have :∀f (c:B8),(uh f c).length<=f:=by
  intro f;induction f with
  |zero=>grind[uh]
  |succ f ih=>grind[uh,aX]
 exact this _ _
theorem tc(a b:Bool):(bif a then b else false)=(a&&b):=by grind
theorem nine {x:Nat}(h:(x:Int)<9):x=0\/x=1\/x=2\/x=3\/x=4\/x=5\/x=6\/x=7\/x=8:=by omega
theorem KU {c:Int} {x:Nat}(h:(x:Int)<9):(bif decide (List.getD [65,97,192,216,248,913,931,945,1024] (Int.toNat (x:Int)) 0<=c) then decide (c<=List.getD [90,122,214,246,255,929,937,969,1119] (Int.toNat (x:Int)) 0) else false)=mS c (o8.getD x (0,0)):=by
 rcases nine h with rfl|rfl|rfl|rfl|rfl|rfl|rfl|rfl|rfl<;>simp [mS,o8,V!,List.getD_cons_zero,List.getD_cons_succ,tc]
theorem VZ {c:Int} {x:Nat}(h:(x:Int)<9)(hc:(bif decide (List.getD [65,97,192,216,248,913,931,945,1024] (Int.toNat (x:Int)) 0<=c) then decide (c<=List.getD [90,122,214,246,255,929,937,969,1119] (Int.toNat (x:Int)) 0) else false)=true):true=letter c:=by
 grind[KU,letter,List.any_eq_true,bq,o8,List.length_cons,List.length_nil]
theorem V0 {c:Int} {x:Nat}(hi:oA c x)(h:(x:Int)<9)(hc:(bif decide (List.getD [65,97,192,216,248,913,931,945,1024] (Int.toNat (x:Int)) 0<=c) then decide (c<=List.getD [90,122,214,246,255,929,937,969,1119] (Int.toNat (x:Int)) 0) else false)=false):oA c (x+1):=by
 rw [KU h] at hc;refine⟨w!,fun s hs=> ?_⟩;rw [ar o8 x (0,0) (by grind[o8,List.length_cons,List.length_nil])] at hs;rcases List.mem_append.1 hs with hs|hs
 . exact hi.2 s hs
 grind
theorem V1 {c:Int} {x:Nat}(hi:oA c x)(h:¬(x:Int)<9):false=letter c:=by
 symm
 have hx:x=9:=by have :=hi.1;omega
 simp only [letter,List.any_eq_false];intro s hs;have :=hi.2 s (by simp_all[o8]);grind
theorem seven {x:Nat}(h:(x:Int)<7):x=0\/x=1\/x=2\/x=3\/x=4\/x=5\/x=6:=by omega
theorem Oj {c:Int} {x:Nat}(h:(x:Int)<7):(bif decide (List.getD [65,192,216,913,931,1024,1040] (Int.toNat (x:Int)) 0<=c) then decide (c<=List.getD [90,214,222,929,937,1039,1071] (Int.toNat (x:Int)) 0) else false)=mS c ((mR.getD x (0,0,0)).1,(mR.getD x (0,0,0)).2.1)/\
  List.getD ([32,32,32,32,32,80,32]:List Int) (Int.toNat (x:Int)) 0=(mR.getD x (0,0,0)).2.2:=by
 rcases seven h with rfl|rfl|rfl|rfl|rfl|rfl|rfl<;>simp [mS,mR,V!,List.getD_cons_zero,List.getD_cons_succ,tc,and_self]
theorem HD {α:Type}(p:α->Bool)(d:α):∀(l:List α) (x:Nat),x<l.length->(∀s∈l.take x,p s=false)->p (l.getD x d)=true->l.find? p=some (l.getD x d)
 | [],x,h,_,_=>by grind
 |a::l,0,_,_,h=>by grind
 |a::l,x+1,hx,h1,h=>by
  have ha:=h1 a z!;rw [List.find?_cons,ha];exact HD p d l x (by simpa using hx) (fun s hs=>h1 s (by simp [hs])) h
theorem Ol {c:Int} {x:Nat}(hi:o9 c x)(h:(x:Int)<7)(hc:(bif decide (List.getD [65,192,216,913,931,1024,1040] (Int.toNat (x:Int)) 0<=c) then decide (c<=List.getD [90,214,222,929,937,1039,1071] (Int.toNat (x:Int)) 0) else false)=true):
  c+List.getD ([32,32,32,32,32,80,32]:List Int) (Int.toNat (x:Int)) 0=bc c/\(c<=1071/\65<=c/\List.getD ([32,32,32,32,32,80,32]:List Int) (Int.toNat (x:Int)) 0<=80/\0<=List.getD ([32,32,32,32,32,80,32]:List Int) (Int.toNat (x:Int)) 0):=by
 have hat:=Oj (c:=c) h;refine⟨?_,?_⟩
 . rw [hat.1] at hc;rw [hat.2];simp only [bc];rw [HD (fun s=>mS c (s.1,s.2.1)) (0,0,0) mR x x! hi.2 hc]
 . rcases seven h with rfl|rfl|rfl|rfl|rfl|rfl|rfl<;>simp [List.getD] at hc |- <;>omega
theorem aeE {c:Int} {x:Nat}(hi:o9 c x)(h:(x:Int)<7)(hc:(bif decide (List.getD [65,192,216,913,931,1024,1040] (Int.toNat (x:Int)) 0<=c) then decide (c<=List.getD [90,214,222,929,937,1039,1071] (Int.toNat (x:Int)) 0) else false)=false):o9 c (x+1):=by
 rw [(Oj h).1] at hc;refine⟨w!,fun s hs=> ?_⟩;rw [ar mR x (0,0,0) (by grind[mR,List.length_cons,List.length_nil])] at hs;rcases List.mem_append.1 hs with hs|hs
 . exact hi.2 s hs
 grind
theorem aeF {c:Int} {x:Nat}(hi:o9 c x)(h:¬(x:Int)<7):c=bc c:=by
 have hx:x=7:=by have :=hi.1;omega
 simp [bc];rw [List.find?_eq_none.2 (fun s hs=>by rw [hi.2 s (by simp_all[mR])];simp)]
theorem vU {b:B8} {n x:Nat} {m:Int}(hn:uN b=n)(h:oB b x)(hx:x+1=n)(hc:bR (ca b x)=false\/¬en (ca b x)=m)(hm:(n:Int)=m):aX b=(65533,1):=by
 have hb:=bN h;grind[Qo]
theorem vV {b:B8} {n x:Nat} {m:Int}(hn:uN b=n)(h:oB b x)(hx:x+1=n)(hc:bR (ca b x)=true/\en (ca b x)=m)(hm:(n:Int)=m):aX b=(ca b x,m):=by
 have :=aqo (c:=false) hn h hx x!;grind
theorem V2 {A B:Prop} [Decidable A] [Decidable B](h:A/\B):(bif decide A then decide B else false)=true :=by grind
theorem aiw {A B:Prop} [Decidable A] [Decidable B](h:¬A\/¬B):(bif decide A then decide B else false)=false :=by
 grind
end Go.S
namespace Go.S
def lO(c:Int):Bool:=(decide (0<=c)&&decide (c<55296)) || (decide (57343<c)&&decide (c<1114112))
def cA(c a b:Int):Bool:=decide (a<=c)&&decide (c<=b)
def mU(a b:Int):Int:=if a<b then a else b
def Z7(n:Int):Int:= [0,0,192,224,240].getD n.toNat 0
def oD(b:B8)(n:Int):Nat->Int
 |0=>dD b-Z7 n
 |k+1=>oD b n k*64+((b.getD (k+1) 0).toNat:Int)-128
def bX(b:B8)(n:Int):Int:=if(b.length:Int)<n then -1 else oD b n (n.toNat-1)
def AR(b:B8)(n:Int):Prop :=0<b.length/\1<=n/\n<=4
def qx(b:B8)(n:Int)(k:Nat):Prop :=(n<=b.length)/\1<=k/\k<=n
def qR(b:B8)(k:Nat):Bool:=lO (bX b k)&&decide (enc (bX b k)=b.take k)
def gQ(b:B8):Nat->Int×Int
 |0=>(65533,1)
 |k+1=>if qR b (k+1) then(bX b (k+1:Nat),((k+1:Nat):Int)) else gQ b k
theorem KV(c:Int):lO c=bR c:=by
 grind[lO,bR]
theorem Gg {c:Int} {y:UInt8}(h0:0<=c)(h1:c<256):u8 c=y↔c=(y.toNat:Int):=by
 constructor
 . grind[u8,UInt8.toNat_ofNat']
 simp_all[u8]
theorem KW {c:Int} {y:UInt8}:more c=y↔128+c%64=(y.toNat:Int):=Gg w! w!
theorem aBy {c:Int} {y0:UInt8}(h0:0<=c)(h1:c<=1114111):enc c= [y0]↔c<128/\c=(y0.toNat:Int):=by
 unfold enc;split
 . simp [List.cons.injEq,and_true,Gg h0 w!, *,true_and]
 grind
theorem aBz {c:Int} {y0 y1:UInt8}(h0:0<=c)(h1:c<=1114111):enc c= [y0,y1]↔128<=c/\c<2048/\192+c/64=(y0.toNat:Int)/\128+c%64=(y1.toNat:Int):=by
 unfold enc;split
 . grind
 . split
   . simp [List.cons.injEq,and_true,Gg (c:=192+c/64) w! w!,KW];omega
   grind
theorem aBA {c:Int} {y0 y1 y2:UInt8}(h0:0<=c)(h1:c<=1114111):enc c= [y0,y1,y2]↔2048<=c/\c<65536/\224+c/4096=(y0.toNat:Int)/\128+c/64%64=(y1.toNat:Int)/\128+c%64=(y2.toNat:Int):=by
 unfold enc;split
 . grind
 . split
   . grind
   . split
     . simp [List.cons.injEq,and_true,Gg (c:=224+c/4096) w! w!,KW];omega
     grind
theorem aBB {c:Int} {y0 y1 y2 y3:UInt8}(h0:0<=c)(h1:c<=1114111):enc c= [y0,y1,y2,y3]↔65536<=c/\240+c/262144=(y0.toNat:Int)/\128+c/4096%64=(y1.toNat:Int)/\128+c/64%64=(y2.toNat:Int)/\128+c%64=(y3.toNat:Int):=by
 unfold enc;split
 . grind
 . split
   . grind
   . split
     . grind
     . simp [List.cons.injEq,and_true,Gg (c:=240+c/262144) w! w!,KW];omega
def kl(b:B8)(k:Nat):Prop :=uN b=k/\k<=b.length/\(k=1\/(vg b k=true/\bR (ca b (k-1))=true/\en (ca b (k-1))=(k:Int)))
theorem vW(b:B8)(k:Nat):qR b k=true↔bR (bX b k)=true/\enc (bX b k)=b.take k:=by
 simp_all[qR,KV,B!,H!]
theorem V3 {b:B8} {k:Nat}(h:b.length<k):qR b k=false :=by
 simp_all[bX,R!,qR,lO]
theorem KX(b:B8):0<=dD b/\dD b<256:=by have :=(b.getD 0 0).toNat_lt;grind[dD]
theorem aix(x0:UInt8)(l:B8):(qR (x0::l) 1=true↔kl (x0::l) 1)/\bX (x0::l) 1=dD (x0::l):=by
 have hb:bX (x0::l) 1=dD (x0::l):=by
  rfl
 refine⟨?_,hb⟩;have hl:=KX (x0::l);rw [vW];show bR (bX (x0::l) 1)=true/\enc (bX (x0::l) 1)= [x0]↔_;rw [hb];have hr:bR (dD (x0::l))=true :=by grind[bR]
 rw [aBy hl.1 w!,hr];simp [kl,uN,true_or,and_true,List.length_cons,true_and];have :dD (x0::l)=(x0.toNat:Int):=rfl;grind
theorem aeG(b:B8):uN b=2↔dD b/32=6:=by grind[uN]
theorem aeH(b:B8):uN b=3↔dD b/16=14:=by grind[uN]
theorem aeI(b:B8):uN b=4↔dD b/8=30:=by grind[uN]
theorem aiy(c:Int):en c=2↔128<=c/\c<2048:=by grind[en]
theorem aiz(c:Int):en c=3↔2048<=c/\c<65536:=by grind[en]
theorem aiA(c:Int):en c=4↔65536<=c:=by grind[en]
theorem oE(c:Int):bR c=true↔0<=c/\c<=1114111/\(c<55296\/57343<c):=by simp [bR]
theorem aBC(x0 x1:UInt8)(l:B8):(qR (x0::x1::l) 2=true↔kl (x0::x1::l) 2)/\(kl (x0::x1::l) 2->bX (x0::x1::l) 2=ca (x0::x1::l) 1):=by
 have hb:bX (x0::x1::l) 2=((x0.toNat:Int)-192)*64+x1.toNat-128:=by
  rfl
 have hl:dD (x0::x1::l)=(x0.toNat:Int):=rfl
 have ha:dD (x0::x1::l)/32=6->ca (x0::x1::l) 1=(x0.toNat:Int)%32*64+(x1.toNat:Int)%64:=by
  simp_all[ca,uC,R!]
 have hg:kl (x0::x1::l) 2↔(dD (x0::x1::l)/32=6/\(x1.toNat/64=2/\bR (ca (x0::x1::l) 1)=true/\en (ca (x0::x1::l) 1)=2)):=by
  grind[kl,aeG,vg]
 grind[vW,oE,aBz,aiy]
theorem aBD(x0 x1 x2:UInt8)(l:B8):(qR (x0::x1::x2::l) 3=true↔kl (x0::x1::x2::l) 3)/\(kl (x0::x1::x2::l) 3->bX (x0::x1::x2::l) 3=ca (x0::x1::x2::l) 2):=by
 have hb:bX (x0::x1::x2::l) 3=(((x0.toNat:Int)-224)*64+x1.toNat-128)*64+x2.toNat-128:=by
  rfl
 have hl:dD (x0::x1::x2::l)=(x0.toNat:Int):=rfl
 have ha:dD (x0::x1::x2::l)/16=14->ca (x0::x1::x2::l) 2=((x0.toNat:Int)%16*64+(x1.toNat:Int)%64)*64+(x2.toNat:Int)%64:=by
  grind[ca,uC]
 have hg:kl (x0::x1::x2::l) 3↔(dD (x0::x1::x2::l)/16=14/\((x1.toNat/64=2/\x2.toNat/64=2)/\bR (ca (x0::x1::x2::l) 2)=true/\en (ca (x0::x1::x2::l) 2)=3)):=by
  grind[kl,aeH,vg]
 grind[vW,oE,aBA,aiz]
theorem aBE(x0 x1 x2 x3:UInt8)(l:B8):(qR (x0::x1::x2::x3::l) 4=true↔kl (x0::x1::x2::x3::l) 4)/\(kl (x0::x1::x2::x3::l) 4->bX (x0::x1::x2::x3::l) 4=ca (x0::x1::x2::x3::l) 3):=by
 have hb:bX (x0::x1::x2::x3::l) 4=((((x0.toNat:Int)-240)*64+x1.toNat-128)*64+x2.toNat-128)*64+x3.toNat-128:=by
  rfl
 have hl:dD (x0::x1::x2::x3::l)=(x0.toNat:Int):=rfl
 have ha:dD (x0::x1::x2::x3::l)/8=30->ca (x0::x1::x2::x3::l) 3=(((x0.toNat:Int)%8*64+(x1.toNat:Int)%64)*64+(x2.toNat:Int)%64)*64+(x3.toNat:Int)%64:=by
  grind[ca,uC]
 have hg:kl (x0::x1::x2::x3::l) 4↔(dD (x0::x1::x2::x3::l)/8=30/\((x1.toNat/64=2/\x2.toNat/64=2/\x3.toNat/64=2)/\bR (ca (x0::x1::x2::x3::l) 3)=true/\en (ca (x0::x1::x2::x3::l) 3)=4)):=by
  grind[kl,aeI,vg]
 rw [hg,vW];grind[oE,aBB,aiA]
theorem tf(b:B8)(k:Nat)(hb:0<b.length)(h1:1<=k)(h4:k<=4):(qR b k=true↔kl b k)/\(kl b k->bX b k=ca b (k-1)\/(k=1/\bX b k=dD b)):=by
 by_cases hs:b.length<k
 . rw [V3 hs];exact⟨⟨fun h=>absurd h (by decide),fun h=>absurd h.2.1 w!⟩,fun h=>absurd h.2.1 w!⟩
 . have :k=1\/k=2\/k=3\/k=4:=by omega
   match b,this with
   | [],_=>grind
   |x0::l, .inl h=>grind[aix]
   |x0::x1::l, .inr (.inl h)=>grind[aBC]
   |x0::x1::x2::l, .inr (.inr (.inl h))=>grind[aBD]
   |x0::x1::x2::x3::l, .inr (.inr (.inr h))=>grind[aBE]
   | [_], .inr (.inl h)=>grind
   | [_], .inr (.inr (.inl h))=>grind
   | [_,_], .inr (.inr (.inl h))=>grind
   | [_], .inr (.inr (.inr h))=>grind
   | [_,_], .inr (.inr (.inr h))=>grind
   | [_,_,_], .inr (.inr (.inr h))=>grind
theorem SY {b:B8} {k:Nat}(h:kl b k)(h1:1<=k)(h4:k<=4)(hb:0<b.length):aX b=(bX b k,(k:Int)):=by
 have ht:=(tf b k hb h1 h4).2 h;obtain⟨hn,hl,hr⟩:=h;simp [aX,hn];by_cases hk:k=1
 . subst hk;rcases ht with ht|ht
   . obtain⟨x0,l,rfl⟩:∃x0 l,b=x0::l:=by cases b with
      |nil=>grind
      |cons x l=>grind
     rfl
   grind
 grind
theorem Om {b:B8}(hb:0<b.length)(n:Nat):∀k,k<=4->(∀j,j<=k->1<=j->¬kl b j)->gQ b k=(65533,1)
 |0,_,_=>rfl
 |k+1,h4,h=>by
  simp [gQ]
  have :qR b (k+1)=false :=by
   cases ht:qR b (k+1) with
   |false=>rfl
   |true=>simp_all[absurd,tf,O!]
  rw [this];exact Om hb n k w! (fun j hj=>h j w!)
theorem CX {b:B8}(hb:0<b.length) {n:Nat}(hg:kl b n)(h1:1<=n):∀k,k<=4->n<=k->gQ b k=(bX b n,(n:Int))
 |0,_,h=>by omega
 |k+1,h4,h=>by
  simp only [gQ];by_cases hk:n=k+1
  . subst hk;rw [(tf b (k+1) hb w! h4).1.2 hg,R! rfl]
  . have :qR b (k+1)=false :=by
     cases ht:qR b (k+1) with
     |false=>rfl
     |true=>
      have :=(tf b (k+1) hb w! h4).1.1 ht;have h2:=this.1;have h3:=hg.1;omega
    rw [this];exact CX hb hg h1 k w! w!
theorem aiB(b:B8):uN b<=4:=by grind[uN]
theorem zg(b:B8)(hb:0<b.length):gQ b 4=aX b:=by
 by_cases hg:kl b (uN b)/\1<=uN b
 . rw [CX hb hg.1 hg.2 4 (O! _) (aiB b),SY hg.1 hg.2 (aiB b) hb]
 . rw [Om hb 0 4 (Nat.le_refl _) (fun j hj h1 h=>hg (by have :=h.1;grind))];simp [aX];by_cases h1:uN b=1
   . exfalso;apply hg
     exact⟨⟨rfl,w!, .inl h1⟩,w!⟩
   . rw [N! h1];rw [R!];by_cases h0:uN b=0
     . omega
     . refine .inr ?_;by_cases hl:b.length<uN b
       . omega
       . refine .inr ?_;cases hc:vg b (uN b) with
         |false=>grind
         |true=>
          cases hr:bR (ca b (uN b-1)) with
          |false=>grind
          |true=>
           refine .inr (.inr fun hs=>hg ⟨⟨rfl,w!, .inr ⟨hc,hr,hs⟩⟩,w!⟩)
theorem aqw(c:Int)(h0:0<=c)(h:c<128): [UInt8.ofNat (Int.toNat (c%256))]=enc c:=Z6 c h0 h
theorem aqx(c:Int)(h0:0<=c)(h:128<=c/\c<2048): [UInt8.ofNat (Int.toNat ((192+c/64)%256)),UInt8.ofNat (Int.toNat ((128+c%64)%256))]=enc c:=by
 simp [enc,if_neg (by omega :¬c<128),if_pos h.2,more,u8];grind
theorem aqy(c:Int)(h0:0<=c)(h:2048<=c/\c<65536): [UInt8.ofNat (Int.toNat ((224+c/4096)%256)),UInt8.ofNat (Int.toNat ((128+c/64%64)%256)),UInt8.ofNat (Int.toNat ((128+c%64)%256))]=enc c:=by
 simp [enc,if_neg (by omega :¬c<128),if_neg (by omega :¬c<2048),if_pos h.2,more,u8];grind
theorem aqz(c:Int)(h0:0<=c)(h1:c<=1114111)(h:65536<=c): [UInt8.ofNat (Int.toNat ((240+c/262144)%256)),UInt8.ofNat (Int.toNat ((128+c/4096%64)%256)),UInt8.ofNat (Int.toNat ((128+c/64%64)%256)),UInt8.ofNat (Int.toNat ((128+c%64)%256))]=enc c:=by
 simp only [enc,if_neg (by omega :¬c<128),if_neg (by omega :¬c<2048),if_neg (by omega :¬c<65536),more,u8];grind
theorem KY(c:Int):letter c=(cA c 65 90 || (cA c 97 122 || (cA c 192 214 || (cA c 216 246 || (cA c 248 255 || (cA c 913 929 || (cA c 931 937 || (cA c 945 969 || cA c 1024 1119)))))))):=by
 simp_all[letter,o8,mS,cA,List.any_cons,List.any_nil,Bool.or_false]
theorem AS {c:Int}(h:cA c 1024 1039=true):c+80=bc c/\c<=1039/\1024<=c:=by
 simp [cA,Bool.and_eq_true,decide_eq_true_eq] at h;simp [bc,mR,mS,List.find?_cons];grind
theorem AT {c:Int}(h:cA c 1024 1039=false)(hc:cA c 65 90=true\/cA c 192 214=true\/cA c 216 222=true\/cA c 913 929=true\/cA c 931 937=true\/cA c 1040 1071=true):c+32=bc c/\c<=1071/\65<=c:=by
 have e:∀a b:Int,mS c (a,b)=cA c a b:=fun _ _=>rfl;simp [bc,mR,List.find?_cons,e,h];grind[cA]
theorem zh {c:Int}(h:cA c 1024 1039=false)(hc:cA c 65 90=false/\cA c 192 214=false/\cA c 216 222=false/\cA c 913 929=false/\cA c 931 937=false/\cA c 1040 1071=false):c=bc c:=by
 have e:∀a b:Int,mS c (a,b)=cA c a b:=fun _ _=>rfl;simp_all[bc,mR,List.find?_cons,List.find?_nil]
theorem KZ(b:B8)(n:Int):∀k,k<=4-> -(1000*128^k)<=oD b n k/\oD b n k<=1000*128^k
 |0,_=>by
  have :=KX b;grind[Z7,oD]
 |k+1,h=>by
  have ih:=KZ b n k w!;simp [oD];have hx:=(b.getD (k+1) 0).toNat_lt;have :k=0\/k=1\/k=2\/k=3:=by omega
  grind
theorem Z8 {b:B8} {n:Int} {k:Nat}(h:qx b n k)(hp:AR b n): -268435456000<=oD b n (k-1)/\oD b n (k-1)<=268435456000:=by
 obtain⟨h1,h2,h3⟩:=h;obtain⟨_,_,hp⟩:=hp;have :=KZ b n (k-1) w!;have hk:k-1=0\/k-1=1\/k-1=2\/k-1=3:=by omega
 grind
theorem aeJ {b:B8} {n:Int} {k:Nat}(h:qx b n k):oD b n (k-1)*64+((b.getD (Int.toNat (k:Int)) 0).toNat:Int)-128=oD b n (k+1-1):=by
 obtain⟨j,rfl⟩:∃j,k=j+1:=⟨k-1,by have :=h.2.1;omega⟩;rfl
theorem On {b:B8} {n:Int}:((b.getD (Int.toNat 0) 0).toNat:Int)- [0,0,192,224,240].getD n.toNat 0=oD b n 0:=rfl
theorem aiC {b:B8} {n:Int} {k:Nat}(h:qx b n k)(hk:¬(k:Int)<n):oD b n (k-1)=bX b n:=by
 have h1:=h.1;have h2:=h.2
 have :k=n.toNat:=by omega
 simp_all[bX,N!]
theorem SZ {b:B8} {n:Int}(h:(b.length:Int)<n): -1=bX b n:=by simp_all[bX,R!]
theorem aeK {b:B8} {i j:Nat}(hi:i<b.length):List.drop (Int.toNat (i:Int)) (List.take (Int.toNat (mU ((i:Int)+(j:Int)) (b.length:Int))) b)=(b.drop i).take j:=by
 simp [mU];split
 . grind[Int.toNat_natCast,List.drop_take,Nat.add_sub_cancel_left]
 grind[Int.toNat_natCast,List.take_length,List.take_of_length_le,List.length_drop]
theorem V4(b:B8)(k:Nat):gQ b (k+1)=if lO (bX b ((k+1:Nat):Int))=true/\enc (bX b ((k+1:Nat):Int))=b.take (k+1) then(bX b ((k+1:Nat):Int),((k+1:Nat):Int)) else gQ b k:=by
 simp_all[gQ,qR,B!,H!]
theorem V5 {c:Int}(h:lO c=true):0<=c/\c<=1114111:=by simp_all[KV,fB]
theorem aqA(b:B8):jW b (b.drop 0) []:=⟨rfl,z!⟩
theorem qa {b:B8} {x1:Nat×List Int} {x4:Nat×Nat}(h2:jW b (b.drop x1.1) x1.2/\x1.1<=b.length)(h3:(x1.1:Int)<b.length)(h5:x4.1<=4/\(x1.1:Int)=x4.2)(h9:¬((x4.1+1:Nat):Int)<=4):
  1<=(gQ (b.drop x4.2) x4.1).2/\(x1.1:Int)+(gQ (b.drop x4.2) x4.1).2<=b.length/\
  jW b (b.drop (Int.toNat ((x1.1:Int)+(gQ (b.drop x4.2) x4.1).2))) (x1.2++ [(gQ (b.drop x4.2) x4.1).1])/\x1.2.length+1<=b.length:=by
 have e1:x4.1=4:=by omega
 have e2:x4.2=x1.1:=by omega
 have hl:0<(b.drop x1.1).length:=by grind
 rw [e1,e2,zg _ hl];have hb:=p9 _ hl;have hs:=Oi h2.1 w!;rw [List.drop_drop] at hs;have h6:=h2.1.2;grind
theorem Oo {b:B8} {x1:Nat×List Int} {x4:Nat×Nat}(h3:(x1.1:Int)<b.length)(h5:x4.1<=4/\(x1.1:Int)=x4.2):
  gQ (b.drop x1.1) (x4.1+1)=bif (bif lO (bX (b.drop (Int.toNat (x1.1:Int))) ((x4.1+1:Nat):Int)) then decide (enc (bX (b.drop (Int.toNat (x1.1:Int))) ((x4.1+1:Nat):Int))=List.drop (Int.toNat (x1.1:Int)) (List.take (Int.toNat (mU ((x1.1:Int)+((x4.1+1:Nat):Int)) (b.length:Int))) b)) else false)
   then(bX (b.drop (Int.toNat (x1.1:Int))) ((x4.1+1:Nat):Int),((x4.1+1:Nat):Int)) else gQ (b.drop x4.2) x4.1:=by
 rw [aeK w!,V4,show x4.2=x1.1 by omega,Int.toNat_natCast];grind
theorem aeL {α β:Type}(c:Bool)(p q:α×β):(bif c then p else q).1=(bif c then p.1 else q.1):=by grind
theorem aeM {α β:Type}(c:Bool)(p q:α×β):(bif c then p else q).2=(bif c then p.2 else q.2):=by grind
end Go.S

end
section
namespace Go.S
def e7(c:Int):Bool:=letter c || digit c
def k9(t:B8):List Int->B8
 | []=>t
 |c::w=>if 64<t.length+(fV (bc c)).length then t else k9 (t++fV (bc c)) w
def eU(w:List Int):B8:=k9 [] w
def NC(w:List Int):Prop :=w.length<=1099511627776/\∀c∈w,bR c=true
def kn(w:List Int)(k:Nat)(t:B8):Prop :=k9 t (w.drop k)=eU w/\k<=w.length/\t.length<=64
def lV(acc:List Int):List Int->List (List Int)
 | []=>if acc.isEmpty then [] else [acc]
 |c::l=>if e7 c then lV (acc++ [c]) l else if acc.isEmpty then lV [] l else acc::lV [] l
def aY(b:B8):List B8:=(lV [] (decode b)).map eU
def jX(d:List Int)(k:Nat)(T:List B8)(W:List Int):Prop :=
 T++(lV W (d.drop k)).map eU=(lV [] d).map eU/\k<=d.length/\T.length<=k/\W.length<=k/\(∀c∈W,c∈d)
def mj(d:List Int)(k:Nat)(T:List B8):Prop :=
 T++(lV [] (d.drop k)).map eU=(lV [] d).map eU/\k<=d.length+1/\T.length<=k
def rV(d:List Int)(i k:Nat):Prop :=i<=k/\k<=d.length/\∀c∈(d.drop i).take (k-i),e7 c=true
def isTerm(s:B8):Bool:=decide (aY s= [s])
def dG(l:List B8):Nat->Nat
 |0=>0
 |k+1=>if Op.bytesLess (l.getD k []) (l.getD (dG l k) []) then k else dG l k
def dH(l:List B8):Nat:=dG l l.length
def si(l:List B8)(k:Nat):Prop :=1<=k/\(k<=l.length\/k=1)
theorem Qr(c:Int):bc c=c\/(65<=c/\c<=1071/\(bc c=c+32\/bc c=c+80)):=by
 cases h:cA c 1024 1039 with
 |true=>grind[AS]
 |false=>
  by_cases h2:cA c 65 90=true\/cA c 192 214=true\/cA c 216 222=true\/cA c 913 929=true\/cA c 931 937=true\/cA c 1040 1071=true
  . grind[AT]
  . grind[zh]
theorem xn {c:Int}(h:bR c=true):bR (bc c)=true :=by
 grind[Qr,oE]
theorem ND(b:B8):bR (aX b).1=true :=by
 grind[aX,KX,oE]
theorem nH(b:B8):∀c∈decode b,bR c=true :=by
 have :∀f (x:B8),∀c∈uh f x,bR c=true :=by
  intro f;induction f with
  |zero=>grind[uh]
  |succ f ih=>
   grind[uh,ND]
 exact this _ b
theorem od {α:Type}(l:List α)(k:Nat)(d:α)(h:k<l.length):l.drop k=l.getD k d::l.drop (k+1):=by
 simp_all
theorem Z9(w:List Int):kn w 0 []:=⟨rfl,K! _,z!⟩
theorem K1 {w:List Int} {k:Nat} {t:B8}(h:kn w k t)(hk:(k:Int)<w.length)(hs:¬(64:Int)<(t.length:Int)+((fV (bc (w.getD (Int.toNat (k:Int)) 0))).length:Int)):kn w (k+1) (t++fV (bc (w.getD (Int.toNat (k:Int)) 0))):=by
 obtain⟨h1,h2,h3⟩:=h;rw [Int.toNat_natCast] at *;rw [od w k 0 w!] at h1;simp only [k9] at h1;rw [if_neg w!] at h1;exact⟨h1,w!,x!⟩
theorem K2 {w:List Int} {k:Nat} {t:B8}(h:kn w k t)(hk:(k:Int)<w.length)(hs:(64:Int)<(t.length:Int)+((fV (bc (w.getD (Int.toNat (k:Int)) 0))).length:Int)):t=eU w:=by
 obtain⟨h1,h2,h3⟩:=h;grind[Int.toNat_natCast,od,k9]
theorem Oq {w:List Int} {k:Nat} {t:B8}(h:kn w k t)(hk:¬(k:Int)<w.length):t=eU w:=by
 obtain⟨h1,h2,h3⟩:=h;rw [N? w!] at h1;exact h1
theorem K3(c:Int):(enc c).length<=4:=by grind[enc]
theorem Ot(c:Int):(fV c).length<=4:=by grind[fV,K3]
theorem tg {w:List Int} {k:Nat}(h:NC w)(hk:(k:Int)<w.length):fV (bc (w.getD (Int.toNat (k:Int)) 0))=enc (bc (w.getD (Int.toNat (k:Int)) 0))/\0<=bc (w.getD (Int.toNat (k:Int)) 0)/\bc (w.getD (Int.toNat (k:Int)) 0)<=1114111:=by
 have :=xn (h.2 _ (bq w k 0 w!));simp_all[fV,K?,oE]
theorem aBF(d:List Int):jX d 0 [] []:=⟨rfl,K! _,z!,z!,z!⟩
theorem aeN {d:List Int} {k:Nat} {T:List B8} {W:List Int}(h:jX d k T W)(hk:(k:Int)<d.length)(hw:e7 (d.getD (Int.toNat (k:Int)) 0)=true):jX d (k+1) T (W++ [d.getD (Int.toNat (k:Int)) 0]):=by
 obtain⟨h1,h2,h3,h4,h5⟩:=h;rw [Int.toNat_natCast] at *;rw [od d k 0 w!] at h1;simp only [lV] at h1;rw [if_pos hw] at h1;refine⟨h1,w!,w!,x!,fun c hc=> ?_⟩;grind
theorem aiD {d:List Int} {k:Nat} {T:List B8} {W:List Int}(h:jX d k T W)(hk:(k:Int)<d.length)(hw:e7 (d.getD (Int.toNat (k:Int)) 0)=false)(hW:(0:Int)<W.length):jX d (k+1) (T++ [eU W]) []:=by
 obtain⟨h1,h2,h3,h4,h5⟩:=h;rw [od d k 0 w!] at h1;simp [lV] at h1;refine⟨?_,w!,x!,z!,z!⟩;grind
theorem aeO {d:List Int} {k:Nat} {T:List B8} {W:List Int}(h:jX d k T W)(hk:(k:Int)<d.length)(hw:e7 (d.getD (Int.toNat (k:Int)) 0)=false)(hW:¬(0:Int)<W.length):jX d (k+1) T W:=by
 obtain⟨h1,h2,h3,h4,h5⟩:=h;have :W= []:=List.eq_nil_of_length_eq_zero w!;subst this;rw [od d k 0 w!] at h1;simp only [lV] at h1;rw [if_neg x!,if_pos z!] at h1;exact⟨h1,w!,w!,z!,z!⟩
theorem aeP {b:B8} {k:Nat} {T:List B8} {W:List Int}(h:jX (decode b) k T W)(hk:¬(k:Int)<(decode b).length)(hW:(0:Int)<W.length):T++ [eU W]=aY b:=by
 obtain⟨h1,h2,h3,h4,h5⟩:=h;rw [List.drop_eq_nil_of_le w!] at h1;simp [lV] at h1;rw [if_neg x!] at h1;exact h1
theorem aeQ {b:B8} {k:Nat} {T:List B8} {W:List Int}(h:jX (decode b) k T W)(hk:¬(k:Int)<(decode b).length)(hW:¬(0:Int)<W.length):T=aY b:=by
 obtain⟨h1,h2,h3,h4,h5⟩:=h;have :W= []:=C? w!;subst this;rw [N? w!] at h1;simp [lV,List.isEmpty_nil,K?,List.map_nil,A?] at h1;exact h1
theorem pa {b:B8} {k:Nat} {T:List B8} {W:List Int}(h:jX (decode b) k T W)(hb:b.length<=1099511627776):NC W/\T.length<=1099511627776/\W.length<=1099511627776/\k<=1099511627776:=by
 obtain⟨h1,h2,h3,h4,h5⟩:=h;have :=oC b;exact⟨⟨w!,fun c hc=>nH b c (h5 c hc)⟩,w!,w!,w!⟩
theorem aqB(d:List Int):mj d 0 []:=⟨rfl,K! _,z!⟩
theorem aBG {d:List Int} {k:Nat}(h:(k:Int)<d.length):rV d k k:=⟨O! _,w!,z!⟩
theorem aeR {d:List Int} {i k:Nat}(h:rV d i k)(hk:(k:Int)<d.length)(hw:e7 (d.getD (Int.toNat (k:Int)) 0)=true):rV d i (k+1):=by
 obtain⟨h1,h2,h3⟩:=h;refine⟨w!,w!,fun c hc=> ?_⟩;rw [show k+1-i=(k-i)+1 by omega,ar _ _ 0 x!] at hc;grind
theorem K4:∀(u acc rest:List Int),(∀c∈u,e7 c=true)->lV acc (u++rest)=lV (acc++u) rest
 | [],acc,rest,_=>by simp
 |c::u,acc,rest,h=>by
  simp_all[g?,lV,R!,K4,U!]
theorem aeS {d:List Int} {i k:Nat} {T:List B8}(h:mj d i T)(hr:rV d i k)(hs:¬(k:Int)<d.length\/e7 (d.getD (Int.toNat (k:Int)) 0)=false)(hik:(i:Int)<k):
  mj d (k+1) (T++ [eU (List.take (Int.toNat (k:Int)-Int.toNat (i:Int)) (List.drop (Int.toNat (i:Int)) d))]):=by
 obtain⟨h1,h2,h3⟩:=h;obtain⟨r1,r2,r3⟩:=hr;refine⟨?_,w!,x!⟩;rw [<-List.take_append_drop (k-i) (d.drop i),K4 _ _ _ r3,List.nil_append,List.drop_drop,show i+(k-i)=k by omega] at h1
 have gI:(List.take (k-i) (List.drop i d)).isEmpty=false :=by
  rw [List.isEmpty_eq_false_iff];intro h0;have :=congrArg List.length h0;grind
 by_cases hk:k<d.length
 . rw [od d k 0 hk] at h1;simp_all[lV,N!,U!]
 . rw [N? (show d.length<=k by omega)] at h1;rw [N? (show d.length<=k+1 by omega)];simp_all[lV,N!,List.isEmpty_nil,K?,List.map_nil,A?,V?]
theorem V6 {d:List Int} {i k:Nat} {T:List B8}(h:mj d i T)(hi:(i:Int)<d.length)(hr:rV d i k)(hs:¬(k:Int)<d.length\/e7 (d.getD (Int.toNat (k:Int)) 0)=false)(hik:¬(i:Int)<k):mj d (k+1) T:=by
 obtain⟨h1,h2,h3⟩:=h;have :i=k:=by have :=hr.1;omega
 subst this;rw [od d i 0 w!] at h1;simp only [lV] at h1;rw [if_neg x!,if_pos z!] at h1;exact⟨h1,w!,w!⟩
theorem aeT {b:B8} {i:Nat} {T:List B8}(h:mj (decode b) i T)(hi:¬(i:Int)<(decode b).length):T=aY b:=by
 obtain⟨h1,h2,h3⟩:=h;rw [N? w!] at h1;simp [lV,List.isEmpty_nil,K?,List.map_nil,A?] at h1;exact h1
theorem aqC {b:B8} {i k:Nat}(hb:b.length<=1099511627776):NC (List.take (Int.toNat (k:Int)-Int.toNat (i:Int)) (List.drop (Int.toNat (i:Int)) (decode b))):=by
 have :=oC b;refine⟨x!,fun c hc=>nH b c (List.mem_of_mem_drop (List.mem_of_mem_take hc))⟩
theorem aeU(s:B8):(bif decide (((aY s).length:Int)=1) then decide (List.getD (aY s) (Int.toNat 0) []=s) else false)=isTerm s:=by
 unfold isTerm;match h:aY s with
 | []=>simp
 | [x]=>grind
 |x::y::l=>grind
theorem zi {l:List B8}:∀k,0<l.length->k<=l.length->dG l k<l.length
 |0,h,_=>h
 |k+1,h,hk=>by
  simp [dG];split
  . omega
  . exact zi k h w!
theorem S0(l:List B8):dG l 1=0:=by
 have :∀b:Bool,(if b=true then 0 else 0)=(0:Nat):=by grind
 exact this _
theorem V7 {l:List B8} {k:Nat}(h:si l k)(hk:¬(k:Int)<l.length):dG l k=dH l:=by
 obtain⟨h1,h2⟩:=h;rcases h2 with h2|h2
 . rw [show k=l.length by omega];rfl
 . subst h2;by_cases h0:l.length=0
   . unfold dH;rw [h0,S0];rfl
   . rw [show 1=l.length by omega];rfl
theorem aiE {c:Int}(h:letter c=true\/digit c=true):e7 c=true :=by grind[e7]
theorem S1 {c:Int}(h:letter c=false/\digit c=false):e7 c=false :=by grind[e7]
theorem aeV(c:Int):(bif letter c then true else bif decide (48<=c) then decide (c<=57) else false)=e7 c:=by
 grind[e7,digit,letter]
theorem S2(l:List B8)(x:Nat):(bif Op.bytesLess (List.getD l (Int.toNat (x:Int)) []) (List.getD l (Int.toNat ((dG l x:Nat):Int)) []) then(x:Int) else((dG l x:Nat):Int))=((dG l (x+1):Nat):Int):=by
 rw [show dG l (x+1)=if Op.bytesLess (l.getD x []) (l.getD (dG l x) [])=true then x else dG l x from rfl];grind
def vj:Nat->List B8->List B8
 |0,_=> []
 |f+1,l=>if l.isEmpty then [] else l.getD (dH l) []::vj f (l.filter (fun x=> !decide (x=l.getD (dH l) [])))
def sorted(l:List B8):List B8:=vj l.length l
def qS(l0 l out:List B8):Prop :=out++sorted l=sorted l0/\out.length+l.length<=l0.length
def jy(l:List B8)(s:B8)(k:Nat)(r:List B8):Prop :=r=(l.take k).filter (fun x=> !decide (x=s))/\k<=l.length
def vX(l:List B8)(t:B8)(k:Nat):List Int:=((List.range k).filter (fun i=>decide (l.getD i []=t))).map (fun(i:Nat)=>(i:Int))
def places(b t:B8):List Int:=vX (aY b) t (aY b).length
def ko(l:List B8)(t:B8)(k:Nat)(r:List Int):Prop :=r=vX l t k/\k<=l.length/\r.length<=k
def zj(c:Int):Bool:=e7 c&&decide (bc c=c)
def oe(s:B8):Bool:=(decode s).all zj&&(decide (0<((decode s).length:Int))&&decide ((s.length:Int)<=64))
def qT(d:List Int)(k:Nat):Prop :=(∀c∈d.take k,zj c=true)/\k<=d.length
theorem zk {l:List B8}(h:0<l.length):dH l<l.length:=zi _ h (O! _)
theorem th {l:List B8}(h:0<l.length):(l.filter (fun x=> !decide (x=l.getD (dH l) []))).length<l.length:=by
 have hm:=bq l (dH l) [] (zk h);simp_all
theorem BZ:∀(f g:Nat) (l:List B8),l.length<=f->l.length<=g->vj f l=vj g l
 |0,0,_,_,_=>rfl
 |0,g+1,l,h,_=>by
  have :l= []:=C? w!;subst this;rfl
 |f+1,0,l,_,h=>by
  have :l= []:=C? w!;subst this;rfl
 |f+1,g+1,l,h1,h2=>by
  simp only [vj];cases hl:l.isEmpty with
  |true=>rfl
  |false=>
   have hp:0<l.length:=by grind
   have :=th hp;rw [N! z!,N! z!,BZ f g _ w! w!]
theorem Eu {l:List B8}(h:0<l.length):sorted l=l.getD (dH l) []::sorted (l.filter (fun x=> !decide (x=l.getD (dH l) []))):=by
 have hr:=th h;unfold sorted;obtain⟨n,hn⟩:∃n,l.length=n+1:=⟨l.length-1,w!⟩;rw [hn];simp only [vj];have :l.isEmpty=false :=by grind
 rw [this,N! z!,BZ n _ _ w! (O! _)]
theorem aqD(l:List B8):qS l l []:=⟨rfl,z!⟩
theorem aeW {l m out:List B8}(h:qS l m out)(hm:¬(0:Int)<m.length):out=sorted l:=by
 have :m= []:=List.eq_nil_of_length_eq_zero w!;have h1:=h.1;grind[sorted,vj]
theorem aqE(l:List B8)(s:B8):jy l s 0 []:=⟨z!,K! _⟩
theorem V8 {l:List B8} {s:B8} {k:Nat} {r:List B8}(h:jy l s k r)(hk:(k:Int)<l.length)(hs:(!decide (l.getD (Int.toNat (k:Int)) []=s))=true):jy l s (k+1) (r++ [l.getD (Int.toNat (k:Int)) []]):=by
 rw [V!] at *;refine⟨?_,w!⟩;rw [ar l k [] w!,List.filter_append,<-h.1,List.filter_cons,hs];simp
theorem V9 {l:List B8} {s:B8} {k:Nat} {r:List B8}(h:jy l s k r)(hk:(k:Int)<l.length)(hs:(!decide (l.getD (Int.toNat (k:Int)) []=s))=false):jy l s (k+1) r:=by
 rw [V!] at *;refine⟨?_,w!⟩;rw [ar l k [] w!,List.filter_append,<-h.1,List.filter_cons,hs];simp
theorem aeX {l:List B8} {s:B8} {k:Nat} {r:List B8}(h:jy l s k r):r.length<=k:=by
 rw [h.1];grind
theorem K5 {l m out r:List B8} {k:Nat}(h:qS l m out)(hm:(0:Int)<m.length)(hr:jy m (m.getD (Int.toNat ((dH m:Nat):Int)) []) k r)(hk:¬(k:Int)<m.length):qS l r (out++ [m.getD (Int.toNat ((dH m:Nat):Int)) []])/\r.length<m.length:=by
 rw [V!] at *;obtain⟨h1,h2⟩:=h;have :k=m.length:=by have :=hr.2;omega
 have e:r=m.filter (fun x=> !decide (x=m.getD (dH m) [])):=by rw [hr.1,this,List.take_length]
 have hl:=th (l:=m) w!;rw [Eu w!] at h1;rw [e];refine⟨⟨?_,?_⟩,hl⟩
 . rw [U!];exact h1
 . rw [C!];simp only [F?,List.length_nil];omega
theorem Qs {l:List B8} {t:B8} {k:Nat} {r:List Int}(h:ko l t k r)(hk:(k:Int)<l.length)(hs:l.getD (Int.toNat (k:Int)) []=t):ko l t (k+1) (r++ [(k:Int)]):=by
 rw [Int.toNat_natCast] at *;refine⟨?_,w!,by have :=h.2.2;grind⟩;rw [h.1];simp only [vX,List.range_succ,List.filter_append,List.map_append,List.filter_cons,hs,decide_true,if_true,List.filter_nil,List.map_cons,List.map_nil]
theorem Qt {l:List B8} {t:B8} {k:Nat} {r:List Int}(h:ko l t k r)(hk:(k:Int)<l.length)(hs:¬l.getD (Int.toNat (k:Int)) []=t):ko l t (k+1) r:=by
 refine⟨?_,w!,by have :=h.2.2;omega⟩;rw [h.1];grind[vX,List.range_succ,decide_eq_false]
theorem aeY(l:List B8)(t:B8):ko l t 0 []:=⟨rfl,K! _,O! _⟩
theorem S3 {b t:B8} {k:Nat} {r:List Int}(h:ko (aY b) t k r)(hk:¬(k:Int)<(aY b).length):r=places b t:=by
 rw [h.1,show k=(aY b).length by have :=h.2.1;omega];rfl
theorem aqF(d:List Int):qT d 0:=⟨z!,K! _⟩
theorem Wa {d:List Int} {k:Nat}(h:qT d k)(hk:(k:Int)<d.length)(hw:e7 (d.getD (Int.toNat (k:Int)) 0)=true)(hs:bc (d.getD (Int.toNat (k:Int)) 0)=d.getD (Int.toNat (k:Int)) 0):qT d (k+1):=by
 refine⟨fun c hc=> ?_,w!⟩;rw [ar d k 0 w!] at hc;rcases F!.1 hc with hc|hc
 . exact h.1 c hc
 grind[List.mem_singleton,zj,decide_true,Bool.and_self]
theorem aeZ {s:B8} {k:Nat}(hk:(k:Int)<(decode s).length)(hw:e7 ((decode s).getD (Int.toNat (k:Int)) 0)=false\/¬bc ((decode s).getD (Int.toNat (k:Int)) 0)=(decode s).getD (Int.toNat (k:Int)) 0):false=oe s:=by
 have hm:=bq (decode s) k 0 w!
 have :(decode s).all zj=false :=by
  grind[List.all_eq_false,zj]
 simp [oe,this,Bool.false_and]
theorem ae0 {s:B8} {k:Nat}(h:qT (decode s) k)(hk:¬(k:Int)<(decode s).length):(bif decide (0<((decode s).length:Int)) then decide ((s.length:Int)<=64) else false)=oe s:=by
 have :(decode s).all zj=true :=by
  have h1:=h.1;grind[List.take_length]
 simp_all[oe,Bool.true_and,decide,decode]
theorem xo(b:B8):(aY b).length<=b.length:=by
 have h0:∀(l acc:List Int),(lV acc l).length<=l.length+acc.length:=by
  intro l;induction l with
  |nil=>intro acc;simp [lV];cases acc<;>simp
  |cons c l ih=>
   grind[lV]
 grind[decode,oC,aY,List.length_map]
theorem Ew {m l':List B8} {s s':B8} {k:Nat} {r:List B8}(h:jy l' s' k r/\m=l'/\s=s'):jy m s k r:=by grind
end Go.S

end
section
namespace Go.S
theorem Ou(b:B8):∀k,(gQ b k).1≠65533->enc (gQ b k).1=b.take (gQ b k).2.toNat
 |0,h=>absurd rfl h
 |k+1,h=>by
  simp [gQ] at h |-;by_cases ht:qR b (k+1)=true
  . simp_all[R!,vW]
  simp_all[N!,Ou]
theorem S4 {b:B8}(hb:0<b.length)(h:(aX b).1≠65533):enc (aX b).1=b.take (aX b).2.toNat:=by
 rw [<-zg b hb] at h |-;grind[Ou]
theorem Qu:∀(n:Nat) (b:B8),b.length<=n->(∀c∈decode b,c≠65533)->(decode b).flatMap enc=b:=by
 intro n;induction n with
 |zero=>intro b h _;have :b= []:=C? w!
        subst this;rfl
 |succ n ih=>
  intro b h hc;by_cases h0:b.length=0
  . grind
  . have hb:=p9 b w!;rw [xm b w!] at hc |-;rw [List.flatMap_cons,S4 w! (hc _ z!),ih _ x! (fun c h'=>hc c x!)];simp_all
theorem qy {c:Int}(h0:0<=c)(h1:c<256):((u8 c).toNat:Int)=c:=((Gg h0 h1).1 rfl).symm
theorem zl {c:Int}(hr:bR c=true)(r:B8):bX (enc c++r) ((enc c).length:Nat)=c/\1<=(enc c).length/\(enc c).length<=4:=by
 have hb:=fB hr;unfold enc;split
 . grind[aix,u8,dD,qy]
 . split
   . refine⟨?_,z!,z!⟩;show bX (u8 (192+c/64)::more c::r) 2=c;have h1:=qy (c:=192+c/64) w! w!;have h2:((more c).toNat:Int)=128+c%64:=qy (c:=128+c%64) w! w!
     have e:bX (u8 (192+c/64)::more c::r) 2=(((u8 (192+c/64)).toNat:Int)-192)*64+(more c).toNat-128:=by
      rfl
     omega
   . split
     . refine⟨?_,z!,z!⟩;show bX (u8 (224+c/4096)::more (c/64)::more c::r) 3=c;have h1:=qy (c:=224+c/4096) w! w!;have h2:((more (c/64)).toNat:Int)=128+c/64%64:=qy (c:=128+c/64%64) w! w!;have h3:((more c).toNat:Int)=128+c%64:=qy (c:=128+c%64) w! w!
       have e:bX (u8 (224+c/4096)::more (c/64)::more c::r) 3=((((u8 (224+c/4096)).toNat:Int)-224)*64+(more (c/64)).toNat-128)*64+(more c).toNat-128:=by
        rfl
       omega
     . refine⟨?_,z!,z!⟩;show bX (u8 (240+c/262144)::more (c/4096)::more (c/64)::more c::r) 4=c;have h1:=qy (c:=240+c/262144) w! w!;have h2:((more (c/4096)).toNat:Int)=128+c/4096%64:=qy (c:=128+c/4096%64) w! w!;have h3:((more (c/64)).toNat:Int)=128+c/64%64:=qy (c:=128+c/64%64) w! w!;have h4:((more c).toNat:Int)=128+c%64:=qy (c:=128+c%64) w! w!
       have e:bX (u8 (240+c/262144)::more (c/4096)::more (c/64)::more c::r) 4=(((((u8 (240+c/262144)).toNat:Int)-240)*64+(more (c/4096)).toNat-128)*64+(more (c/64)).toNat-128)*64+(more c).toNat-128:=by
        rfl
       omega
theorem Wb {c:Int}(hr:bR c=true)(r:B8):aX (enc c++r)=(c,((enc c).length:Int)):=by
 obtain⟨hb,h1,h4⟩:=zl hr r;have hl:0<(enc c++r).length:=by grind
 have ht:qR (enc c++r) (enc c).length=true :=by
  grind[vW,List.take_left']
 have hg:=(tf _ _ hl h1 h4).1.1 ht;rw [<-zg _ hl,CX hl hg h1 4 (O! _) h4,hb]
theorem zm:∀(P:List Int),(∀c∈P,bR c=true)->decode (P.flatMap enc)=P
 | [],_=>rfl
 |c::P,h=>by
  have hr:=h c z!;have h1:=(zl hr []).2.1;rw [List.flatMap_cons,xm _ x!,Wb hr];rw [Int.toNat_natCast,List.drop_left' rfl,zm P (fun x hx=>h x (by simp [hx]))]
theorem K6:∀(w:List Int) (t:B8),t.length+(w.flatMap fun c=>fV (bc c)).length<=64->k9 t w=t++w.flatMap fun c=>fV (bc c)
 | [],t,_=>by simp [k9]
 |c::w,t,h=>by
  rw [List.flatMap_cons,List.length_append] at h;simp only [k9];rw [if_neg w!,K6 w _ x!,List.flatMap_cons,List.append_assoc]
theorem zn:∀(w:List Int) (t:B8),∃p:List Int,(∀c∈p,c∈w)/\k9 t w=t++p.flatMap fun c=>fV (bc c)
 | [],t=>⟨[],z!,by simp [k9]⟩
 |c::w,t=>by
  simp [k9];split
  . exact⟨[],z!,z!⟩
  . obtain⟨p,h1,h2⟩:=zn w (t++fV (bc c));refine⟨c::p,?_,x!⟩;grind
theorem AU:∀(w:List Int) (t:B8),t.length<=64->(k9 t w).length<=64
 | [],t,h=>h
 |c::w,t,h=>by
  simp [k9];split
  . exact h
  . exact AU w _ (by rw [C!];omega)
theorem Ey:∀(l acc:List Int),(∀c∈acc,e7 c=true)->∀W∈lV acc l,∀c∈W,e7 c=true/\(c∈acc\/c∈l)
 | [],acc,ha,W,hW,c,hc=>by
   grind[lV,List.mem_singleton]
 |x::l,acc,ha,W,hW,c,hc=>by
  simp [lV] at hW;by_cases hx:e7 x=true
  . rw [R! hx] at hW
    have :=Ey l (acc++ [x]) (fun y hy=>by
     grind) W hW c hc
    grind
  . have hn:∀W'∈lV [] l,∀c∈W',e7 c=true/\(c∈acc\/c∈x::l):=fun W' h' y hy=>by
     have :=Ey l [] z! W' h' y hy;grind
    grind
theorem aqG {c a b:Int}(h:c<a\/b<c):cA c a b=false :=by
 grind[cA,Bool.and_eq_false_iff,decide_eq_false_iff_not]
theorem K7 {c a b:Int}:cA c a b=true↔a<=c/\c<=b:=by simp [cA]
theorem Ez(c:Int):bc (bc c)=bc c:=by
 have stay:∀x:Int,(97<=x/\x<192)\/(223<=x/\x<913)\/(938<=x/\x<1024)\/1072<=x->bc x=x:=fun x h=>by
  grind[zh,aqG]
 cases h:cA c 1024 1039 with
 |true=>grind[AS]
 |false=>
  by_cases h2:cA c 65 90=true\/cA c 192 214=true\/cA c 216 222=true\/cA c 913 929=true\/cA c 931 937=true\/cA c 1040 1071=true
  . grind[AT,K7]
  . grind[zh]
theorem zo(c:Int):letter c=true↔(65<=c/\c<=90)\/(97<=c/\c<=122)\/(192<=c/\c<=214)\/(216<=c/\c<=246)\/(248<=c/\c<=255)\/(913<=c/\c<=929)\/(931<=c/\c<=937)\/(945<=c/\c<=969)\/(1024<=c/\c<=1119):=by
 simp_all[KY,X?,K7]
theorem Gh(c:Int):e7 c=true↔letter c=true\/(48<=c/\c<=57):=by simp [e7,digit]
theorem HE {c:Int}(h:e7 c=true):e7 (bc c)=true :=by
 cases h1:cA c 1024 1039 with
 |true=>grind[AS,Gh,zo]
 |false=>
  by_cases h2:cA c 65 90=true\/cA c 192 214=true\/cA c 216 222=true\/cA c 913 929=true\/cA c 931 937=true\/cA c 1040 1071=true
  . grind[AT,K7,Gh,zo]
  . grind[zh]
theorem ui {α β:Type} {l:List α} {f g:α->List β}(h:∀x∈l,f x=g x):l.flatMap f=l.flatMap g:=by
 induction l with
 |nil=>rfl
 |cons a l ih=>grind
theorem EA {c:Int}(h:bR c=true):fV c=enc c:=by simp_all[fV,K?]
theorem vY(s:B8):oe s=isTerm s:=by
 rw [Bool.eq_iff_iff];simp only [oe,isTerm,B!,H!,W!,zj];constructor
 . rintro⟨hg,h0,hl⟩
   have hf:=Qu s.length s (O! _) (fun c hc e=>by
    grind[Gh,zo])
   have hw:lV [] (decode s)= [decode s]:=by
    have :=K4 (decode s) [] [] (fun c hc=>(hg c hc).1);grind[lV]
   have he:(decode s).flatMap (fun c=>fV (bc c))=s:=by
    grind[ui,EA,nH]
   grind[aY,eU,K6]
 . intro h
   have hlen:s.length<=64:=by
    have hm:s∈aY s:=by grind
    simp only [aY,e?] at hm;obtain⟨w,_,hw⟩:=hm;rw [<-hw];exact AU w [] z!
   have hm:s∈aY s:=by grind
   simp only [aY,e?] at hm;obtain⟨W,hW,hs⟩:=hm;have aM:=Ey (decode s) [] z! W hW;obtain⟨p,hp,hpf⟩:=zn W []
   have hr:∀c∈p,bR (bc c)=true :=fun c hc=>xn (nH s c (by
    grind))
   have U7:s=(p.map bc).flatMap enc:=by
    rw [<-hs];show k9 [] W=_
    grind[List.flatMap_map,ui,EA]
   have hd:decode s=p.map bc:=by
    grind[zm]
   grind[HE,Ez,decode,lV,List.length_pos_iff]
end Go.S

end
section
namespace Go.S
theorem cD:∀a:B8,Op.bytesLess a a=false
 | []=>rfl
 |a::x=>by simp [Op.bytesLess,cD x]
theorem mV:∀a b c:B8,Op.bytesLess a b=true->Op.bytesLess b c=true->Op.bytesLess a c=true
 |_,[],_,h,_=>by grind[Op.bytesLess]
 |_,_::_,[],_,h=>by grind[Op.bytesLess]
 | [],_::_,_::_,_,_=>rfl
 |a::x,b::y,c::z,h1,h2=>by
  simp [Op.bytesLess,X?,H!,B!,beq_iff_eq] at h1 h2 |-;rcases h1 with h1|⟨rfl,h1⟩
  . rcases h2 with h2|⟨rfl,h2⟩
    . rw [UInt8.lt_iff_toNat_lt] at *;omega
    . left;exact h1
  . rcases h2 with h2|⟨rfl,h2⟩
    . left;exact h2
    . right;exact⟨rfl,mV x y z h1 h2⟩
theorem jz:∀a b:B8,Op.bytesLess a b=true\/a=b\/Op.bytesLess b a=true
 | [],[]=> .inr (.inl rfl)
 | [],_::_=> .inl rfl
 |_::_,[]=> .inr (.inr rfl)
 |a::x,b::y=>by
  simp [Op.bytesLess,X?,H!,B!,beq_iff_eq,List.cons.injEq];by_cases h:a=b
  . subst h;rcases jz x y with h|h|h
    . exact .inl (.inr ⟨rfl,h⟩)
    . exact .inr (.inl ⟨rfl,h⟩)
    . exact .inr (.inr (.inr ⟨rfl,h⟩))
  . have :a.toNat≠b.toNat:=fun e=>h (UInt8.toNat_inj.1 e);by_cases h2:a.toNat<b.toNat
    . exact .inl (.inl (UInt8.lt_iff_toNat_lt.2 h2))
    . exact .inr (.inr (.inl (UInt8.lt_iff_toNat_lt.2 w!)))
theorem mW {a b:B8}(h:Op.bytesLess a b=true):Op.bytesLess b a=false :=by
 grind[mV,cD]
def pC(l:List B8):Prop :=l.Pairwise fun a b=>Op.bytesLess a b=true
theorem xp:∀(l m:List B8),pC l->pC m->(∀x,x∈l↔x∈m)->l=m
 | [],[],_,_,_=>rfl
 | [],b::m,_,_,h=>by have :=(h b).2 z!;grind
 |a::l,[],_,_,h=>by have :=(h a).1 z!;grind
 |a::l,b::m,hl,hm,h=>by
  obtain⟨hl1,hl2⟩:=W?.1 hl;obtain⟨hm1,hm2⟩:=W?.1 hm
  have mE:a=b:=by
   rcases P!.1 ((h a).1 z!) with e|e
   . exact e
   . rcases P!.1 ((h b).2 z!) with e2|e2
     . exact e2.symm
     . have q1:=hm1 a e;have q2:=mW (hl1 b e2);rw [q1] at q2;cases q2
  subst mE
  have :=xp l m hl2 hm2 (fun x=>by
   constructor
   . intro hx;rcases P!.1 ((h x).1 (by simp [hx])) with e|e
     . have :=hl1 x hx;rw [e,cD] at this;cases this
     . exact e
   . intro hx;rcases P!.1 ((h x).2 (by simp [hx])) with e|e
     . have :=hm1 x hx;rw [e,cD] at this;cases this
     . exact e)
  rw [this]
theorem K8(l:List B8):∀k,k<=l.length->∀i,i<k->Op.bytesLess (l.getD i []) (l.getD (dG l k) [])=false
 |0,_,i,hi=>by omega
 |k+1,hk,i,hi=>by
  have ih:=K8 l k w!;rw [show dG l (k+1)=if Op.bytesLess (l.getD k []) (l.getD (dG l k) [])=true then k else dG l k from rfl];by_cases h:Op.bytesLess (l.getD k []) (l.getD (dG l k) [])=true
  . grind[cD,mV]
  grind
theorem K9:∀(n:Nat) (l:List B8),l.length<=n->pC (sorted l)/\∀x,x∈sorted l↔x∈l:=by
 intro n;induction n with
 |zero=>
  intro l h;have :l= []:=C? w!;subst this;exact⟨List.Pairwise.nil,fun x=>Iff.rfl⟩
 |succ n ih=>
  intro l h;by_cases h0:l.length=0
  . grind
  . have hp:0<l.length:=by omega
    have hr:=th hp;obtain⟨i1,i2⟩:=ih (l.filter (fun x=> !decide (x=l.getD (dH l) []))) w!;have hm:l.getD (dH l) []∈l:=bq l _ [] (zk hp);rw [Eu hp];refine⟨W?.2 ⟨fun x hx=> ?_,i1⟩,fun x=> ?_⟩
    . have Iv:=(i2 x).1 hx;simp at Iv;obtain⟨i,hi,e⟩:=List.mem_iff_getElem.1 Iv.1;have q:=K8 l l.length (Nat.le_refl _) i hi;grind[jz,dH,absurd,Op.bytesLess]
    grind
theorem mX(l:List B8):pC (sorted l):=(K9 _ l (O! _)).1
theorem gR(l:List B8)(x:B8):x∈sorted l↔x∈l:=(K9 _ l (O! _)).2 x
theorem Wc {l m:List B8}(h1:pC m)(h2:∀x,x∈m↔x∈l):m=sorted l:=
 xp _ _ h1 (mX l) (fun x=>(h2 x).trans (gR l x).symm)
def bU:List B8->List B8
 | []=> []
 |a::l=>match bU l with
  | []=> [a]
  |b::r=>if a=b then b::r else a::b::r
theorem rW:∀(l:List B8) (x:B8),x∈bU l↔x∈l
 | [],_=>Iff.rfl
 |a::l,x=>by
  have ih:=rW l x;simp only [bU];split
  . rename_i h;rw [h] at ih;rw [List.mem_singleton,P!];constructor
    . exact .inl
    . rintro(h|h)
      . exact h
      . have :=ih.2 h;cases this
  . rename_i b r h;rw [h] at ih;split
    . rename_i e;subst e;rw [ih,P!];constructor
      . exact .inr
      . rintro(h2|h2)
        . rw [<-ih,h2];simp
        . exact h2
    . rw [P!,ih,P!]
theorem B0:∀(l:List B8),(l.Pairwise fun a b=>Op.bytesLess b a=false)->pC (bU l)
 | [],_=>List.Pairwise.nil
 |a::l,h=>by
  obtain⟨h1,h2⟩:=W?.1 h;have ih:=B0 l h2;simp [bU];split
  . exact List.pairwise_singleton _ _
  . rename_i b r hb;rw [hb] at ih;split
    . omega
    . refine W?.2 ⟨fun x hx=> ?_,ih⟩;have Bq:b∈l:=by rw [<-rW l,hb];simp
      have mE:Op.bytesLess a b=true :=by
       grind[jz]
      rcases P!.1 hx with e|e
      . grind
      . exact mV _ _ _ mE ((W?.1 ih).1 x e)
theorem IG {l m:List B8}(h1:m.Pairwise fun a b=>Op.bytesLess b a=false)(h2:∀x,x∈m↔x∈l):bU m=sorted l:=
 Wc (B0 m h1) (fun x=>(rW m x).trans (h2 x))
end Go.S
namespace Go.S
def iR(a b:B8):Int:=if Op.bytesLess a b then -1 else if Op.bytesLess b a then 1 else 0
theorem aqH(a b:B8):decide (iR a b=0)=decide (a=b):=by
 unfold iR;rcases jz a b with h|h|h
 . grind[cD]
 . grind[cD]
 . grind[cD]
end Go.S
namespace Go.S
def mY(l:List B8)(k:Nat):Prop :=1<=k/\k<=l.length/\∀j,j+1<k->¬l.getD (j+1) []=l.getD j []
def iS(l:List B8)(x i k:Nat)(m:List B8):Prop :=1<=k/\x+k<=l.length/\1<=i/\i+1<=x+k/\m.length=l.length/\m.drop i=l.drop i/\m.take i=bU (l.take (x+k))
theorem S5 {l:List B8}(h:l≠ []):∃b r,bU l=b::r:=by
 cases hc:bU l with
 |nil=>
  cases l with
  |nil=>grind
  |cons a l=>have :=(rW (a::l) a).2 z!;grind
 |cons b r=>grind
theorem B1(a b:B8):∀p:List B8,bU (p++ [a,b])=if a=b then bU (p++ [a]) else bU (p++ [a])++ [b]
 | []=>by
   grind[bU]
 |c::p=>by
  have ih:=B1 a b p;obtain⟨h,r,e⟩:=S5 (l:=p++ [a]) z!;grind[bU]
theorem qz {l:List B8} {n:Nat}(h:n+1<l.length):bU (l.take (n+2))=if l.getD n []=l.getD (n+1) [] then bU (l.take (n+1)) else bU (l.take (n+1))++ [l.getD (n+1) []]:=by
 grind[ar,List.append_assoc,List.singleton_append,B1]
theorem Gi {l:List B8}:∀k,k<=l.length->(∀j,j+1<k->¬l.getD (j+1) []=l.getD j [])->bU (l.take k)=l.take k
 |0,_,_=>by rfl
 |1,h,_=>by
  cases l with
  |nil=>rfl
  |cons a l=>rfl
 |k+2,hk,h=>by
  rw [qz w!,N! (fun e=>h k w! e.symm),Gi (k+1) w! (fun j hj=>h j w!),<-ar l (k+1) [] w!]
theorem La {l:List B8}(h:(l.length:Int)<2):l=bU l:=by
 match l,h with
 | [],_=>rfl
 | [a],_=>rfl
 |a::b::l,h=>grind
theorem aiF {l:List B8}(h:¬(l.length:Int)<2):mY l 1:=⟨O! _,w!,fun j hj=>by omega⟩
theorem Ov {l:List B8} {k:Nat}(h:mY l k)(hk:(k:Int)<l.length)(hn:¬l.getD k []=l.getD (Int.toNat ((k:Int)-1)) []):mY l (k+1):=by
 obtain⟨h1,h2,h3⟩:=h;rw [show Int.toNat ((k:Int)-1)=k-1 by omega] at hn;refine⟨w!,w!,fun j hj=> ?_⟩;grind
theorem S6 {l:List B8} {k:Nat}(h:mY l k)(hk:¬(k:Int)<l.length):l=bU l:=by
 obtain⟨h1,h2,h3⟩:=h;have e:=Gi k h2 h3;grind
theorem À {l:List B8} {x:Nat}(h:mY l x)(hx:(x:Int)<l.length)(he:l.getD x []=l.getD (Int.toNat ((x:Int)-1)) []):iS l x x 1 l:=by
 obtain⟨h1,h2,h3⟩:=h;rw [show Int.toNat ((x:Int)-1)=x-1 by omega] at he;refine⟨O! _,w!,h1,O! _,rfl,rfl,?_⟩;obtain⟨y,rfl⟩:∃y,x=y+1:=⟨x-1,w!⟩;rw [Nat.add_sub_cancel] at he;rw [show y+1+1=y+2 by omega,qz w!,R! he.symm,Gi (y+1) w! h3]
theorem Ow {l m:List B8} {x i k:Nat}(h:iS l x i k m)(hk:x+k<l.length):m.getD (x+k) []=l.getD (x+k) []/\m.getD (x+k-1) []=l.getD (x+k-1) []:=by
 obtain⟨h1,h2,h3,h4,h5,h6,h7⟩:=h
 have key:∀j,i<=j->m.getD j []=l.getD j []:=fun j hj=>by
  have :=congrArg (fun q=>q.getD (j-i) []) h6;grind
 grind
theorem Lb {l m:List B8} {x i k:Nat}(h:iS l x i k m)(hk:x+k<l.length)(he:m.getD (x+k) []=m.getD (x+k-1) []):iS l x i (k+1) m:=by
 have hg:=Ow h hk;obtain⟨h1,h2,h3,h4,h5,h6,h7⟩:=h;refine⟨w!,w!,h3,w!,h5,h6,?_⟩;rw [h7];obtain⟨n,hn⟩:∃n,x+k=n+1:=⟨x+k-1,w!⟩;rw [show x+(k+1)=n+2 by omega,hn,qz w!,if_pos];grind
theorem Ox {l m:List B8} {x i k:Nat}(h:iS l x i k m)(hk:x+k<l.length)(he:¬m.getD (x+k) []=m.getD (x+k-1) []):iS l x (i+1) (k+1) (m.set i (m.getD (x+k) [])):=by
 have hg:=Ow h hk;obtain⟨h1,h2,h3,h4,h5,h6,h7⟩:=h;rw [hg.1];refine⟨w!,w!,w!,w!,x!,?_,?_⟩
 . rw [List.drop_set,if_pos w!];have :=congrArg (List.drop 1) h6;grind[List.drop_drop]
 . have hi:i<(m.set i (l.getD (x+k) [])).length:=by grind
   rw [ar _ _ [] hi,List.take_set,List.set_eq_of_length_le x!,h7];rw [List.getD_eq_getElem?_getD,List.getElem?_set_self w!,Option.getD_some];obtain⟨n,hn⟩:∃n,x+k=n+1:=⟨x+k-1,w!⟩;rw [show x+(k+1)=n+2 by omega,hn,qz w!,if_neg];grind
theorem Oy {l m:List B8} {x i k:Nat}(h:iS l x i k m)(hk:¬x+k<l.length):m.take i=bU l:=by
 obtain⟨h1,h2,h3,h4,h5,h6,h7⟩:=h;grind
end Go.S

end
section
namespace Go.S
def up(l:List B8):Prop :=l.Pairwise fun a b=>Op.bytesLess b a=false
def e8(l:List B8):List B8:=l.mergeSort fun a b=> !Op.bytesLess b a
theorem ae1(l:List B8):up (e8 l):=by
 have :=List.pairwise_mergeSort (le:=fun a b=> !Op.bytesLess b a) (fun a b c h1 h2=>by
  grind[Bool.not_eq_true',jz,mV]) (fun a b=>by
  grind[jz,mW,cD]) l
 exact this.imp (fun h=>by grind)
theorem zp(l:List B8):(e8 l).Perm l:=List.mergeSort_perm l _
theorem Wd(l:List B8):(e8 l).length=l.length:=(zp l).length_eq
theorem Lc(l:List B8):bU (e8 l)=sorted l:=IG (ae1 l) (fun _=>(zp l).mem_iff)
end Go.S

end
section
namespace Go.S
def sp(n:Nat):Nat:=2^Nat.log2 (n-1)
def split(n:Int):Int:=if n<2\/1099511627776<n then 0 else((sp n.toNat:Nat):Int)
def iL(n k:Int)(t:Nat):Prop :=k=((2^t:Nat):Int)/\k<n
def vk:Nat->List B8->B8
 |0,_=>sum []
 |f+1,l=>if l.length=0 then sum [] else if l.length=1 then l.getD 0 [] else eE (vk f (l.take (sp l.length))) (vk f (l.drop (sp l.length)))
def root(l:List B8):B8:=vk l.length l
def cz(l:List B8):Bool:=l.all fun d=>decide ((d.length:Int)=32)
def qU(l:List B8)(k:Nat):Prop :=(∀d∈l.take k,(d.length:Int)=32)/\k<=l.length
def b7(l:List B8):Prop :=cz l=true/\l.length<=1099511627776
def iy(l:List B8):B8:=if cz l then root l else []
def lH(l:List B8):Int:=if cz l then 0 else 1
def leaves(l:List B8):List B8:=l.map leaf
def eV(l:List B8)(k:Nat):List B8:=(l.take k).map leaf
def bJ(l:List B8):Prop :=l.length<=1099511627776/\∀b∈l,b.length<1099511627776
def comb(s:List B8):List B8:=s.take (s.length-2)++ [eE (s.getD (s.length-2) []) (s.getD (s.length-1) [])]
def vZ(s:List B8):Prop :=2<=s.length/\s.length<=1099511627776
def rX(l:List B8)(t a:Nat):B8:=root ((l.drop (2^t*a)).take (2^t))
def rv(l:List B8)(t j:Nat):List B8:=
 if j=0 then [] else if j%2=1 then rv l (t+1) (j/2)++ [rX l t (j-1)] else rv l (t+1) (j/2)
termination_by j
def pb(l:List B8)(i:Nat)(s:List B8):Prop :=s=rv l 0 i/\i<=l.length
def nT(l:List B8)(i t j:Nat)(s:List B8):Prop :=
 s=rv l t j++ [rX l t j]/\rv l 0 (i+1)=rv l t (j+1)/\2^t*(j+1)=i+1/\i<l.length
def pc(l s:List B8):Prop :=∃t j,s=rv l t j++ [root (l.drop (2^t*j))]/\2^t*j<l.length/\l.length-2^t*j<=2^t
theorem aiG {m t:Nat}(h1:2^t<=m)(h2:m<2^(t+1)):Nat.log2 m=t:=by
 grind[Nat.two_pow_pos,Nat.log2_eq_iff]
theorem We {n t:Nat}(h1:2^t<n)(h2:n<=2^(t+1)):sp n=2^t:=by
 grind[sp,aiG]
theorem kp {n:Nat}(h:2<=n):1<=sp n/\sp n<n:=by
 grind[sp,Nat.log2_self_le,Nat.two_pow_pos,Nat.log2]
theorem qA:∀(f g:Nat) (l:List B8),l.length<=f->l.length<=g->vk f l=vk g l
 |0,0,_,_,_=>rfl
 |0,g+1,l,h,_=>by
  simp_all[vk,R!]
 |f+1,0,l,_,h=>by
  simp_all[vk,R!]
 |f+1,g+1,l,h1,h2=>by
  simp only [vk];by_cases h0:l.length=0
  . grind
  . by_cases h3:l.length=1
    . grind
    . have :=kp (n:=l.length) w!;rw [if_neg h0,if_neg h0,if_neg h3,if_neg h3,qA f g _ x! x!,qA f g _ x! x!]
theorem Oz {l:List B8}(h:l.length=0):root l=sum []:=by
 unfold root;rw [h];rfl
theorem Gj {l:List B8}(h:l.length=1):root l=l.getD 0 []:=by
 simp_all[root,vk,N!,R!]
theorem AW {l:List B8} {k:Nat}(h:2<=l.length)(hk:sp l.length=k):root l=eE (root (l.take k)) (root (l.drop k)):=by
 have hb:=kp h;unfold root;obtain⟨n,hn⟩:∃n,l.length=n+1:=⟨l.length-1,w!⟩;have e1:=qA n (l.take (sp l.length)).length (l.take (sp l.length)) x! (Nat.le_refl _);have e2:=qA n (l.drop (sp l.length)).length (l.drop (sp l.length)) x! (Nat.le_refl _);grind[vk]
theorem cL(l:List B8):cz l=true↔∀d∈l,d.length=32:=by
 simp [cz,List.all_eq_true,decide_eq_true_eq];grind
theorem ae2:∀(n:Nat) (l:List B8),l.length<=n->cz l=true->(root l).length=32:=by
 intro n;induction n with
 |zero=>grind[Oz,SO]
 |succ n ih=>
  intro l h hd;by_cases h0:l.length=0
  . grind
  . by_cases h1:l.length=1
    . grind[Gj,cL,bq]
    . have hb:=kp (n:=l.length) w!;rw [AW w! rfl];have e1:=ih (l.take (sp l.length)) x! ((cL _).2 fun d wQ=>(cL l).1 hd d (List.mem_of_mem_take wQ));have e2:=ih (l.drop (sp l.length)) x! ((cL _).2 fun d wQ=>(cL l).1 hd d (List.mem_of_mem_drop wQ));simp [eE,KT,e1,e2,decide_true,Bool.and_self,if_true];rfl
theorem rY {l:List B8}(h:cz l=true):(root l).length=32:=ae2 _ l (O! _) h
theorem aBH {l:List B8} {a:Nat}(h:a<l.length):rX l 0 a=l.getD a []:=by
 grind[rX,Gj]
theorem two_pos(t:Nat):0<2^t:=Nat.two_pow_pos t
theorem ae3 {l:List B8} {t a:Nat}(h:2^(t+1)*(a+1)<=l.length):eE (rX l t (2*a)) (rX l t (2*a+1))=rX l (t+1) a:=by
 have hp:=two_pos t;have e0:2^(t+1)*a=2^t*(2*a):=by rw [v?,Nat.mul_assoc]
 have e1:2^t*(2*a+1)=2^t*(2*a)+2^t:=by rw [Nat.mul_add,Nat.mul_one]
 have e2:2^(t+1)*(a+1)=2^t*(2*a)+(2^t+2^t):=by rw [Nat.mul_add,e0,Nat.mul_one,v?];omega
 have hl:((l.drop (2^(t+1)*a)).take (2^(t+1))).length=2^t+2^t:=by rw [X!,B?];omega
 have CA:sp ((l.drop (2^(t+1)*a)).take (2^(t+1))).length=2^t:=by exact We w! w!
 unfold rX;rw [AW (l:=(l.drop (2^(t+1)*a)).take (2^(t+1))) w! CA];congr 2
 . rw [List.take_take,e0,Nat.min_eq_left w!]
 . rw [b?,O?,e0,e1];congr 1;omega
theorem zq(l:List B8) {t j:Nat}(h:j%2=1):rv l t j=rv l (t+1) (j/2)++ [rX l t (j-1)]:=by
 rw [rv,N! w!,R! h]
theorem v7(l:List B8) {t j:Nat}(h:j%2=0):rv l t j=rv l (t+1) (j/2):=by
 by_cases h0:j=0
 . subst h0;rw [rv,R! rfl,rv,R! rfl]
 . rw [rv,N! h0,N! w!]
theorem Ld(l:List B8)(t:Nat):rv l t 0= []:=by rw [rv,R! rfl]
theorem EB(l:List B8):∀(n t j:Nat),j<=n->(rv l t j).length<=j/\(0<j->0<(rv l t j).length):=by
 intro n;induction n with
 |zero=>grind[Ld]
 |succ n ih=>
  intro t j h;by_cases h0:j=0
  . subst h0;rw [Ld];simp
  . by_cases h1:j%2=1
    . rw [zq l h1,C!];have :=ih (t+1) (j/2) w!;simp;omega
    . rw [v7 l w!];have :=ih (t+1) (j/2) w!;omega
theorem OA(s:List B8)(a b:B8):comb (s++ [a]++ [b])=s++ [eE a b]:=by
 unfold comb;have hl:(s++ [a]++ [b]).length=s.length+2:=by simp
 rw [hl,show s.length+2-2=s.length by omega,show s.length+2-1=s.length+1 by omega,U!,List.take_left']
 . simp [I!]
 . rfl
theorem aqI(l:List B8):pb l 0 []:=⟨(Ld l 0).symm,K! _⟩
theorem aBI {l s:List B8} {i:Nat}(h:pb l i s)(hi:(i:Int)<l.length):nT l i 0 i (s++ [l.getD (Int.toNat (i:Int)) []]):=by
 rw [V!];refine⟨?_,rfl,z!,w!⟩;rw [h.1,aBH w!]
theorem and_1 {j:Nat}:Vg.aP (j:Int) 1=((j%2:Nat):Int):=by
 have :Vg.aP (j:Int) 1=((j&&&1:Nat):Int):=rfl;grind
theorem Gk {l s:List B8} {i t j:Nat}(h:nT l i t j s)(hj:Vg.aP (j:Int) 1=1):nT l i (t+1) (j/2) (comb s)/\j/2<j/\2<=s.length:=by
 rw [and_1] at hj;obtain⟨h1,h2,h3,h4⟩:=h;have hs:s=rv l (t+1) (j/2)++ [rX l t (j-1)]++ [rX l t j]:=by grind[zq]
 have e3:2^(t+1)*(j/2+1)=2^t*(j+1):=by
  grind
 refine⟨⟨?_,?_,w!,h4⟩,w!,x!⟩
 . have e:=ae3 (l:=l) (t:=t) (a:=j/2) w!;grind[OA]
 . rw [h2,v7 l w!,show(j+1)/2=j/2+1 by omega]
theorem aiH {l s:List B8} {i t j:Nat}(h:nT l i t j s)(hj:¬Vg.aP (j:Int) 1=1):pb l (i+1) s:=by
 rw [and_1] at hj;obtain⟨h1,h2,h3,h4⟩:=h;refine⟨?_,w!⟩;rw [h2,zq l w!,show(j+1)/2=j/2 by omega,Nat.add_sub_cancel,<-v7 l w!];omega
theorem aiI {l s:List B8} {i t j:Nat}(h:nT l i t j s):s.length<=l.length:=by
 obtain⟨h1,h2,h3,h4⟩:=h;have :=(EB l j t j (O! _)).1;have hp:=two_pos t;have :j+1<=i+1:=by rw [<-h3];exact Nat.le_mul_of_pos_left _ hp
 grind
theorem aqJ(l:List B8):∀(n t m:Nat),m<=n->0<m->2^t*m=l.length->pc l (rv l t m):=by
 intro n;induction n with
 |zero=>omega
 |succ n ih=>
  intro t m h h0 he;by_cases h1:m%2=1
  . refine⟨t+1,m/2,?_,?_,?_⟩
    . have e:2^(t+1)*(m/2)=2^t*(m-1):=by rw [v?,Nat.mul_assoc];congr 1;omega
      rw [zq l h1,e];unfold rX;rw [List.take_of_length_le];rw [List.length_drop,<-he,Nat.mul_sub,Nat.mul_one];grind
    . have e:2^(t+1)*(m/2)=2^t*(m-1):=by rw [v?,Nat.mul_assoc];congr 1;omega
      rw [e,<-he];exact Nat.mul_lt_mul_of_pos_left w! (two_pos t)
    . have e:2^(t+1)*(m/2)=2^t*(m-1):=by rw [v?,Nat.mul_assoc];congr 1;omega
      rw [e,<-he,Nat.mul_sub,Nat.mul_one,v?];omega
  . rw [v7 l w!];exact ih (t+1) (m/2) w! w! (by rw [<-he,v?,Nat.mul_assoc];congr 1;omega)
theorem aBJ {l s:List B8} {i:Nat}(h:pb l i s)(hi:¬(i:Int)<l.length)(h0:¬(l.length:Int)=0):pc l s:=by
 have :i=l.length:=by have :=h.2;omega
 rw [h.1,this];exact aqJ l l.length 0 l.length (O! _) w! z!
theorem aiJ(l:List B8):∀(n t j:Nat),j<=n->0<j->2^t*j<l.length->l.length-2^t*j<=2^t->pc l (comb (rv l t j++ [root (l.drop (2^t*j))]))/\(comb (rv l t j++ [root (l.drop (2^t*j))])).length<(rv l t j++ [root (l.drop (2^t*j))]).length:=by
 intro n;induction n with
 |zero=>omega
 |succ n ih=>
  intro t j h h0 h1 h2;by_cases ho:j%2=1
  . have e:2^(t+1)*(j/2)=2^t*(j-1):=by rw [v?,Nat.mul_assoc];congr 1;omega
    have em:2^t*j=2^t*(j-1)+2^t:=by
     have :j=(j-1)+1:=by omega
     conv=>lhs;rw [this,Nat.mul_add,Nat.mul_one]
    have hl:(l.drop (2^t*(j-1))).length=2^t+(l.length-2^t*j):=by rw [B?];omega
    have CA:sp (l.drop (2^t*(j-1))).length=2^t:=by exact We w! w!
    have er:eE (rX l t (j-1)) (root (l.drop (2^t*j)))=root (l.drop (2^t*(j-1))):=by
     rw [AW (l:=l.drop (2^t*(j-1))) w! CA,O?,<-em];rfl
    rw [zq l ho,OA,er];refine⟨⟨t+1,j/2,by rw [e],w!,?_⟩,z!⟩;omega
  . have e:2^(t+1)*(j/2)=2^t*j:=by rw [v?,Nat.mul_assoc];congr 1;omega
    have :=ih (t+1) (j/2) w! w! (by rw [e];exact h1) w!;rw [e] at this;rw [v7 l w!];exact this
theorem OB {l s:List B8}(h:pc l s)(hs:(1:Int)<s.length):pc l (comb s)/\(comb s).length<s.length:=by
 obtain⟨t,j,h1,h2,h3⟩:=h
 have hj:0<j:=by
  grind[Ld]
 rw [h1];exact aiJ l j t j (O! _) hj h2 h3
theorem S7 {l s:List B8}(h:pc l s)(hs:¬(1:Int)<s.length):s.getD (Int.toNat 0) []=root l/\s.length=1:=by
 obtain⟨t,j,h1,h2,h3⟩:=h;have hl:s.length=(rv l t j).length+1:=by grind
 have hj:j=0:=by
  have :=(EB l j t j (O! _)).2;omega
 simp_all[Ld]
theorem aiK {l s:List B8}(h:pc l s):s.length<=l.length:=by
 obtain⟨t,j,h1,h2,h3⟩:=h;have :=(EB l j t j (Nat.le_refl _)).1;have hp:=two_pos t;have :=Nat.le_mul_of_pos_left j hp;grind
theorem aqK {s:List B8}(h:vZ s):List.take (Int.toNat ((s.length:Int)-2+1)) (List.set s (Int.toNat ((s.length:Int)-2)) (eE (List.getD s (Int.toNat ((s.length:Int)-2)) []) (List.getD s (Int.toNat ((s.length:Int)-2+1)) [])))=comb s:=by
 have h1:=h.1;rw [show Int.toNat ((s.length:Int)-2+1)=s.length-2+1 by omega,show Int.toNat ((s.length:Int)-2)=s.length-2 by omega,show s.length-2+1=s.length-1 by omega];unfold comb;generalize eE (List.getD s (s.length-2) []) (List.getD s (s.length-1) [])=x;have hl:s.length-2<(s.set (s.length-2) x).length:=by grind
 rw [show s.length-1=s.length-2+1 by omega,ar _ _ [] hl,List.take_set,List.set_eq_of_length_le x!];grind
theorem S8 {n:Int}(h:n<2\/1099511627776<n):0=split n:=by simp_all[split,R!]
theorem HF {n:Int}(h:¬n<2):iL n 1 0:=⟨rfl,w!⟩
theorem zr {n k:Int} {t:Nat}(h:iL n k t)(hk:2*k<n):iL n (2*k) (t+1)/\1<=k:=by
 have hp:=two_pos t;obtain⟨h1,h2⟩:=h;refine⟨⟨?_,hk⟩,w!⟩;omega
theorem CY {n:Int}(h1:2<=n)(h2:n<=1099511627776):split n=((sp n.toNat:Nat):Int):=by simp_all[split,N!]
theorem B2 {n k:Int} {t:Nat}(h:iL n k t)(h1:¬n<2)(h2:¬1099511627776<n)(hk:¬2*k<n):k=split n:=by
 have hp:=two_pos t;obtain⟨e1,e2⟩:=h;grind[CY,We,Nat.pow_succ]
theorem gD {n k:Int} {t:Nat}(h:iL n k t):1<=k/\k<n:=by
 have hp:=two_pos t;obtain⟨e1,e2⟩:=h;omega
theorem oF {l:List B8}(h:b7 l)(h2:2<=l.length):
  (0<=split (l.length:Int)/\split (l.length:Int)<=(l.length:Int))/\(l.take (Int.toNat (split (l.length:Int)))).length<l.length/\b7 (l.take (Int.toNat (split (l.length:Int))))/\
    (l.drop (Int.toNat (split (l.length:Int)))).length<l.length/\b7 (l.drop (Int.toNat (split (l.length:Int))))/\
    bj (root (l.take (Int.toNat (split (l.length:Int))))++root (l.drop (Int.toNat (split (l.length:Int)))))/\
    oc 1 (root (l.take (Int.toNat (split (l.length:Int))))++root (l.drop (Int.toNat (split (l.length:Int)))))=root l:=by
 have hb:=kp h2;have e:split (l.length:Int)=((sp l.length:Nat):Int):=CY w! (by have :=h.2;omega);rw [e,Int.toNat_natCast];have p1:b7 (l.take (sp l.length)):=⟨(cL _).2 fun d hd=>(cL l).1 h.1 d (List.mem_of_mem_take hd),by rw [List.length_take];have :=h.2;omega⟩;have p2:b7 (l.drop (sp l.length)):=⟨(cL _).2 fun d hd=>(cL l).1 h.1 d (List.mem_of_mem_drop hd),by rw [List.length_drop];have :=h.2;omega⟩;have r1:=rY p1.1;have r2:=rY p2.1;refine⟨w!,x!,p1,x!,p2,?_,?_⟩
 . grind[bj,List.length_append]
 . rw [AW h2 rfl];simp [eE,KT,r1,r2,decide_true,Bool.and_self,K?];rfl
theorem aqL(l:List B8):qU l 0:=⟨z!,K! _⟩
theorem Wf {l:List B8} {k:Nat}(h:qU l k)(hk:(k:Int)<l.length)(hd:((l.getD (Int.toNat (k:Int)) []).length:Int)=32):qU l (k+1):=by
 refine⟨fun d wQ=> ?_,w!⟩;rw [ar l k [] w!] at wQ;rcases F!.1 wQ with wQ|wQ
 . exact h.1 d wQ
 grind
theorem ae4 {l:List B8} {k:Nat}(hk:(k:Int)<l.length)(hd:¬((l.getD (Int.toNat (k:Int)) []).length:Int)=32):false=cz l:=by
 grind[Int.toNat_natCast,cz,List.all_eq_false,bq]
theorem ae5 {l:List B8} {k:Nat}(h:qU l k)(hk:¬(k:Int)<l.length):true=cz l:=by
 simp [cz,List.all_eq_true,decide_eq_true_eq];have h1:=h.1;grind[List.take_length]
theorem EC {l:List B8} {k:Nat}(hk:(k:Int)<l.length):eV l k++ [leaf (l.getD (Int.toNat (k:Int)) [])]=eV l (k+1):=by
 grind[Int.toNat_natCast,eV,ar]
theorem HG {l:List B8} {k:Nat}(hk:¬(k:Int)<l.length):eV l k=leaves l:=by
 grind[eV,leaves,List.take_of_length_le]
theorem HH {l:List B8} {k:Nat}(h:bJ l)(hk:(k:Int)<l.length):bj (l.getD (Int.toNat (k:Int)) []):=by
 exact h.2 _ (bq l k [] w!)
theorem B3(l:List B8)(k:Nat):(eV l k).length<=l.length:=by grind[eV,List.length_map,List.length_take]
theorem I6 {l s:List B8} {i i' t j:Nat}(h:nT l i' t j s/\(i:Int)=(i':Int)):nT l i t j s:=by
 grind
theorem aiL {l s:List B8} {i t j:Nat}(h:nT l i t j s)(hj:Vg.aP (j:Int) 1=1)(hp:b7 l):vZ s:=by
 have :=aiI h;exact⟨(Gk h hj).2.2,by have :=hp.2;omega⟩
theorem S9 {l s:List B8} {i:Nat}(h:pb l i s):s.length<=l.length:=by
 rw [h.1];have :=(EB l i 0 i (O! _)).1;have :=h.2;omega
theorem OC {l:List B8}(h:(l.length:Int)=0):sum (Vg.dw UInt8)=root l:=(Oz w!).symm
end Go.S

end
section
namespace Go.S
def fW(l:List Int)(i:Nat):Int:=if i=0 then -1 else l.getD (i-1) 0
def Le(l:List Int)(i:Nat):Bool:=decide (fW l i<l.getD i 0)&&decide (l.getD i 0<1000)
def bK(l:List Int):Bool:=(List.range l.length).all (Le l)
def fX(l:List Int)(k:Nat):Prop :=(∀i,i<k->Le l i=true)/\k<=l.length
def dA(l:List Int)(k:Nat):B8:=num l.length++(List.range k).flatMap (fun i=>num (l.getD i 0-fW l i-1))
def ml(l:List Int):B8:=dA l l.length
def nk(l:List Int):B8:=if bK l then ml l else []
def og(l:List Int):Int:=if bK l then 0 else 1
def vn(l:List Int):B8:=if bK l then mi 2 (ml l) else []
def gE(l:List Int):B8:=mi 2 (ml l)
def ti(n a b:Int):Bool:=decide (a<=n)&&decide (n<b)
def iz:List Int:= []
def okL(l:List Int):List Int:=if bK l then l else []
def Lf(l:List Int)(a b:Int):List Int:=(okL l).filter (fun n=>ti n a b)
def mn(l:List Int)(a b:Int)(r out:List Int):Prop :=out++r.filter (fun n=>ti n a b)=Lf l a b/\out.length+r.length<=1000
def uj(a b:List Int)(k:Nat):Prop :=a.length=b.length/\a.take k=b.take k/\k<=a.length
def qb(a b:List Int):Bool:=decide (a=b)
theorem mo(l:List Int):bK l=true↔∀i,i<l.length->Le l i=true :=by
 grind[bK,List.all_eq_true]
theorem mq(l:List Int)(i:Nat):Le l i=true↔fW l i<l.getD i 0/\l.getD i 0<1000:=by
 simp_all[Le,B!,H!]
theorem oG(l:List Int)(k:Nat):fW l (k+1)=l.getD k 0:=by
 rfl
theorem v8(l:List Int):fW l 0= -1:=rfl
theorem Qv {l:List Int} {k:Nat}(h:fX l k):∀i,i<k->(i:Int)<=l.getD i 0/\l.getD i 0<1000
 |0,hi=>by have :=(mq l 0).1 (h.1 0 hi);grind[v8]
 |i+1,hi=>by
  have :=(mq l (i+1)).1 (h.1 (i+1) hi);rw [oG] at this;have :=Qv h i w!;omega
theorem AX {l:List Int} {k:Nat}(h:fX l k): -1<=fW l k/\fW l k<1000:=by
 cases k with
 |zero=>grind[v8]
 |succ k=>rw [oG];have :=Qv h k w!;omega
theorem aiM {l:List Int}(h:bK l=true):fX l l.length:=⟨(mo l).1 h,O! _⟩
theorem Qw {l:List Int} {k:Nat}(h:bK l=true)(hk:k<=l.length):fX l k:=⟨fun i hi=>(mo l).1 h i w!,hk⟩
theorem oH {l:List Int}(h:bK l=true):l.length<=1000:=by
 by_cases h0:l.length=0
 . omega
 . have :=Qv (aiM h) (l.length-1) w!;omega
theorem Á(l:List Int):fX l 0:=⟨fun i hi=>by omega,K! _⟩
theorem Lg {l:List Int} {k:Nat}(h:fX l k)(hk:(k:Int)<l.length)(hg:¬l.getD (Int.toNat (k:Int)) 0<=fW l k/\¬1000<=l.getD (Int.toNat (k:Int)) 0):fX l (k+1):=by
 refine⟨fun i hi=> ?_,w!⟩;by_cases he:i=k
 . grind[mq]
 . exact h.1 i w!
theorem OD {l:List Int} {k:Nat}(hk:(k:Int)<l.length)(hg:l.getD (Int.toNat (k:Int)) 0<=fW l k\/1000<=l.getD (Int.toNat (k:Int)) 0):false=bK l:=by
 grind[Int.toNat_natCast,mq,mo]
theorem OE {l:List Int} {k:Nat}(h:fX l k)(hk:¬(k:Int)<l.length):true=bK l:=by
 symm
 exact(mo l).2 fun i hi=>h.1 i w!
theorem xq {l:List Int} {k:Nat}(hk:0<(k:Int)):l.getD (Int.toNat ((k:Int)-1)) 0=fW l k:=by
 simp only [fW];rw [N! w!,show Int.toNat ((k:Int)-1)=k-1 by omega]
theorem Wg {l:List Int} {k:Nat}(h:fX l k)(hk:(k:Int)<l.length)(hg:l.getD (Int.toNat (k:Int)) 0<0\/999<l.getD (Int.toNat (k:Int)) 0\/(0<(k:Int)/\l.getD (Int.toNat (k:Int)) 0<=l.getD (Int.toNat ((k:Int)-1)) 0)):false=bK l:=by
 refine OD hk ?_;have :=AX h;grind[xq]
theorem Ta {l:List Int} {k:Nat}(h:fX l k)(hk:(k:Int)<l.length)(hg:¬l.getD (Int.toNat (k:Int)) 0<0/\¬999<l.getD (Int.toNat (k:Int)) 0/\(¬0<(k:Int)\/¬l.getD (Int.toNat (k:Int)) 0<=l.getD (Int.toNat ((k:Int)-1)) 0)):fX l (k+1):=by
 refine Lg h hk ?_;by_cases h0:0<(k:Int)
 . grind[xq]
 . have :k=0:=by omega
   grind[v8]
theorem Gl(l:List Int):dA l 0=num l.length:=by simp [dA]
theorem rZ(l:List Int)(k:Nat):dA l k++num (l.getD k 0-fW l k-1)=dA l (k+1):=by
 grind[dA,List.range_succ,List.append_assoc]
theorem zt(l:List Int):∀k,(dA l k).length<=9+9*k
 |0=>by grind[Gl,bF]
 |k+1=>by
  rw [<-rZ,C!];have :=zt l k;have :=bF (l.getD k 0-fW l k-1);omega
theorem OF {v:Int}(h0:0<=v)(h:v<=4611686018427387904):kg (Vg.dw UInt8) v=num v:=by
 grind[dz,Bool.or_eq_false_iff,decide_eq_false_iff_not,kg]
theorem AY {l:List Int} {k:Nat}(h:bK l=true)(hk:(k:Int)<l.length):0<=l.getD (Int.toNat (k:Int)) 0-fW l k-1/\l.getD (Int.toNat (k:Int)) 0-fW l k<=1001/\0<=l.getD (Int.toNat (k:Int)) 0:=by
 rw [V!];have h1:=(mq l k).1 ((mo l).1 h k w!);have h2:=AX (Qw (k:=k) h w!);omega
theorem Lh {l:List Int} {k:Nat}(h:bK l=true)(hk:(k:Int)<l.length):dA l k++kg (Vg.dw UInt8) (l.getD (Int.toNat (k:Int)) 0-fW l k-1)=dA l (k+1):=by
 grind[AY,OF,Int.toNat_natCast,rZ]
theorem vo {l:List Int} {k:Nat}(h:bK l=true)(hk:(k:Int)<l.length)(v:Int):(dA l k).length+(kg (Vg.dw UInt8) v).length<=20000/\(dA l k).length+(num v).length<=20000:=by
 have h1:=zt l k;have h2:=oH h;have h3:=bF v
 have h4:(kg (Vg.dw UInt8) v).length<=9:=by
  grind[kg]
 omega
theorem Li {l:List Int}(h:bK l=true):(ml l).length<=20000:=by
 grind[zt,oH,ml]
theorem Qx {l:List Int} {k:Nat}(hk:(k:Int)=0):dA l k++num (l.getD (Int.toNat 0) 0)=dA l (k+1):=by
 have :k=0:=by omega
 subst this;rw [<-rZ,v8];congr 2;show l.getD 0 0=l.getD 0 0- -1-1;omega
theorem Tb {l:List Int} {k:Nat}(hk:¬(k:Int)=0):dA l k++num (l.getD (Int.toNat (k:Int)) 0-l.getD (Int.toNat ((k:Int)-1)) 0-1)=dA l (k+1):=by
 rw [xq w!,V!,rZ]
theorem ae7 {l:List Int}(h:bK l=true):dA l l.length=nk l:=by simp [nk,h,K?];rfl
theorem aqM(a:List Int)(s1 s2:Int):mn a s1 s2 (okL a) []:=by
 refine⟨rfl,?_⟩;grind[okL,oH]
theorem ae8 {a:List Int} {s1 s2 n:Int} {r out:List Int}(h:mn a s1 s2 (n::r) out)(hn:ti n s1 s2=true):mn a s1 s2 r (out++ [n]):=by
 obtain⟨h1,h2⟩:=h;refine⟨x!,x!⟩
theorem aiN {a:List Int} {s1 s2 n:Int} {r out:List Int}(h:mn a s1 s2 (n::r) out)(hn:ti n s1 s2=false):mn a s1 s2 r out:=by
 obtain⟨h1,h2⟩:=h;rw [List.filter_cons,if_neg x!] at h1;exact⟨h1,x!⟩
theorem ae9 {a:List Int} {s1 s2:Int} {out:List Int}(h:mn a s1 s2 [] out):out=Lf a s1 s2:=by
 have :=h.1;grind
theorem aqN {a b:List Int}(h:(a.length:Int)=b.length):uj a b 0:=⟨w!,z!,K! _⟩
theorem Wh {a b:List Int} {k:Nat}(h:uj a b k)(hk:(k:Int)<a.length)(he:a.getD (Int.toNat (k:Int)) 0=b.getD (Int.toNat (k:Int)) 0):uj a b (k+1):=by
 rw [Int.toNat_natCast] at he;obtain⟨h1,h2,h3⟩:=h;exact⟨h1,by grind[ar],w!⟩
theorem afa {a b:List Int} {k:Nat}(he:¬a.getD (Int.toNat (k:Int)) 0=b.getD (Int.toNat (k:Int)) 0):false=qb a b:=by
 grind[qb,decide_eq_false_iff_not]
theorem afb {a b:List Int}(h:¬(a.length:Int)=b.length):false=qb a b:=by
 grind[qb,decide_eq_false_iff_not]
theorem afc {a b:List Int} {k:Nat}(h:uj a b k)(hk:¬(k:Int)<a.length):true=qb a b:=by
 obtain⟨h1,h2,h3⟩:=h;simp_all[qb,H!,J?]
end Go.S

end
section
namespace Go.S
abbrev bx:=B8×List Int
abbrev Lk:=B8×B8×B8
def Gm(a b:B8):Bool:=Op.bytesLess a b || decide (a=b)
def bV(d:List bx)(i:Nat):B8:=(d.getD i ([],[])).1
def fI(d:List bx)(i:Nat):List Int:=(d.getD i ([],[])).2
def aQ(d:List bx):Prop :=d.length<=1048576/\∀e∈d,e.1.length<=1099511627776
def zu(d:List bx)(i:Nat):Bool:= !(decide (0<i)&&Gm (bV d i) (bV d (i-1)))&&(!decide ((fI d i).length=0)&&(bK (fI d i)&&isTerm (bV d i)))
def aI(d:List bx):Bool:=(List.range d.length).all (zu d)
def HI(d:List bx)(k:Nat):Prop :=(∀i,i<k->zu d i=true)/\k<=d.length
def fp(a b c:B8):Bool:=decide ((a.length:Int)<=64)&&(decide ((b.length:Int)<=64)&&decide ((c.length:Int)=32))
def e9(a b c:B8):B8:=text a++text b++c
def jJ(a b c:B8):B8:=if fp a b c then e9 a b c else []
def pd(a b c:B8):Int:=if fp a b c then 0 else 1
def Wi(b:B8):Rd×B8:=az b 0 0 64
def Qy(b:B8):Rd×B8:=az (Wi b).1.1 (Wi b).1.2.1 (Wi b).1.2.2 64
def qV(b:B8):Rd×B8:=aD (Qy b).1.1 (Qy b).1.2.1 (Qy b).1.2.2
def bw(b:B8):Lk×Int:=
 if done (qV b).1.1 (qV b).1.2.1 (qV b).1.2.2=0 then(((Wi b).2,(Qy b).2,(qV b).2),0) else(([],[],[]),done (qV b).1.1 (qV b).1.2.1 (qV b).1.2.2)
def eO(b:B8):Lk×Int:=
 if(aA b 64).2.2≠0 then(([],[],[]),(aA b 64).2.2)
 else if(aA (b.drop (aA b 64).2.1.toNat) 64).2.2≠0 then(([],[],[]),(aA (b.drop (aA b 64).2.1.toNat) 64).2.2)
 else if((b.drop ((aA b 64).2.1+(aA (b.drop (aA b 64).2.1.toNat) 64).2.1).toNat).length:Int)<32 then(([],[],[]),4)
 else if 32<((b.drop ((aA b 64).2.1+(aA (b.drop (aA b 64).2.1.toNat) 64).2.1).toNat).length:Int) then(([],[],[]),2)
 else(((aA b 64).1,(aA (b.drop (aA b 64).2.1.toNat) 64).1,b.drop ((aA b 64).2.1+(aA (b.drop (aA b 64).2.1.toNat) 64).2.1).toNat),0)
def ja(d:List bx)(i:Nat):B8:=
 e9 (if i=0 then [] else bV d (i-1)) (if i<d.length then bV d i else []) (gE (if i=0 then [] else fI d (i-1)))
def e6(d:List bx)(k:Nat):List B8:=(List.range k).map (ja d)
def dh(d:List bx):List B8:=e6 d (d.length+1)
def cc(d:List bx):List B8:=if aI d then dh d else []
def dE(d:List bx):Int:=if aI d then 0 else 1
def nU(d:List bx):B8:=root (leaves (dh d))
def zv(d:List bx):B8:=if aI d then nU d else []
def bY(d:List bx)(t:B8):Nat->Int
 |0=> -1
 |k+1=>if Gm (bV d k) t then(k:Int) else bY d t k
def aU(d:List bx)(t:B8):Int:=if aI d then bY d t d.length else -1
def eW(d:List bx)(t:B8):Bool:=decide (0<=aU d t)&&decide (bV d (aU d t).toNat=t)
def gS(d:List bx)(t:B8):List Int:=if eW d t then fI d (aU d t).toNat else []
def ig(a b:List bx):Bool:=decide (a=b)
def lr(a b:List bx)(k:Nat):Prop :=a.length=b.length/\a.take k=b.take k/\k<=a.length
def qc(a b:List B8):Bool:=decide (a=b)
def qW(a b:List B8)(k:Nat):Prop :=a.length=b.length/\a.take k=b.take k/\k<=a.length
def c8(docs:List B8)(s1 s2:Int):Bool:=
 docs.all (fun b=>decide ((b.length:Int)<=2000))&&(decide ((docs.length:Int)<=1000)&&(decide (0<=s1)&&(decide (s1<=s2)&&decide (s2<=(docs.length:Int)))))
def pe(docs:List B8)(k:Nat):Prop :=(∀b∈docs.take k,b.length<=2000)/\k<=docs.length
def tj(b t:B8):Bool:=decide (0<((places b t).length:Int))
theorem uk(d:List bx):aI d=true↔∀i,i<d.length->zu d i=true :=by
 grind[aI,List.all_eq_true]
theorem aIq(d:List bx):HI d 0:=⟨fun i hi=>by omega,K! _⟩
theorem I7 {d:List bx} {k:Nat}(hk:(k:Int)<d.length)(h:zu d k=false):false=aI d:=by
 grind[uk]
theorem aiO {d:List bx} {k:Nat}(h:HI d k)(hk:(k:Int)<d.length)(he:zu d k=true):HI d (k+1):=by
 refine⟨fun i hi=> ?_,w!⟩;by_cases e:i=k
 . grind
 . exact h.1 i w!
theorem aqO {d:List bx} {k:Nat}(h:HI d k)(hk:¬(k:Int)<d.length):true=aI d:=by
 symm;exact(uk d).2 fun i hi=>h.1 i w!
theorem OG {d:List bx} {k:Nat}(h:aQ d):(d.getD k ([],[])).1.length<=1099511627776:=by
 by_cases hk:k<d.length
 . exact h.2 _ (bq d k _ hk)
 grind
theorem qX(d:List bx)(i:Nat):zu d i=true↔(i=0\/Gm (bV d i) (bV d (i-1))=false)/\(fI d i).length≠0/\bK (fI d i)=true/\isTerm (bV d i)=true :=by
 simp_all[zu,B!,I?,Bool.and_eq_false_iff,d?,id]
theorem xr(d:List bx)(i:Nat):zu d i=false↔(0<i/\Gm (bV d i) (bV d (i-1))=true)\/(fI d i).length=0\/bK (fI d i)=false\/isTerm (bV d i)=false :=by
 grind[qX]
theorem Lj:∀(w:List Int) (t:B8),t.length<=64->(k9 t w).length<=64
 | [],t,h=>h
 |c::w,t,h=>by
  simp [k9];split
  . exact h
  . exact Lj w _ (by rw [C!];omega)
theorem zw {s:B8}(h:isTerm s=true):s.length<=64:=by
 simp [isTerm,decide_eq_true_eq] at h;have hm:s∈aY s:=by grind
 simp [aY,e?] at hm;obtain⟨w,_,hw⟩:=hm;rw [<-hw];exact Lj w [] z!
theorem qY {d:List bx}(h:aI d=true) {i:Nat}(hi:i<d.length):(bV d i).length<=64/\bK (fI d i)=true :=by
 grind[qX,uk,zw]
theorem um(b:B8)(a e m:Int):(az b a e m).1.1=b:=by grind[az]
theorem afd {l:List Int}(h:bK l=true):vn l=gE l/\(gE l).length=32:=by
 refine⟨by simp [vn,h,K?];rfl,Oh _ _⟩
theorem zx {d:List bx}(h:aI d=true) {k:Nat}:fp (if k=0 then [] else bV d (k-1)) (if k<d.length then bV d k else []) (gE (if k=0 then [] else fI d (k-1)))=true\/d.length<k:=by
 by_cases hk:d.length<k
 . omega
 . refine .inl ?_;have e3:(gE (if k=0 then [] else fI d (k-1))).length=32:=Oh _ _;simp only [fp,e3,B!,H!];refine⟨?_,?_,rfl⟩
   . by_cases h0:k=0
     . grind
     . grind[qY]
   . by_cases h0:k<d.length
     . grind[qY]
     grind
theorem aqP {d:List bx}(h:aI d=true) {k:Nat}(hk:k<=d.length):jJ (if k=0 then [] else bV d (k-1)) (if k<d.length then bV d k else []) (vn (if k=0 then [] else fI d (k-1)))=ja d k:=by
 have hp:bK (if k=0 then [] else fI d (k-1))=true :=by
  by_cases h0:k=0
  . rw [R! h0];rfl
  . rw [N! h0];exact(qY h (i:=k-1) w!).2
 rw [(afd hp).1];rcases zx h (k:=k) with hl|hl
 . simp [jJ,hl,K?];rfl
 omega
theorem HJ(d:List bx)(k:Nat):e6 d k++ [ja d k]=e6 d (k+1):=by
 grind[e6,List.range_succ]
theorem CZ(d:List bx)(k:Nat):(e6 d k).length=k:=by simp [e6]
theorem oh {a b c:B8}(h:fp a b c=true):(e9 a b c).length<=200:=by
 simp [fp,Bool.and_eq_true,decide_eq_true_eq] at h;grind[bF,e9,text,List.length_append]
theorem la {d:List bx}(hp:aQ d)(h:aI d=true):bJ (dh d)/\b7 (leaves (dh d)):=by
 have hl:(dh d).length=d.length+1:=CZ d _;have hd:=hp.1;refine⟨⟨w!,fun b hb=> ?_⟩,⟨?_,?_⟩⟩
 . simp [dh,e6,e?,x?] at hb;obtain⟨i,hi,rfl⟩:=hb;rcases zx h (k:=i) with hk|hk
   . grind[oh,ja]
   omega
 . rw [cL];intro x hx;simp [leaves,e?] at hx;obtain⟨b,_,rfl⟩:=hx;rfl
 grind[leaves,List.length_map]
theorem zy {d:List bx} {t:B8}:∀k,-1<=bY d t k/\bY d t k<k
 |0=>by grind[bY]
 |k+1=>by
  have :=zy (d:=d) (t:=t) k;grind[bY]
theorem Wj {d:List bx} {t:B8} {k:Nat}(h:Gm (bV d k) t=true):(k:Int)=bY d t (k+1):=by
 simp_all[bY,R!]
theorem Wk {d:List bx} {t:B8} {k:Nat}(h:Gm (bV d k) t=false):bY d t k=bY d t (k+1):=by
 simp_all[bY,N!]
theorem aiP {a b:List bx}(h:(a.length:Int)=b.length):lr a b 0:=⟨w!,z!,K! _⟩
theorem Tc {a b:List bx} {k:Nat}(h:lr a b k)(hk:(k:Int)<a.length)(he:a.getD k ([],[])=b.getD k ([],[])):lr a b (k+1):=by
 obtain⟨h1,h2,h3⟩:=h;exact⟨h1,by grind[ar],w!⟩
theorem Wl {a b:List bx} {k:Nat}(he:¬a.getD k ([],[])=b.getD k ([],[])):false=ig a b:=by
 grind[ig,decide_eq_false_iff_not]
theorem Wm {a b:List bx}(h:¬(a.length:Int)=b.length):false=ig a b:=by
 grind[ig,decide_eq_false_iff_not]
theorem Wn {a b:List bx} {k:Nat}(h:lr a b k)(hk:¬(k:Int)<a.length):true=ig a b:=by
 obtain⟨h1,h2,h3⟩:=h;simp_all[ig,H!,J?]
theorem aiQ {a b:List B8}(h:(a.length:Int)=b.length):qW a b 0:=⟨w!,z!,K! _⟩
theorem Td {a b:List B8} {k:Nat}(h:qW a b k)(hk:(k:Int)<a.length)(he:a.getD k []=b.getD k []):qW a b (k+1):=by
 obtain⟨h1,h2,h3⟩:=h;exact⟨h1,by grind[ar],w!⟩
theorem Wo {a b:List B8} {k:Nat}(he:¬a.getD k []=b.getD k []):false=qc a b:=by
 grind[qc,decide_eq_false_iff_not]
theorem Wq {a b:List B8}(h:¬(a.length:Int)=b.length):false=qc a b:=by
 grind[qc,decide_eq_false_iff_not]
theorem Wr {a b:List B8} {k:Nat}(h:qW a b k)(hk:¬(k:Int)<a.length):true=qc a b:=by
 obtain⟨h1,h2,h3⟩:=h;simp_all[qc,H!,J?]
theorem Â(docs:List B8):pe docs 0:=⟨z!,K! _⟩
theorem Ll {docs:List B8} {k:Nat}(h:pe docs k)(hk:(k:Int)<docs.length)(hl:((docs.getD k []).length:Int)<=2000):pe docs (k+1):=by
 refine⟨fun b hb=> ?_,w!⟩;rw [ar docs k [] w!] at hb;rcases F!.1 hb with hb|hb
 . exact h.1 b hb
 grind
theorem OH {docs:List B8} {k:Nat} {s1 s2:Int}(hk:(k:Int)<docs.length)(hl:2000<((docs.getD k []).length:Int)):false=c8 docs s1 s2:=by
 have :docs.all (fun b=>decide ((b.length:Int)<=2000))=false :=by
  grind
 simp [c8,this,Bool.false_and]
theorem OI {docs:List B8} {k:Nat}(h:pe docs k)(hk:¬(k:Int)<docs.length):docs.all (fun b=>decide ((b.length:Int)<=2000))=true :=by
 have h1:=h.1;grind[List.take_of_length_le]
theorem ED:∀(a b:B8),Gm b a= !Op.bytesLess a b
 | [],[]=>rfl
 | [],b::y=>by rfl
 |a::x,[]=>by rfl
 |a::x,b::y=>by
  have ih:=ED x y;simp [Gm] at ih;simp [Gm,Op.bytesLess];grind
def cOk(d:List bx)(i:Nat):Prop :=(fI d i).length≠0/\bK (fI d i)=true/\isTerm (bV d i)=true
def zz(d:List bx)(k:Nat):Prop :=(∀i,i<k->cOk d i)/\(∀i,i<k->i+1<d.length->Gm (bV d (i+1)) (bV d i)=false)/\k<=d.length
theorem aIs(d:List bx):zz d 0:=⟨fun i hi=>by omega,fun i hi=>by omega,K! _⟩
theorem aiR {d:List bx} {k:Nat}(hk:(k:Int)<d.length)(h:isTerm (bV d k)=false\/(fI d k).length=0\/bK (fI d k)=false):false=aI d:=by
 grind[I7,xr]
theorem aiS {d:List bx} {k:Nat}(hk:(k:Int)+1<d.length)(h:Op.bytesLess (bV d k) (bV d (k+1))=false):false=aI d:=by
 refine I7 (k:=k+1) w! ((xr d (k+1)).2 (.inl ⟨w!,?_⟩));grind[Nat.add_sub_cancel,ED]
theorem aiT {d:List bx} {k:Nat}(h:zz d k)(hk:(k:Int)<d.length)(hc:cOk d k)(hl:¬(k:Int)+1<d.length\/Op.bytesLess (bV d k) (bV d (k+1))=true):zz d (k+1):=by
 refine⟨fun i hi=> ?_,fun i hi Vk=> ?_,w!⟩
 . by_cases e:i=k
   . grind
   . exact h.1 i w!
 . by_cases e:i=k
   . grind[ED]
   . exact h.2.1 i w! Vk
theorem aqQ {d:List bx} {k:Nat}(h:zz d k)(hk:¬(k:Int)<d.length):true=aI d:=by
 symm
 have e:k=d.length:=by have :=h.2.2;omega
 subst e;refine(uk d).2 fun i hi=>(qX d i).2 ⟨?_,(h.1 i hi)⟩;by_cases h0:i=0
 . omega
 . have :=h.2.1 (i-1) w! w!;grind
theorem aqR {d:List bx}(h:aI d=true) {k:Nat}(hk:k<=d.length):
  jJ (bif decide ((k:Int)<(d.length:Int)) then bif decide (0<(k:Int)) then(List.getD d (Int.toNat ((k:Int)-1)) ([],[])).1 else [] else bif decide (0<(k:Int)) then(List.getD d (Int.toNat ((k:Int)-1)) ([],[])).1 else [])
   (bif decide ((k:Int)<(d.length:Int)) then(List.getD d (Int.toNat (k:Int)) ([],[])).1 else bif decide (0<(k:Int)) then [] else [])
   (vn (bif decide (0<(k:Int)) then(List.getD d (Int.toNat ((k:Int)-1)) ([],[])).2 else []))=ja d k:=by
 rw [<-aqP h hk];have e1:Int.toNat ((k:Int)-1)=k-1:=by omega
 rw [e1,V!];by_cases h0:k=0
 . grind[bV,fI,List.eq_nil_of_length_eq_zero]
 . have h2:(0:Int)<(k:Int):=by omega
   by_cases h1:k<d.length
   . have h3:(k:Int)<(d.length:Int):=by omega
     simp only [S? h2,S? h3,N! h0,R! h1,L!];rfl
   . have h3:¬(k:Int)<(d.length:Int):=by omega
     simp only [S? h2,a? h3,N! h0,N! h1,L!,Q!];rfl
theorem Te {d:List bx} {t:B8}(h:aI d=true):bY d t d.length=aU d t:=by simp_all[aU,K?]
theorem tm {d:List bx}(h:dE d=0):aI d=true :=by
 grind[aI,dE,absurd]
theorem aIt {d:List bx}(h:¬dE d=0):aI d=false :=by
 grind[aI,absurd,dE]
theorem HK {l s:B8}(h1:l.length<=1000)(h2:s.length<=1000):nG l s:=⟨w!,w!⟩
theorem jm {s:B8}:(text s).length<=s.length+9:=by
 grind[bF,text,List.length_append]
theorem kK(a b c:B8):fp a b c=true↔a.length<=64/\b.length<=64/\c.length=32:=by
 simp [fp,B!,H!];omega
theorem Lm {a b c:B8}(h:64<(a.length:Int)\/64<(b.length:Int)\/¬(c.length:Int)=32):fp a b c=false :=by
 grind[kK]
theorem qZ {a b c:B8}(h:¬64<(a.length:Int)/\¬64<(b.length:Int)/\(c.length:Int)=32):fp a b c=true :=(kK a b c).2 w!
theorem AZ {d:List bx} {t:B8}(h:aI d=false): -1=aU d t/\false=eW d t:=by
 grind[aU,eW]
theorem Ã(d:List bx)(t:B8)(x:Nat):(bif Op.bytesLess (List.getD d (Int.toNat (x:Int)) ([],[])).1 t || decide ((List.getD d (Int.toNat (x:Int)) ([],[])).1=t) then(x:Int) else bY d t x)=bY d t (x+1):=by
 grind[Int.toNat_natCast,Gm,bV,bY,Wj,Wk]
theorem Tf {d:List bx} {t:B8}(h:aI d=true):(bif decide (0<=bY d t d.length) then decide ((List.getD d (Int.toNat (bY d t d.length)) ([],[])).1=t) else false)=eW d t:=by
 simp [eW,aU,h,K?];cases decide (0<=bY d t d.length)<;>rfl
theorem nI(b:B8)(m:Int)(h:(aA b m).2.2=0):0<=(aA b m).2.1/\(aA b m).2.1<=b.length:=by
 grind[first,aA]
theorem Ä(d:List bx)(x:Nat):
  (bif decide ((x:Int)-1+1<(d.length:Int)) then bif decide (0<=(x:Int)-1) then(List.getD d (Int.toNat ((x:Int)-1)) ([],[])).1 else [] else bif decide (0<=(x:Int)-1) then(List.getD d (Int.toNat ((x:Int)-1)) ([],[])).1 else [])=(if x=0 then [] else bV d (x-1))/\
  (bif decide ((x:Int)-1+1<(d.length:Int)) then(List.getD d (Int.toNat ((x:Int)-1+1)) ([],[])).1 else bif decide (0<=(x:Int)-1) then [] else [])=(if x<d.length then bV d x else [])/\
  (bif decide ((x:Int)-1+1<(d.length:Int)) then bif decide (0<=(x:Int)-1) then gE (List.getD d (Int.toNat ((x:Int)-1)) ([],[])).2 else gE (Vg.dw Int) else bif decide (0<=(x:Int)-1) then gE (List.getD d (Int.toNat ((x:Int)-1)) ([],[])).2 else gE (Vg.dw Int))=gE (if x=0 then [] else fI d (x-1)):=by
 have e1:Int.toNat ((x:Int)-1)=x-1:=by omega
 have e2:Int.toNat ((x:Int)-1+1)=x:=by omega
 rw [e1,e2];have c1:decide ((x:Int)-1+1<(d.length:Int))=decide (x<d.length):=by grind
 have c2:decide (0<=(x:Int)-1)= !decide (x=0):=by grind
 rw [c1,c2];by_cases h0:x=0
 . subst h0;by_cases h1:0<d.length
   . simp only [S? h1,R! h1,decide_true,Bool.not_true,L!,Q!,K?];all_goals first|exact⟨rfl,rfl,rfl⟩|(refine⟨?_,?_,?_⟩<;>first|trivial|rfl)
   grind
 . by_cases h1:x<d.length
   . simp [S? h1,R! h1,a? h0,Bool.not_false,L!,N! h0];all_goals first|exact⟨rfl,rfl,rfl⟩|(refine⟨?_,?_,?_⟩<;>first|trivial|rfl)
   . simp only [a? h1,N! h1,a? h0,Bool.not_false,Q!,L!,N! h0];all_goals first|exact⟨rfl,rfl,rfl⟩|(refine⟨?_,?_,?_⟩<;>first|trivial|rfl)
theorem uo {d:List bx} {t:B8}(h:eW d t=true):0<=aU d t/\aU d t<(d.length:Int)/\(List.getD d (Int.toNat (aU d t)) ([],[])).2=gS d t:=by
 have h1:=h;simp [eW,Bool.and_eq_true,decide_eq_true_eq] at h1;refine⟨h1.1,?_,by simp [gS,h,if_true];rfl⟩;unfold aU;split
 . simp_all[zy]
 omega
end Go.S
namespace Go.S
def iA(docs:List B8)(a:Int)(k:Nat):List B8:=(List.range k).flatMap fun(i:Nat)=>sorted (aY (docs.getD (a+i).toNat []))
def cm(docs:List B8)(a:Int)(t:B8)(k:Nat):List Int:=((List.range k).filter fun(i:Nat)=>tj (docs.getD (a+i).toNat []) t).map fun(i:Nat)=>a+i
def cE(docs:List B8)(a b:Int):List B8:=sorted (iA docs a (b-a).toNat)
def lP(docs:List B8)(a b:Int)(k:Nat):List bx:=((cE docs a b).take k).map fun t=>(t,cm docs a t (b-a).toNat)
def make(docs:List B8)(a b:Int):List bx:=(cE docs a b).map fun t=>(t,cm docs a t (b-a).toNat)
def gq(docs:List B8)(a b:Int):Prop :=0<=a/\a<=b/\b<=docs.length/\docs.length<=1000/\∀d∈docs,d.length<=4000
def fJ(a b:Int)(k:Nat):Prop :=a+k<=b
end Go.S
namespace Go.S
theorem OJ:∀(f:Nat) (l:List B8),(vj f l).length<=l.length
 |0,l=>by simp [vj]
 |f+1,l=>by
  simp only [vj];split
  . simp
  . rename_i h;have h0:0<l.length:=by cases l;simp at h;simp
    have :=OJ f (l.filter (fun x=> !decide (x=l.getD (dH l) [])));have :=th h0;rw [F?];omega
theorem mr(l:List B8):(sorted l).length<=l.length:=OJ _ l
theorem Tg {docs:List B8} {a b:Int}(hp:gq docs a b)(i:Nat):(docs.getD i []).length<=4000:=by
 by_cases h:i<docs.length
 . exact hp.2.2.2.2 _ (bq docs i [] h)
 grind
theorem Ln {docs:List B8} {a b:Int}(hp:gq docs a b)(i:Nat):small (docs.getD i []):=by
 grind[Tg,small]
theorem aiU(docs:List B8)(a:Int): []=iA docs a 0:=rfl
theorem uq(docs:List B8)(a:Int)(k:Nat):iA docs a k++sorted (aY (docs.getD (Int.toNat (a+(k:Int))) []))=iA docs a (k+1):=by
 grind[iA,List.range_succ]
theorem zA {docs:List B8} {a b:Int}(hp:gq docs a b)(i:Nat):(sorted (aY (docs.getD i []))).length<=4000:=by
 grind[Tg,xo,mr]
theorem tp {docs:List B8} {a b:Int}(hp:gq docs a b):∀k,(iA docs a k).length<=4000*k
 |0=>by simp [iA]
 |k+1=>by
  rw [<-uq,C!];have :=tp hp k;have :=zA hp (Int.toNat (a+(k:Int)));omega
theorem afe(docs:List B8)(a:Int)(t:B8): []=cm docs a t 0:=rfl
theorem zB {docs:List B8} {a:Int} {t:B8} {k:Nat}(h:tj (docs.getD (Int.toNat (a+(k:Int))) []) t=true):cm docs a t k++ [a+(k:Int)]=cm docs a t (k+1):=by
 simp only [cm,List.range_succ,List.filter_append,s?,List.filter_cons,h,K?,List.filter_nil,V?,List.map_nil]
theorem C0 {docs:List B8} {a:Int} {t:B8} {k:Nat}(h:tj (docs.getD (Int.toNat (a+(k:Int))) []) t=false):cm docs a t k=cm docs a t (k+1):=by
 grind[cm,List.range_succ]
theorem HL(docs:List B8)(a:Int)(t:B8)(k:Nat):(cm docs a t k).length<=k:=by
 grind[cm,List.length_map,List.length_filter_le,tj,List.range,List.length_range]
theorem wa {docs:List B8} {a b:Int} {k:Nat}(h:fJ a b k)(hk:¬a+(k:Int)<b):sorted (iA docs a k)=cE docs a b/\k=(b-a).toNat:=by
 unfold fJ at h;have :k=(b-a).toNat:=by omega
 exact⟨by rw [this];rfl,this⟩
theorem EE {docs:List B8} {a b:Int} {k j:Nat} {t:B8}(hk:k<(cE docs a b).length)(hj:j=(b-a).toNat)(ht:(cE docs a b).getD k []=t):lP docs a b k++ [(t,cm docs a t j)]=lP docs a b (k+1):=by
 grind[lP,ar,cE]
theorem Th(docs:List B8)(a b:Int)(k:Nat):(lP docs a b k).length<=k:=by
 grind[lP,List.length_map,List.length_take]
theorem HN {docs:List B8} {a b:Int} {k:Nat}(h:¬k<(cE docs a b).length):lP docs a b k=make docs a b:=by
 grind[lP,make,List.take_of_length_le]
theorem Lo {a b:Int} {k:Nat}(h:fJ a b k)(hp:a<=b):(k:Int)<=b-a:=by grind[fJ]
end Go.S

end
section
namespace Go.S
theorem Lp {b:B8} {a:Int}(h0:0<=a)(h1:a<=b.length):inside b a=true :=by
 grind[inside]
theorem zC {b:B8} {a e:Int}(h:e≠0):bI b a e=e:=by
 grind[bI]
theorem xt {b:B8} {a:Int}(h0:0<=a)(h1:a<=b.length):bI b a 0=0:=by
 grind[bI,Lp]
theorem Gn {b:B8} {a e:Int}(h:e≠0):done b a e=e:=by simp_all[done,R!]
theorem Ti {b:B8} {a:Int}(h0:0<=a)(h1:a<=b.length):done b a 0=if a<b.length then 2 else 0:=by
 simp_all[done,N!,Lp]
theorem Ws(b:B8):(first b).2.2=0->0<=(first b).1/\0<=(first b).2.1:=by
 grind[first]
theorem tq {b:B8} {p m:Int}(h0:0<=p)(h1:p<=b.length):
  cV b p m=((aA (b.drop p.toNat) m).1,(if(aA (b.drop p.toNat) m).2.2=0 then p+(aA (b.drop p.toNat) m).2.1 else 0),(aA (b.drop p.toNat) m).2.2):=by
 have hl:((b.drop p.toNat).length:Int)=b.length-p:=by grind
 have hb:=Ws (b.drop p.toNat);have g1:(aZ b p).1=(first (b.drop p.toNat)).1:=rfl;have g3:(aZ b p).2.2=(first (b.drop p.toNat)).2.2:=rfl;by_cases he:(first (b.drop p.toNat)).2.2=0
 . have g2:(aZ b p).2.1=p+(first (b.drop p.toNat)).2.1:=R! he;have fv:=hb he
   have F:aA (b.drop p.toNat) m=if m<(first (b.drop p.toNat)).1 then([],0,2) else if(b.length:Int)-(p+(first (b.drop p.toNat)).2.1)<(first (b.drop p.toNat)).1 then([],0,4) else(((b.drop p.toNat).drop (first (b.drop p.toNat)).2.1.toNat).take (first (b.drop p.toNat)).1.toNat,(first (b.drop p.toNat)).2.1+(first (b.drop p.toNat)).1,0):=by
    unfold aA;rw [if_neg (by simp [he]),hl];by_cases h2:m<(first (b.drop p.toNat)).1
    . rw [R! h2,R! h2]
    . rw [N! h2,N! h2];by_cases h3:(b.length:Int)-(p+(first (b.drop p.toNat)).2.1)<(first (b.drop p.toNat)).1
      . rw [R! h3,R! w!]
      . rw [N! h3,N! w!]
   rw [F];unfold cV;rw [g3,g1,g2,if_neg (by simp [he])];by_cases h2:m<(first (b.drop p.toNat)).1
   . simp only [R! h2];rfl
   . simp only [N! h2];by_cases h3:(b.length:Int)-(p+(first (b.drop p.toNat)).2.1)<(first (b.drop p.toNat)).1
     . simp only [R! h3];rfl
     . simp only [N! h3,K?];have a1:(p+(first (b.drop p.toNat)).2.1).toNat=p.toNat+(first (b.drop p.toNat)).2.1.toNat:=by omega
       have a2:(p+(first (b.drop p.toNat)).2.1+(first (b.drop p.toNat)).1).toNat-(p.toNat+(first (b.drop p.toNat)).2.1.toNat)=(first (b.drop p.toNat)).1.toNat:=by omega
       have a3:p+(first (b.drop p.toNat)).2.1+(first (b.drop p.toNat)).1=p+((first (b.drop p.toNat)).2.1+(first (b.drop p.toNat)).1):=by omega
       rw [O?,a1,b?,a2,a3]
 simp_all[aA,first,R!,cV,N!]
theorem Gp(b:B8):bw b=eO b:=by
 have hl:(0:Int)<=b.length:=by omega
 have s0:bI b 0 0=0:=xt w! hl;have g0:=tq (b:=b) (p:=0) (m:=64) w! hl;rw [show(0:Int).toNat=0 by rfl,List.drop_zero] at g0
 have r1:Wi b=if(aA b 64).2.2≠0 then((b,0,(aA b 64).2.2),[]) else((b,(aA b 64).2.1,0),(aA b 64).1):=by
  simp_all[Wi,az,N!,aA]
 unfold bw eO;by_cases e1:(aA b 64).2.2=0
 . rw [N! w!] at r1;have b1:=nI b 64 e1;have s1:bI b (aA b 64).2.1 0=0:=xt b1.1 b1.2;have g1:=tq (b:=b) (p:=(aA b 64).2.1) (m:=64) b1.1 b1.2;generalize hn:(aA b 64).2.1=n1 at *;generalize hf:aA (b.drop n1.toNat) 64=f2 at *
   have r2:Qy b=if f2.2.2≠0 then((b,n1,f2.2.2),[]) else((b,n1+f2.2.1,0),f2.1):=by
    simp_all[Qy,az,N!]
   by_cases e2:f2.2.2=0
   . rw [if_neg w!] at r2;have b2:=nI (b.drop n1.toNat) 64 x!;rw [hf,List.length_drop] at b2;have s2:bI b (n1+f2.2.1) 0=0:=xt w! w!;have hdl:((b.drop (n1+f2.2.1).toNat).length:Int)=b.length-(n1+f2.2.1):=by grind
     have r3:qV b=if(b.length:Int)-(n1+f2.2.1)<32 then((b,n1+f2.2.1,4),[]) else((b,n1+f2.2.1+32,0),(b.drop (n1+f2.2.1).toNat).take 32):=by
      simp_all[qV,aD,N!]
     by_cases h4:(b.length:Int)-(n1+f2.2.1)<32
     . simp_all[R!,Gn,ne_eq,not_true_eq_false,h?,K?]
     . rw [if_neg h4] at r3;grind[Ti]
   . rw [R! e2] at r2
     have r3:qV b=((b,n1,f2.2.2),[]):=by
      simp_all[qV,aD,zC,R!]
     simp_all[Gn,ne_eq,not_true_eq_false,not_false_eq_true,h?,K?]
 . rw [R! e1] at r1
   have r2:Qy b=((b,0,(aA b 64).2.2),[]):=by
    simp_all[Qy,az,zC,R!]
   have r3:qV b=((b,0,(aA b 64).2.2),[]):=by
    simp_all[qV,aD,zC,R!]
   simp_all[Gn,ne_eq,not_false_eq_true,h?,K?]
end Go.S

end
section
namespace Go.S
theorem wb(b t:B8):tj b t=true↔t∈aY b:=by
 unfold tj;rw [decide_eq_true_iff];simp only [places,vX,List.length_map];constructor
 . intro h;have h1:0<((List.range (aY b).length).filter (fun i=>decide ((aY b).getD i []=t))).length:=by omega
   obtain⟨i,hi⟩:=List.exists_mem_of_length_pos h1;grind
 . intro h;obtain⟨i,hi,he⟩:=List.getElem_of_mem h
   have :i∈(List.range (aY b).length).filter (fun i=>decide ((aY b).getD i []=t)):=by
    grind
   grind
def gr(docs:List B8)(a:Int)(k:Nat):List B8:=sorted (aY (docs.getD (a+(k:Int)).toNat []))
def ya(docs:List B8)(a:Int)(k j:Nat)(s:B8):List Int:=cm docs a s k++if s∈(gr docs a k).take j then [a+(k:Int)] else []
theorem aBK(docs:List B8)(a:Int)(s:B8):ya docs a 0 0 s= []:=by rfl
theorem zD {l:List B8}(h:pC l):l.Nodup:=h.imp fun {a b} mE gI=>by
 grind[cD]
theorem tu {l:List B8} {j:Nat}(hj:j<l.length)(s:B8):s∈l.take (j+1)↔s∈l.take j\/s=l.getD j []:=by
 grind[List.take_add_one,List.getElem?_eq_getElem]
theorem HO {l:List B8}(h:l.Nodup) {j:Nat}(hj:j<l.length):l.getD j []∉l.take j:=by
 grind[List.getElem?_eq_getElem,List.getElem_of_mem,List.length_take,List.pairwise_iff_getElem]
theorem aiV {docs:List B8} {a:Int} {k j:Nat}(hj:j<(gr docs a k).length):ya docs a k (j+1) ((gr docs a k).getD j [])=ya docs a k j ((gr docs a k).getD j [])++ [a+(k:Int)]:=by
 have h1:(gr docs a k).getD j []∉(gr docs a k).take j:=HO (zD (mX (aY (docs.getD (a+(k:Int)).toNat [])))) hj;have h2:=(tu hj ((gr docs a k).getD j [])).2 (.inr rfl);simp_all[ya,R!,N!,A?]
theorem aff {docs:List B8} {a:Int} {k j:Nat}(hj:j<(gr docs a k).length) {s:B8}(hs:s≠(gr docs a k).getD j []):ya docs a k (j+1) s=ya docs a k j s:=by
 simp_all[ya,gr,R!,tu,N!]
theorem afg {docs:List B8} {a:Int} {k j:Nat}(hj:¬j<(gr docs a k).length)(s:B8):ya docs a k j s=ya docs a (k+1) 0 s:=by
 simp [ya,List.take_zero,List.not_mem_nil,h?,A?];rw [J? w!];by_cases h:s∈gr docs a k
 . rw [R! h];exact zB ((wb _ _).2 ((gR _ _).1 h))
 . rw [N! h,A?];refine C0 ?_;cases hh:tj (docs.getD (Int.toNat (a+(k:Int))) []) s with
   |false=>rfl
   |true=>exact absurd ((gR _ _).2 ((wb _ _).1 hh)) h
theorem aiW(docs:List B8)(a:Int)(k j:Nat)(s:B8):(ya docs a k j s).length<=k+1:=by
 grind[HL,ya,List.length_append]
theorem C1(docs:List B8)(a:Int)(x:B8):∀k,x∈iA docs a k↔cm docs a x k≠ []
 |0=>by simp [iA,cm]
 |k+1=>by
  rw [<-uq,F!,C1 docs a x k,gR,<-wb];cases h:tj (docs.getD (Int.toNat (a+(k:Int))) []) x with
  |true=>rw [<-zB h];simp
  |false=>grind[C0]
end Go.S
namespace Go.S
def jK(docs:List B8)(a b:Int):List bx×Int:=if c8 docs a b then(make docs a b,0) else([],1)
end Go.S

end
section
namespace Go.S
abbrev Sg:=Int×Int×Int×B8
def jA(a b:Int):Bool:=decide (0<=a)&&(decide (a<b)&&decide (b<=1000))
def Lq(d:List bx)(a b:Int)(i:Nat):Bool:=decide (((Lf (fI d i) a b).length:Int)=((fI d i).length:Int))
def dQ(a b:Int)(d:List bx):Bool:=(jA a b&&aI d)&&(List.range d.length).all (Lq d a b)
def ur(a b:Int)(d:List bx)(k:Nat):Prop :=jA a b=true/\aI d=true/\(∀i,i<k->Lq d a b i=true)/\k<=d.length
def ry(a b:Int)(d:List bx):(Int×Int×Int×B8)×Int:=if dQ a b d then((a,b,(d.length:Int)+1,nU d),0) else((0,0,0,[]),1)
def NF(a b:Int)(d:List bx):Int×Int×Int×B8:=(a,b,((dh d).length:Int),nU d)
def lI(a b n:Int)(r:B8):Bool:=jA a b&&(decide (1<=n)&&(decide (n<=1099511627776)&&decide ((r.length:Int)=32)))
def dn(docs:List B8)(a b:Int):Bool:=c8 docs a b&&decide (a<b)
def sg(l:List Sg)(i:Nat):Sg:=l.getD i (0,0,0,[])
def zE(l:List Sg)(i:Nat):Bool:=lI (sg l i).1 (sg l i).2.1 (sg l i).2.2.1 (sg l i).2.2.2&& !(decide (0<i)&& !decide ((sg l i).1=(sg l (i-1)).2.1))
def pE(l:List Sg)(n:Int):Bool:=
 if l.length=0 then decide (n=0)
 else(List.range l.length).all (zE l)&&(decide ((l.length:Int)<=64)&&(decide ((sg l 0).1=0)&&decide ((sg l (l.length-1)).2.1=n)))
theorem aqS {l:List Int} {a b:Int}(h:bK l=true)(h0:l.length≠0):(Lf l a b).length=l.length↔a<=l.getD 0 0/\l.getD (l.length-1) 0<b:=by
 have hs:∀n,n<l.length->∀i,i<=n->l.getD i 0<=l.getD n 0:=by
  intro n;induction n with
  |zero=>grind
  |succ n ih=>
   intro hn i hi;by_cases e:i=n+1
   . grind
   grind[mq,mo,oG]
 simp only [Lf,okL,h,K?];rw [List.length_filter_eq_length_iff];constructor
 . intro na;have h1:=na _ (bq l 0 0 w!);have h2:=na _ (bq l (l.length-1) 0 w!);simp_all[ti,B!,H!]
 . rintro⟨h1,h2⟩ x hx;obtain⟨i,hi,rfl⟩:=List.mem_iff_getElem.1 hx;have e:l[i]=l.getD i 0:=by grind
   have q1:=hs i hi 0 (K! _);have q2:=hs (l.length-1) w! i w!;simp [ti,B!,H!];omega
theorem aBL {a b:Int} {d:List bx}(h1:jA a b=true)(h2:aI d=true):ur a b d 0:=⟨h1,h2,fun i hi=>by omega,K! _⟩
theorem afh {a b:Int} {d:List bx} {k:Nat}(h:ur a b d k)(hk:(k:Int)<d.length)(he:Lq d a b k=true):ur a b d (k+1):=by
 refine⟨h.1,h.2.1,fun i hi=> ?_,w!⟩;by_cases e:i=k
 . grind
 . exact h.2.2.1 i w!
theorem aiX {a b:Int} {d:List bx} {k:Nat}(hk:(k:Int)<d.length)(he:Lq d a b k=false):false=dQ a b d:=by
 grind[dQ]
theorem aiY {a b:Int} {d:List bx} {k:Nat}(h:ur a b d k)(hk:¬(k:Int)<d.length):true=dQ a b d:=by
 simp [dQ,h.1,h.2.1,Bool.true_and,W!,x?];intro i hi;exact h.2.2.1 i w!
theorem aqT {a b:Int} {d:List bx}(h:jA a b=false\/aI d=false):false=dQ a b d:=by
 rcases h with h|h<;>simp [dQ,h,Bool.false_and,Bool.and_false]
theorem afi {a b:Int} {d:List bx}(h:dQ a b d=true):aI d=true :=by
 simp_all[dQ,B!]
end Go.S
namespace Go.S
theorem afj {d:List bx} {k:Nat}(h:aI d=true)(hk:(k:Int)<d.length):0<(fI d k).length/\(fI d k).length<=1000:=by
 have hq:=(qX d k).1 ((uk d).1 h k w!);grind[oH]
theorem Lr {a b:Int} {d:List bx}(h:dQ a b d=false):ry a b d=((0,0,0,[]),1):=by grind[ry]
theorem ra {a b:Int} {d:List bx}(h:dQ a b d=true):ry a b d=((a,b,(d.length:Int)+1,nU d),0)/\dE d=0/\zv d=nU d:=by
 have hd:=afi h;simp_all[ry,K?,dE,zv]
end Go.S

end
section
namespace Go.S
def dB(docs:List B8)(a b:Int):(Int×Int×List bx)×Int:=if dn docs a b then((a,b,make docs a b),0) else((0,0,[]),1)
def xu(a1 a2:Int)(a3:List bx)(b1 b2:Int)(b3:List bx):Bool:=decide (a1=b1)&&(decide (a2=b2)&&decide (a3=b3))
def rowAt(l:List Sg)(k:Nat):Int:=if k=0 then 0 else(sg l (k-1)).2.1
def vO(l:List Sg)(k:Nat):Prop :=(∀i,i<k->zE l i=true)/\k<=l.length/\l.length<=64/\(0<k->(sg l 0).1=0)
end Go.S
namespace Go.S
theorem HP {m r d:List B8} {i:Nat}(h:i<=m.length):(m.take i++r++d).take i=m.take i:=by
 grind
theorem Qz {b:B8}(h:small b):small (aY b):=by
 grind[xo,small]
theorem QA {l:List B8}(h:small l):small (e8 l):=by
 grind[small,e8,List.length_mergeSort]
end Go.S
namespace Go.S
theorem EF(a b:Bool):(Bool.rec false b a:Bool)=(a&&b):=by cases a<;>rfl
theorem Tj {docs:List B8} {a b:Int}(h:¬(jK docs a b).2=0):dB docs a b=((0,0,[]),1)/\(jK docs a b).2=1:=by
 unfold jK at *;by_cases hf:c8 docs a b=true
 . grind
 . grind[dB,dn,c8]
theorem aiZ {docs:List B8} {a b:Int}(h:(jK docs a b).2=0):c8 docs a b=true/\jK docs a b=(make docs a b,0):=by
 grind[jK]
theorem Tk {docs:List B8} {a b:Int}(h:a=b):dB docs a b=((0,0,[]),1):=by
 grind[dB,dn]
theorem Tl {docs:List B8} {a b:Int}(h:(jK docs a b).2=0)(gI:¬a=b):dB docs a b=((a,b,(jK docs a b).1),0):=by
 obtain⟨h1,h2⟩:=aiZ h;unfold dB dn
 have hp:a<=b:=by
  simp_all[c8,B!,H!]
 grind
def tv(l:List Sg)(k:Nat):Bool:=decide ((sg l k).1=rowAt l k)&&lI (sg l k).1 (sg l k).2.1 (sg l k).2.2.1 (sg l k).2.2.2
theorem ai0 {l:List Sg} {n:Int}(h:(64:Int)<l.length):false=pE l n:=by
 grind[pE]
theorem aqU {l:List Sg}(h:¬(64:Int)<l.length):vO l 0:=⟨fun i hi=>by omega,K! _,w!,fun h=>by omega⟩
theorem Ls(l:List Sg):rowAt l 0=0:=rfl
theorem Tm(l:List Sg)(k:Nat):rowAt l (k+1)=(sg l k).2.1:=by rfl
theorem OK {l:List Sg} {k:Nat}(h:0<k):zE l k=tv l k:=by
 grind[zE,tv,rowAt]
theorem Lt {l:List Sg}:zE l 0=lI (sg l 0).1 (sg l 0).2.1 (sg l 0).2.2.1 (sg l 0).2.2.2:=by simp [zE]
theorem afk {l:List Sg} {k:Nat} {n:Int}(hc:vO l k)(hk:(k:Int)<l.length)(h:tv l k=false):false=pE l n:=by
 unfold pE;by_cases h0:k=0
 . subst h0;unfold tv at h;rw [Ls] at h;by_cases h1:(sg l 0).1=0
   . have :(List.range l.length).all (zE l)=false :=by
      rw [List.all_eq_false];exact⟨0,x!,by grind[Lt]⟩
     grind
   grind
 . have :(List.range l.length).all (zE l)=false :=by
    rw [List.all_eq_false];exact⟨k,x!,by grind[OK]⟩
   grind
theorem Wt {l:List Sg} {k:Nat}(hc:vO l k)(hk:(k:Int)<l.length)(h:tv l k=true):vO l (k+1):=by
 refine⟨fun i hi=> ?_,w!,hc.2.2.1,fun _=> ?_⟩
 . by_cases e:i=k
   . by_cases h0:i=0
     . unfold tv at h;grind[Lt]
     grind[OK]
   . exact hc.1 i w!
 . by_cases h0:k=0
   . subst h0;unfold tv at h;rw [Bool.and_eq_true,decide_eq_true_eq] at h;exact h.1
   . exact hc.2.2.2 w!
theorem afl {l:List Sg} {k:Nat} {n:Int}(hc:vO l k)(hk:¬(k:Int)<l.length):decide (rowAt l k=n)=pE l n:=by
 obtain⟨h1,h2,h3,h4⟩:=hc;have Gq:k=l.length:=by omega
 subst Gq;unfold pE;by_cases h0:l.length=0
 . rw [R! h0,h0,Ls,decide_eq_decide];omega
 . have e2:decide ((l.length:Int)<=64)=true :=S? w!;have e3:decide ((sg l 0).1=0)=true :=S? (h4 w!);simp_all[Bool.true_and,rowAt,N!]
end Go.S
namespace Go.S
theorem aqV {d:List bx} {t:B8}(h:eW d t=false): []=gS d t:=by grind[gS]
theorem aqW {d:List bx} {t:B8}(h:eW d t=true):small (List.getD d (Int.toNat (aU d t)) ([],[])).2:=by
 obtain⟨h0,h1,_⟩:=uo h
 have hr:aI d=true :=by
  grind[aI,aU]
 have :=afj (d:=d) (k:=Int.toNat (aU d t)) hr w!;grind[small,fI]
end Go.S
namespace Go.S
theorem Tn {l:List Sg} {k:Nat}(h:¬(sg l k).1=rowAt l k\/lI (sg l k).1 (sg l k).2.1 (sg l k).2.2.1 (sg l k).2.2.2=false):tv l k=false :=by
 grind[tv]
theorem Wu {l:List Sg} {k:Nat}(h:(sg l k).1=rowAt l k/\lI (sg l k).1 (sg l k).2.1 (sg l k).2.2.1 (sg l k).2.2.2=true):tv l k=true :=by
 grind[tv,decide_eq_true]
end Go.S

end
section
namespace Go.S
def uu(e:bx):Bool:=decide ((200:Int)<e.1.length) || decide ((200:Int)<e.2.length)
def hX(d:List bx):Bool:=d.any uu || decide ((100:Int)<d.length)
def zF(d:List bx)(k:Nat):Prop :=(∀e∈d.take k,uu e=false)/\k<=d.length
def pg(docs:List B8):Bool:=docs.any (fun b=>decide ((2500:Int)<b.length)) || decide ((40:Int)<docs.length)
def zG(docs:List B8)(k:Nat):Prop :=(∀b∈docs.take k,b.length<=2500)/\k<=docs.length
theorem aIu(d:List bx):zF d 0:=⟨z!,K! _⟩
theorem take_one {α:Type}(l:List α)(k:Nat)(x:α)(hk:k<l.length):l.take (k+1)=l.take k++ [l.getD k x]:=by
 simp_all
theorem ai1 {d:List bx} {k:Nat}(h:zF d k)(hk:(k:Int)<d.length)(he:uu (d.getD k ([],[]))=false):zF d (k+1):=by
 refine⟨fun e hm=> ?_,w!⟩;rw [take_one d k ([],[]) w!,F!] at hm;rcases hm with hm|hm
 . exact h.1 e hm
 grind
theorem aqX {d:List bx} {k:Nat}(hk:(k:Int)<d.length)(he:uu (d.getD k ([],[]))=true):true=hX d:=by
 grind[hX]
theorem aqY {d:List bx} {k:Nat}(h:zF d k)(hk:¬(k:Int)<d.length):decide ((100:Int)<d.length)=hX d:=by
 unfold hX
 have :d.any uu=false :=by
  rw [List.any_eq_false];intro e he;have :=h.1 e (by grind[List.take_of_length_le]);grind
 grind
theorem Wv {d:List bx}(h:hX d=false):d.length<=100/\∀e∈d,e.1.length<=200/\e.2.length<=200:=by
 unfold hX at h;rw [Bool.or_eq_false_iff,decide_eq_false_iff_not,List.any_eq_false] at h;refine⟨w!,fun e he=> ?_⟩;have :=h.1 e he;simp [uu,Bool.or_eq_true,decide_eq_true_eq,not_or] at this;omega
theorem aIv(d:List B8):zG d 0:=⟨z!,K! _⟩
theorem ai2 {d:List B8} {k:Nat}(h:zG d k)(hk:(k:Int)<d.length)(he:¬(2500:Int)<(d.getD k []).length):zG d (k+1):=by
 refine⟨fun e hm=> ?_,w!⟩;rw [take_one d k [] w!,F!] at hm;rcases hm with hm|hm
 . exact h.1 e hm
 grind
theorem aqZ {d:List B8} {k:Nat}(hk:(k:Int)<d.length)(he:(2500:Int)<(d.getD k []).length):true=pg d:=by
 grind[pg]
theorem aq0 {d:List B8} {k:Nat}(h:zG d k)(hk:¬(k:Int)<d.length):decide ((40:Int)<d.length)=pg d:=by
 unfold pg
 have :d.any (fun b=>decide ((2500:Int)<b.length))=false :=by
  rw [List.any_eq_false];intro e he;have :=h.1 e (by grind[List.take_of_length_le]);grind
 grind
end Go.S

end
section
namespace Go.S
theorem qd {docs:List B8} {f t:Int}(h:dn docs f t=true):gq docs f t:=by
 simp [dn,c8,Bool.and_eq_true,List.all_eq_true,decide_eq_true_eq] at h;obtain⟨⟨h1,h2,h3,h4,h5⟩,h6⟩:=h;exact⟨h3,h4,h5,w!,fun d hd=>by grind⟩
theorem To(a b:Int)(d:List bx):xu a b d a b d=true :=by simp [xu]
theorem Å {a b:Int} {d:List bx}(h:dQ a b d=true):ry a b d=((a,b,(d.length:Int)+1,nU d),0):=by grind[ry]
theorem xv(a b:Int)(d:List bx):NF a b d=(a,b,(d.length:Int)+1,nU d):=by simp [NF,dh,e6]
end Go.S
namespace Go.S
theorem eX(l:List B8):cz (leaves l)=true :=by
 rw [cL];intro d hd;simp [leaves,e?] at hd;obtain⟨b,_,rfl⟩:=hd;rfl
theorem ai3 {a b:Int} {d:List bx}(h:dQ a b d=true)(hp:aQ d):lI a b ((d.length:Int)+1) (nU d)=true :=by
 have hw:jA a b=true :=by
  simp_all[dQ,B!]
 have hr:(nU d).length=32:=rY (eX (dh d));unfold lI;rw [hw,hr];have :=hp.1;grind
end Go.S

end
section
namespace Go.S
theorem I8:∀(l acc:List Int),∀W∈lV acc l,W≠ []
 | [],acc,W,hW=>by
   grind[lV]
 |x::l,acc,W,hW=>by
  simp [lV] at hW;split at hW
  . exact I8 l _ W hW
  . split at hW
    . exact I8 l _ W hW
    . rename_i h;rcases P!.1 hW with e|hW
      . subst e;intro e;rw [e] at h;exact h rfl
      . exact I8 l _ W hW
theorem Tp {b t:B8}(h:t∈aY b):isTerm t=true :=by
 rw [<-vY];simp [aY,e?] at h;obtain⟨W,hW,hs⟩:=h;have aM:=Ey (decode b) [] z! W hW;have gI:=I8 (decode b) [] W hW
 have hrW:∀c∈W,bR (bc c)=true :=fun c hc=>xn (nH b c (by
  grind))
 have hlen:t.length<=64:=by rw [<-hs];exact AU W [] z!
 obtain⟨p,hp,hpf,hpn⟩:∃p:List Int,(∀c∈p,c∈W)/\k9 [] W=p.flatMap (fun c=>fV (bc c))/\p≠ []:=by
  cases W with
  |nil=>grind
  |cons c w=>
   obtain⟨p,h1,h2⟩:=zn w ([]++fV (bc c));have hl:(fV (bc c)).length<=4:=by grind[EA,zl]
   refine⟨c::p,fun x hx=> ?_,?_,z!⟩
   . grind
   grind[k9,List.length_nil]
 have hr:∀c∈p,bR (bc c)=true :=fun c hc=>hrW c (hp c hc)
 have U7:t=(p.map bc).flatMap enc:=by
  rw [<-hs];show k9 [] W=_
  grind[List.flatMap_map,ui,EA]
 have hd:decode t=p.map bc:=by
  rw [U7]
  exact zm _ (fun c hc=>by
   obtain⟨c',h',rfl⟩:=e?.1 hc;exact hr c' h')
 simp only [oe,B!,H!,W!,zj,hd];refine⟨fun c hc=> ?_,?_,w!⟩
 . obtain⟨c',h',rfl⟩:=e?.1 hc;exact⟨HE (aM c' (hp c' h')).1,Ez c'⟩
 . have :=List.length_pos_iff.2 hpn;simp;omega
end Go.S
namespace Go.S
theorem uv {docs:List B8} {a:Int} {t:B8} {k:Nat} {i:Int}:i∈cm docs a t k↔a<=i/\i<a+(k:Int)/\tj (docs.getD i.toNat []) t=true :=by
 simp [cm,e?,List.mem_filter,x?];constructor
 . grind
 . rintro⟨h1,h2,h3⟩;refine⟨(i-a).toNat,⟨w!,?_⟩,w!⟩;grind
theorem QB(docs:List B8)(a:Int)(t:B8)(k:Nat):(cm docs a t k).Pairwise (· < ·):=by
 refine List.pairwise_map.2 ?_;refine List.Pairwise.filter _ ?_;exact(List.pairwise_lt_range (n:=k)).imp fun {x y} h=>by omega
theorem afm {l:List Int}(h:l.Pairwise (· < ·))(hb:∀x∈l,0<=x/\x<1000):bK l=true :=by
 rw [mo];intro i hi;rw [mq];have hm:=hb _ (bq l i 0 hi);refine⟨?_,hm.2⟩;cases i with
 |zero=>simp only [fW,R!];omega
 |succ i=>
  rw [oG];have :=(List.pairwise_iff_getElem.1 h) i (i+1) w! hi w!;rw [I!,I!,E! hi,E! (show i<l.length by omega)];exact this
theorem A3(docs:List B8)(a b:Int):(make docs a b).length=(cE docs a b).length:=by simp [make]
theorem QC {docs:List B8} {a b:Int} {i:Nat}(h:i<(cE docs a b).length):bV (make docs a b) i=(cE docs a b).getD i []:=by
 unfold bV make;rw [List.getD_eq_getElem?_getD,List.getElem?_map,List.getElem?_eq_getElem h,List.getD_eq_getElem?_getD,List.getElem?_eq_getElem h];rfl
theorem QD {docs:List B8} {a b:Int} {i:Nat}(h:i<(cE docs a b).length):fI (make docs a b) i=cm docs a ((cE docs a b).getD i []) (b-a).toNat:=by
 unfold fI make;rw [List.getD_eq_getElem?_getD,List.getElem?_map,List.getElem?_eq_getElem h,List.getD_eq_getElem?_getD,List.getElem?_eq_getElem h];rfl
theorem rb {docs:List B8} {a b:Int} {t:B8}:t∈cE docs a b↔cm docs a t (b-a).toNat≠ []:=by
 grind[cE,gR,C1]
theorem zH {docs:List B8} {a b:Int}(hp:gq docs a b):aI (make docs a b)=true :=by
 rw [uk];intro i hi;rw [A3] at hi;rw [qX,QC hi,QD hi];have hm:=bq (cE docs a b) i [] hi;have gI:=rb.1 hm;have h1:=hp.1;have h3:=hp.2.2.1;have h4:=hp.2.2.2.1;refine⟨?_,?_,?_,?_⟩
 . by_cases h0:i=0
   . omega
   right;rw [QC w!];have Vk:pC (cE docs a b):=mX _;have :=(List.pairwise_iff_getElem.1 Vk) (i-1) i w! hi w!;rw [ED,I!,I!,E! hi,E! (show i-1<(cE docs a b).length by omega)];simpa using this
 . grind
 . grind[afm,QB,uv]
 . obtain⟨x,hx⟩:=List.exists_mem_of_ne_nil _ gI;grind[uv,Tp,wb]
theorem Ww {docs:List B8} {a b:Int}(hp:gq docs a b)(hn:(cE docs a b).length<=1048576):aQ (make docs a b):=by
 refine⟨by grind[A3],fun e he=> ?_⟩;simp [make,List.mem_map] at he;obtain⟨t,ht,rfl⟩:=he;obtain⟨x,hx⟩:=List.exists_mem_of_ne_nil _ (rb.1 ht);grind[Tp,wb,uv,zw]
end Go.S

end
section
namespace Go.S
end Go.S
namespace Go.S
end Go.S
namespace Go.S
theorem ai4 {docs:List B8} {a b:Int}(hp:gq docs a b)(mE:a<b):dQ a b (make docs a b)=true :=by
 have h1:=hp.1;have h2:=hp.2.2.1;have h3:=hp.2.2.2.1;unfold dQ;rw [zH hp]
 have hw:jA a b=true :=by
  unfold jA;simp;omega
 rw [hw,Bool.true_and,Bool.true_and,List.all_eq_true];intro i hi;rw [List.mem_range] at hi;have hr:=(qX _ _).1 ((uk _).1 (zH hp) i hi);unfold Lq;rw [decide_eq_true_eq];have h:=(aqS hr.2.2.1 hr.2.1 (a:=a) (b:=b)).2 ?_
 . omega
 . rw [A3] at hi
   have hd:∀x∈fI (make docs a b) i,a<=x/\x<b:=fun x hx=>by
    rw [QD hi] at hx;have :=uv.1 hx;omega
   exact⟨(hd _ (bq _ 0 0 w!)).1,(hd _ (bq _ _ 0 w!)).2⟩
end Go.S

end
section
namespace Go.S
theorem QE {n:Nat}(h:n<=64)(r:B8):first (num (n:Int)++r)=((n:Int),1,0):=by
 have e:num (n:Int)= [UInt8.ofNat n]:=Er n w!;have hn:(UInt8.ofNat n).toNat=n:=by grind[UInt8.toNat_ofNat']
 have hl:lead (num (n:Int)++r)=0:=by
  grind[lead,List.singleton_append,List.takeWhile,decide,decide_eq_false]
 grind[first,dx,List.take,UInt8.ofNat]
theorem B4 {a:B8}(h:a.length<=64)(r:B8):aA (text a++r) 64=(a,1+(a.length:Int),0):=by
 have e:text a++r=num (a.length:Int)++(a++r):=by simp [text]
 have el:num (a.length:Int)= [UInt8.ofNat a.length]:=Er _ w!;have hf:=QE (n:=a.length) h (a++r);unfold aA;rw [e,hf,if_neg z!,if_neg w!,if_neg x!];simp [el]
theorem ai5 {a:B8}(h:a.length<=64):(text a).length=1+a.length:=by
 grind[num,UInt8.ofNat,Er,text]
theorem Wx {b:B8}(h:(first b).2.2=0):num (first b).1=b.take (first b).2.1.toNat/\(first b).2.1<=b.length:=by
 unfold first at h |-
 split at h
 . cases h
 . rename_i h1;split at h
   . cases h
   . rename_i h2;split at h
     . cases h
     . rename_i h3;rw [N! h1,N! h2,N! h3];have q:lead b<=b.length:=List.Sublist.length_le (List.takeWhile_sublist _);refine⟨?_,by simp;omega⟩;have :num (dx (b.take (lead b+1)))=b.take (lead b+1):=L? fun e=>h3 (.inr e);congr 1
theorem Tq {a b c:B8}(h:fp a b c=true):bw (e9 a b c)=((a,b,c),0):=by
 simp [fp,B!,H!] at h;rw [Gp];have h1:=B4 (a:=a) w! (text b++c);have h2:=B4 (a:=b) w! c;have l1:=ai5 (a:=a) w!;have l2:=ai5 (a:=b) w!;have hB:e9 a b c=text a++(text b++c):=by simp [e9]
 have d1:(text a++(text b++c)).drop (1+(a.length:Int)).toNat=text b++c:=by
  rw [show(1+(a.length:Int)).toNat=(text a).length by omega];simp
 have d2:(text a++(text b++c)).drop (1+(a.length:Int)+(1+(b.length:Int))).toNat=c:=by
  rw [show(1+(a.length:Int)+(1+(b.length:Int))).toNat=(text a).length+(text b).length by omega,<-O?];simp
 unfold eO;rw [hB,h1,if_neg z!];simp only [d1,h2,d2];rw [if_neg z!,if_neg w!,if_neg w!]
end Go.S
namespace Go.S
end Go.S
namespace Go.S
end Go.S
namespace Go.S
end Go.S

end
section
namespace Go.S
abbrev ax:=Int×Int×List bx
def ao(l:List ax)(i:Nat):ax:=l.getD i (0,0,[])
def dT(d:List bx):List B8:=d.map (·.1)
def HQ(l:List ax):List B8:=l.flatMap fun s=>dT s.2.2
def uT(l:List ax):List B8:=sorted (HQ l)
def r5(t:B8)(d:List bx):List Int:=(d.filter fun e=>decide (e.1=t)).flatMap (·.2)
def rz(l:List ax)(t:B8):List Int:=l.flatMap fun s=>r5 t s.2.2
def c9(l:List ax)(k:Nat):List bx:=((uT l).take k).map fun t=>(t,rz l t)
def qB(l:List ax):List bx:=(uT l).map fun t=>(t,rz l t)
def cP(l:List ax)(k:Nat)(s:ax):Int:=(((dT s.2.2).filter fun t=>decide (t∈(uT l).take k)).length:Nat)
def aC(l:List ax)(k:Nat):List Int:=l.map (cP l k)
def bu(l:List ax)(k i:Nat):List Int:=(aC l (k+1)).take i++(aC l k).drop i
def dS(l:List ax)(nx:List Int):Nat->Int
 |0=> -1
 |i+1=>if nx.getD i 0=((ao l i).2.2.length:Int) then dS l nx i
  else if dS l nx i<0\/Op.bytesLess (bV (ao l i).2.2 (nx.getD i 0).toNat) (bV (ao l (dS l nx i).toNat).2.2 (nx.getD (dS l nx i).toNat 0).toNat)=true then(i:Int)
  else dS l nx i
def re(l:List ax):Prop :=l.length<=1000/\∀s∈l,aI s.2.2=true/\s.2.2.length<=1048576
def lu(s:ax):Bool:=dQ s.1 s.2.1 s.2.2
def Lu(l:List ax)(i:Nat):Bool:=decide ((ao l (i+1)).1=(ao l i).2.1)
def EG(l:List ax):Bool:=(List.range (l.length-1)).all (Lu l)
def wc(l:List ax):Prop :=l.length<=1000/\∀s∈l,aQ s.2.2
def eR(l:List ax):(Int×Int×List bx)×Int:=
 if l.length=0 then((0,0,[]),1)
 else if l.all lu=false then((0,0,[]),1)
 else if EG l=false then((0,0,[]),7)
 else(((ao l 0).1,(ao l (l.length-1)).2.1,qB l),0)
theorem HR {P:B8->Bool}:∀ {l:List B8},pC l->(∀x∈l,∀y∈l,Op.bytesLess x y=true->P y=true->P x=true)->
  l.take (l.filter P).length=l.filter P/\l.drop (l.filter P).length=l.filter fun x=> !P x
 | [],_,_=>⟨rfl,rfl⟩
 |x::l,h,hP=>by
  have h1:=W?.1 h;have ih:=HR (l:=l) h1.2 fun a ha b hb=>hP a (G! _ ha) b (G! _ hb);cases hx:P x with
  |true=>
   grind
  |false=>
   grind[List.mem_cons_self,List.mem_cons_of_mem,List.filter_eq_nil_iff,List.filter_eq_self]
theorem C2 {T:List B8}(h:pC T)(k:Nat) {x y:B8}(hx:x∈T)(hxy:Op.bytesLess x y=true)(hy:y∈T.take k):x∈T.take k:=by
 grind[List.take_append_drop,pC,mW]
theorem uw(d:List bx):(dT d).length=d.length:=by simp [dT]
theorem I9(d:List bx)(i:Nat):(dT d).getD i []=bV d i:=by
 grind[dT,bV]
theorem afn {a b:B8}(h:Gm a b=false):Op.bytesLess b a=true :=by
 grind[Gm,Bool.or_eq_false_iff,decide_eq_false_iff_not,jz,absurd]
theorem kL {d:List bx}(h:aI d=true):pC (dT d):=by
 have hs:∀n i,i<n->n<d.length->Op.bytesLess (bV d i) (bV d n)=true :=by
  intro n;induction n with
  |zero=>omega
  |succ n ih=>
   grind[qX,uk,afn,mV]
 unfold pC;grind[List.pairwise_iff_getElem,dT,bV,I9,List.getElem?_eq_getElem,uw]
theorem Gr {l:List ax} {s:ax}(hs:s∈l) {t:B8}(ht:t∈dT s.2.2):t∈uT l:=by
 grind[uT,gR,HQ]
theorem zI(l:List ax):pC (uT l):=mX _
theorem Tr {l:List ax} {s:ax}(hs:s∈l)(hd:aI s.2.2=true)(k:Nat):
  (dT s.2.2).take (cP l k s).toNat=(dT s.2.2).filter (fun t=>decide (t∈(uT l).take k))/\(dT s.2.2).drop (cP l k s).toNat=(dT s.2.2).filter fun t=> !decide (t∈(uT l).take k):=by
 have :=HR (P:=fun t=>decide (t∈(uT l).take k)) (kL hd) fun x hx y hy hxy hPy=>by
  grind[C2,zI,Gr]
 grind[cP,Int.toNat_natCast]
theorem A4(l:List ax)(k:Nat)(s:ax):0<=cP l k s/\cP l k s<=s.2.2.length:=by
 grind[cP,List.length_filter_le,decide,uT,dT,uw]
theorem QF {l:List ax} {s:ax}(hs:s∈l)(hd:aI s.2.2=true) {k:Nat}(h:cP l k s<s.2.2.length):
  bV s.2.2 (cP l k s).toNat∈dT s.2.2/\bV s.2.2 (cP l k s).toNat∈uT l/\bV s.2.2 (cP l k s).toNat∉(uT l).take k/\∀t∈dT s.2.2,t∉(uT l).take k->t=bV s.2.2 (cP l k s).toNat\/Op.bytesLess (bV s.2.2 (cP l k s).toNat) t=true :=by
 have h0:=A4 l k s;have hc:=(Tr hs hd k).2;have hn:(cP l k s).toNat<(dT s.2.2).length:=by grind[uw]
 have aLj:(dT s.2.2).drop (cP l k s).toNat=bV s.2.2 (cP l k s).toNat::(dT s.2.2).drop ((cP l k s).toNat+1):=by
  rw [<-I9,I!,E! hn];simp_all
 have hm:bV s.2.2 (cP l k s).toNat∈(dT s.2.2).filter fun t=> !decide (t∈(uT l).take k):=by
  grind
 simp at hm;refine⟨hm.1,Gr hs hm.1,hm.2,fun t ht hk=> ?_⟩;grind[pC,dT,cP,kL,List.drop_sublist,List.pairwise_cons]
theorem afo {l:List ax} {s:ax}(hs:s∈l) {k:Nat}(h:∀t∈dT s.2.2,t∈(uT l).take k):cP l k s=s.2.2.length:=by
 grind[cP,List.filter_eq_self,uw]
theorem mu {T:List B8} {k:Nat}(hk:k<T.length)(t:B8):t∈T.take (k+1)↔t∈T.take k\/t=T.getD k []:=tu hk t
theorem QG {l:List ax} {k:Nat}(hk:k<(uT l).length):(uT l).getD k []∉(uT l).take k:=HO (zD (zI l)) hk
theorem Wy {ts:List B8}(h:pC ts) {T:List B8} {k:Nat}(hk:k<T.length)(hn:T.getD k []∉T.take k):
  (ts.filter fun t=>decide (t∈T.take (k+1))).length=(ts.filter fun t=>decide (t∈T.take k)).length+(if T.getD k []∈ts then 1 else 0):=by
 induction ts with
 |nil=>simp
 |cons x r ih=>
  have h1:=W?.1 h
  have hx:T.getD k []=x->T.getD k []∉r:=fun e hr=>by
   grind[cD]
  have ih:=ih h1.2;simp [List.filter_cons,mu hk,decide_eq_true_eq,List.mem_cons] at ih |-;grind
def hit(l:List ax)(k:Nat)(s:ax):Prop :=cP l k s<s.2.2.length/\bV s.2.2 (cP l k s).toNat=(uT l).getD k []
theorem Lv {l:List ax} {s:ax}(hs:s∈l)(hd:aI s.2.2=true) {k:Nat}(hk:k<(uT l).length):hit l k s↔(uT l).getD k []∈dT s.2.2:=by
 constructor
 . rintro⟨h1,h2⟩;grind[QF]
 . intro hm
   have kU:cP l k s<s.2.2.length:=by
    by_cases h:cP l k s<s.2.2.length
    . exact h
    . have hc:=(Tr hs hd k).2;rw [List.drop_eq_nil_of_le (by grind[uw])] at hc
      have :(uT l).getD k []∈(dT s.2.2).filter fun t=> !decide (t∈(uT l).take k):=by
       grind[decide_eq_false,QG]
      grind
   refine⟨kU,?_⟩;obtain⟨h1,h2,h3,h4⟩:=QF hs hd kU;rcases h4 _ hm (QG hk) with h5|h5
   . grind
   . exfalso;apply h3;refine(mu hk _).1 (C2 (zI l) (k+1) h2 h5 ((mu hk _).2 (.inr rfl))) |>.resolve_right fun e=> ?_;grind[cD]
theorem OL {l:List ax} {s:ax}(hs:s∈l)(hd:aI s.2.2=true) {k:Nat}(hk:k<(uT l).length):
  (hit l k s->cP l (k+1) s=cP l k s+1)/\(¬hit l k s->cP l (k+1) s=cP l k s):=by
 have :=Wy (kL hd) hk (QG hk);simp_all[cP,Lv,R!,N!]
theorem tw {t:B8} {d:List bx}(h:t∉dT d):r5 t d= []:=by
 have :d.filter (fun e=>decide (e.1=t))= []:=by
  rw [List.filter_eq_nil_iff];intro e he;simp;intro e2;exact h (by rw [<-e2];exact e?.2 ⟨e,he,rfl⟩)
 grind[r5]
theorem sk:∀ {d:List bx},pC (dT d)->∀ {i:Nat},i<d.length->r5 (bV d i) d=fI d i
 | [],_,i,hi=>by rfl
 |e::d,h,0,_=>by
  have h1:=List.pairwise_cons.1 h;have hn:e.1∉dT d:=fun hm=>by have :=h1.1 _ hm;grind[cD]
  have :=tw hn;grind[r5,bV,fI]
 |e::d,h,i+1,hi=>by
  have h1:=W?.1 h
  have hm:bV d i∈dT d:=by
   rw [<-I9,List.getD_eq_getElem?_getD,List.getElem?_eq_getElem (by grind[uw])];grind
  have gI:¬e.1=bV d i:=fun he=>by have h5:=h1.1 _ hm;grind[cD]
  have ih:=sk (d:=d) h1.2 (i:=i) x!;have e1:bV (e::d) (i+1)=bV d i:=rfl;have e2:fI (e::d) (i+1)=fI d i:=rfl;simp_all[r5,List.filter_cons,decide_eq_true_eq,if_neg]
end Go.S

end
section
namespace Go.S
theorem hY {l:List ax} {i:Nat}(h:i<l.length):ao l i∈l:=bq l i _ h
theorem kq {l:List ax} {k i:Nat}(h:i<l.length):(aC l k).getD i 0=cP l k (ao l i):=by
 grind[aC,ao,List.getElem?_eq_getElem]
theorem jn(l:List ax)(k:Nat):(aC l k).length=l.length:=by simp [aC]
theorem Ja {l:List ax}(k:Nat):∀i,i<=l.length->
  (dS l (aC l k) i= -1/\∀j,j<i->cP l k (ao l j)=(ao l j).2.2.length)\/
  (∃q:Nat,dS l (aC l k) i=q/\q<i/\cP l k (ao l q)<(ao l q).2.2.length/\∀j,j<i->cP l k (ao l j)<(ao l j).2.2.length->
    Op.bytesLess (bV (ao l j).2.2 (cP l k (ao l j)).toNat) (bV (ao l q).2.2 (cP l k (ao l q)).toNat)=false)
 |0,_=> .inl ⟨rfl,fun j hj=>by omega⟩
 |i+1,hi=>by
  have ih:=Ja (l:=l) k i w!;have h0:=A4 l k (ao l i);simp only [dS];rw [kq (k:=k) (show i<l.length by omega)];by_cases he:cP l k (ao l i)=((ao l i).2.2.length:Int)
  . rw [R! he];rcases ih with⟨h1,h2⟩|⟨q,h1,h2,h3,h4⟩
    . refine .inl ⟨h1,fun j hj=> ?_⟩;by_cases e:j=i
      . rw [e];exact he
      . exact h2 j w!
    . refine .inr ⟨q,h1,w!,h3,fun j hj zJ=> ?_⟩;by_cases e:j=i
      . rw [e] at zJ;omega
      . exact h4 j w! zJ
  . rw [N! he];rcases ih with⟨h1,h2⟩|⟨q,h1,h2,h3,h4⟩
    . rw [R! (Or.inl (by rw [h1];decide))];refine .inr ⟨i,rfl,w!,w!,fun j hj zJ=> ?_⟩;by_cases e:j=i
      . rw [e];exact cD _
      . have :=h2 j w!;omega
    . rw [h1];have e1:((q:Int)).toNat=q:=V! q;rw [e1,kq (k:=k) (show q<l.length by omega)];cases hb:Op.bytesLess (bV (ao l i).2.2 (cP l k (ao l i)).toNat) (bV (ao l q).2.2 (cP l k (ao l q)).toNat) with
      |true=>
       refine .inr ⟨i,rfl,w!,w!,fun j hj zJ=> ?_⟩;by_cases e:j=i
       . rw [e];exact cD _
       . have h5:=h4 j w! zJ;cases hc:Op.bytesLess (bV (ao l j).2.2 (cP l k (ao l j)).toNat) (bV (ao l i).2.2 (cP l k (ao l i)).toNat) with
         |false=>rfl
         |true=>rw [mV _ _ _ hc hb] at h5;cases h5
      |false=>
       refine .inr ⟨q,rfl,w!,h3,fun j hj zJ=> ?_⟩;by_cases e:j=i
       . rw [e];exact hb
       . exact h4 j w! zJ
theorem aBN {l:List ax} {t:B8}(h:t∈uT l):∃j,j<l.length/\t∈dT (ao l j).2.2:=by
 rw [uT,gR,HQ,List.mem_flatMap] at h;obtain⟨s,hs,ht⟩:=h;obtain⟨j,hj,rfl⟩:=List.mem_iff_getElem.1 hs;refine⟨j,hj,?_⟩;grind[ao,List.getElem?_eq_getElem]
theorem QH {T:List B8} {k:Nat}(hk:k<T.length):T.getD k []∈T:=bq T k [] hk
theorem OM {l:List ax}(hp:re l) {k:Nat}(hk:k<(uT l).length):
  ∃q:Nat,dS l (aC l k) l.length=q/\q<l.length/\cP l k (ao l q)<(ao l q).2.2.length/\bV (ao l q).2.2 (cP l k (ao l q)).toNat=(uT l).getD k []:=by
 obtain⟨j,hj,hjt⟩:=aBN (QH hk);have hsj:=hY hj;obtain⟨h1,h2⟩:=(Lv hsj (hp.2 _ hsj).1 hk).2 hjt;rcases Ja (l:=l) k l.length (O! _) with⟨_,h4⟩|⟨q,h3,h4,h5,h6⟩
 . have :=h4 j hj;omega
 . refine⟨q,h3,h4,h5,?_⟩;have h7:=h6 j hj h1;rw [h2] at h7;have hsq:=hY h4;obtain⟨g1,g2,g3,_⟩:=QF hsq (hp.2 _ hsq).1 h5;rcases jz ((uT l).getD k []) (bV (ao l q).2.2 (cP l k (ao l q)).toNat) with h8|h8|h8
   . rw [h7] at h8;cases h8
   . exact h8.symm
   . exfalso;apply g3;refine(mu hk _).1 (C2 (zI l) (k+1) g2 h8 ((mu hk _).2 (.inr rfl))) |>.resolve_right fun e=> ?_;rw [e,cD] at h8;cases h8
theorem afp {l:List ax} {k:Nat}(hk:(uT l).length<=k):dS l (aC l k) l.length= -1:=by
 rcases Ja (l:=l) k l.length (O! _) with⟨h,_⟩|⟨q,h3,h4,h5,h6⟩
 . exact h
 grind[hY,afo,List.take_of_length_le,Gr]
theorem Ts {l:List ax}(hp:re l)(k:Nat):dS l (aC l k) l.length<0↔(uT l).length<=k:=by
 grind[OM,afp]
def dI(l:List ax)(t:B8)(i:Nat):List Int:=rz (l.take i) t
theorem ai6(l:List ax)(k i:Nat)(h:i<=l.length):(bu l k i).length=l.length:=by
 grind[bu,List.length_append,List.length_take,List.length_drop,jn]
theorem aBO(l:List ax)(k:Nat):aC l k=bu l k 0:=by rfl
theorem ai7 {l:List ax} {k:Nat}:bu l k l.length=aC l (k+1):=by
 simp_all[bu,J?,jn,O!,N?,A?]
theorem Lw {l:List ax} {k i:Nat}(h:i<l.length):(bu l k i).getD i 0=cP l k (ao l i):=by
 rw [<-kq h];grind[aC,List.length_take,jn,bu,List.getElem?_append_right]
theorem afq {l:List ax} {k i:Nat}(h:i<l.length)(he:cP l (k+1) (ao l i)=cP l k (ao l i)):bu l k i=bu l k (i+1):=by
 have e1:(aC l (k+1)).take (i+1)=(aC l (k+1)).take i++ [cP l (k+1) (ao l i)]:=by
  rw [ar _ i 0 (by grind[jn]),kq h]
 have hn:i<(aC l k).length:=by grind[jn]
 have e2:(aC l k).drop i=cP l k (ao l i)::(aC l k).drop (i+1):=by
  rw [l? hn];rw [<-kq (k:=k) h,I!,E! hn];rfl
 grind[bu,List.append_assoc]
theorem ai8 {l:List ax} {k i:Nat}(h:i<l.length)(he:cP l (k+1) (ao l i)=cP l k (ao l i)+1):(bu l k i).set i (cP l k (ao l i)+1)=bu l k (i+1):=by
 have hn:i<(aC l k).length:=by grind[jn]
 have e1:(aC l (k+1)).take (i+1)=(aC l (k+1)).take i++ [cP l (k+1) (ao l i)]:=by
  rw [ar _ i 0 (by grind[jn]),kq h]
 have e2:(aC l k).drop i=cP l k (ao l i)::(aC l k).drop (i+1):=by
  rw [l? hn];rw [<-kq (k:=k) h,I!,E! hn];rfl
 have hl:((aC l (k+1)).take i).length=i:=by rw [X!,jn];omega
 simp_all[bu,U!,List.set_append_right,Nat.sub_self]
theorem Wz(l:List ax)(t:B8):dI l t l.length=rz l t:=by simp [dI]
theorem zK {l:List ax} {t:B8} {i:Nat}(h:i<l.length):dI l t (i+1)=dI l t i++r5 t (ao l i).2.2:=by
 have :l.take (i+1)=l.take i++ [ao l i]:=ar l i _ h;grind[dI,rz]
theorem WA {l:List ax}(hp:re l) {k i:Nat}(hk:k<(uT l).length)(hi:i<l.length)(h1:cP l k (ao l i)<(ao l i).2.2.length)(h2:bV (ao l i).2.2 (cP l k (ao l i)).toNat=(uT l).getD k []):
  dI l ((uT l).getD k []) i++fI (ao l i).2.2 (cP l k (ao l i)).toNat=dI l ((uT l).getD k []) (i+1)/\(bu l k i).set i (cP l k (ao l i)+1)=bu l k (i+1):=by
 have hs:=hY hi;have hd:=(hp.2 _ hs).1;have h0:=A4 l k (ao l i);refine⟨?_,ai8 hi ((OL hs hd hk).1 ⟨h1,h2⟩)⟩;grind[zK,sk,kL]
theorem Tt {l:List ax}(hp:re l) {k i:Nat}(hk:k<(uT l).length)(hi:i<l.length)(h:¬(cP l k (ao l i)<(ao l i).2.2.length/\bV (ao l i).2.2 (cP l k (ao l i)).toNat=(uT l).getD k [])):
  dI l ((uT l).getD k []) i=dI l ((uT l).getD k []) (i+1)/\bu l k i=bu l k (i+1):=by
 have hs:=hY hi;have hd:=(hp.2 _ hs).1;refine⟨?_,afq hi ((OL hs hd hk).2 h)⟩;rw [zK hi,tw (fun hm=>h ((Lv hs hd hk).2 hm)),A?]
theorem Tu {l:List ax} {k:Nat}(hk:k<(uT l).length):c9 l k++ [((uT l).getD k [],rz l ((uT l).getD k []))]=c9 l (k+1):=by
 grind[c9,ar,uT]
theorem WB {l:List ax} {k:Nat}(hk:(uT l).length<=k):c9 l k=qB l:=by
 grind[c9,qB,List.take_of_length_le]
theorem WC(l:List ax)(k:Nat):(c9 l k).length<=k:=by grind[c9]
theorem aq1 {l:List ax}(hp:re l):(uT l).length<=1048576000:=by
 have h1:=mr (HQ l)
 have h2:∀m:List ax,(∀s∈m,s.2.2.length<=1048576)->(HQ m).length<=1048576*m.length:=by
  intro m;induction m with
  |nil=>grind[HQ]
  |cons s m ih=>
   grind[List.mem_cons_of_mem,List.mem_cons_self,HQ,List.length_append,uw,List.length_cons]
 have :=h2 l fun s hs=>(hp.2 s hs).2;have h3:=hp.1;grind[uT]
theorem zL {d:List bx}(h:aI d=true)(t:B8):(r5 t d).length<=1000:=by
 by_cases hm:t∈dT d
 . obtain⟨i,hi,e⟩:=List.mem_iff_getElem.1 hm;have e2:bV d i=t:=by rw [<-I9,I!,E! hi];exact e
   grind[uw,sk,kL,oH,qY]
 grind[tw]
theorem Lx {l:List ax}(hp:re l)(t:B8):∀i,i<=l.length->(dI l t i).length<=1000*i
 |0,_=>by simp [dI,rz]
 |i+1,hi=>by
  rw [zK w!,C!];have :=Lx hp t i w!;have :=zL (hp.2 _ (hY (show i<l.length by omega))).1 t;omega
end Go.S

end
section
namespace Go.S
abbrev Sp:=Int×Int
def gF(l:List Sp)(i:Nat):Sp:=l.getD i (0,0)
def lg(n:Int):Int:=(Nat.log2 n.toNat:Nat)
def mv(a b:Int):Int:=if a<0\/b<0\/b<=a then -1 else lg (b-a)
def oi(l:List Sp)(i:Nat):Int:=mv (gF l i).1 (gF l i).2
def tx(l:List Sp):Nat->Int×Bool
 |0=>(0,false)
 |k+1=>if oi l k<=oi l (k+1) then((k:Int),true) else tx l k
def eC(l:List Sp):Int×Bool:=tx l (l.length-1)
def lQ(l:List Sp)(i:Nat):List Sp:=l.take i++ [((gF l i).1,(gF l (i+1)).2)]++l.drop (i+2)
def nJ:Nat->List Sp->List Sp
 |0,l=>l
 |n+1,l=>if(eC l).2 then nJ n (lQ l (eC l).1.toNat) else l
def jB(l:List Sp):List Sp:=nJ l.length l
def bW(l:List ax):List Sp:=l.map fun s=>(s.1,s.2.1)
def ph(a b:Int)(n:Nat):Prop :=0<=a/\a<b/\1<=n/\(n:Int)<=b-a
def nK(l:List Sp)(k:Nat):Prop :=(k+1<=l.length\/k=0)/\eC l=tx l (l.length-1-k)
theorem aIy {n:Int}(h:n<2):0=lg n:=by
 unfold lg;rw [Nat.log2_def,if_neg w!];rfl
theorem aze {n:Int}(h:2<=n):1+lg (n/2)=lg n:=by
 unfold lg;rw [Nat.log2_def n.toNat,if_pos w!,show(n/2).toNat=n.toNat/2 by omega];omega
theorem azf(n:Int):0<=lg n:=by grind[lg]
theorem ai9(n:Int)(h:0<=n):lg n<=n:=by
 unfold lg;by_cases h0:n.toNat=0
 . rw [h0];simp_all
 . have :=Nat.log2_lt (n:=n.toNat) (k:=n.toNat) h0;grind[Nat.lt_two_pow_self]
theorem Æ(l:List Sp):∀k,0<=(tx l k).1/\((tx l k).2=true->(tx l k).1<k)
 |0=>⟨Int.le_refl _,fun h=>by cases h⟩
 |k+1=>by
  have :=Æ l k;grind[tx]
theorem EH {l:List Sp}(h:(eC l).2=true):0<=(eC l).1/\(eC l).1+1<l.length:=by
 have :=Æ l (l.length-1);grind[eC]
theorem A5 {l:List Sp} {i:Nat}(h:i+1<l.length):(lQ l i).length+1=l.length:=by
 grind[lQ,List.length_append,List.length_take,List.length_drop,List.length_singleton]
theorem WD {l:List Sp}(h:(eC l).2=false):jB l=l:=by
 unfold jB;cases hl:l.length with
 |zero=>rfl
 |succ n=>grind[nJ]
theorem Tv {l:List Sp}(h:(eC l).2=true):jB (lQ l (eC l).1.toNat)=jB l:=by
 have hb:=EH h;have hj:=A5 (l:=l) (i:=(eC l).1.toNat) w!;unfold jB;rw [<-hj];simp_all[nJ,if_true]
end Go.S

end
section
namespace Go.S
def aG(docs:List B8)(l:List Sp):List ax:=l.map fun s=>(s.1,s.2,make docs s.1 s.2)
def dV(l:List ax)(i:Nat):Int:=if i=0 then 0 else(ao l (i-1)).2.1
def iT(docs:List B8)(l:List ax)(i:Nat):Bool:=
 decide ((ao l i).1=dV l i)&&(dn docs (ao l i).1 (ao l i).2.1&&decide ((ao l i).2.2=make docs (ao l i).1 (ao l i).2.1))
def ba(docs:List B8)(l:List ax):Bool:=c8 docs 0 0&&(decide ((l.length:Int)<=64)&&(List.range l.length).all (iT docs l))
def al(docs:List B8)(l:List ax):List B8×List ax:=if ba docs l then(docs,l) else([],[])
def dp(l:List ax):Int:=dV l l.length
def gT(docs:List B8)(l:List ax):Int:=dp (al docs l).2
def cn(docs:List B8)(l:List ax)(doc:B8):(List B8×List ax)×Int:=
 if(2000:Int)<doc.length then(al docs l,1)
 else if(1000:Int)<=(al docs l).1.length then(al docs l,3)
 else(((al docs l).1++ [doc],(al docs l).2),0)
def bo(docs:List B8)(l:List ax):(List B8×List ax)×Int:=
 if gT docs l=(al docs l).1.length then(al docs l,5)
 else if(64:Int)<=(al docs l).2.length then(al docs l,3)
 else(((al docs l).1,(al docs l).2++ [(gT docs l,((al docs l).1.length:Int),make (al docs l).1 (gT docs l) (al docs l).1.length)]),0)
def tz(l:List ax)(i m:Nat)(s:ax):List ax:=l.take i++ [s]++l.drop (i+m)
def we(docs:List B8)(l:List ax)(i m:Nat):ax:=((ao l i).1,(ao l (i+m-1)).2.1,make docs (ao l i).1 (ao l (i+m-1)).2.1)
def B5(l:List ax)(i m:Int):Bool:=decide (m<2) || (decide (i<0) || (decide ((l.length:Int)<m) || decide ((l.length:Int)-m<i)))
def fK(docs:List B8)(l:List ax)(i m:Int):(List B8×List ax)×Int:=
 if B5 (al docs l).2 i m then(al docs l,1)
 else(((al docs l).1,tz (al docs l).2 i.toNat m.toNat (we (al docs l).1 (al docs l).2 i.toNat m.toNat)),0)
def cq(docs:List B8)(l:List ax):List B8×List ax:=((al docs l).1,aG (al docs l).1 (jB (bW (al docs l).2)))
def EI(s:ax):Sg:=NF s.1 s.2.1 s.2.2
def aw(docs:List B8)(l:List ax):List Sg:=(al docs l).2.map EI
def tA(docs:List B8)(l:List ax)(k:Nat):Prop :=c8 docs 0 0=true/\l.length<=64/\(∀i,i<k->iT docs l i=true)/\k<=l.length
def eB(docs:List B8):Int->List Sp->Bool
 |_,[]=>true
 |a,s::r=>decide (s.1=a)&&(dn docs s.1 s.2&&eB docs s.2 r)
def eo:Int->List Sp->Int
 |a,[]=>a
 |_,s::r=>eo s.2 r
theorem qe(docs:List B8):∀(a:Int) (l m:List Sp),eB docs a (l++m)=(eB docs a l&&eB docs (eo a l) m)
 |a,[],m=>by rfl
 |a,s::r,m=>by simp [g?,eB,eo];rw [qe docs s.2 r m,Bool.and_assoc,Bool.and_assoc]
theorem mw:∀(a:Int) (l m:List Sp),eo a (l++m)=eo (eo a l) m
 |_,[],_=>rfl
 |_,s::r,m=>by exact mw s.2 r m
theorem qf {docs:List B8} {a b:Int}(h:dn docs a b=true):a<b/\0<=a/\b<=docs.length/\docs.length<=1000/\∀d∈docs,d.length<=2000:=by
 simp [dn,c8,Bool.and_eq_true,List.all_eq_true,decide_eq_true_eq] at h;grind
theorem wg {docs:List B8} {a b:Int}(h:c8 docs 0 0=true)(h1:0<=a)(h2:a<b)(h3:b<=docs.length):dn docs a b=true :=by
 simp [dn,c8,Bool.and_eq_true,List.all_eq_true,decide_eq_true_eq] at h |-;grind
theorem aja {docs:List B8} {a b:Int}(h:dn docs a b=true):c8 docs 0 0=true :=by
 simp_all[dn,c8,B!,W!,H!,Int.le_refl]
theorem EJ {docs:List B8}:∀ {l:List Sp} {a:Int},eB docs a l=true->a<=eo a l/\(l≠ []->dn docs a (eo a l)=true)/\(eo a l<=docs.length\/l= [])
 | [],a,_=>⟨Int.le_refl _,fun h=>absurd rfl h, .inr rfl⟩
 |s::r,a,h=>by
  simp [eB,Bool.and_eq_true,decide_eq_true_eq] at h;obtain⟨h1,h2,h3⟩:=h;have ih:=EJ h3;have h4:=qf h2;grind[eo,wg,aja]
theorem sm {docs:List B8}:∀ {l:List Sp} {a:Int},eB docs a l=true->∀s∈l,dn docs s.1 s.2=true
 | [],_,_,s,hs=>by grind
 |t::r,a,h,s,hs=>by
  simp [eB,B!,H!] at h;rcases P!.1 hs with rfl|hs
  . exact h.2.1
  . exact sm h.2.2 s hs
theorem Ly:∀(l:List ax),eo 0 (bW l)=dp l:=by
 intro l;unfold dp dV;by_cases h:l.length=0
 . have :l= []:=C? h;subst this;rfl
 . obtain⟨m,s,rfl⟩:∃m s,l=m++ [s]:=⟨l.dropLast,l.getLast x!,(List.dropLast_concat_getLast _).symm⟩
   have e:ao (m++ [s]) ((m++ [s]).length-1)=s:=by
    grind[ao,List.length_append,List.length_singleton,Nat.add_sub_cancel]
   rw [e];simp [bW,s?,V?,List.map_nil];rw [mw];rfl
theorem lC(docs:List B8)(l:List Sp):bW (aG docs l)=l:=by
 simp [bW,aG,List.map_map];have :((fun(s:ax)=>(s.1,s.2.1))∘fun(s:Sp)=>((s.1,s.2,make docs s.1 s.2):ax))=id:=by rfl
 simp_all
theorem ux(docs:List B8)(l m:List Sp):aG docs (l++m)=aG docs l++aG docs m:=by simp [aG]
theorem Lz(l m:List ax):bW (l++m)=bW l++bW m:=by simp [bW]
theorem tB(l:List ax):(bW l).length=l.length:=by simp [bW]
theorem fe(docs:List B8)(l:List Sp):(aG docs l).length=l.length:=by simp [aG]
theorem C3 {l m:List ax} {i:Nat}(h:i<l.length):ao (l++m) i=ao l i:=by
 grind[ao,List.getElem?_append_left]
theorem WE(l:List ax)(s:ax):ao (l++ [s]) l.length=s:=by
 simp_all[ao,I!,List.getElem?_append_right,O!,Nat.sub_self]
theorem Tw {docs:List B8}:∀(n:Nat) (l:List ax),l.length=n->((∀i,i<l.length->iT docs l i=true)↔eB docs 0 (bW l)=true/\l=aG docs (bW l))
 |0,l,h=>by
  have :l= []:=C? h;subst this;exact⟨fun _=>⟨rfl,rfl⟩,fun _ i hi=>by omega⟩
 |n+1,l,h=>by
  obtain⟨m,s,rfl⟩:∃m s,l=m++ [s]:=⟨l.dropLast,l.getLast x!,(List.dropLast_concat_getLast _).symm⟩;have hm:m.length=n:=by grind
  have ih:=Tw (docs:=docs) n m hm
  have e1:∀i,i<m.length->iT docs (m++ [s]) i=iT docs m i:=fun i hi=>by
   have h2:dV (m++ [s]) i=dV m i:=by
    unfold dV;by_cases h0:i=0
    . omega
    . rw [N! h0,N! h0,C3 w!]
   grind[iT,C3]
  have e2:dV (m++ [s]) m.length=dp m:=by
   unfold dp dV;by_cases h0:m.length=0
   . omega
   . rw [N! h0,N! h0,C3 w!]
  have e3:iT docs (m++ [s]) m.length=true↔s.1=dp m/\dn docs s.1 s.2.1=true/\s.2.2=make docs s.1 s.2.1:=by
   grind[iT,WE]
  have e4:eB docs 0 (bW (m++ [s]))=true↔eB docs 0 (bW m)=true/\s.1=dp m/\dn docs s.1 s.2.1=true :=by
   rw [Lz,qe,Ly,B!];simp_all[bW,V?,List.map_nil,eB,Bool.and_true,B!,H!]
  have e5:m++ [s]=aG docs (bW (m++ [s]))↔m=aG docs (bW m)/\s.2.2=make docs s.1 s.2.1:=by
   rw [Lz,ux];constructor
   . intro h;have h5:=List.append_inj h (by rw [fe,tB]);have h6:=h5.2;simp only [aG,bW,List.map_cons,List.map_nil,List.cons.injEq,and_true] at h6;grind
   . rintro⟨h5,h6⟩;congr 1
     simp only [aG,bW,List.map_cons,List.map_nil,List.cons.injEq,and_true];grind
  grind
theorem EK {docs:List B8} {l:List ax}:ba docs l=true↔c8 docs 0 0=true/\l.length<=64/\eB docs 0 (bW l)=true/\l=aG docs (bW l):=by
 unfold ba;rw [Bool.and_eq_true,Bool.and_eq_true,decide_eq_true_eq,List.all_eq_true,<-Tw (docs:=docs) l.length l rfl];grind
theorem QI:ba [] []=true :=by decide
theorem oI(docs:List B8)(l:List ax):ba (al docs l).1 (al docs l).2=true :=by
 unfold al;by_cases h:ba docs l=true
 . grind
 simp_all[N!,QI]
theorem fY {docs:List B8} {l:List ax}(h:ba docs l=true):al docs l=(docs,l):=by simp_all[al,R!]
theorem aBP {docs:List B8} {l:List Sp}(h1:c8 docs 0 0=true)(h2:l.length<=64)(h3:eB docs 0 l=true):ba docs (aG docs l)=true :=
 EK.2 ⟨h1,by grind[fe],by grind[lC],by rw [lC]⟩
end Go.S

end
section
namespace Go.S
theorem Gs:∀(l acc:List Int),2*(lV acc l).length<=l.length+1+(if acc.isEmpty then 0 else 1)
 | [],acc=>by grind[lV]
 |c::l,acc=>by
  simp [lV,F?];by_cases hc:e7 c=true
  . have :=Gs l (acc++ [c]);grind
  . have :=Gs l [];grind
theorem Tx(b:B8):2*(aY b).length<=b.length+1:=by
 have h:=Gs (decode b) [];grind[oC,aY,List.length_map]
theorem ON {docs:List B8}(h:∀d∈docs,d.length<=2000)(a:Int):∀k,(iA docs a k).length<=1000*k
 |0=>by simp [iA]
 |k+1=>by
  rw [<-uq,List.length_append];have :=ON h a k;have h2:=mr (aY (docs.getD (Int.toNat (a+(k:Int))) []));have h3:=Tx (docs.getD (Int.toNat (a+(k:Int))) []);grind
theorem Tz {docs:List B8} {a b:Int}(h:dn docs a b=true):aQ (make docs a b):=by
 have hg:=qf h;grind[Ww,qd,ON,mr,iA,cE]
theorem WG {docs:List B8} {t:B8} {a b c:Int}(h:a<=b)(h2:b<=c):cm docs a t (b-a).toNat++cm docs b t (c-b).toNat=cm docs a t (c-a).toNat:=by
 have e:List.range (c-a).toNat=List.range (b-a).toNat++(List.range (c-b).toNat).map ((b-a).toNat+ ·):=by
  rw [<-List.range_add];congr 1;omega
 simp only [cm];rw [e,List.filter_append,s?,List.filter_map,List.map_map]
 have hq:((fun(i:Nat)=>tj (docs.getD (a+(i:Int)).toNat []) t)∘fun x=>(b-a).toNat+x)=fun(i:Nat)=>tj (docs.getD (b+(i:Int)).toNat []) t:=by
  funext i;simp only [Function.comp];rw [show(a+(((b-a).toNat+i:Nat):Int))=b+(i:Int) by omega]
 rw [hq];simp;omega
theorem TC(docs:List B8)(a b:Int):dT (make docs a b)=cE docs a b:=by
 simp [dT,make,List.map_map];have :((fun(e:bx)=>e.1)∘fun t=>((t,cm docs a t (b-a).toNat):bx))=id:=by rfl
 simp_all
theorem EL {docs:List B8} {a b:Int}(hp:gq docs a b)(t:B8):r5 t (make docs a b)=cm docs a t (b-a).toNat:=by
 by_cases hm:t∈cE docs a b
 . obtain⟨i,hi,e⟩:=List.mem_iff_getElem.1 hm;have e3:bV (make docs a b) i=t:=by grind[QC]
   grind[sk,kL,zH,A3,QD]
 grind[tw,TC,rb]
theorem zM {docs:List B8} {t:B8}:∀ {m:List Sp} {a:Int},eB docs a m=true->rz (aG docs m) t=cm docs a t (eo a m-a).toNat
 | [],a,_=>by grind[rz,aG,eo,cm]
 |s::r,a,h=>by
  simp [eB,B!,H!] at h;obtain⟨h1,h2,h3⟩:=h;have ih:=zM (t:=t) h3;have h4:=qf h2;have h5:=EJ h3;simp [rz,aG,V?,List.flatMap_cons,eo] at ih |-;rw [ih,EL (qd h2),<-h1];exact WG w! h5.1
theorem aq2 {l:List ax} {t:B8}:t∈uT l↔∃s∈l,t∈dT s.2.2:=by
 rw [uT,gR,HQ,List.mem_flatMap]
theorem WH {docs:List B8} {m:List Sp} {a:Int}(h:eB docs a m=true)(hm:m≠ []):qB (aG docs m)=make docs a (eo a m):=by
 have hK:uT (aG docs m)=cE docs a (eo a m):=by
  refine xp _ _ (zI _) (mX _) fun t=> ?_;rw [rb,<-zM h,aq2];constructor
  . rintro⟨s,hs,ht⟩ he;simp only [rz,List.flatMap_eq_nil_iff] at he;have h1:=he s hs;simp only [aG,List.mem_map] at hs;obtain⟨p,hp,rfl⟩:=hs;grind[TC,EL,qd,sm,rb]
  . intro gI;obtain⟨x,hx⟩:=List.exists_mem_of_ne_nil _ gI;grind[rz,dT,tw]
 grind[qB,make,List.map_congr_left,zM]
theorem xw {docs:List B8} {m:List Sp} {a:Int}(h:eB docs a m=true)(hm:m≠ []):(gF m 0).1=a:=by
 cases m with
 |nil=>grind
 |cons s r=>
  simp [eB,B!,H!] at h;exact h.1
theorem EM:∀(m:List Sp) (a:Int),m≠ []->eo a m=(gF m (m.length-1)).2
 | [],_,h=>absurd rfl h
 | [s],a,_=>rfl
 |s::t::r,a,_=>by
  have :=EM (t::r) s.2 z!;simp only [eo,F?,gF] at this |-;rw [this];rfl
theorem xx(docs:List B8)(m:List Sp)(i:Nat)(h:i<m.length):ao (aG docs m) i=((gF m i).1,(gF m i).2,make docs (gF m i).1 (gF m i).2):=by
 simp [ao,aG,gF,I!,P?,E! h,Option.map_some,Option.getD_some]
theorem C4 {docs:List B8}:∀ {m:List Sp} {a:Int},eB docs a m=true->∀i,i+1<m.length->(gF m (i+1)).1=(gF m i).2
 | [],_,_,i,hi=>by rfl
 |s::r,a,h,0,hi=>by
  simp [eB,Bool.and_eq_true,decide_eq_true_eq] at h;have :r≠ []:=by grind
  exact xw h.2.2 this
 |s::r,a,h,i+1,hi=>by
  simp [eB,Bool.and_eq_true,decide_eq_true_eq] at h;exact C4 h.2.2 i x!
theorem ajb {docs:List B8} {m:List Sp} {a:Int}(h:eB docs a m=true)(hl:m.length<=1000):wc (aG docs m):=by
 refine⟨by grind[fe],fun s hs=> ?_⟩;simp only [aG,List.mem_map] at hs;obtain⟨p,hp,rfl⟩:=hs;grind[Tz,sm]
theorem HS {docs:List B8} {m:List Sp} {a:Int}(h:eB docs a m=true):∀s∈aG docs m,lu s=true :=by
 intro s hs;simp only [aG,e?] at hs;obtain⟨p,hp,rfl⟩:=hs;have h1:=sm h p hp;exact ai4 (qd h1) (qf h1).1
theorem ajc {docs:List B8} {m:List Sp} {a:Int}(h:eB docs a m=true)(hm:m≠ []):eR (aG docs m)=((a,eo a m,make docs a (eo a m)),0):=by
 have hl:0<m.length:=List.length_pos_iff.2 hm;unfold eR;rw [fe,if_neg w!];have h1:(aG docs m).all lu=true :=List.all_eq_true.2 (HS h);rw [h1,if_neg (by decide)]
 have h2:EG (aG docs m)=true :=by
  unfold EG;rw [List.all_eq_true];intro i hi;rw [List.mem_range,fe] at hi;simp [Lu,decide_eq_true_eq];grind[xx,C4]
 rw [h2,N! (by decide),xx _ _ _ hl,xx _ _ _ w!,xw h hm,<-EM m a hm,WH h hm]
theorem EN {docs:List B8} {S:List Sp} {i m:Nat}(h:eB docs 0 S=true)(hm:0<m)(hi:i+m<=S.length):
  eB docs (gF S i).1 ((S.drop i).take m)=true/\eo (gF S i).1 ((S.drop i).take m)=(gF S (i+m-1)).2/\(S.drop i).take m≠ []/\
  eB docs 0 (S.take i++ [((gF S i).1,(gF S (i+m-1)).2)]++S.drop (i+m))=true/\eo 0 (S.take i++ [((gF S i).1,(gF S (i+m-1)).2)]++S.drop (i+m))=eo 0 S:=by
 have e:S=S.take i++((S.drop i).take m++S.drop (i+m)):=by
  rw [<-O?,Q?,Q?]
 have hl:((S.drop i).take m).length=m:=by rw [X!,B?];omega
 have gI:(S.drop i).take m≠ []:=by intro e;rw [e] at hl;simp at hl;omega
 have h1:=h;rw [e,qe,qe,B!,B!] at h1;obtain⟨h2,h3,h4⟩:=h1
 have ef:(gF ((S.drop i).take m) 0)=gF S i:=by
  simp [gF,I!];rw [List.getElem?_take_of_lt hm,List.getElem?_drop];rfl
 have el:(gF ((S.drop i).take m) (m-1))=gF S (i+m-1):=by
  simp [gF,I!];rw [List.getElem?_take_of_lt w!,List.getElem?_drop,show i+(m-1)=i+m-1 by omega]
 have h5:=xw h3 gI;rw [ef] at h5;have h6:=EM _ (eo 0 (S.take i)) gI;rw [hl,el] at h6;rw [<-h5] at h3 h4 h6;have h7:=(EJ h3).2.1 gI;rw [h6] at h7 h4;refine⟨h3,h6,gI,?_,?_⟩
 . rw [qe,qe,h2];simp [eB,mw,eo,h4,<-h5,h7,Bool.and_true,decide_true]
 . conv=>rhs;rw [e,mw,mw]
   rw [mw,mw];simp [eo];rw [<-h5,h6]
theorem xy(docs:List B8)(l:List Sp)(i:Nat):(aG docs l).take i=aG docs (l.take i):=by simp [aG,List.map_take]
theorem xz(docs:List B8)(l:List Sp)(i:Nat):(aG docs l).drop i=aG docs (l.drop i):=by simp [aG,List.map_drop]
theorem LA(docs:List B8) {S:List Sp} {i m:Nat}(hm:0<m)(hi:i+m<=S.length):
  tz (aG docs S) i m (we docs (aG docs S) i m)=aG docs (S.take i++ [((gF S i).1,(gF S (i+m-1)).2)]++S.drop (i+m)):=by
 unfold tz we;rw [xy,xz,xx _ _ _ w!,xx _ _ _ w!,ux,ux];rfl
theorem ajd {docs:List B8} {S:List Sp} {i m:Nat}(h:eB docs 0 S=true)(hm:0<m)(hi:i+m<=S.length):
  eR (((aG docs S).drop i).take m)=(we docs (aG docs S) i m,0):=by
 have hc:=EN h hm hi;grind[xz,xy,ajc,we,xx]
theorem aje {docs:List B8} {S:List Sp} {i m:Nat}(h:eB docs 0 S=true)(hm:0<m)(hi:i+m<=S.length)(hl:S.length<=1000):
  wc (((aG docs S).drop i).take m):=by
 have hc:=EN h hm hi;grind[xz,xy,ajb,List.length_take,List.length_drop]
theorem afr {docs:List B8} {S:List Sp}(h:eB docs 0 S=true) {i:Nat}(hi:i+1<S.length):eB docs 0 (lQ S i)=true/\eo 0 (lQ S i)=eo 0 S:=by
 have hc:=EN (m:=2) h w! (by omega :i+2<=S.length);exact⟨hc.2.2.2.1,hc.2.2.2.2⟩
theorem HT {docs:List B8}:∀(n:Nat) {S:List Sp},eB docs 0 S=true->eB docs 0 (nJ n S)=true/\eo 0 (nJ n S)=eo 0 S/\(nJ n S).length<=S.length
 |0,S,h=>⟨h,rfl,O! _⟩
 |n+1,S,h=>by
  simp [nJ];by_cases hb:(eC S).2=true
  . rw [R! hb];have h1:=EH hb;have h2:=afr h (i:=(eC S).1.toNat) w!;have h3:=HT n h2.1;have h4:=A5 (l:=S) (i:=(eC S).1.toNat) w!;exact⟨h3.1,by rw [h3.2.1,h2.2],w!⟩
  grind
end Go.S

end
section
namespace Go.S
abbrev IH:=List B8×List ax
abbrev hZ:=Int×Int×Int×B8
def cF(docs:List B8)(l:List ax)(a b c:Int)(d:B8):IH×Int:=
 if a=0 then cn docs l d else if a=1 then bo docs l else if a=2 then fK docs l b c else(cq docs l,0)
def fm(l:List hZ)(i:Nat):hZ:=l.getD i (0,0,0,[])
def bG(x:IH)(l:List hZ):Nat->IH
 |0=>x
 |k+1=>if(2500:Int)<(fm l k).2.2.2.length then bG x l k else(cF (bG x l k).1 (bG x l k).2 (fm l k).1 (fm l k).2.1 (fm l k).2.2.1 (fm l k).2.2.2).1
def cr(l:List hZ):IH:=bG ([],[]) l (min l.length 40)
def qC(l:List hZ):Nat->Nat
 |0=>0
 |k+1=>if(fm l k).1=1 then qC l k+1 else qC l k
structure RI (docs:List B8) (l:List ax) (S:List Sp):Prop where
 fair:c8 docs 0 0=true
 le:S.length<=64
 row:eB docs 0 S=true
 eq:l=aG docs S
theorem RI.right {docs:List B8} {l:List ax} {S:List Sp}(h:RI docs l S):ba docs l=true :=by
 rw [h.eq];exact aBP h.fair h.le h.row
theorem RI.of {docs:List B8} {l:List ax}(h:ba docs l=true):RI docs l (bW l):=by
 have :=EK.1 h;exact⟨this.1,by grind[tB],this.2.2.1,this.2.2.2⟩
theorem lv(docs:List B8)(l:List ax):RI (al docs l).1 (al docs l).2 (bW (al docs l).2):=RI.of (oI docs l)
theorem RI.QJ {docs:List B8} {l:List ax} {S:List Sp}(h:RI docs l S):dp l=eo 0 S:=by
 rw [<-Ly,h.eq,lC]
theorem RI.bd {docs:List B8} {l:List ax} {S:List Sp}(h:RI docs l S):0<=dp l/\dp l<=docs.length/\docs.length<=1000/\l.length=S.length:=by
 have h1:=EJ h.row;rw [h.QJ]
 have h2:docs.length<=1000:=by
  have :=h.fair;simp [c8,B!,H!] at this;omega
 refine⟨h1.1,?_,h2,by rw [h.eq,fe]⟩;grind[eo]
theorem WI {docs:List B8} {a b:Int}(d:B8)(h0:0<=a)(hb:b<=docs.length):make (docs++ [d]) a b=make docs a b:=by
 have e:∀i:Nat,i<(b-a).toNat->(docs++ [d]).getD (a+(i:Int)).toNat []=docs.getD (a+(i:Int)).toNat []:=fun i hi=>by
  grind
 have e1:∀t,cm (docs++ [d]) a t (b-a).toNat=cm docs a t (b-a).toNat:=fun t=>by
  simp_all[cm,List.filter_congr,x?]
 simp_all[iA,ui,x?,make,cE,k?]
theorem TD {docs:List B8} {d:B8}(h:c8 docs 0 0=true)(hd:(d.length:Int)<=2000)(hl:(docs.length:Int)<1000):c8 (docs++ [d]) 0 0=true :=by
 simp [c8,Bool.and_eq_true,List.all_eq_true,decide_eq_true_eq,List.length_append,List.length_singleton] at h |-;grind
theorem WJ {docs:List B8} {d:B8}(hf:c8 (docs++ [d]) 0 0=true) {S:List Sp} {a:Int}(h:eB docs a S=true):eB (docs++ [d]) a S=true/\aG (docs++ [d]) S=aG docs S:=by
 induction S generalizing a with
 |nil=>exact⟨rfl,rfl⟩
 |cons s r ih=>
  simp [eB,Bool.and_eq_true,decide_eq_true_eq] at h;have h4:=qf h.2.1;grind[dn,wg,eB,decide_eq_true,aG,WI]
theorem RI.snoc {docs:List B8} {l:List ax} {S:List Sp}(h:RI docs l S) {d:B8}(hd:¬(2000:Int)<d.length)(hl:¬(1000:Int)<=docs.length):RI (docs++ [d]) l S:=by
 have hf:=TD h.fair (d:=d) w! w!;have hr:=WJ (d:=d) hf h.row;exact⟨hf,h.le,hr.1,by rw [hr.2];exact h.eq⟩
theorem RI.flush {docs:List B8} {l:List ax} {S:List Sp}(h:RI docs l S)(h1:¬dp l=docs.length)(h2:¬(64:Int)<=l.length):
  RI docs (l++ [(dp l,(docs.length:Int),make docs (dp l) docs.length)]) (S++ [(dp l,(docs.length:Int))])/\dn docs (dp l) docs.length=true :=by
 have hb:=h.bd;have hf:=wg h.fair (a:=dp l) (b:=docs.length) hb.1 w! w!;refine⟨⟨h.fair,x!,?_,?_⟩,hf⟩
 . rw [qe,h.row,<-h.QJ];simp_all[eB,decide_true,Bool.and_true]
 . rw [ux,<-h.eq];rfl
theorem LB {l:List ax} {i m:Int}(h:B5 l i m=false):2<=m/\0<=i/\i+m<=l.length/\i.toNat+m.toNat<=l.length/\0<m.toNat:=by
 grind[B5,Bool.or_eq_false_iff,decide_eq_false_iff_not]
theorem RI.cut {docs:List B8} {l:List ax} {S:List Sp}(h:RI docs l S) {i m:Nat}(hm:0<m)(hi:i+m<=l.length):
  RI docs (tz l i m (we docs l i m)) (S.take i++ [((gF S i).1,(gF S (i+m-1)).2)]++S.drop (i+m))/\eR ((l.drop i).take m)=(we docs l i m,0)/\wc ((l.drop i).take m)/\(tz l i m (we docs l i m)).length+m=l.length+1/\dp (tz l i m (we docs l i m))=dp l:=by
 have hb:=h.bd;have hc:=EN h.row hm (by omega :i+m<=S.length)
 have hl:(S.take i++ [((gF S i).1,(gF S (i+m-1)).2)]++S.drop (i+m)).length+m=S.length+1:=by
  grind
 have hle:=h.le;have e:=LA docs hm (by omega :i+m<=S.length)
 have R:RI docs (tz l i m (we docs l i m)) (S.take i++ [((gF S i).1,(gF S (i+m-1)).2)]++S.drop (i+m)):=by
  rw [h.eq,e];exact⟨h.fair,w!,hc.2.2.2.1,rfl⟩
 refine⟨R,?_,?_,?_,?_⟩
 . rw [h.eq];exact ajd h.row hm w!
 . rw [h.eq];exact aje h.row hm w! w!
 . have :=R.bd.2.2.2;omega
 . rw [R.QJ,h.QJ,hc.2.2.2.2]
theorem RI.aIz {docs:List B8} {S:List Sp}(h:RI docs (aG docs S) S) {i:Nat}(hi:i+2<=S.length):
  RI docs (aG docs (lQ S i)) (lQ S i)/\tz (aG docs S) i 2 (we docs (aG docs S) i 2)=aG docs (lQ S i)/\eR (((aG docs S).drop i).take 2)=(we docs (aG docs S) i 2,0)/\wc (((aG docs S).drop i).take 2):=by
 have hc:=h.cut (i:=i) (m:=2) w! (by grind[fe]);have e:=LA docs (S:=S) (i:=i) (m:=2) w! w!;have e2:lQ S i=S.take i++ [((gF S i).1,(gF S (i+2-1)).2)]++S.drop (i+2):=rfl;grind
theorem RI.settle {docs:List B8} {l:List ax} {S:List Sp}(h:RI docs l S):RI docs (aG docs (jB S)) (jB S)/\eo 0 (jB S)=eo 0 S/\(jB S).length<=S.length:=by
 have hs:=HT S.length h.row;have hle:=h.le;exact⟨⟨h.fair,by grind[jB],hs.1,rfl⟩,hs.2.1,hs.2.2⟩
theorem append_right(docs:List B8)(l:List ax)(d:B8):ba (cn docs l d).1.1 (cn docs l d).1.2=true :=by
 unfold cn;by_cases h1:(2000:Int)<d.length
 . simp_all[R!,oI]
 . rw [N! h1];by_cases h2:(1000:Int)<=(al docs l).1.length
   . simp_all[R!,oI]
   . rw [N! h2];exact((lv docs l).snoc h1 h2).right
theorem EO(docs:List B8)(l:List ax):ba (bo docs l).1.1 (bo docs l).1.2=true :=by
 unfold bo;by_cases h1:gT docs l=(al docs l).1.length
 . simp_all[R!,oI]
 . rw [N! h1];by_cases h2:(64:Int)<=(al docs l).2.length
   . simp_all[R!,oI]
   . rw [N! h2];exact((lv docs l).flush h1 h2).1.right
theorem merge_right(docs:List B8)(l:List ax)(i m:Int):ba (fK docs l i m).1.1 (fK docs l i m).1.2=true :=by
 unfold fK;by_cases h1:B5 (al docs l).2 i m=true
 . simp_all[R!,oI]
 . rw [N! h1];have hb:=LB (by simpa using h1);exact((lv docs l).cut hb.2.2.2.2 hb.2.2.2.1).1.right
theorem B6(docs:List B8)(l:List ax):ba (cq docs l).1 (cq docs l).2=true :=(lv docs l).settle.1.right
theorem WK(docs:List B8)(l:List ax)(a b c:Int)(d:B8):ba (cF docs l a b c d).1.1 (cF docs l a b c d).1.2=true :=by
 grind[cF,append_right,EO,merge_right,B6]
theorem uy {x:IH}(h:ba x.1 x.2=true)(l:List hZ):∀k,ba (bG x l k).1 (bG x l k).2=true
 |0=>h
 |k+1=>by
  simp [bG];split
  . exact uy h l k
  . exact WK _ _ _ _ _ _
theorem QK(l:List hZ)(k:Nat):ba (bG ([],[]) l k).1 (bG ([],[]) l k).2=true :=uy QI l k
theorem LC {docs:List B8} {l:List ax}(h:ba docs l=true)(a b c:Int)(d:B8):(cF docs l a b c d).1.2.length<=l.length+(if a=1 then 1 else 0):=by
 have hg:=fY h;unfold cF;by_cases h0:a=0
 . grind[cn]
 . rw [N! h0];by_cases h1:a=1
   . grind[bo,List.length_append,List.length_singleton]
   . rw [N! h1,N! h1];by_cases h2:a=2
     . unfold fK;by_cases hb:B5 l b c=true
       . grind
       . have hb:=LB (by simpa using hb);have :=((RI.of h).cut hb.2.2.2.2 hb.2.2.2.1).2.2.2.1;grind
     . rw [if_neg h2];simp [cq,hg,fe];have :=(RI.of h).settle.2.2;grind[tB]
theorem OO(l:List hZ):∀k,(bG ([],[]) l k).2.length<=qC l k
 |0=>O! _
 |k+1=>by
  have ih:=OO l k;have h:=LC (QK l k) (fm l k).1 (fm l k).2.1 (fm l k).2.2.1 (fm l k).2.2.2
  have e:qC l (k+1)=qC l k+(if(fm l k).1=1 then 1 else 0):=by
   rw [qC];grind
  rw [e,bG];grind
theorem LD(l:List hZ):∀k,qC l k<=k
 |0=>O! _
 |k+1=>by have :=LD l k;simp [qC];split<;>omega
theorem keeps {docs:List B8} {l:List ax}(h:ba docs l=true) {a:Int}(b c:Int)(d:B8)(h0:a≠0):
  (cF docs l a b c d).1.1=docs/\(a=1->dp l<=dp (cF docs l a b c d).1.2/\((64:Int)<=l.length\/dp (cF docs l a b c d).1.2=docs.length))/\
  (a≠1->dp (cF docs l a b c d).1.2=dp l/\(cF docs l a b c d).1.2.length<=l.length):=by
 have hg:=fY h;have R:=RI.of h;have Pw:=R.bd;unfold cF;rw [if_neg h0];by_cases h1:a=1
 . unfold bo gT;by_cases e1:dp l=(docs.length:Int)
   . grind
   . by_cases e2:(64:Int)<=l.length
     . grind
     . have :=(R.flush e1 e2).1.QJ
       have h3:dp (l++ [(dp l,(docs.length:Int),make docs (dp l) docs.length)])=docs.length:=by
        rw [this,mw];rfl
       grind
 . rw [N! h1];by_cases h2:a=2
   . unfold fK;by_cases hb:B5 l b c=true
     . grind
     . have hb:=LB (by simpa using hb);have hc:=R.cut hb.2.2.2.2 hb.2.2.2.1;grind
   . rw [if_neg h2];have hs:=R.settle;refine⟨by grind[cq],fun h=>absurd h h1,fun _=> ?_⟩;simp [cq,hg];refine⟨by rw [hs.1.QJ,hs.2.1,R.QJ],?_⟩;grind[fe,tB]
end Go.S

end
section
namespace Go.S
def r6(l:List ax)(k:Nat):Prop :=k<=l.length/\l.length≠0/\wc l/\∀i,i<k->lu (ao l i)=true
def vq(l:List ax)(k:Nat):Prop :=k+1<=l.length/\wc l/\l.all lu=true/\∀i,i<k->Lu l i=true
def uL(l:List ax):Nat:=(uT l).length
def pj(l:List ax)(k:Nat):B8:=(uT l).getD k []
def gL(docs:List B8)(l:List ax):Nat:=(al docs l).2.length
def pL(l:List hZ):Nat:=(cr l).2.length
def pD(l:List hZ):Nat:=(cr l).1.length
def nM(l:List ax)(i:Nat):Nat:=(ao l i).2.2.length
def bS {α:Type}(l:List α)(k:Nat):Prop :=k<=l.length
def jC(l:List ax)(k:Nat):List (Int×Int):=bW (l.take k)
def Gt(a b:List Int):Bool:=decide (a=b)
def EP(a b:List Int)(k:Nat):Prop :=a.length=b.length/\a.take k=b.take k/\k<=a.length
def zN(x1:B8)(x2:List Int)(y1:B8)(y2:List Int):Bool:=decide (x1=y1)&&decide (x2=y2)
def LF(docs:List B8)(l:List ax)(k:Nat):Prop :=docs.length<=1000/\l.length<=64/\pe docs k
def qD(docs:List B8)(l:List ax):Prop :=docs.length<=1000000/\l.length<=1000000/\(∀b∈docs,small b)/\∀s∈l,small s.2.2/\∀e∈s.2.2,small e.2
def eb {α:Type}(z:α)(l:List α)(k:Nat):List α:=l.take k++List.replicate (l.length-k) z
def uz(x r:List ax)(i j:Nat):Prop :=i<x.length/\j<=(ao x i).2.2.length/\r.length=x.length/\∀d,r.set i ((ao r i).1,(ao r i).2.1,d)=(eb (0,0,[]) x i).set i ((ao x i).1,(ao x i).2.1,d)
def wh(l:List ax)(i m:Int):Prop :=l.length<=1000000/\0<=i/\0<=m/\i+m<=l.length
def qE(docs:List B8)(l:List ax)(L:List Sp):Prop :=RI (al docs l).1 (aG (al docs l).1 L) L/\jB L=jB (bW (al docs l).2)
def ajf(docs:List B8)(l:List Sp):Prop :=l.length<=1000000/\∀s∈l,gq docs s.1 s.2
def fo(docs:List B8)(l:List ax)(k:Nat):List Sg:=(aw docs l).take k
def fq(docs:List B8)(l:List ax):Bool:=l.any (fun s=>hX s.2.2) || (pg docs || decide ((100:Int)<l.length))
def zO(l:List ax)(k:Nat):Prop :=(∀s∈l.take k,hX s.2.2=false)/\k<=l.length
def tC(l:List hZ)(k:Nat):Prop :=k<=l.length/\k<=40
end Go.S
namespace Go.S
theorem ajg {a b:Int}(h:a<0\/b<0\/b<=a): -1=mv a b:=by simp_all[mv,R!]
theorem TF {n:Int}(h:0<=n):lg ((n.toNat:Nat):Int)=lg n:=by rfl
theorem aq3 {a b:Int}(h:¬a<0/\¬b<0/\¬b<=a):ph a b (b-a).toNat:=⟨w!,w!,w!,w!⟩
theorem aq4 {n:Int}(h:1<n):1<=lg n:=by have :=aze (n:=n) w!;have :=azf (n/2);omega
theorem ajh {a b:Int} {n:Nat}(h:ph a b n):1<=n/\(n:Int)<=b-a:=⟨h.2.2.1,h.2.2.2⟩
theorem aji {t:Int} {n:Nat}(h:1<(n:Int)):t-lg n+1=t-lg (((n:Int)/2).toNat:Nat):=by
 grind[TF,aze]
theorem WL {a b:Int} {n:Nat}(h:ph a b n)(h1:1<(n:Int)):ph a b ((n:Int)/2).toNat:=by
 obtain⟨h2,h3,h4,h5⟩:=h;exact⟨h2,h3,w!,w!⟩
theorem afs {a b:Int} {n:Nat}(h:¬a<0/\¬b<0/\¬b<=a)(hi:ph a b n)(h1:¬1<(n:Int)):lg (b-a)-lg n=mv a b:=by
 unfold mv;rw [if_neg w!,<-aIy (n:=(n:Int)) w!];omega
end Go.S
namespace Go.S
theorem ajj(l:List ax)(k i:Nat):0<=(aC l k).getD i 0:=by
 by_cases h:i<l.length
 . rw [kq h];simp_all[A4]
 simp_all[I!,List.getElem?_eq_none,jn,Int.le_refl]
theorem aIA {l:List ax} {k i:Nat}(h:(i:Int)<l.length)(hn:¬(aC l k).getD i 0=((ao l i).2.2.length:Int)):(aC l k).getD i 0<((ao l i).2.2.length:Int):=by
 have h':i<l.length:=by omega
 rw [kq h'] at hn |-;have :=A4 l k (ao l i);omega
theorem iB {l:List ax} {k i:Nat}(hi:i<=l.length)(h:¬dS l (aC l k) i<0):
  dS l (aC l k) i<l.length/\dS l (aC l k) i<(aC l k).length/\(dS l (aC l k) i).toNat<(aC l k).length/\(aC l k).getD (dS l (aC l k) i).toNat 0<((ao l (dS l (aC l k) i).toNat).2.2.length:Int):=by
 grind[jn,Ja,Int.toNat_natCast,kq]
theorem ajk {l:List ax} {nx:List Int} {i:Nat}(h:nx.getD i 0=((ao l i).2.2.length:Int)):dS l nx i=dS l nx (i+1):=by simp_all[dS,R!]
theorem ajl {l:List ax} {nx:List Int} {i:Nat}(h:¬nx.getD i 0=((ao l i).2.2.length:Int)):
  (bif bif decide (dS l nx i<0) then true else Op.bytesLess (bV (ao l i).2.2 (nx.getD i 0).toNat) (bV (ao l (dS l nx i).toNat).2.2 (nx.getD (dS l nx i).toNat 0).toNat) then(i:Int) else dS l nx i)=dS l nx (i+1):=by
 grind[dS]
theorem aBQ {l:List ax}(hp:re l) {k i:Nat}(hi:i<=l.length)(Vk:¬(i:Int)<l.length)(h:dS l (aC l k) i<0):c9 l k=qB l:=by
 grind[WB,Ts]
theorem Ç {l:List ax}(hp:re l) {k i:Nat}(hi:i<=l.length)(Vk:¬(i:Int)<l.length)(h:¬dS l (aC l k) i<0):
  k<uL l/\bV (ao l (dS l (aC l k) i).toNat).2.2 ((aC l k).getD (dS l (aC l k) i).toNat 0).toNat=pj l k:=by
 have :i=l.length:=by omega
 subst this
 have hk:k<(uT l).length:=by
  simp_all[Nat.lt_of_not_le,Ts]
 obtain⟨q,h1,h2,h3,h4⟩:=OM hp hk;refine⟨hk,?_⟩;rw [h1,V!,kq h2];exact h4
theorem QL {l:List ax} {a b:Nat}(h:c9 l a=c9 l b)(ha:a<=uL l)(hb:b<=uL l):a=b:=by
 simp_all[congrArg,List.length,c9,List.length_map,X!,uL]
theorem ajm {l:List ax} {k i:Nat}(h:(i:Int)<l.length):0<=(bu l k i).getD i 0/\(bu l k i).getD i 0<=((ao l i).2.2.length:Int):=by
 rw [Lw w!];exact A4 l k _
theorem vr {l:List ax} {k i:Nat}(h:(i:Int)<l.length):(i:Int)<(bu l k i).length/\i<(bu l k i).length:=by
 grind[ai6]
theorem ajn {l:List ax}(hp:re l) {k i:Nat}(hk:k<uL l)(h:(i:Int)<l.length)(h1:(bu l k i).getD i 0<((ao l i).2.2.length:Int))(h2:bV (ao l i).2.2 ((bu l k i).getD i 0).toNat=pj l k):
  (bu l k i).set i ((bu l k i).getD i 0+1)=bu l k (i+1)/\dI l (pj l k) i++fI (ao l i).2.2 ((bu l k i).getD i 0).toNat=dI l (pj l k) (i+1):=by
 have h':i<l.length:=by omega
 rw [Lw h'] at h1 h2 |-;have :=WA hp hk h' h1 h2;exact⟨this.2,this.1⟩
theorem È {l:List ax}(hp:re l) {k i:Nat}(hk:k<uL l)(h:(i:Int)<l.length)(hn:¬((bu l k i).getD i 0<((ao l i).2.2.length:Int)/\bV (ao l i).2.2 ((bu l k i).getD i 0).toNat=pj l k)):
  bu l k i=bu l k (i+1)/\dI l (pj l k) i=dI l (pj l k) (i+1):=by
 have h':i<l.length:=by omega
 rw [Lw h'] at hn;have :=Tt hp hk h' hn;exact⟨this.2,this.1⟩
theorem aq5 {l:List ax}(hp:re l) {k i:Nat}(h:(i:Int)<l.length):(dI l (pj l k) i).length<=1000000/\(fI (ao l i).2.2 ((bu l k i).getD i 0).toNat).length<=1000:=by
 have h1:=Lx hp (pj l k) i w!;have h2:=hp.1;have hd:=(hp.2 _ (hY (show i<l.length by omega))).1;generalize (bu l k i).getD i 0=z;by_cases hz:z.toNat<(ao l i).2.2.length
 . rw [<-sk (kL hd) hz];grind[zL]
 grind[fI,List.getElem?_eq_none]
theorem ajo {l:List ax} {k i:Nat}(hi:i<=l.length)(Vk:¬(i:Int)<l.length)(hk:k<uL l):c9 l k++ [(pj l k,dI l (pj l k) i)]=c9 l (k+1)/\bu l k i=aC l (k+1):=by
 have :i=l.length:=by omega
 subst this;refine⟨?_,ai7⟩;rw [Wz];exact Tu hk
theorem aIB {l:List ax}(hp:re l) {k:Nat}(hk:k<=uL l):(c9 l k).length<=1048576000:=by
 grind[WC,aq1,uL]
end Go.S
namespace Go.S
theorem aq6(l:List ax):List.replicate (Int.toNat ((l.length:Nat):Int)) (0:Int)=l.map (cP l 0):=by
 rw [V!];have :l.map (cP l 0)=l.map (fun _=>(0:Int)):=k? fun s _=>by simp [cP]
 grind[List.map_const']
end Go.S
namespace Go.S
theorem azg {l:List ax}(hp:re l) {k i:Nat}(h:(i:Int)<l.length): -9223372036854775808<=(bu l k i).getD i 0+1/\(bu l k i).getD i 0+1<=9223372036854775807:=by
 have h1:=ajm (k:=k) h;have h2:=(hp.2 _ (hY (show i<l.length by omega))).2;omega
end Go.S
namespace Go.S
theorem ajp {l:List ax}(h:(l.length:Int)=0):eR l=((0,0,[]),1):=by simp_all[eR,R!]
theorem ajq {l:List ax} {k:Nat}(h:(k:Int)<l.length)(h2:lu (ao l k)=false):eR l=((0,0,[]),1):=by
 unfold eR;grind[hY]
theorem aq7 {l:List ax}(hp:wc l)(h:¬(l.length:Int)=0):r6 l 0:=⟨K! _,w!,hp,fun i hi=>by omega⟩
theorem aq8 {l:List ax} {k:Nat}(h:r6 l k)(h1:(k:Int)<l.length)(h2:lu (ao l k)=true):r6 l (k+1):=
 ⟨w!,h.2.1,h.2.2.1,fun i hi=>by
   by_cases e:i=k
   . grind
   . exact h.2.2.2 i w!⟩
theorem aBR {l:List ax} {k:Nat}(h:r6 l k)(h1:¬(k:Int)<l.length):l.all lu=true :=by
 rw [List.all_eq_true];intro s hs;obtain⟨j,hj,rfl⟩:=List.mem_iff_getElem.1 hs;have :=h.2.2.2 j w!;grind[ao,List.getElem?_eq_getElem]
theorem aq9 {l:List ax} {k:Nat}(h:r6 l k)(h1:¬(k:Int)<l.length):vq l 0:=⟨by have :=h.2.1;omega,h.2.2.1,aBR h h1,fun i hi=>by omega⟩
theorem ara {l:List ax} {k:Nat}(h:vq l k)(h1:(k:Int)+1<l.length)(h2:(ao l ((k:Int)+1).toNat).1=(ao l ((k:Int)+1-1).toNat).2.1):vq l (k+1):=
 ⟨w!,h.2.1,h.2.2.1,fun i hi=>by
   by_cases e:i=k
   . simp_all[Lu,H!]
   . exact h.2.2.2 i w!⟩
theorem ajr {l:List ax} {k:Nat}(h:vq l k)(h1:(k:Int)+1<l.length)(h2:¬(ao l ((k:Int)+1).toNat).1=(ao l ((k:Int)+1-1).toNat).2.1):eR l=((0,0,[]),7):=by
 unfold eR;rw [if_neg w!,if_neg (by rw [h.2.2.1];simp),if_pos];rw [<-Bool.not_eq_true,EG,List.all_eq_true];intro hc;have :=hc k (List.mem_range.2 w!);simp_all[Lu,decide_eq_true_eq]
theorem WM {l:List ax} {k:Nat}(h:vq l k)(h1:¬(k:Int)+1<l.length):eR l=(((ao l 0).1,(ao l ((l.length:Int)-1).toNat).2.1,qB l),0):=by
 have h0:=h.1;unfold eR;rw [if_neg w!,if_neg (by rw [h.2.2.1];simp),if_neg,show((l.length:Int)-1).toNat=l.length-1 by omega];rw [Bool.not_eq_false,EG,List.all_eq_true];intro i hi;exact h.2.2.2 i x!
theorem LG {s:ax}(h:lu s=true):aI s.2.2=true :=by
 simp_all[lu,dQ,B!]
theorem aBS {l:List ax} {k:Nat}(h:vq l k):re l:=by
 refine⟨h.2.1.1,fun s hs=>⟨LG (W!.1 h.2.2.1 s hs),?_⟩⟩;exact(h.2.1.2 s hs).1
theorem n_0(l:List Sp):nK l 0:=⟨.inr rfl,by rfl⟩
theorem azh {l:List Sp} {k:Nat}(h:nK l k)(h1:0<=((len l:Nat):Int)-2-k):(((len l:Nat):Int)-2-k).toNat=l.length-2-k/\(((len l:Nat):Int)-2-k+1).toNat=l.length-2-k+1/\k+2<=l.length:=by
 grind[len]
theorem ajs {l:List Sp} {k:Nat}(h:nK l k)(h1:0<=((len l:Nat):Int)-2-k)
  (h2:mv (gF l (((len l:Nat):Int)-2-k).toNat).1 (gF l (((len l:Nat):Int)-2-k).toNat).2<=mv (gF l (((len l:Nat):Int)-2-k+1).toNat).1 (gF l (((len l:Nat):Int)-2-k+1).toNat).2):
  eC l=(((len l:Nat):Int)-2-k,true):=by
 obtain⟨e1,e2,e3⟩:=azh h h1;rw [e1,e2] at h2;rw [h.2,show l.length-1-k=(l.length-2-k)+1 by omega];simp [tx];rw [if_pos (show oi l (l.length-2-k)<=oi l (l.length-2-k+1) from h2)];grind
theorem aIC {l:List Sp} {k:Nat}(h:nK l k)(h1:0<=((len l:Nat):Int)-2-k)
  (h2:¬mv (gF l (((len l:Nat):Int)-2-k).toNat).1 (gF l (((len l:Nat):Int)-2-k).toNat).2<=mv (gF l (((len l:Nat):Int)-2-k+1).toNat).1 (gF l (((len l:Nat):Int)-2-k+1).toNat).2):
  nK l (k+1):=by
 obtain⟨e1,e2,e3⟩:=azh h h1;rw [e1,e2] at h2;refine⟨.inl w!,?_⟩;rw [h.2,show l.length-1-k=(l.length-2-k)+1 by omega];simp [tx];rw [N! (show ¬oi l (l.length-2-k)<=oi l (l.length-2-k+1) from h2),show l.length-1-(k+1)=l.length-2-k by omega]
theorem ajt {l:List Sp} {k:Nat}(h:nK l k)(h1:¬0<=((len l:Nat):Int)-2-k):eC l=(0,false):=by
 simp [len] at h1;rw [h.2,show l.length-1-k=0 by omega];rfl
theorem TG {l:List ax} {k:Nat}(h:(k:Int)<l.length):jC l k++ [((ao l k).1,(ao l k).2.1)]=jC l (k+1):=by
 simp only [jC,bW];rw [ar l k (0,0,[]) w!,s?];rfl
theorem WN {l:List ax} {k:Nat}(h:¬(k:Int)<l.length):jC l k=bW l:=by
 grind[jC,List.take_of_length_le]
theorem QM(l:List ax)(k:Nat):(jC l k).length<=l.length:=by grind[jC,bW]
end Go.S

end
section
namespace Go.S
theorem WO {α:Type} {a b:List α}(h:(a.length:Int)=b.length):a.length=b.length/\a.take 0=b.take 0/\0<=a.length:=⟨w!,z!,K! _⟩
theorem Gu {α:Type} {a b:List α}(z:α) {k:Nat}(h:a.length=b.length/\a.take k=b.take k/\k<=a.length)(hk:(k:Int)<a.length)(he:a.getD k z=b.getD k z):a.length=b.length/\a.take (k+1)=b.take (k+1)/\k+1<=a.length:=by
 grind[ar]
theorem LH {α:Type} {a b:List α} {k:Nat}(h:a.length=b.length/\a.take k=b.take k/\k<=a.length)(hk:¬(k:Int)<a.length):a=b:=by
 grind
theorem TH {α:Type} {a b:List α}(h:¬(a.length:Int)=b.length):¬a=b:=fun e=>h (by rw [e])
theorem TI {α:Type} {a b:List α}(z:α) {k:Nat}(h:¬a.getD k z=b.getD k z):¬a=b:=fun e=>h (by rw [e])
theorem aID {docs:List B8} {l:List ax}(h:1000<(docs.length:Int)\/64<(l.length:Int)):false=ba docs l:=by
 symm
 rw [<-Bool.not_eq_true];intro hc;obtain⟨h1,h2,_⟩:=EK.1 hc;simp [c8,B!,H!] at h1;omega
theorem aIE {docs:List B8} {l:List ax} {k:Nat}(hk:(k:Int)<docs.length)(h:2000<((docs.getD k []).length:Int)):false=ba docs l:=by
 grind[EK,OH]
theorem aju {docs:List B8} {l:List ax} {k:Nat}(h:LF docs l k)(hk:¬(k:Int)<docs.length):tA docs l 0:=by
 refine⟨?_,h.2.1,fun i hi=>by omega,K! _⟩;have h1:=h.1;simp only [c8,B!,H!];exact⟨OI h.2.2 hk,w!,w!,w!,w!⟩
theorem Jb {docs:List B8} {l:List ax} {k:Nat}(hk:(k:Int)<l.length)(h:iT docs l k=false):false=ba docs l:=by
 symm
 rw [<-Bool.not_eq_true];intro hc;simp_all[ba,B!,W!,x?]
theorem TJ {docs:List B8} {l:List ax} {k:Nat}(h:tA docs l k)(hk:(k:Int)<l.length)(h1:iT docs l k=true):tA docs l (k+1):=
 ⟨h.1,h.2.1,fun i hi=>by
   by_cases e:i=k
   . grind
   . exact h.2.2.1 i w!,w!⟩
theorem É {docs:List B8} {l:List ax} {k:Nat}(h:tA docs l k)(hk:¬(k:Int)<l.length):true=ba docs l:=by
 have h2:=h.2.1;simp [ba,B!,W!,x?,H!];exact⟨h.1,w!,fun i hi=>h.2.2.1 i w!⟩
theorem aIF {docs:List B8} {l:List ax} {k:Nat}(h:¬(ao l k).1=dV l k\/(ao l k).2.1<=dV l k\/(docs.length:Int)<(ao l k).2.1):iT docs l k=false :=by
 rw [<-Bool.not_eq_true];intro hc;simp [iT,B!,H!] at hc;obtain⟨h1,h2,_⟩:=hc;have :=qf h2;omega
theorem azi {docs:List B8} {l:List ax} {k:Nat}(hk:tA docs l k)(h:(ao l k).1=dV l k/\¬(ao l k).2.1<=dV l k/\¬(docs.length:Int)<(ao l k).2.1):
  dn docs (ao l k).1 (ao l k).2.1=true :=by
 refine wg hk.1 ?_ w! w!
 have :∀i,i<=k->0<=dV l i:=by
  intro i hi;unfold dV;split
  . omega
  . have :=hk.2.2.1 (i-1) w!;simp [iT,B!,H!] at this;have :=qf this.2.1;omega
 grind
theorem aIG {docs:List B8} {l:List ax} {k:Nat}(hk:tA docs l k)(h:(ao l k).1=dV l k/\¬(ao l k).2.1<=dV l k/\¬(docs.length:Int)<(ao l k).2.1)
  (h2:¬(dB docs (ao l k).1 (ao l k).2.1).2=0\/ig (dB docs (ao l k).1 (ao l k).2.1).1.2.2 (ao l k).2.2=false):iT docs l k=false :=by
 have hf:=azi hk h;have hb:dB docs (ao l k).1 (ao l k).2.1=(((ao l k).1,(ao l k).2.1,make docs (ao l k).1 (ao l k).2.1),0):=by grind[dB]
 rw [hb] at h2;rcases h2 with h2|h2
 . omega
 . simp [ig,d?] at h2;rw [<-Bool.not_eq_true];intro hc;simp_all[iT,B!,H!]
theorem aIH {docs:List B8} {l:List ax} {k:Nat}(hk:tA docs l k)(h:(ao l k).1=dV l k/\¬(ao l k).2.1<=dV l k/\¬(docs.length:Int)<(ao l k).2.1)
  (h2:(dB docs (ao l k).1 (ao l k).2.1).2=0/\ig (dB docs (ao l k).1 (ao l k).2.1).1.2.2 (ao l k).2.2=true):iT docs l k=true :=by
 have hf:=azi hk h;simp_all[dB,ao,make,ig,H!,iT,B!]
theorem OP(l:List ax)(k:Nat):(ao l k).2.1=dV l (k+1):=by rfl
theorem ER {docs:List B8} {l:List ax}(h:ba docs l=false):al docs l=([],[]):=by grind[al]
theorem aBT {l:List ax}(h:(l.length:Int)=0):0=dp l:=by simp_all[dp,dV,R!]
theorem aBU {l:List ax}(h:¬(l.length:Int)=0):(ao l ((l.length:Int)-1).toNat).2.1=dp l:=by
 simp_all[dp,dV,N!]
theorem Ê {α:Type}(z:α)(l:List α):List.replicate (Int.toNat ((l.length:Nat):Int)) z=eb z l 0:=by rfl
theorem A6 {α:Type}(z:α) {l:List α} {k:Nat}(h:(k:Int)<l.length):(k:Int)<(eb z l k).length/\k<(eb z l k).length:=by
 grind[eb,List.length_append,List.length_take,List.length_replicate]
theorem WQ {α:Type}(z:α) {l:List α} {k:Nat}(h:k<=l.length):(eb z l k).length=l.length:=by
 grind[eb,List.length_append,List.length_take,List.length_replicate]
theorem TK {α:Type}(z:α) {l:List α} {k:Nat}(h:(k:Int)<l.length):(eb z l k).set k (l.getD k z)=eb z l (k+1):=by
 have e:l.length-k=(l.length-(k+1))+1:=by omega
 grind[eb,ar,List.set_append_right,List.length_take,min,List.append_assoc]
theorem OQ {α:Type}(z:α) {l:List α} {k:Nat}(h:¬(k:Int)<l.length):eb z l k=l:=by
 simp_all[eb,J?]
theorem aBV {x:List ax} {k:Nat}(h:(k:Int)<x.length):uz x ((eb (0,0,[]) x k).set k ((ao x k).1,(ao x k).2.1,[])) k 0:=by
 have hl:=WQ ((0,0,[]):ax) (l:=x) (k:=k) w!;refine⟨w!,Nat.zero_le _,x!,fun d=> ?_⟩;grind[ao,eb,set,List.getElem?_set_self,List.set_set]
theorem ajv {x r:List ax} {i j:Nat}(h:uz x r i j):r.set i ((ao r i).1,(ao r i).2.1,(ao x i).2.2)=eb (0,0,[]) x (i+1):=by
 rw [h.2.2.2];exact TK ((0,0,[]):ax) (l:=x) (k:=i) (by have :=h.1;omega)
theorem TL {docs:List B8} {l:List ax}(h:qD docs l)(k:Nat):small (docs.getD k []):=by
 by_cases hk:k<docs.length
 . exact h.2.2.1 _ (bq docs k [] hk)
 grind[List.getElem?_eq_none,small]
theorem C5 {docs:List B8} {l:List ax}(h:qD docs l)(k:Nat):small (ao l k).2.2/\∀j,small ((ao l k).2.2.getD j ([],[])).2:=by
 by_cases hk:k<l.length
 . have h1:=h.2.2.2 _ (hY hk);grind[ao,bq,List.getElem?_eq_none,small]
 simp_all[ao,I!,List.getElem?_eq_none,small]
theorem Az {α:Type}(z:α)(l:List α)(j:Nat):l.set j (l.getD j z)=l:=by
 apply List.ext_getElem?;grind
end Go.S
namespace Go.S
theorem arb {a b:bx}(h:zN a.1 a.2 b.1 b.2=true):a=b:=by
 simp [zN,Bool.and_eq_true,decide_eq_true_eq] at h;grind
theorem arc {a b:bx}(h:zN a.1 a.2 b.1 b.2=false):¬a=b:=by
 grind[zN]
theorem aft {α:Type} {l:List α} {k:Nat}(h:small l)(hk:(k:Int)<l.length):(k:Int)+1<=9223372036854775807:=by grind[small]
theorem afu {x r:List ax} {i j:Nat}(h:uz x r i j)(hj:(j:Int)<((ao x i).2.2.length:Int)):uz x r i (j+1):=⟨h.1,w!,h.2.2⟩
theorem afv {x:List ax} {i j:Nat}(hj:(j:Int)<((ao x i).2.2.length:Int)):ag (nM x i) (j+1)<ag (nM x i) j:=by
 grind[ag,nM]
end Go.S
namespace Go.S
theorem afw {d:List bx}(h:aI d=true):∀e∈d,e.2.length<=1000:=by
 intro e he;obtain⟨j,hj,rfl⟩:=List.mem_iff_getElem.1 he;have h1:=sk (kL h) hj;grind[zL,bV,fI,List.getElem?_eq_getElem]
theorem RI.seg {docs:List B8} {l:List ax} {S:List Sp}(h:RI docs l S):∀s∈l,lu s=true/\aQ s.2.2/\s=(s.1,s.2.1,make docs s.1 s.2.1)/\dn docs s.1 s.2.1=true :=by
 intro s hs;rw [h.eq] at hs;have h1:=HS h.row s hs;simp only [aG,List.mem_map] at hs;obtain⟨p,hp,rfl⟩:=hs;have hf:=sm h.row p hp;grind[Tz]
theorem RI.small {docs:List B8} {l:List ax} {S:List Sp}(h:RI docs l S):qD docs l:=by
 have hb:=h.bd;have hle:=h.le;refine⟨w!,w!,fun b hb=> ?_,fun s hs=> ?_⟩
 . have :=h.fair;simp [c8,Bool.and_eq_true,List.all_eq_true,decide_eq_true_eq] at this;grind[Go.S.small]
 . obtain⟨h1,h2,_⟩:=h.seg s hs;refine⟨by have :=h2.1;grind[Go.S.small],fun e he=> ?_⟩;grind[afw,LG,Go.S.small]
theorem uA(docs:List B8)(l:List ax):qD (al docs l).1 (al docs l).2:=(lv docs l).small
theorem ku(docs:List B8)(l:List ax):(al docs l).1.length<=1000/\(al docs l).2.length<=64/\0<=dp (al docs l).2/\dp (al docs l).2<=(al docs l).1.length:=by
 have h:=lv docs l;have hb:=h.bd;have hle:=h.le;omega
theorem wi(docs:List B8)(l:List ax) {k:Nat}(hk:k<(al docs l).2.length):lu (ao (al docs l).2 k)=true/\aQ (ao (al docs l).2 k).2.2:=
 have h:=(lv docs l).seg _ (hY hk)
 ⟨h.1,h.2.1⟩
theorem azj {docs:List B8} {l:List ax} {d:B8}(h:(2000:Int)<d.length):cn docs l d=(al docs l,1):=by simp_all[cn,R!]
theorem azk {docs:List B8} {l:List ax} {d:B8}(h:¬(2000:Int)<d.length)(h1:(1000:Int)<=(al docs l).1.length):cn docs l d=(al docs l,3):=by simp_all[cn,N!,R!]
theorem ajw {docs:List B8} {l:List ax} {d:B8}(h:¬(2000:Int)<d.length)(h1:¬(1000:Int)<=(al docs l).1.length):cn docs l d=(((al docs l).1++ [d],(al docs l).2),0):=by simp_all[cn,N!]
theorem azl {docs:List B8} {l:List ax}(h:dp (al docs l).2=((al docs l).1.length:Int)):bo docs l=(al docs l,5):=by simp_all[bo,gT,R!]
theorem azm {docs:List B8} {l:List ax}(h:¬dp (al docs l).2=((al docs l).1.length:Int))(h1:(64:Int)<=(al docs l).2.length):bo docs l=(al docs l,3):=by simp_all[bo,gT,N!,R!]
theorem azn {docs:List B8} {l:List ax}(h:¬dp (al docs l).2=((al docs l).1.length:Int)):
  dB (al docs l).1 (dp (al docs l).2) ((al docs l).1.length:Nat)=((dp (al docs l).2,((al docs l).1.length:Int),make (al docs l).1 (dp (al docs l).2) ((al docs l).1.length:Nat)),0):=by
 have hb:=ku docs l;have hf:=wg (lv docs l).fair hb.2.2.1 (by omega :dp (al docs l).2<((al docs l).1.length:Int)) (Int.le_refl _);grind[dB]
theorem azo {docs:List B8} {l:List ax}(h:¬dp (al docs l).2=((al docs l).1.length:Int))(h1:¬(64:Int)<=(al docs l).2.length):
  bo docs l=(((al docs l).1,(al docs l).2++ [(dB (al docs l).1 (dp (al docs l).2) ((al docs l).1.length:Nat)).1]),0):=by
 simp_all[azn,bo,gT,N!]
theorem azp {l:List ax} {i m:Int}(h:¬m<2/\¬i<0/\¬(l.length:Int)<m/\¬(l.length:Int)-m<i):B5 l i m=false/\(i+m).toNat-i.toNat=m.toNat/\i.toNat+m.toNat<=l.length/\0<m.toNat:=by
 grind[B5,Bool.or_eq_false_iff,decide_eq_false_iff_not]
theorem azq {docs:List B8} {l:List ax} {i m:Int}(h:m<2\/i<0\/((al docs l).2.length:Int)<m\/((al docs l).2.length:Int)-m<i):fK docs l i m=(al docs l,1):=by
 have :B5 (al docs l).2 i m=true :=by
  simp_all[B5,X?,H!]
 simp_all[fK,R!]
theorem Ë {docs:List B8} {l:List ax} {i m:Int}(h:¬m<2/\¬i<0/\¬((al docs l).2.length:Int)<m/\¬((al docs l).2.length:Int)-m<i):
  wc (((al docs l).2.take (i+m).toNat).drop i.toNat)/\eR (((al docs l).2.take (i+m).toNat).drop i.toNat)=(we (al docs l).1 (al docs l).2 i.toNat m.toNat,0)/\wh (al docs l).2 i m:=by
 obtain⟨h1,h2,h3,h4⟩:=azp h;have hc:=(lv docs l).cut h4 h3;have hb:=ku docs l;rw [b?,h2];exact⟨hc.2.2.1,hc.2.1,w!,w!,w!,w!⟩
theorem azr {docs:List B8} {l:List ax} {i m:Int}(h:¬m<2/\¬i<0/\¬((al docs l).2.length:Int)<m/\¬((al docs l).2.length:Int)-m<i):
  fK docs l i m=(((al docs l).1,tz (al docs l).2 i.toNat m.toNat (eR (((al docs l).2.take (i+m).toNat).drop i.toNat)).1),0):=by
 simp_all[Ë,fK,N!,azp]
theorem aII(docs:List B8)(l:List ax):qE docs l (bW (al docs l).2):=by
 have h:=lv docs l;refine⟨?_,rfl⟩;rw [<-h.eq];exact h
theorem aIJ {docs:List B8} {l:List ax} {L:List Sp}(h:qE docs l L):small (aG (al docs l).1 L):=by
 have :=h.1.le;grind[small,fe]
theorem are {docs:List B8} {l:List ax} {L:List Sp}(h:qE docs l L)(h1:(eC (bW (aG (al docs l).1 L))).2=false):aG (al docs l).1 L=(cq docs l).2:=by
 rw [lC] at h1;unfold cq;rw [<-h.2,WD h1]
theorem azs {docs:List B8} {l:List ax} {L:List Sp}(h:qE docs l L)(h1:(eC (bW (aG (al docs l).1 L))).2=true):
  0<=(eC (bW (aG (al docs l).1 L))).1/\(eC (bW (aG (al docs l).1 L))).1+2<=((aG (al docs l).1 L).length:Int)/\(aG (al docs l).1 L).length<=64:=by
 have :=h.1.le;rw [fe,lC] at *;have :=EH h1;omega
theorem LI {docs:List B8} {l:List ax} {L:List Sp}(h:qE docs l L)(h1:(eC (bW (aG (al docs l).1 L))).2=true) {n:Int}(hn:(eC (bW (aG (al docs l).1 L))).1=n):
  wc (((aG (al docs l).1 L).drop n.toNat).take ((n+2).toNat-n.toNat))/\(eR (((aG (al docs l).1 L).drop n.toNat).take ((n+2).toNat-n.toNat))).2=0/\wh (aG (al docs l).1 L) n 2/\
  tz (aG (al docs l).1 L) n.toNat 2 (eR (((aG (al docs l).1 L).drop n.toNat).take ((n+2).toNat-n.toNat))).1=aG (al docs l).1 (lQ L n.toNat)/\qE docs l (lQ L n.toNat)/\(lQ L n.toNat).length<L.length:=by
 have hb:=azs h h1;rw [hn] at hb;rw [fe] at hb;have hn':=hn;rw [lC] at h1 hn';have hf:=h.1.aIz (i:=n.toNat) w!;rw [show(n+2).toNat-n.toNat=2 by omega];have hl:=A5 (l:=L) (i:=n.toNat) w!;refine⟨hf.2.2.2,x!,⟨by grind[fe],hb.1,w!,by grind[fe]⟩,x!,⟨hf.1,?_⟩,w!⟩;rw [<-h.2,<-hn'];exact Tv h1
theorem TM {docs:List B8} {l:List ax} {k:Nat}(h:(k:Int)<(al docs l).2.length):
  fo docs l k++ [(ry (ao (al docs l).2 k).1 (ao (al docs l).2 k).2.1 (ao (al docs l).2 k).2.2).1]=fo docs l (k+1):=by
 have hg:=wi docs l (k:=k) w!;have hr:dQ (ao (al docs l).2 k).1 (ao (al docs l).2 k).2.1 (ao (al docs l).2 k).2.2=true :=hg.1;have hk:k<(aw docs l).length:=by grind[aw,List.length_map]
 unfold fo;rw [ar (aw docs l) k (0,0,0,[]) hk];rw [List.getD_eq_getElem?_getD,List.getElem?_eq_getElem hk];simp [aw,List.getElem_map,Option.getD_some,EI];grind[Å,al,ao,List.getElem?_eq_getElem,xv]
theorem Ì {docs:List B8} {l:List ax} {k:Nat}(h:¬(k:Int)<(al docs l).2.length):fo docs l k=aw docs l:=by
 grind[fo,List.take_of_length_le,aw,List.length_map]
theorem ES(docs:List B8)(l:List ax)(k:Nat):(fo docs l k).length<=64:=by
 grind[ku,fo,aw,List.length_take,List.length_map]
end Go.S
namespace Go.S
theorem aIK {docs:List B8} {l:List ax}(h:c8 docs 0 0=false\/64<(l.length:Int)):false=ba docs l:=by
 grind[EK]
theorem ajx {docs:List B8} {l:List ax} {k:Nat}:
  (bif decide ((k:Int)=0) then
    bif !decide ((ao l (k:Int).toNat).1=0) then true
    else
     bif decide (0<(k:Int)) then
      bif !decide ((ao l (k:Int).toNat).1=(ao l ((k:Int)-1).toNat).2.1) then true
      else !dn docs (ao l (k:Int).toNat).1 (ao l (k:Int).toNat).2.1
     else !dn docs (ao l (k:Int).toNat).1 (ao l (k:Int).toNat).2.1
  else
   bif decide (0<(k:Int)) then
    bif !decide ((ao l (k:Int).toNat).1=(ao l ((k:Int)-1).toNat).2.1) then true
    else !dn docs (ao l (k:Int).toNat).1 (ao l (k:Int).toNat).2.1
   else !dn docs (ao l (k:Int).toNat).1 (ao l (k:Int).toNat).2.1)= !(decide ((ao l k).1=dV l k)&&dn docs (ao l k).1 (ao l k).2.1):=by
 by_cases h:k=0
 . simp_all[dV,K?]
 . simp [dV,if_neg h];grind
theorem arf {docs:List B8} {l:List ax} {k:Nat}(h:(!(decide ((ao l k).1=dV l k)&&dn docs (ao l k).1 (ao l k).2.1))=true):iT docs l k=false :=by
 grind[Bool.not_eq_true',iT,Bool.and_assoc]
theorem azt {docs:List B8} {l:List ax} {k:Nat}(h:(!(decide ((ao l k).1=dV l k)&&dn docs (ao l k).1 (ao l k).2.1))=false):(ao l k).1=dV l k/\dn docs (ao l k).1 (ao l k).2.1=true :=by
 grind
theorem aBW {docs:List B8} {l:List ax} {k:Nat}(h:xu (ao l k).1 (ao l k).2.1 (ao l k).2.2 (ao l k).1 (ao l k).2.1 (make docs (ao l k).1 (ao l k).2.1)=false):iT docs l k=false :=by
 have :¬(ao l k).2.2=make docs (ao l k).1 (ao l k).2.1:=fun e=>by grind[To]
 simp_all[iT,a?,Bool.and_false]
theorem arh {docs:List B8} {l:List ax} {k:Nat}(h1:(ao l k).1=dV l k/\dn docs (ao l k).1 (ao l k).2.1=true)(h:xu (ao l k).1 (ao l k).2.1 (ao l k).2.2 (ao l k).1 (ao l k).2.1 (make docs (ao l k).1 (ao l k).2.1)=true):iT docs l k=true :=by
 simp [xu,Bool.and_eq_true,decide_eq_true_eq] at h;simp [iT,Bool.and_eq_true,decide_eq_true_eq];grind
theorem afx {docs:List B8} {l:List ax} {k:Nat}(h:k<=gL docs l)(h1:¬(k:Int)<(al docs l).2.length):dV (al docs l).2 k=gT docs l:=by
 grind[gL,gT,dp]
theorem RI.with {docs:List B8} {l:List ax} {L:List Sp}(h:RI docs l L):ajf docs L:=by
 have :=h.le;exact⟨w!,fun s hs=>qd (sm h.row s hs)⟩
theorem afy {docs:List B8} {l:List ax} {k:Nat}(h:(k:Int)<(al docs l).2.length):
  fo docs l k++ [NF (ao (al docs l).2 k).1 (ao (al docs l).2 k).2.1 (ao (al docs l).2 k).2.2]=fo docs l (k+1):=by
 have hr:dQ (ao (al docs l).2 k).1 (ao (al docs l).2 k).2.1 (ao (al docs l).2 k).2.2=true :=(wi docs l (k:=k) w!).1;grind[TM,Å,xv]
end Go.S
namespace Go.S
end Go.S

end
section
namespace Go.S
theorem aIL(l:List ax):zO l 0:=⟨z!,K! _⟩
theorem ajy {l:List ax} {k:Nat}(h:zO l k)(hk:(k:Int)<l.length)(h1:hX (ao l k).2.2=false):zO l (k+1):=by
 refine⟨?_,w!⟩;rw [ar l k (0,0,[]) w!];intro s hs;rcases F!.1 hs with hs|hs
 . exact h.1 s hs
 . rw [List.mem_singleton.1 hs];exact h1
theorem ari {docs:List B8} {l:List ax} {k:Nat}(hk:(k:Int)<l.length)(h1:hX (ao l k).2.2=true):true=fq docs l:=by
 grind[hX,List.any_eq_true,hY,fq]
theorem arj {docs:List B8} {l:List ax} {k:Nat}(h:zO l k)(hk:¬(k:Int)<l.length):(bif pg docs then true else decide ((100:Int)<l.length))=fq docs l:=by
 have :l.any (fun s=>hX s.2.2)=false :=by
  rw [<-Bool.not_eq_true,List.any_eq_true];rintro⟨s,hs,h1⟩;have :=h.1 s (by grind[List.take_of_length_le]);grind
 grind[fq]
theorem r7 {docs:List B8} {l:List ax}(h:fq docs l=false):small l/\pg docs=false/\∀s∈l,hX s.2.2=false :=by
 grind[fq,Bool.or_eq_false_iff,decide_eq_false_iff_not,small,hX,List.any_eq_true]
theorem aIM(l:List hZ):tC l 0:=⟨K! _,K! _⟩
theorem ajz {l:List hZ} {k:Nat}(h:(k:Int)<l.length/\(k:Int)<40):tC l (k+1):=⟨w!,w!⟩
theorem ajA {x:IH} {l:List hZ} {k:Nat}(h:(2500:Int)<(fm l k).2.2.2.length):bG x l k=bG x l (k+1):=by rw [bG,R! h]
theorem aBX {x:IH} {l:List hZ} {k:Nat}(h:¬(2500:Int)<(fm l k).2.2.2.length):(cF (bG x l k).1 (bG x l k).2 (fm l k).1 (fm l k).2.1 (fm l k).2.2.1 (fm l k).2.2.2).1=bG x l (k+1):=by rw [bG,N! h]
theorem ajB {x:IH} {l:List hZ} {k:Nat}:
  (bif decide (((fm l k).2.2.2.length:Int)<=2500) then(cF (bG x l k).1 (bG x l k).2 (fm l k).1 (fm l k).2.1 (fm l k).2.2.1 (fm l k).2.2.2).1.1 else(bG x l k).1)=(bG x l (k+1)).1/\
  (bif decide (((fm l k).2.2.2.length:Int)<=2500) then(cF (bG x l k).1 (bG x l k).2 (fm l k).1 (fm l k).2.1 (fm l k).2.2.1 (fm l k).2.2.2).1.2 else(bG x l k).2)=(bG x l (k+1)).2:=by
 grind[decide_eq_false,ajA,decide_eq_true,aBX]
theorem Í {l:List hZ} {k:Nat}(h:tC l k)(h1:¬(k:Int)<l.length\/¬(k:Int)<40):bG ([],[]) l k=cr l/\qC l k=qC l (min l.length 40):=by
 obtain⟨h2,h3⟩:=h;have :k=min l.length 40:=by omega
 subst this;exact⟨rfl,rfl⟩
theorem Î(l:List hZ):ba (cr l).1 (cr l).2=true :=QK l _
theorem zP {docs:List B8} {l:List ax}(h:ba docs l=true):gT docs l=dp l:=by grind[gT,fY]
theorem WR {docs:List B8} {l:List ax}(h:ba docs l=true):pE (aw docs l) (gT docs l)=true :=by
 have R:=RI.of h;have hg:=fY h;have hle:=R.le;have hlen:(aw docs l).length=l.length:=by grind[aw,List.length_map]
 have CA:=tB l;rw [zP h]
 have hsg:∀i,i<l.length->sg (aw docs l) i=EI (ao l i):=fun i hi=>by
  simp [sg,aw,hg,ao,I!,P?,E! hi,Option.map_some,Option.getD_some]
 have hse:∀i,i<l.length->ao l i=((gF (bW l) i).1,(gF (bW l) i).2,make docs (gF (bW l) i).1 (gF (bW l) i).2):=fun i hi=>by
  have :=xx docs (bW l) i w!;rw [<-R.eq] at this;omega
 unfold pE;rw [hlen];by_cases h0:l.length=0
 . have :l= []:=C? h0;subst this;rfl
 . rw [if_neg h0];have gI:bW l≠ []:=fun e=>by grind
   simp;refine⟨fun i hi=> ?_,w!,?_,?_⟩
   . have hr:=(R.seg _ (hY hi));have hr1:dQ (ao l i).1 (ao l i).2.1 (ao l i).2.2=true :=hr.1;simp [zE,B!,I?,Bool.and_eq_false_iff,d?,Bool.not_eq_false',H!];rw [hsg i hi];refine⟨?_,?_⟩
     . grind[EI,xv,ai3]
     . by_cases hi0:0<i
       . rw [hsg (i-1) w!];simp [EI];rw [xv,xv,hse i hi,hse (i-1) w!];have :=C4 R.row (i-1) w!;grind
       omega
   . rw [hsg 0 w!];simp [EI];rw [xv,hse 0 w!];exact xw R.row gI
   . rw [hsg (l.length-1) w!];simp [EI];rw [xv,hse (l.length-1) w!,R.QJ,EM _ _ gI,CA]
end Go.S
namespace Go.S
end Go.S
namespace Go.S
theorem arn(docs:List B8)(l:List ax):(aw docs l).length=gL docs l/\gL docs l<=64:=by
 grind[aw,gL,ku]
end Go.S

end
section
namespace Go.S
abbrev Hd:=Int×B8×List Sg
def bm(n:Int)(g:B8)(l:List Sg):Bool:=decide (0<=n)&&(decide (n<=1000)&&(decide ((g.length:Int)=32)&&pE l n))
def aV(docs:List B8)(l:List ax):Bool:=ba docs l&&decide (gT docs l=(docs.length:Int))
def cX(docs:List B8)(l:List ax):Hd×Int:=if aV docs l then(((docs.length:Int),root (leaves docs),aw docs l),0) else((0,[],[]),7)
def zQ(s:Sg):B8:=num s.2.1++num s.2.2.1++s.2.2.2
def gy(l:List Sg):B8:=l.flatMap zQ
def hB(n:Int)(g:B8)(l:List Sg):B8:=num n++g++num l.length++gy l
def hW(n:Int)(g:B8)(l:List Sg):B8×Int:=if bm n g l then(hB n g l,0) else([],1)
def rA(b:B8)(f:Int):Sg×Int×Int:=
 if(first b).2.2≠0 then((0,0,0,[]),0,(first b).2.2)
 else if(first (b.drop (first b).2.1.toNat)).2.2≠0 then((0,0,0,[]),0,(first (b.drop (first b).2.1.toNat)).2.2)
 else if(b.length:Int)<(first b).2.1+(first (b.drop (first b).2.1.toNat)).2.1+32 then((0,0,0,[]),0,4)
 else((f,(first b).1,(first (b.drop (first b).2.1.toNat)).1,(b.drop ((first b).2.1+(first (b.drop (first b).2.1.toNat)).2.1).toNat).take 32),(first b).2.1+(first (b.drop (first b).2.1.toNat)).2.1+32,0)
abbrev Hs:=List Sg×Int×Int×Int
def jP(b:B8)(p:Int):Nat->Hs
 |0=>([],0,p,0)
 |k+1=>if(jP b p k).2.2.2≠0 then jP b p k
  else if(rA (b.drop (jP b p k).2.2.1.toNat) (jP b p k).2.1).2.2≠0 then((jP b p k).1,(jP b p k).2.1,(jP b p k).2.2.1,(rA (b.drop (jP b p k).2.2.1.toNat) (jP b p k).2.1).2.2)
  else((jP b p k).1++ [(rA (b.drop (jP b p k).2.2.1.toNat) (jP b p k).2.1).1],(rA (b.drop (jP b p k).2.2.1.toNat) (jP b p k).2.1).1.2.1,(jP b p k).2.2.1+(rA (b.drop (jP b p k).2.2.1.toNat) (jP b p k).2.1).2.1,0)
def C6(b:B8)(n:Int)(g:B8)(s:Hs):Hd×Int:=
 if s.2.2.2≠0 then((0,[],[]),s.2.2.2)
 else if s.2.2.1<b.length\/bm n g s.1=false then((0,[],[]),2)
 else((n,g,s.1),0)
def hR(b:B8):Hd×Int:=
 if(first b).2.2≠0 then((0,[],[]),(first b).2.2)
 else if(b.length:Int)<(first b).2.1+32 then((0,[],[]),4)
 else if(first (b.drop ((first b).2.1+32).toNat)).2.2≠0 then((0,[],[]),(first (b.drop ((first b).2.1+32).toNat)).2.2)
 else if 64<(first (b.drop ((first b).2.1+32).toNat)).1 then((0,[],[]),2)
 else C6 b (first b).1 ((b.drop (first b).2.1.toNat).take 32) (jP b ((first b).2.1+32+(first (b.drop ((first b).2.1+32).toNat)).2.1) (first (b.drop ((first b).2.1+32).toNat)).1.toNat)
def kv(a1:Int)(a2:B8)(a3:List Sg)(b1:Int)(b2:B8)(b3:List Sg):Bool:=decide (a1=b1)&&(decide (a2=b2)&&decide (a3=b3))
theorem OR:∀(f v:Nat),v<128^f->1<=f->∃(m:B8) (x:UInt8),pB f v=m++ [x]/\(∀y∈m,128<=y.toNat)/\x.toNat<128/\dx (m++ [x])=v/\(1<=m.length->x.toNat≠0)
 |0,v,_,h=>by omega
 |f+1,v,h,_=>by
  by_cases hv:v<128
  . have e:(UInt8.ofNat v).toNat=v:=by grind[UInt8.toNat_ofNat']
    refine⟨[],UInt8.ofNat v,by simp_all[pB,if_pos],z!,w!,?_,z!⟩;grind[dx]
  . have hf:f≠0:=by grind
    obtain⟨m,x,h1,h2,h3,h4,h5⟩:=OR f (v/128) w! w!;have e:(UInt8.ofNat (v%128+128)).toNat=v%128+128:=by grind[UInt8.toNat_ofNat']
    refine⟨UInt8.ofNat (v%128+128)::m,x,?_,?_,h3,?_,fun _=> ?_⟩
    . simp_all[pB,N!]
    . grind
    . grind[dx]
    grind[List.eq_nil_of_length_eq_zero,dx]
theorem sn {v:Int}(h:0<=v)(h1:v<=4611686018427387904)(r:B8):first (num v++r)=(v,((num v).length:Int),0):=by
 obtain⟨m,x,e,h2,h3,h4,h5⟩:=OR 9 v.toNat w! w!;have hl:m.length+1<=9:=by grind[Gd]
 have e':num v=m++ [x]:=e;have g1:(m++ [x]++r).take m.length=m:=by grind
 have g2:(m++ [x]++r).getD m.length 0=x:=by
  grind
 have g3:(m++ [x]++r).take (m.length+1)=m++ [x]:=by grind
 have :=Of (m++ [x]++r) m.length x! z! w! x!;rw [g2,g3,h4] at this;rw [e',this,if_neg]
 . simp;omega
 . rintro(⟨q1,q2⟩|q)
   . exact h5 q1 q2
   . omega
theorem uB {b:B8}(h:(first b).2.2=0):b=num (first b).1++b.drop (first b).2.1.toNat/\(first b).2.1=((num (first b).1).length:Int):=by
 obtain⟨q1,q2⟩:=Wx h;have h0:=lB b;grind[List.take_append_drop,List.length_take]
theorem A7 {a b c:Int} {d:B8}(h:lI a b c d=true):0<=a/\a<b/\b<=1000/\1<=c/\c<=1099511627776/\d.length=32:=by
 simp [lI,jA,B!,H!] at h;omega
theorem oJ {l:List Sg} {n:Int}(h:pE l n=true):l.length<=64/\(∀i,i<l.length->lI (sg l i).1 (sg l i).2.1 (sg l i).2.2.1 (sg l i).2.2.2=true)/\(0<l.length->(sg l 0).1=0)/\(∀i,i+1<l.length->(sg l (i+1)).1=(sg l i).2.1):=by
 unfold pE at h;split at h
 . grind
 . simp at h;obtain⟨h1,h2,h3,h4⟩:=h;refine⟨w!,fun i hi=> ?_,fun _=>h3,fun i hi=> ?_⟩
   . simp_all[zE,B!]
   . have :=h1 (i+1) hi;simp_all[zE,B!,I?,Bool.and_eq_false_iff,d?,Bool.not_eq_false',H!]
theorem gU {n:Int} {g:B8} {l:List Sg}:bm n g l=true↔0<=n/\n<=1000/\g.length=32/\pE l n=true :=by
 simp [bm,Bool.and_eq_true,decide_eq_true_eq];grind
theorem aro {s:Sg}(h:lI s.1 s.2.1 s.2.2.1 s.2.2.2=true)(r:B8):rA (zQ s++r) s.1=(s,((zQ s).length:Int),0):=by
 have hg:=A7 h;have e1:zQ s++r=num s.2.1++(num s.2.2.1++(s.2.2.2++r)):=by simp [zQ]
 have f1:=sn (v:=s.2.1) w! w! (num s.2.2.1++(s.2.2.2++r));have f2:=sn (v:=s.2.2.1) w! w! (s.2.2.2++r);have d1:(num s.2.1++(num s.2.2.1++(s.2.2.2++r))).drop (((num s.2.1).length:Int)).toNat=num s.2.2.1++(s.2.2.2++r):=by simp_all
 have d2:(num s.2.1++(num s.2.2.1++(s.2.2.2++r))).drop (((num s.2.1).length:Int)+((num s.2.2.1).length:Int)).toNat=s.2.2.2++r:=by
  rw [show(((num s.2.1).length:Int)+((num s.2.2.1).length:Int)).toNat=(num s.2.1).length+(num s.2.2.1).length by omega,<-O?,p?,p?]
 unfold rA;rw [e1,f1];simp only [d1,f2,d2];rw [if_neg z!,if_neg z!,if_neg (by simp;omega),List.take_left' hg.2.2.2.2.2];simp [zQ,List.length_append];omega
theorem OS {b:B8} {f:Int}(h:(rA b f).2.2=0):b=zQ (rA b f).1++b.drop (rA b f).2.1.toNat/\(rA b f).2.1=((zQ (rA b f).1).length:Int)/\(rA b f).1.1=f:=by
 unfold rA at h |-;split at h
 . grind
 . rename_i h1;split at h
   . grind
   . rename_i h2;split at h
     . cases h
     . rename_i h3;rw [N! h1,N! h2,N! h3];obtain⟨p1,p2⟩:=uB (b:=b) (L? h1);obtain⟨q1,q2⟩:=uB (b:=b.drop (first b).2.1.toNat) (L? h2);generalize hm:(first b).2.1=m at *;generalize hk:(first (b.drop m.toNat)).2.1=k at *;have e1:b.drop (m+k).toNat=(b.drop m.toNat).drop k.toNat:=by rw [O?];congr 1;omega
       have e2:b.drop (m+k+32).toNat=(b.drop (m+k).toNat).drop 32:=by rw [O?];congr 1;omega
       have hl:((b.drop (m+k).toNat).take 32).length=32:=by rw [X!,B?];omega
       refine⟨?_,?_,rfl⟩
       . simp only [zQ];rw [U!,U!,e2,Q?,e1,<-q1];exact p1
       . simp [zQ,C!,hl];omega
theorem Ï {l:List Sg}(hg:∀i,i<l.length->lI (sg l i).1 (sg l i).2.1 (sg l i).2.2.1 (sg l i).2.2.2=true)(h0:0<l.length->(sg l 0).1=0)(hc:∀i,i+1<l.length->(sg l (i+1)).1=(sg l i).2.1)(a r:B8):
  ∀k,k<=l.length->jP (a++(gy l++r)) (a.length:Int) k=(l.take k,(if k=0 then 0 else(sg l (k-1)).2.1),((a.length+(gy (l.take k)).length:Nat):Int),0)
 |0,_=>by rfl
 |k+1,hk=>by
  have ih:=Ï hg h0 hc a r k w!;have Gq:k<l.length:=by omega
  have et:l.take (k+1)=l.take k++ [sg l k]:=ar l k _ Gq
  have ed:l=l.take k++(sg l k::l.drop (k+1)):=by
   have :l.drop k=sg l k::l.drop (k+1):=by
    rw [l? Gq];congr 1;rw [sg,I!,E! Gq];rfl
   rw [<-this];exact(Q? k l).symm
  have es:gy l=gy (l.take k)++(zQ (sg l k)++gy (l.drop (k+1))):=by
   grind[gy,sg]
  have hdr:(a++(gy l++r)).drop ((a.length+(gy (l.take k)).length:Nat):Int).toNat=zQ (sg l k)++(gy (l.drop (k+1))++r):=by
   rw [V!,es,<-O?,p?,U!,p?,U!]
  have hf:(if k=0 then(0:Int) else(sg l (k-1)).2.1)=(sg l k).1:=by
   grind
  have hs:=aro (hg k Gq) (gy (l.drop (k+1))++r);simp only [jP,ih,hdr,hf,hs];rw [N! z!,N! z!,N! w!,et];simp only [Nat.add_sub_cancel,gy,r?,List.flatMap_cons,List.flatMap_nil,A?,C!];congr 3
  omega
theorem LJ {n:Int} {g:B8} {l:List Sg}(h:bm n g l=true):hR (hB n g l)=((n,g,l),0):=by
 obtain⟨h1,h2,h3,h4⟩:=gU.1 h;obtain⟨r1,r2,r3,r4⟩:=oJ h4;have e:hB n g l=num n++(g++(num l.length++gy l)):=by simp [hB]
 have f1:=sn h1 w! (g++(num l.length++gy l));have f2:=sn (v:=(l.length:Int)) w! w! (gy l);have d1:(num n++(g++(num l.length++gy l))).drop (((num n).length:Int)).toNat=g++(num l.length++gy l):=by rw [V!,p?]
 have d2:(num n++(g++(num l.length++gy l))).drop (((num n).length:Int)+32).toNat=num l.length++gy l:=by
  rw [show(((num n).length:Int)+32).toNat=(num n).length+g.length by omega,<-O?,p?,p?]
 have sx:=Ï r2 r3 r4 (num n++(g++num l.length)) [] l.length (O! _);have ea:num n++(g++num l.length)++(gy l++ [])=num n++(g++(num l.length++gy l)):=by simp
 have el:(((num n++(g++num (l.length:Int))).length:Nat):Int)=((num n).length:Int)+32+((num (l.length:Int)).length:Int):=by simp;omega
 rw [ea,el,List.take_length] at sx;unfold hR;rw [e,f1];simp only [d1,d2,f2];rw [if_neg z!,if_neg (by simp;omega),if_neg z!,if_neg w!,List.take_left' h3,Int.toNat_natCast,sx];unfold C6;rw [if_neg z!,if_neg];rw [h];rintro(q|q)
 . simp at q;omega
 . cases q
theorem Ð {b:B8} {p:Int}(hp:0<=p):∀k,(jP b p k).2.2.2=0->p<=(jP b p k).2.2.1/\b.drop p.toNat=gy (jP b p k).1++b.drop (jP b p k).2.2.1.toNat/\(jP b p k).1.length=k
 |0,_=>by simp [jP,gy]
 |k+1,h=>by
  have ih:=Ð (b:=b) hp k;rw [jP] at h |-;generalize jP b p k=s at *;by_cases h1:s.2.2.2=0
  . rw [N! (fun e=>e h1)] at h |-;by_cases h2:(rA (b.drop s.2.2.1.toNat) s.2.1).2.2=0
    . rw [N! (fun e=>e h2)];obtain⟨i1,i2,i3⟩:=ih h1;obtain⟨q1,q2,q3⟩:=OS h2;generalize rA (b.drop s.2.2.1.toNat) s.2.1=g at *;refine⟨by simp;omega,?_,by simp [i3]⟩;have e:b.drop (s.2.2.1+g.2.1).toNat=(b.drop s.2.2.1.toNat).drop g.2.1.toNat:=by rw [O?];congr 1;omega
      have e2:gy (s.1++ [g.1])=gy s.1++zQ g.1:=by simp [gy]
      rw [e,e2,U!,<-q1];exact i2
    grind
  grind
theorem WS {b:B8}(h:(hR b).2=0):bm (hR b).1.1 (hR b).1.2.1 (hR b).1.2.2=true/\hB (hR b).1.1 (hR b).1.2.1 (hR b).1.2.2=b:=by
 unfold hR at h |-;split at h
 . omega
 . rename_i h1;split at h
   . cases h
   . rename_i h2;split at h
     . omega
     . rename_i h3;split at h
       . cases h
       . rename_i h4;rw [if_neg h1,if_neg h2,if_neg h3,if_neg h4];unfold C6 at h |-;split at h
         . omega
         . rename_i h5;split at h
           . cases h
           . rename_i h6;rw [N! h5,N! h6];obtain⟨p1,p2⟩:=uB (b:=b) (L? h1);obtain⟨q1,q2⟩:=uB (b:=b.drop ((first b).2.1+32).toNat) (L? h3);have b1:=lB (b.drop ((first b).2.1+32).toNat);generalize hm:(first b).2.1=m at *;generalize hw:(first (b.drop (m+32).toNat)).1=w at *;generalize hk:(first (b.drop (m+32).toNat)).2.1=k at *;obtain⟨i1,i2,i3⟩:=Ð (b:=b) (p:=m+32+k) w! w.toNat (L? h5);refine⟨?_,?_⟩
             . grind
             . have e0:b.drop (jP b (m+32+k) w.toNat).2.2.1.toNat= []:=N? w!;rw [e0,A?] at i2;have e1:b.drop (m+32).toNat=(b.drop m.toNat).drop 32:=by rw [O?];congr 1;omega
               have e2:b.drop (m+32+k).toNat=(b.drop (m+32).toNat).drop k.toNat:=by rw [O?];congr 1;omega
               simp only [hB];rw [i3,<-i2,show((w.toNat:Nat):Int)=w by omega,e2,U!,U!,<-q1,e1,Q?];exact p1.symm
theorem ajC {b:B8}(h:(hR b).2≠0):(hR b).1=(0,[],[]):=by
 grind[hR,C6]
theorem xA {a1:Int} {a2:B8} {a3:List Sg} {b1:Int} {b2:B8} {b3:List Sg}:kv a1 a2 a3 b1 b2 b3=decide ((a1,a2,a3)=(b1,b2,b3)):=by
 grind[kv,Prod.mk.injEq,Bool.decide_and]
theorem TN {a b:Hd}(ha:bm a.1 a.2.1 a.2.2=true)(hb:bm b.1 b.2.1 b.2.2=true):(hB a.1 a.2.1 a.2.2=hB b.1 b.2.1 b.2.2)↔a=b:=by
 grind[LJ]
end Go.S

end
section
namespace Go.S
def rB(n:Int)(g:B8)(l:List Sg)(k:Nat):B8:=num n++g++num l.length++gy (l.take k)
def B7(n:Int)(g:B8)(l:List Sg)(k:Nat):Prop :=bm n g l=true/\k<=l.length
def r8(b:B8)(a e f:Int):(Int×Int)×Sg:=
 (((aD b (an b (an b a e).1.2.1 (an b a e).1.2.2).1.2.1 (an b (an b a e).1.2.1 (an b a e).1.2.2).1.2.2).1.2.1,
   (aD b (an b (an b a e).1.2.1 (an b a e).1.2.2).1.2.1 (an b (an b a e).1.2.1 (an b a e).1.2.2).1.2.2).1.2.2),
  f,(an b a e).2,(an b (an b a e).1.2.1 (an b a e).1.2.2).2,
  (aD b (an b (an b a e).1.2.1 (an b a e).1.2.2).1.2.1 (an b (an b a e).1.2.1 (an b a e).1.2.2).1.2.2).2)
abbrev Ps:=(Int×Int)×Int×List Sg
def pn(b:B8)(a e:Int):Nat->Ps
 |0=>((a,e),0,[])
 |k+1=>((r8 b (pn b a e k).1.1 (pn b a e k).1.2 (pn b a e k).2.1).1,(r8 b (pn b a e k).1.1 (pn b a e k).1.2 (pn b a e k).2.1).2.2.1,
   (pn b a e k).2.2++ [(r8 b (pn b a e k).1.1 (pn b a e k).1.2 (pn b a e k).2.1).2])
def gh(b:B8):(Int×B8×Int)×Int×Int:=
 (((an b 0 0).2,(aD b (an b 0 0).1.2.1 (an b 0 0).1.2.2).2,
   (an b (aD b (an b 0 0).1.2.1 (an b 0 0).1.2.2).1.2.1 (aD b (an b 0 0).1.2.1 (an b 0 0).1.2.2).1.2.2).2),
  (an b (aD b (an b 0 0).1.2.1 (an b 0 0).1.2.2).1.2.1 (aD b (an b 0 0).1.2.1 (an b 0 0).1.2.2).1.2.2).1.2.1,
  (an b (aD b (an b 0 0).1.2.1 (an b 0 0).1.2.2).1.2.1 (aD b (an b 0 0).1.2.1 (an b 0 0).1.2.2).1.2.2).1.2.2)
def iC(b:B8)(k:Nat):Ps:=pn b (gh b).2.1 (gh b).2.2 k
def pN(b:B8):Nat:=(gh b).1.2.2.toNat
theorem Jc(b:B8)(a e:Int):(an b a e).1.1=b/\(aD b a e).1.1=b:=by
 grind[an,aD]
theorem TO {b:B8} {a e:Int}(h:e≠0):bI b a e=e:=by simp_all[bI,N!]
theorem ET {b:B8} {a:Int}(h:0<=a)(h1:a<=b.length):bI b a 0=0:=by
 simp_all[bI,N!,inside,Bool.and_eq_false_iff,d?]
theorem Ñ {b:B8} {a e:Int}(h:e≠0):an b a e=((b,a,e),0):=by
 simp_all[an,TO,R!]
theorem Ò {b:B8} {a e:Int}(h:e≠0):aD b a e=((b,a,e),[]):=by
 simp_all[aD,TO,R!]
theorem C7 {b:B8} {a:Int}(h:0<=a)(h1:a<=b.length)(h2:(first (b.drop a.toNat)).2.2=0):an b a 0=((b,a+(first (b.drop a.toNat)).2.1,0),(first (b.drop a.toNat)).1):=by
 have e:(aZ b a).2.2=0:=h2;unfold an;rw [ET h h1,if_neg (fun q=>q rfl),if_neg (fun q=>q e)];simp_all[aZ,Od,if_true]
theorem QN {b:B8} {a:Int}(h:0<=a)(h1:a<=b.length)(h2:(first (b.drop a.toNat)).2.2≠0):an b a 0=((b,a,(first (b.drop a.toNat)).2.2),0):=by
 have e:(aZ b a).2.2≠0:=h2;unfold an;rw [ET h h1,if_neg (fun q=>q rfl),if_pos e];rfl
theorem WT {b:B8} {a:Int}(h:0<=a)(h1:a+32<=b.length):aD b a 0=((b,a+32,0),(b.drop a.toNat).take 32):=by
 unfold aD;rw [ET h w!,if_neg (fun q=>q rfl),if_neg w!]
theorem ajD {b:B8} {a:Int}(h:0<=a)(h1:a<=b.length)(h2:(b.length:Int)<a+32):aD b a 0=((b,a,4),[]):=by
 unfold aD;rw [ET h h1,if_neg (fun q=>q rfl),if_pos w!]
theorem ajE {b:B8} {a e f:Int}(h:e≠0):(r8 b a e f).1=(a,e):=by
 grind[r8,Ñ,Ò]
theorem arp {b:B8} {a f:Int}(h:0<=a)(h1:a<=b.length)(h2:(rA (b.drop a.toNat) f).2.2=0):
  r8 b a 0 f=((a+(rA (b.drop a.toNat) f).2.1,0),(rA (b.drop a.toNat) f).1)/\a+(rA (b.drop a.toNat) f).2.1<=b.length:=by
 unfold rA at h2 |-;split at h2
 . grind
 . rename_i q1;split at h2
   . grind
   . rename_i q2;split at h2
     . grind
     . rename_i q3;rw [N! q1,N! q2,N! q3];have q1':=L? q1;have q2':=L? q2;have b0:=lB (b.drop a.toNat);have b1:=lB ((b.drop a.toNat).drop (first (b.drop a.toNat)).2.1.toNat);have r1:=C7 h h1 q1';rw [B?] at q3;generalize hn:(first (b.drop a.toNat)).2.1=n at *;have ed:(b.drop a.toNat).drop n.toNat=b.drop (a+n).toNat:=by rw [O?];congr 1;omega
       rw [ed] at q2' b1 q3 |-;have r2:=C7 (b:=b) (a:=a+n) w! w! q2';generalize hm:(first (b.drop (a+n).toNat)).2.1=m at *;have ed2:(b.drop a.toNat).drop (n+m).toNat=b.drop (a+n+m).toNat:=by rw [O?];congr 1;omega
       have r3:=WT (b:=b) (a:=a+n+m) w! w!;unfold r8;simp only [r1,r2,r3,ed2];refine⟨?_,w!⟩;congr 2
       omega
theorem arq {b:B8} {a f:Int}(h:0<=a)(h1:a<=b.length)(h2:(rA (b.drop a.toNat) f).2.2≠0):(r8 b a 0 f).1.2=(rA (b.drop a.toNat) f).2.2:=by
 unfold rA at h2 |-;by_cases q1:(first (b.drop a.toNat)).2.2=0
 . have b0:=lB (b.drop a.toNat);have r1:=C7 h h1 q1;generalize hn:(first (b.drop a.toNat)).2.1=n at *;have ed:(b.drop a.toNat).drop n.toNat=b.drop (a+n).toNat:=by grind[List.drop_drop]
   rw [ed] at h2 |-;have hb:a+n<=b.length:=by grind
   by_cases q2:(first (b.drop (a+n).toNat)).2.2=0
   . have b1:=lB (b.drop (a+n).toNat);have r2:=C7 (b:=b) (a:=a+n) w! hb q2;generalize hm:(first (b.drop (a+n).toNat)).2.1=m at *;by_cases q3:((b.drop a.toNat).length:Int)<n+m+32
     . grind[List.length_drop,ajD,r8]
     grind
   . grind[QN,Ò,r8]
 simp_all[R!,QN,Ñ,Ò,r8]
theorem Gv {b:B8} {p:Int}(hp:0<=p)(xB:p<=b.length):∀k,((jP b p k).2.2.2=0->pn b p 0 k=(((jP b p k).2.2.1,0),(jP b p k).2.1,(jP b p k).1)/\0<=(jP b p k).2.2.1/\(jP b p k).2.2.1<=b.length)/\((jP b p k).2.2.2≠0->(pn b p 0 k).1.2=(jP b p k).2.2.2)
 |0=>⟨fun _=>⟨rfl,hp,xB⟩,fun h=>absurd rfl h⟩
 |k+1=>by
  obtain⟨i1,i2⟩:=Gv (b:=b) hp xB k;rw [jP,pn];generalize jP b p k=s at *;generalize pn b p 0 k=t at *;by_cases h1:s.2.2.2=0
  . obtain⟨rfl,j1,j2⟩:=i1 h1;by_cases h2:(rA (b.drop s.2.2.1.toNat) s.2.1).2.2=0
    . obtain⟨g1,g2⟩:=arp j1 j2 h2;have g3:=(OS h2).2.1;grind
    simp_all[R!,absurd,arq]
  simp_all[R!,ajE]
theorem TP(b:B8)(a e:Int):∀k,(pn b a e k).2.2.length=k
 |0=>rfl
 |k+1=>by simp [pn,C!,J!,TP b a e k]
theorem LK {b:B8} {a e:Int}(h:e≠0):∀k,(pn b a e k).1=(a,e)
 |0=>rfl
 |k+1=>by simp only [pn,LK h k];exact ajE h
theorem C8(b:B8):
  ((gh b).2.2≠0/\(gh b).1.2.2=0/\hR b=((0,[],[]),(gh b).2.2))\/
  ((gh b).2.2=0/\0<=(gh b).2.1/\(gh b).2.1<=b.length/\0<=(gh b).1.2.2/\hR b=if 64<(gh b).1.2.2 then((0,[],[]),2) else C6 b (gh b).1.1 (gh b).1.2.1 (jP b (gh b).2.1 (gh b).1.2.2.toNat)):=by
 have b0:=lB b;unfold hR;by_cases q1:(first b).2.2=0
 . have r1:=C7 (b:=b) (a:=0) (Int.le_refl _) (Int.natCast_nonneg _) q1;generalize hn:(first b).2.1=n at *;by_cases q2:(b.length:Int)<n+32
   . simp_all[R!,ajD,Ñ,gh,trivial]
   . rw [N! q2];have r2:=WT (b:=b) (a:=n) w! w!;have b1:=lB (b.drop (n+32).toNat);by_cases q3:(first (b.drop (n+32).toNat)).2.2=0
     . grind[C7,gh]
     . have r3:=QN (b:=b) (a:=n+32) w! w! q3;simp_all[gh,trivial]
 . simp_all[QN,Int.le_refl,Int.natCast_nonneg,Ò,Ñ,gh,trivial]
theorem TQ {b:B8}(h:64<(gh b).1.2.2):hR b=((0,[],[]),2):=by
 grind[C8]
theorem ajF {b:B8}(h:¬64<(gh b).1.2.2)(h0:done b (iC b (pN b)).1.1 (iC b (pN b)).1.2≠0):hR b=((0,[],[]),done b (iC b (pN b)).1.1 (iC b (pN b)).1.2):=by
 unfold iC pN at *;rcases C8 b with⟨h1,h2,h3⟩|⟨h1,h2,h3,h4,h5⟩
 . simp_all[LK,done,R!]
 . rw [h5,if_neg h];obtain⟨l1,l2⟩:=Gv h2 h3 (gh b).1.2.2.toNat;generalize jP b (gh b).2.1 (gh b).1.2.2.toNat=s at *;unfold C6;by_cases h6:s.2.2.2=0
   . simp_all[N!,inside,B!,H!,done]
   simp_all[R!,done]
theorem Ó {b:B8}(h:¬64<(gh b).1.2.2)(h0:done b (iC b (pN b)).1.1 (iC b (pN b)).1.2=0):
  hR b=if bm (gh b).1.1 (gh b).1.2.1 (iC b (pN b)).2.2 then(((gh b).1.1,(gh b).1.2.1,(iC b (pN b)).2.2),0) else((0,[],[]),2):=by
 unfold iC pN at *;rcases C8 b with⟨h1,h2,h3⟩|⟨h1,h2,h3,h4,h5⟩
 . simp_all[LK,done,R!,absurd]
 . rw [h5,if_neg h];obtain⟨l1,l2⟩:=Gv h2 h3 (gh b).1.2.2.toNat;generalize jP b (gh b).2.1 (gh b).1.2.2.toNat=s at *;unfold C6;by_cases h6:s.2.2.2=0
   . grind[done]
   simp_all[done,R!,absurd]
end Go.S

end
section
namespace Go.S
def zR(a1:Int)(a2:B8)(a3:List Sg)(b1:Int)(b2:B8)(b3:List Sg)(k:Nat):Prop :=(a1=b1/\a2=b2)/\(a3.length=b3.length/\a3.take k=b3.take k/\k<=a3.length)
end Go.S

end
section
namespace Go.S
theorem ars(n:Int)(g:B8)(l:List Sg):(bif decide (0<=n) then bif decide (n<=1000) then bif decide ((g.length:Int)=32) then pE l n else false else false else false)=bm n g l:=by
 grind[bm,decide]
theorem afz(docs:List B8)(l:List ax):(bif ba docs l then decide (gT docs l=(docs.length:Int)) else false)=aV docs l:=by
 grind[aV,ba]
theorem Ô {docs:List B8} {l:List ax}(h:ba docs l=false\/¬gT docs l=(docs.length:Int)):cX docs l=((0,[],[]),7):=by
 grind[aV,cX]
theorem zS {docs:List B8} {l:List ax}(h:ba docs l=true/\gT docs l=(docs.length:Int)):cX docs l=(((docs.length:Int),root (leaves docs),aw docs l),0):=by
 simp_all[aV,S?,cX,R!]
theorem C9 {docs:List B8} {l:List ax}(h:ba docs l=true):bJ docs/\small (leaves docs):=by
 have R:=RI.of h;have hb:=R.bd;refine⟨⟨w!,fun b hb=> ?_⟩,?_⟩
 . have :=R.fair;simp [c8,Bool.and_eq_true,List.all_eq_true,decide_eq_true_eq] at this;grind
 grind[small,leaves,List.length_map]
theorem TR(docs:List B8):lH (leaves docs)=0/\iy (leaves docs)=root (leaves docs):=by
 grind[lH,iy,eX]
theorem QO {docs:List B8}(h:bJ docs):b7 (leaves docs):=⟨eX docs,by unfold leaves;rw [List.length_map];exact h.1⟩
theorem Õ {v:Int}(h:dz v=false)(l:B8):ug v=0/\kg l v=l++num v:=by grind[ug,kg]
theorem Da {v:Int}(h:0<=v)(h1:v<=1099511627776):dz v=false :=by
 grind[dz,Bool.or_eq_false_iff,decide_eq_false_iff_not]
theorem QP {n:Int} {g:B8} {l:List Sg}(h:bm n g l=false):hW n g l=([],1):=by grind[hW]
theorem EU {n:Int} {g:B8} {l:List Sg}(h:bm n g l=true):hW n g l=(hB n g l,0):=by grind[hW]
theorem Db {n:Int} {g:B8} {l:List Sg} {k:Nat}(h:B7 n g l k)(hk:(k:Int)<l.length):dz (sg l k).2.1=false/\dz (sg l k).2.2.1=false/\(sg l k).2.2.2.length=32:=by
 have hg:=A7 ((oJ (gU.1 h.1).2.2.2).2.1 k w!);grind[Da]
theorem A8 {n:Int} {g:B8} {l:List Sg} {k:Nat}(h:B7 n g l k):(rB n g l k).length<=100000:=by
 have hr:=gU.1 h.1;have h1:=bF n;have h2:=bF (l.length:Int);have h3:=(oJ hr.2.2.2).1
 have h4:∀j,j<=l.length->(gy (l.take j)).length<=50*j:=by
  intro j;induction j with
  |zero=>grind[gy]
  |succ j ih=>
   intro hj;have hg:=A7 ((oJ hr.2.2.2).2.1 j w!);have :=ih w!;rw [ar l j (0,0,0,[]) w!];simp [gy,List.flatMap_append,List.flatMap_cons,List.flatMap_nil,List.append_nil,List.length_append] at this |-;grind[bF,sg,zQ,List.length_append]
 have h6:=h.2;grind[rB,List.length_append]
theorem azu(n:Int)(g:B8)(l:List Sg):num n++g++num (l.length:Int)=rB n g l 0:=by simp [rB,gy]
theorem TS {n:Int} {g:B8} {l:List Sg} {k:Nat}(hk:(k:Int)<l.length):rB n g l k++num (sg l k).2.1++num (sg l k).2.2.1++(sg l k).2.2.2=rB n g l (k+1):=by
 simp [rB];rw [ar l k (0,0,0,[]) w!];simp [gy,r?,List.flatMap_cons,List.flatMap_nil,A?,zQ,sg,U!]
theorem QQ {n:Int} {g:B8} {l:List Sg} {k:Nat}(hk:¬(k:Int)<l.length):rB n g l k=hB n g l:=by
 grind[rB,hB,List.take_of_length_le]
theorem Ö(x y:Sg):(Bool.rec false (Bool.rec false (decide (x.2.2.2=y.2.2.2)) (decide (x.2.2.1=y.2.2.1))) (Bool.rec false (decide (x.2.1=y.2.1)) (decide (x.1=y.1))):Bool)=decide (x=y):=by
 grind[EF,Prod.mk.injEq,Bool.decide_and]
theorem aBY {a1:Int} {a2:B8} {a3:List Sg} {b1:Int} {b2:B8} {b3:List Sg}(h:¬a1=b1\/¬a2=b2\/¬(a3.length:Int)=b3.length):false=kv a1 a2 a3 b1 b2 b3:=by
 grind[xA,decide_eq_false_iff_not,Prod.mk.injEq]
theorem art {a1:Int} {a2:B8} {a3:List Sg} {b1:Int} {b2:B8} {b3:List Sg} {k:Nat}(h:¬sg a3 k=sg b3 k):false=kv a1 a2 a3 b1 b2 b3:=by
 grind[xA,decide_eq_false_iff_not,Prod.mk.injEq]
theorem aru {a1:Int} {a2:B8} {a3:List Sg} {b1:Int} {b2:B8} {b3:List Sg} {k:Nat}(h:zR a1 a2 a3 b1 b2 b3 k)(hk:¬(k:Int)<a3.length):true=kv a1 a2 a3 b1 b2 b3:=by
 symm
 rw [xA,H!,h.1.1,h.1.2,LH h.2 hk]
theorem uD(a:Int)(b:B8)(c:List Sg):kv a b c a b c=true :=by simp [kv]
theorem ajG {b:B8} {k:Nat}(h:(k:Int)<(gh b).1.2.2):k+1<=pN b:=by grind[pN]
theorem WU {b:B8} {k:Nat}(h:k<=pN b)(h1:¬(k:Int)<(gh b).1.2.2):k=pN b:=by grind[pN]
theorem aBZ(b:B8)(k:Nat):(iC b k).2.2.length=k:=TP b _ _ k
theorem azv {b:B8} {k:Nat}(h:¬64<(gh b).1.2.2)(hk:k<=pN b)(h1:¬(k:Int)<(gh b).1.2.2)(h0:¬done b (iC b k).1.1 (iC b k).1.2=0):hR b=((0,[],[]),done b (iC b k).1.1 (iC b k).1.2):=by
 grind[WU,ajF]
theorem azw {b:B8} {k:Nat}(h:¬64<(gh b).1.2.2)(hk:k<=pN b)(h1:¬(k:Int)<(gh b).1.2.2)(h0:done b (iC b k).1.1 (iC b k).1.2=0)(h2:bm (gh b).1.1 (gh b).1.2.1 (iC b k).2.2=false):hR b=((0,[],[]),2):=by
 rw [WU hk h1] at h0 h2;simp_all[Ó,N!]
theorem azx {b:B8} {k:Nat}(h:¬64<(gh b).1.2.2)(hk:k<=pN b)(h1:¬(k:Int)<(gh b).1.2.2)(h0:done b (iC b k).1.1 (iC b k).1.2=0)(h2:bm (gh b).1.1 (gh b).1.2.1 (iC b k).2.2=true):hR b=(((gh b).1.1,(gh b).1.2.1,(iC b k).2.2),0):=by
 rw [WU hk h1] at h0 h2 |-;simp_all[Ó,R!]
end Go.S

end
section
namespace Go.S
theorem gx {docs:List B8} {l:List ax}:aV docs l=true↔ba docs l=true/\gT docs l=(docs.length:Int):=by
 simp_all[aV,B!,H!]
theorem ajH {docs:List B8} {l:List ax}(h:aV docs l=false):cX docs l=((0,[],[]),7):=by grind[cX]
theorem A9 {docs:List B8} {l:List ax}(h:aV docs l=true):cX docs l=(((docs.length:Int),root (leaves docs),aw docs l),0):=zS (gx.1 h)
theorem NG(docs:List B8)(l:List ax):small (aw docs l):=by grind[arn,small]
theorem ij {docs:List B8} {l:List ax}(h:aV docs l=true):bm (docs.length:Int) (root (leaves docs)) (aw docs l)=true :=by
 obtain⟨h1,h2⟩:=gx.1 h;have hb:=(RI.of h1).bd;grind[gU,Int.natCast_nonneg,rY,eX,WR]
theorem ajI {n:Int} {g:B8} {l:List Sg}(h:(hW n g l).2=0):bm n g l=true/\hW n g l=(hB n g l,0):=by
 grind[EU,QP]
theorem Ø {n:Int} {g:B8} {l:List Sg}(h:bm n g l=true):(hB n g l).length<=100000:=by
 have :=A8 (k:=l.length) ⟨h,Nat.le_refl _⟩;grind[QQ]
theorem apart {a b:Hd}(ha:(hW a.1 a.2.1 a.2.2).2=0)(hb:(hW b.1 b.2.1 b.2.2).2=0):(bif decide ((hW a.1 a.2.1 a.2.2).1=(hW b.1 b.2.1 b.2.2).1)==kv a.1 a.2.1 a.2.2 b.1 b.2.1 b.2.2 then true else false)=true :=by
 grind[ajI,xA,TN,decide_eq_true,decide_eq_false]
theorem TT(l:List hZ):(cr l).2.length<=40:=by
 grind[OO,min,LD,cr]
theorem OT {docs:List B8} {l:List ax}(h:ba docs l=true)(a b c:Int)(d:B8):(cF docs l a b c d).1.1.length<=docs.length+1:=by
 by_cases h0:a=0
 . have hg:=fY h;unfold cF;grind[cn]
 grind[keeps]
theorem LL(l:List hZ):∀k,(bG ([],[]) l k).1.length<=k
 |0=>O! _
 |k+1=>by
  have ih:=LL l k;rw [bG];split
  . omega
  . have :=OT (QK l k) (fm l k).1 (fm l k).2.1 (fm l k).2.2.1 (fm l k).2.2.2;omega
theorem ajJ(l:List hZ):(cr l).1.length<=40:=by grind[LL,min,cr]
theorem WV(docs:List B8)(l:List ax):bo docs l=cF docs l 1 0 0 []:=by rfl
theorem EV {docs:List B8} {l:List ax}(h:ba docs l=true)(hl:l.length<64):
  (bo docs l).1.1=docs/\ba docs (bo docs l).1.2=true/\dp (bo docs l).1.2=docs.length/\(bo docs l).1.2.length<=l.length+1/\aV docs (bo docs l).1.2=true :=by
 grind[keeps,EO,LC,WV,gx,zP]
theorem pf(l:List hZ):(bo (cr l).1 (cr l).2).1.1=(cr l).1/\ba (cr l).1 (bo (cr l).1 (cr l).2).1.2=true/\dp (bo (cr l).1 (cr l).2).1.2=(cr l).1.length/\(bo (cr l).1 (cr l).2).1.2.length<=41/\aV (cr l).1 (bo (cr l).1 (cr l).2).1.2=true :=by
 grind[TT,EV,Î]
theorem aB0 {docs:List B8} {l:List ax} {d:B8}(h:ba docs l=true)(h1:¬(2000:Int)<d.length)(h2:docs.length<1000):cn docs l d=((docs++ [d],l),0):=by
 grind[fY,ajw]
theorem grow(l:List hZ) {d:B8}(hd:¬(2000:Int)<d.length) {x:List ax}(hx:(bo (cr l).1 (cr l).2).1.2=x):
  cX (cr l).1 x=((((cr l).1.length:Int),root (leaves (cr l).1),aw (cr l).1 x),0)/\cn (cr l).1 x d=(((cr l).1++ [d],x),0)/\
  ∃s r,bo ((cr l).1++ [d]) x=(((cr l).1++ [d],x++ [s]),0)/\cX ((cr l).1++ [d]) (x++ [s])=((((cr l).1.length:Int)+1,r,aw (cr l).1 x++ [EI s]),0):=by
 have h40:=ajJ l;obtain⟨p1,p2,p3,p4,p5⟩:=pf l;rw [hx] at p2 p3 p4 p5;have ha:=aB0 p2 hd w!;have hr:=append_right (cr l).1 x d;rw [ha] at hr;have hg:=fY hr
 have hf:bo ((cr l).1++ [d]) x=(((cr l).1++ [d],x++ [(dp x,(((cr l).1++ [d]).length:Int),make ((cr l).1++ [d]) (dp x) ((cr l).1++ [d]).length)]),0):=by
  grind[bo,gT]
 refine⟨A9 p5,ha,_,root (leaves ((cr l).1++ [d])),hf,?_⟩;have hfl:=EV (docs:=(cr l).1++ [d]) (l:=x) hr w!;grind[A9,aw,cr,dp,make,EI,fY]
end Go.S

end
section
namespace Go.S
def qg(i n:Int):List Bool:=if h:n<2 then [] else if i<((sp n.toNat:Nat):Int) then false ::qg i ((sp n.toNat:Nat):Int) else true ::qg (i-((sp n.toNat:Nat):Int)) (n-((sp n.toNat:Nat):Int))
termination_by n.toNat
decreasing_by
 . have :=kp (n:=n.toNat) w!;omega
 . have :=kp (n:=n.toNat) w!;omega
def path(l:List B8)(i:Int):List B8:=if h:l.length<2 then [] else if i<((sp l.length:Nat):Int) then path (l.take (sp l.length)) i++ [root (l.drop (sp l.length))] else path (l.drop (sp l.length)) (i-((sp l.length:Nat):Int))++ [root (l.take (sp l.length))]
termination_by l.length
decreasing_by
 . have :=kp (n:=l.length) w!;rw [X!];omega
 . have :=kp (n:=l.length) w!;rw [B?];omega
theorem LM {i n:Int}(h:n<2):qg i n= []:=by rw [qg,dif_pos h]
theorem TU {i n:Int}(h:2<=n)(hi:i<((sp n.toNat:Nat):Int)):qg i n=false ::qg i ((sp n.toNat:Nat):Int):=by rw [qg,dif_neg w!,R! hi]
theorem TV {i n:Int}(h:2<=n)(hi:¬i<((sp n.toNat:Nat):Int)):qg i n=true ::qg (i-((sp n.toNat:Nat):Int)) (n-((sp n.toNat:Nat):Int)):=by rw [qg,dif_neg w!,N! hi]
theorem EW {l:List B8} {i:Int}(h:l.length<2):path l i= []:=by rw [path,dif_pos h]
theorem EX {l:List B8} {i:Int}(h:2<=l.length)(hi:i<((sp l.length:Nat):Int)):path l i=path (l.take (sp l.length)) i++ [root (l.drop (sp l.length))]:=by rw [path,dif_neg w!,R! hi]
theorem EY {l:List B8} {i:Int}(h:2<=l.length)(hi:¬i<((sp l.length:Nat):Int)):path l i=path (l.drop (sp l.length)) (i-((sp l.length:Nat):Int))++ [root (l.take (sp l.length))]:=by rw [path,dif_neg w!,N! hi]
theorem Dc {C:Nat->Prop}(h0:∀n,n<2->C n)(h1:∀n,2<=n->C (sp n)->C (n-sp n)->C n)(n:Nat):C n:=by
 induction n using Nat.strongRecOn with
 |_ n ih=>
  by_cases h:n<2
  . exact h0 n h
  . have hb:=kp (n:=n) w!;exact h1 n w! (ih _ w!) (ih _ w!)
theorem afA(n:Nat):∀(l:List B8) (i:Int),l.length=n->(path l i).length=(qg i l.length).length:=by
 refine Dc (C:=fun n=>∀(l:List B8) (i:Int),l.length=n->(path l i).length=(qg i l.length).length) (fun n h l i e=> ?_) (fun n h i1 i2 l i e=> ?_) n
 . grind[EW,LM]
 . have hb:=kp (n:=l.length) w!;by_cases hi:i<((sp l.length:Nat):Int)
   . rw [EX w! hi,TU w! x!,List.length_append];grind
   . rw [EY w! hi,TV w! x!,List.length_append];grind
def my(l:List B8)(i:Int):List B8:=if cz l=true/\0<=i/\i<l.length then path l i else []
def qh(l:List B8)(i:Int):Int:=if cz l=true/\0<=i/\i<l.length then 0 else 1
def nN(l:List B8):Prop :=l.length<=1099511627776
def fZ(l:List B8)(i:Int)(k:List B8×Int×List B8):Prop :=
 cz k.1=true/\k.1.length<=l.length/\0<=k.2.1/\k.2.1<k.1.length/\path l i=path k.1 k.2.1++k.2.2.reverse/\k.2.2.length+k.1.length<=l.length
end Go.S

end
section
namespace Go.S
def dq(l:List B8)(m:Int)(p:Bool):List B8:=
 if(l.length:Int)=m then(if p then [root l] else [])
 else if h:l.length<2 then []
 else if m<=((sp l.length:Nat):Int) then dq (l.take (sp l.length)) m p++ [root (l.drop (sp l.length))]
 else dq (l.drop (sp l.length)) (m-((sp l.length:Nat):Int)) true++ [root (l.take (sp l.length))]
termination_by l.length
decreasing_by
 . have :=kp (n:=l.length) w!;rw [X!];omega
 . have :=kp (n:=l.length) w!;rw [B?];omega
def cb(l:List B8)(m:Int):List B8:=if cz l=true/\0<=m/\m<=l.length then(if m=0 then [] else dq l m false) else []
def kz(l:List B8)(m:Int):Int:=if cz l=true/\0<=m/\m<=l.length then 0 else 1
def fC(l:List B8)(m:Int):Prop :=b7 l/\1<=m/\m<=l.length
end Go.S

end
section
namespace Go.S
def LN(l:List B8):List B8:=l.reverse
end Go.S

end
section
namespace Go.S
theorem arv {n:Nat}(h:2<=n):n<=2*sp n:=by
 have :=Nat.lt_log2_self (n:=n-1);grind[sp,Nat.pow_succ]
theorem HU {n t:Nat}(h:2<=n)(h1:n<=2^(t+1)):sp n<=2^t/\n-sp n<=2^t:=by
 have h2:=kp h;have h3:=arv h
 have :sp n<=2^t:=by
  unfold sp at *;have :2^Nat.log2 (n-1)<2^(t+1):=by omega
  grind[Nat.pow_lt_pow_iff_right]
 omega
theorem Gw:∀(t n:Nat) (i:Int),0<=i->i<n->n<=2^t->(qg i n).length<=t
 |0,n,i,h0,h1,h=>by grind[LM]
 |t+1,n,i,h0,h1,h=>by
  by_cases h2:2<=n
  . have hs:=HU h2 h;by_cases hi:i<((sp n:Nat):Int)
    . rw [TU w! (by exact hi),V!];have :=Gw t (sp n) i h0 hi hs.1;simp;omega
    . rw [TV w! (by exact hi),V!];have :=Gw t (n-sp n) (i-((sp n:Nat):Int)) w! w! hs.2;rw [Int.natCast_sub w!] at this;simp;omega
  grind[LM]
theorem zT {l:List B8} {i:Int} {t:Nat}(h0:0<=i)(h1:i<l.length)(h:l.length<=2^t):(path l i).length<=t:=by
 rw [afA _ l i rfl];simp_all[Gw]
theorem afB(n:Nat):∀(l:List B8) (i:Int),l.length=n->(path l i).length<=n:=by
 refine Dc (C:=fun n=>∀(l:List B8) (i:Int),l.length=n->(path l i).length<=n) ?_ ?_ n
 . simp_all[EW,K!]
 . intro n h h1 h2 l i e;have hb:=kp h;by_cases hi:i<((sp l.length:Nat):Int)
   . rw [EX w! hi,C!,J!];have :=h1 (l.take (sp l.length)) i (by rw [X!,e];omega);omega
   . rw [EY w! hi,C!,J!];have :=h2 (l.drop (sp l.length)) (i-((sp l.length:Nat):Int)) (by rw [B?,e]);omega
theorem lb {l:List B8}(h:cz l=true)(k:Nat):cz (l.take k)=true :=(cL _).2 fun d hd=>(cL l).1 h d (List.mem_of_mem_take hd)
theorem lf {l:List B8}(h:cz l=true)(k:Nat):cz (l.drop k)=true :=(cL _).2 fun d hd=>(cL l).1 h d (List.mem_of_mem_drop hd)
theorem tD {l:List B8} {d:B8}(h:cz l=true)(h1:d.length=32):cz (l++ [d])=true :=
 (cL _).2 fun x hx=>by
   grind[cL,List.mem_singleton]
theorem Dd(n:Nat):∀(l:List B8) (i:Int),l.length=n->cz l=true->cz (path l i)=true :=by
 refine Dc (C:=fun n=>∀(l:List B8) (i:Int),l.length=n->cz l=true->cz (path l i)=true) ?_ ?_ n
 . intro n h l i e _;rw [EW w!];rfl
 . intro n h h1 h2 l i e hd;have hb:=kp h;by_cases hi:i<((sp l.length:Nat):Int)
   . grind[EX,tD,lb,rY,lf,List.length_take]
   grind[EY,tD,lf,rY,lb,List.length_drop]
theorem qi {l:List B8} {m:Int} {p:Bool}(h:(l.length:Int)=m):dq l m p=if p then [root l] else []:=by rw [dq,R! h]
theorem OU {l:List B8} {m:Int} {p:Bool}(h:¬(l.length:Int)=m)(h2:2<=l.length)(h3:m<=((sp l.length:Nat):Int)):dq l m p=dq (l.take (sp l.length)) m p++ [root (l.drop (sp l.length))]:=by
 rw [dq,N! h,dif_neg w!,R! h3]
theorem OV {l:List B8} {m:Int} {p:Bool}(h:¬(l.length:Int)=m)(h2:2<=l.length)(h3:¬m<=((sp l.length:Nat):Int)):dq l m p=dq (l.drop (sp l.length)) (m-((sp l.length:Nat):Int)) true++ [root (l.take (sp l.length))]:=by
 rw [dq,N! h,dif_neg w!,N! h3]
theorem qj:∀(t:Nat) (l:List B8) (m:Int) (p:Bool),cz l=true->l.length<=2^t->cz (dq l m p)=true/\(dq l m p).length<=t+1
 |t,l,m,p,hd,hl=>by
  by_cases h:(l.length:Int)=m
  . rw [qi h];cases p
    . exact⟨rfl,K! _⟩
    . exact⟨tD (l:= []) rfl (rY hd),z!⟩
  . by_cases h2:2<=l.length
    . cases t with
      |zero=>omega
      |succ t=>
       have hs:=HU h2 hl;by_cases h3:m<=((sp l.length:Nat):Int)
       . rw [OU h h2 h3];have ih:=qj t (l.take (sp l.length)) m p (lb hd _) x!;grind[tD,rY,lf,List.length_append,List.length_singleton]
       . rw [OV h h2 h3];have ih:=qj t (l.drop (sp l.length)) (m-((sp l.length:Nat):Int)) true (lf hd _) x!;grind[tD,rY,lb,List.length_append,List.length_singleton]
    . rw [dq,N! h,dif_pos w!];exact⟨rfl,K! _⟩
theorem wj {l:List B8}(h:2<=l.length)(h1:l.length<=1099511627776):split l.length=((sp l.length:Nat):Int):=by
 grind[CY,Int.toNat_natCast]
theorem aIO {l:List B8} {i:Int}(h:cz l=true)(h0:0<=i)(h1:i<l.length):fZ l i (l,i,[]):=
 ⟨h,O! _,h0,h1,z!,z!⟩
theorem aIP {l m acc:List B8} {i j:Int}(h:fZ l i (m,j,acc))(h2:2<=m.length)(hj:j<((sp m.length:Nat):Int)):
  fZ l i (m.take (sp m.length),j,acc++ [root (m.drop (sp m.length))]):=by
 obtain⟨a1,a2,a3,a4,a5,a6⟩:=h;have hb:=kp h2;refine⟨lb a1 _,?_,a3,?_,?_,?_⟩
 . grind
 . grind
 . grind[EX,List.reverse_append]
 grind
theorem aIQ {l m acc:List B8} {i j:Int}(h:fZ l i (m,j,acc))(h2:2<=m.length)(hj:¬j<((sp m.length:Nat):Int)):
  fZ l i (m.drop (sp m.length),j-((sp m.length:Nat):Int),acc++ [root (m.take (sp m.length))]):=by
 obtain⟨a1,a2,a3,a4,a5,a6⟩:=h;have hb:=kp h2;refine⟨lf a1 _,?_,x!,?_,?_,?_⟩
 . grind
 . grind
 . grind[EY,List.reverse_append]
 grind
theorem arw {l m acc:List B8} {i j:Int}(h:fZ l i (m,j,acc))(h2:¬1<(m.length:Int)):LN acc=path l i:=by
 have :=h.2.2.2.2.1;grind[LN,EW]
def kA(l:List B8)(i:Int):Prop :=b7 l/\0<=i/\i<l.length
def rf(l:List B8)(m:Int):Prop :=b7 l/\0<=m/\m<=l.length
theorem ajK {l:List B8} {i:Int}(h:cz l=false\/i<0\/(l.length:Int)<=i): []=my l i/\1=qh l i:=by
 grind[cz,my,qh]
theorem arx {l:List B8} {i:Int}(h:cz l=true/\¬i<0/\¬(l.length:Int)<=i):my l i=path l i/\qh l i=0:=by
 grind[cz,my,qh]
theorem B9 {l:List B8} {i:Int} {x:List B8×Int×List B8}(hp:l.length<=1099511627776)(h:fZ l i x)(h2:1<(x.1.length:Int)):
  (0<=split x.1.length/\split x.1.length<=x.1.length/\ -9223372036854775808<=x.2.1-split x.1.length/\x.2.1-split x.1.length<=9223372036854775807)/\
  b7 (x.1.take (split x.1.length).toNat)/\b7 (x.1.drop (split x.1.length).toNat)/\(∀d:B8,x.2.2.length+ [d].length<=8796093022208)/\
  len (x.1.take (split x.1.length).toNat)<len x.1/\len (x.1.drop (split x.1.length).toNat)<len x.1:=by
 obtain⟨a1,a2,a3,a4,a5,a6⟩:=h;have hb:=kp (n:=x.1.length) w!;rw [wj w! w!,Int.toNat_natCast];refine⟨w!,⟨lb a1 _,x!⟩,⟨lf a1 _,x!⟩,fun d=>by grind,?_,?_⟩
 . grind[len,List.length_take]
 grind[len,List.length_drop]
theorem aB1 {l:List B8} {i:Int} {x:List B8×Int×List B8}(hp:l.length<=1099511627776)(h:fZ l i x)(h2:1<(x.1.length:Int))(hj:x.2.1<split x.1.length):
  fZ l i (x.1.take (split x.1.length).toNat,x.2.1,x.2.2++ [root (x.1.drop (split x.1.length).toNat)]):=by
 have :=h.2.1;grind[wj,Int.toNat_natCast,aIP]
theorem aB2 {l:List B8} {i:Int} {x:List B8×Int×List B8}(hp:l.length<=1099511627776)(h:fZ l i x)(h2:1<(x.1.length:Int))(hj:¬x.2.1<split x.1.length):
  fZ l i (x.1.drop (split x.1.length).toNat,x.2.1-split x.1.length,x.2.2++ [root (x.1.take (split x.1.length).toNat)]):=by
 have :=h.2.1;rw [wj w! w!] at hj |-;exact aIQ h w! hj
theorem aB3 {l:List B8} {i:Int} {x:List B8×Int×List B8}(hp:l.length<=1099511627776)(h:fZ l i x):small x.2.2:=by
 have :=h.2.2.2.2.2;grind[small]
theorem Ù {l:List B8} {i:Int} {x:List B8×Int×List B8}(h0:cz l=true/\¬i<0/\¬(l.length:Int)<=i)(h:fZ l i x)(h2:¬1<(x.1.length:Int)):LN x.2.2=my l i/\0=qh l i:=by
 grind[arx,arw]
theorem afC {l:List B8} {i:Int}(h:cz l=true/\¬i<0/\¬(l.length:Int)<=i):fZ l i (l,i,[]):=aIO h.1 w! w!
theorem wk {l:List B8} {i:Int}(hp:kA l i)(h:¬(l.length:Int)=1):
  (0<=split l.length/\split l.length<=l.length/\ -9223372036854775808<=i-split l.length/\i-split l.length<=9223372036854775807)/\
  b7 (l.take (split l.length).toNat)/\b7 (l.drop (split l.length).toNat)/\
  (∀d:B8,(path (l.take (split l.length).toNat) i).length+ [d].length<=8796093022208)/\(∀(d:B8),i-split l.length<(l.drop (split l.length).toNat).length->0<=i-split l.length->(path (l.drop (split l.length).toNat) (i-split l.length)).length+ [d].length<=8796093022208)/\
  len (l.take (split l.length).toNat)<len l/\len (l.drop (split l.length).toNat)<len l/\
  (i<split l.length->kA (l.take (split l.length).toNat) i/\path (l.take (split l.length).toNat) i++ [root (l.drop (split l.length).toNat)]=path l i)/\
  (¬i<split l.length->kA (l.drop (split l.length).toNat) (i-split l.length)/\path (l.drop (split l.length).toNat) (i-split l.length)++ [root (l.take (split l.length).toNat)]=path l i):=by
 obtain⟨⟨a1,a2⟩,a3,a4⟩:=hp;have hb:=kp (n:=l.length) w!;rw [wj w! w!,Int.toNat_natCast];have l1:(l.take (sp l.length)).length=sp l.length:=by grind
 have l2:(l.drop (sp l.length)).length=l.length-sp l.length:=List.length_drop;refine⟨w!,⟨lb a1 _,w!⟩,⟨lf a1 _,w!⟩,fun d=> ?_,fun d h1 h2=> ?_,by grind[len],by grind[len],fun h1=> ?_,fun h1=> ?_⟩
 . by_cases hi:i<((sp l.length:Nat):Int)
   . have :=zT (l:=l.take (sp l.length)) (i:=i) (t:=40) a3 w! w!;grind
   . have :(path (l.take (sp l.length)) i).length<=1099511627776:=by
      have :=afB (l.take (sp l.length)).length (l.take (sp l.length)) i rfl;omega
     grind
 . have :=zT (l:=l.drop (sp l.length)) (t:=40) h2 h1 w!;grind
 . exact⟨⟨⟨lb a1 _,w!⟩,a3,w!⟩,(EX w! h1).symm⟩
 . exact⟨⟨⟨lf a1 _,w!⟩,w!,w!⟩,(EY w! h1).symm⟩
theorem kM {l:List B8} {n:Int}(hp:fC l n)(h:¬n=(l.length:Int)):
  (0<=split l.length/\split l.length<=l.length/\ -9223372036854775808<=n-split l.length/\n-split l.length<=9223372036854775807)/\
  (b7 (l.take (split l.length).toNat)/\b7 (l.drop (split l.length).toNat)/\small (l.take (split l.length).toNat)/\small (l.drop (split l.length).toNat))/\
  (∀(p:Bool) (d:B8),(dq (l.take (split l.length).toNat) n p).length+ [d].length<=8796093022208)/\(∀(p:Bool) (d:B8),(dq (l.drop (split l.length).toNat) (n-split l.length) p).length+ [d].length<=8796093022208)/\
  (len (l.take (split l.length).toNat)<len l/\len (l.drop (split l.length).toNat)<len l)/\
  (n<=split l.length->fC (l.take (split l.length).toNat) n/\∀p,dq (l.take (split l.length).toNat) n p++ [root (l.drop (split l.length).toNat)]=dq l n p)/\
  (¬n<=split l.length->fC (l.drop (split l.length).toNat) (n-split l.length)/\∀p,dq (l.drop (split l.length).toNat) (n-split l.length) true++ [root (l.take (split l.length).toNat)]=dq l n p)/\
  (iy (l.take (split l.length).toNat)=root (l.take (split l.length).toNat)/\iy (l.drop (split l.length).toNat)=root (l.drop (split l.length).toNat)):=by
 obtain⟨⟨a1,a2⟩,a3,a4⟩:=hp;have hb:=kp (n:=l.length) w!;rw [wj w! w!,Int.toNat_natCast];have l1:(l.take (sp l.length)).length=sp l.length:=by grind
 have l2:(l.drop (sp l.length)).length=l.length-sp l.length:=List.length_drop;have d1:=lb a1 (sp l.length);have d2:=lf a1 (sp l.length);refine⟨w!,⟨⟨d1,w!⟩,⟨d2,w!⟩,by grind[small],by grind[small]⟩,fun p d=> ?_,fun p d=> ?_,⟨by grind[len],by grind[len]⟩,fun h1=> ?_,fun h1=> ?_,by grind[iy]⟩
 . have :=(qj 40 (l.take (sp l.length)) n p d1 w!).2;grind
 . have :=(qj 40 (l.drop (sp l.length)) (n-((sp l.length:Nat):Int)) p d2 w!).2;grind
 . exact⟨⟨⟨d1,w!⟩,w!,w!⟩,fun p=>(OU w! w! h1).symm⟩
 . exact⟨⟨⟨d2,w!⟩,w!,w!⟩,fun p=>(OV w! w! h1).symm⟩
theorem ajL {l:List B8} {m:Int}(h:¬lH l=0\/m<0\/(l.length:Int)<m): []=cb l m/\1=kz l m:=by
 grind[cz,lH,cb,kz]
theorem EZ {l:List B8} {m:Int}(hp:l.length<=1099511627776)(h:lH l=0/\¬m<0/\¬(l.length:Int)<m):kz l m=0/\(m=0->cb l m= [])/\(¬m=0->fC l m/\dq l m false=cb l m):=by
 have hd:cz l=true :=by
  grind[cz,lH]
 have q:cz l=true/\0<=m/\m<=l.length:=⟨hd,w!,w!⟩;unfold cb kz;rw [if_pos q,if_pos q];exact⟨rfl,fun h=>if_pos h,fun h=>⟨⟨⟨hd,hp⟩,w!,w!⟩,x!⟩⟩
theorem rcp {l:List B8} {m:Int}(hp:rf l m):(m=0-> []=cb l m)/\(¬m=0->fC l m/\dq l m false=cb l m):=by
 have q:cz l=true/\0<=m/\m<=l.length:=⟨hp.1.1,hp.2.1,hp.2.2⟩;unfold cb;rw [if_pos q];exact⟨fun h=>(if_pos h).symm,fun h=>⟨⟨hp.1,w!,hp.2.2⟩,x!⟩⟩
def mz(l:List B8)(m:Int)(w:Bool):List B8:=dq l m (!w)
end Go.S

end
section
namespace Go.S
abbrev Pf:=Int×B8×B8×B8×List B8×B8
def cG(d:List bx)(t:B8):Pf:=
 (aU d t+1,(bw (ja d (aU d t+1).toNat)).1.1,(bw (ja d (aU d t+1).toNat)).1.2.1,(bw (ja d (aU d t+1).toNat)).1.2.2,path (leaves (dh d)) (aU d t+1),if eW d t then ml (gS d t) else [])
def rF:Pf:=(0,[],[],[],[],[])
def tK(d:List bx)(t:B8):Pf×Int:=if aI d&&isTerm t then(cG d t,0) else(rF,1)
def De(d:List bx):Prop :=aQ d/\aI d=true
theorem Ú {d:List bx} {t:B8}(h:dE d≠0\/isTerm t=false):tK d t=(rF,1):=by
 grind[tK,dE,aI]
theorem rh {d:List bx} {t:B8}(h:aI d=true)(h1:isTerm t=true):tK d t=(cG d t,0):=by
 grind[tK]
theorem LO {d:List bx} {t:B8}(h:aI d=true):0<=aU d t+1/\aU d t+1<=d.length/\(dh d).length=d.length+1:=by
 have :=zy (d:=d) (t:=t) d.length;unfold aU;grind[dh,e6]
theorem afD(d:List bx) {i:Int}(h0:0<=i)(h:i<=d.length):(dh d).getD i.toNat []=ja d i.toNat:=by
 grind[dh,e6]
end Go.S

end
section
namespace Go.S
theorem TW {d:List bx}(hp:aQ d)(hr:aI d=true)(t:B8):
  (0<=aU d t+1/\aU d t+1<=1048576/\aU d t+1<(cc d).length/\(aU d t+1).toNat<(cc d).length)/\((cc d).getD (aU d t+1).toNat []).length<=140737488355328/\bJ (cc d)/\nN (leaves (cc d))/\kA (leaves (cc d)) (aU d t+1)/\
  (cc d).getD (aU d t+1).toNat []=ja d (aU d t+1).toNat/\my (leaves (cc d)) (aU d t+1)=path (leaves (dh d)) (aU d t+1)/\cc d=dh d:=by
 obtain⟨f1,f2,f3⟩:=LO (t:=t) hr;have e:cc d=dh d:=by grind[cc]
 have hl:=hp.1;have hlen:(leaves (dh d)).length=d.length+1:=by grind[leaves]
 have ha:=afD d f1 f2;rw [e];refine⟨w!,?_,(la hp hr).1,by grind[nN],⟨(la hp hr).2,f1,w!⟩,ha,?_,rfl⟩
 . rcases zx hr (k:=(aU d t+1).toNat) with q|q
   . grind[oh,ja]
   omega
 . have q:cz (leaves (dh d))=true/\0<=aU d t+1/\aU d t+1<(leaves (dh d)).length:=⟨(la hp hr).2.1,f1,w!⟩;simp_all[my,R!]
theorem LP {d:List bx}(hp:aQ d)(hr:aI d=true)(t:B8):
  cG d t=(aU d t+1,(bw ((cc d).getD (aU d t+1).toNat [])).1.1,(bw ((cc d).getD (aU d t+1).toNat [])).1.2.1,(bw ((cc d).getD (aU d t+1).toNat [])).1.2.2,my (leaves (cc d)) (aU d t+1),if eW d t then nk (gS d t) else []):=by
 have q:=TW hp hr t;rw [q.2.2.2.2.2.1,q.2.2.2.2.2.2.1];unfold cG;congr 5
 split
 . have :bK (gS d t)=true :=by
    unfold gS;rename_i h1;rw [if_pos h1];have hb:=uo h1;exact(qY hr (i:=(aU d t).toNat) w!).2
   unfold nk;rw [this];rfl
 . rfl
theorem LQ {d:List bx}(hr:aI d=true) {t:B8}(h1:eW d t=true):0<=aU d t/\aU d t<d.length/\(d.getD (aU d t).toNat ([],[])).2=gS d t/\bK (gS d t)=true/\ml (gS d t)=nk (gS d t):=by
 have hb:=uo h1
 have :bK (gS d t)=true :=by
  simp_all[gS,R!,qY,aU]
 grind[nk]
end Go.S

end
section
namespace Go.S
abbrev fa:=Int×B8
def nm(l:List fa)(i:Nat):fa:=l.getD i (0,[])
def nW(l:List fa):Nat->Int
 |0=>0
 |k+1=>nW l k+if(nm l k).1=0 then 1 else 0
def jQ(l:List fa)(k:Nat):Int:=2*nW l k-k
def wm(l:List fa)(i:Nat):Bool:=
 if(nm l i).1=0 then isTerm (nm l i).2 else(decide (1<=(nm l i).1)&&decide ((nm l i).1<=3))&&(decide ((nm l i).2= [])&&decide (2<=jQ l i))
def bL(l:List fa):Bool:=(List.range l.length).all (wm l)&&(decide (jQ l l.length=1)&&decide (nW l l.length<=16))
def ji(l:List fa)(k:Nat):Prop :=k<=l.length/\l.length<=1099511627776/\∀i,i<k->wm l i=true
def lh(l:List fa):Bool:=l.any (fun o=>decide ((200:Int)<o.2.length)) || decide ((60:Int)<l.length)
def Df(l:List fa)(k:Nat):Prop :=k<=l.length/\∀o∈l.take k,¬(200:Int)<o.2.length
def br(l:List fa)(k:Nat):List B8:=((l.take k).filter fun o=>decide (o.1=0)).map (·.2)
def xC(l:List fa):List B8:=br l l.length
def aO(l:List fa):List B8:=sorted (xC l)
theorem jL(l:List fa):∀k,0<=nW l k/\nW l k<=k
 |0=>by simp [nW]
 |k+1=>by have :=jL l k;grind[nW]
theorem Jd {l:List fa} {k:Nat}(h:(nm l k).1=0):nW l (k+1)=nW l k+1:=by simp_all[nW,R!]
theorem Gx {l:List fa} {k:Nat}(h:¬(nm l k).1=0):nW l (k+1)=nW l k:=by simp_all[nW,N!]
theorem ajM {l:List fa} {k:Nat}(h:(nm l k).1=0):jQ l (k+1)=jQ l k+1:=by grind[jQ,Jd]
theorem QR {l:List fa} {k:Nat}(h:¬(nm l k).1=0):jQ l (k+1)=jQ l k-1:=by grind[jQ,Gx]
theorem azy {l:List fa}(h:small l):ji l 0:=⟨K! _,h,fun i hi=>by omega⟩
theorem TX {l:List fa} {k:Nat}(h:ji l k)(hk:(k:Int)<l.length)(h1:wm l k=true):ji l (k+1):=by
 refine⟨w!,h.2.1,fun i hi=> ?_⟩;by_cases he:i=k
 . grind
 . exact h.2.2 i w!
theorem Û {l:List fa} {k:Nat}(hk:(k:Int)<l.length)(h:wm l k=false):false=bL l:=by
 grind[List.range,wm,bL]
theorem ary {l:List fa} {k:Nat}(h:ji l k)(hk:¬(k:Int)<l.length):(decide (jQ l k=1)&&decide (nW l k<=16))=bL l:=by
 have e:k=l.length:=by have :=h.1;omega
 subst e;have :(List.range l.length).all (wm l)=true :=List.all_eq_true.2 fun i hi=>h.2.2 i (List.mem_range.1 hi);grind[bL]
theorem LS {l:List fa} {k:Nat}(h:(nm l k).1=0):wm l k=isTerm (nm l k).2:=by simp_all[wm,R!]
theorem ajN {l:List fa} {k:Nat}(h:¬(nm l k).1=0)(h1:1<=(nm l k).1)(h2:(nm l k).1<=3)(h3:(nm l k).2= [])(h4:2<=jQ l k):wm l k=true :=by
 simp_all[wm,N!]
theorem arz {l:List fa} {k:Nat}(h:¬(nm l k).1=0)(h1:¬1<=(nm l k).1\/¬(nm l k).1<=3\/¬(nm l k).2= []\/¬2<=jQ l k):wm l k=false :=by
 grind[wm]
theorem ajO {l:List fa} {k:Nat}(h:Df l k)(hk:(k:Int)<l.length)(h1:¬(200:Int)<(nm l k).2.length):Df l (k+1):=by
 refine⟨w!,?_⟩;rw [ar l k (0,[]) w!];intro o ho;rcases F!.1 ho with q|q
 . exact h.2 o q
 . rw [List.mem_singleton.1 q];exact h1
theorem arA {l:List fa} {k:Nat}(hk:(k:Int)<l.length)(h1:(200:Int)<(nm l k).2.length):true=lh l:=by
 have :l.any (fun o=>decide ((200:Int)<o.2.length))=true :=List.any_eq_true.2 ⟨_,bq l k _ (show k<l.length by omega),decide_eq_true h1⟩;grind[lh]
theorem arB {l:List fa} {k:Nat}(h:Df l k)(hk:¬(k:Int)<l.length):decide ((60:Int)<l.length)=lh l:=by
 have :l.any (fun o=>decide ((200:Int)<o.2.length))=false :=by
  rw [<-Bool.not_eq_true,List.any_eq_true];rintro⟨o,ho,h1⟩;exact h.2 o (by grind[List.take_of_length_le]) (of_decide_eq_true h1)
 grind[lh]
theorem ajP {l:List fa}(h:lh l=false):l.length<=60/\∀o∈l,o.2.length<=200:=by
 grind[lh,Bool.or_eq_false_iff,of_decide_eq_false,decide,List.any_eq_true,decide_eq_true]
theorem afE {l:List fa}(h:lh l=false):small l:=by grind[ajP,small]
theorem Ü {l:List fa} {k:Nat}(hk:(k:Int)<l.length)(h:(nm l k).1=0):br l k++ [(nm l k).2]=br l (k+1):=by
 unfold br;rw [ar l k (0,[]) w!,List.filter_append,List.map_append];have :(List.filter (fun o:fa=>decide (o.1=0)) [l.getD k (0,[])])= [nm l k]:=by grind[nm]
 grind
theorem WW {l:List fa} {k:Nat}(hk:(k:Int)<l.length)(h:¬(nm l k).1=0):br l k=br l (k+1):=by
 unfold br;rw [ar l k (0,[]) w!,List.filter_append,List.map_append];have :(List.filter (fun o:fa=>decide (o.1=0)) [l.getD k (0,[])])= []:=by grind[nm]
 grind
theorem arC {l:List fa} {k:Nat}(h:k<=l.length)(hk:¬(k:Int)<l.length):br l k=xC l:=by
 grind[xC]
theorem ajQ(l:List fa):∀k,k<=l.length->((br l k).length:Int)=nW l k
 |0,_=>by rfl
 |k+1,hk=>by
  have ih:=ajQ l k w!;by_cases h:(nm l k).1=0
  . rw [<-Ü w! h,Jd h,C!,<-ih];simp
  . rw [<-WW w! h,Gx h,ih]
theorem Ý {l:List fa}:bL l=true↔(∀i,i<l.length->wm l i=true)/\jQ l l.length=1/\nW l l.length<=16:=by
 simp_all[bL,B!,W!,x?,H!]
theorem kN {l:List fa}(h:bL l=true):(aO l).length<=16:=by
 obtain⟨_,_,h3⟩:=Ý.1 h;have :=mr (xC l);have e:=ajQ l l.length (Nat.le_refl _);grind[aO,xC]
theorem TY {l:List fa}(h:bL l=true):∀t∈aO l,isTerm t=true :=by
 obtain⟨h1,_,_⟩:=Ý.1 h;intro t ht;have :=(gR (xC l) t).1 ht;simp only [xC,br,List.mem_map,List.mem_filter,decide_eq_true_eq,List.take_length] at this;obtain⟨o,⟨ho,h0⟩,rfl⟩:=this;obtain⟨i,hi,rfl⟩:=List.mem_iff_getElem.1 ho;grind[nm,LS]
theorem TZ {l:List fa} {k:Nat}(h:ji l k)(hk:(k:Int)<l.length)(h0:(l.getD k (0,[])).1=0)(ht:isTerm (l.getD (Int.toNat (k:Int)) (0,[])).2=true):ji l (k+1):=
 TX h hk (by rw [LS h0];rwa [V!] at ht)
theorem T0 {l:List fa} {k:Nat}(hk:(k:Int)<l.length)(h0:(l.getD k (0,[])).1=0)(ht:isTerm (l.getD (Int.toNat (k:Int)) (0,[])).2=false):false=bL l:=
 Û hk (by rw [LS h0];rwa [V!] at ht)
theorem E1 {l:List fa} {k:Nat}(h:ji l k)(hk:(k:Int)<l.length)(h0:¬(l.getD k (0,[])).1=0)(h1:1<=(l.getD k (0,[])).1/\(l.getD k (0,[])).1<=3)(h2:(l.getD k (0,[])).2= []/\¬jQ l k<2):ji l (k+1):=
 TX h hk (ajN h0 h1.1 h1.2 h2.1 w!)
theorem zU {l:List fa} {k:Nat}(hk:(k:Int)<l.length)(h0:¬(l.getD k (0,[])).1=0)(h:¬(1<=(l.getD k (0,[])).1/\(l.getD k (0,[])).1<=3)\/¬(l.getD k (0,[])).2= []\/jQ l k<2):false=bL l:=
 Û hk (arz h0 (by
   grind[nm]))
theorem afF {l:List fa} {k:Nat}(h:ji l k)(hk:(k:Int)<l.length)(h0:¬(l.getD k (0,[])).1=0)(h1:¬(l.getD k (0,[])).1<0/\¬3<(l.getD k (0,[])).1/\(l.getD k (0,[])).2= []/\¬nW l k<k-nW l k+2):ji l (k+1):=
 E1 h hk h0 w! ⟨h1.2.2.1,by grind[jQ]⟩
theorem ajR {l:List fa} {k:Nat}(hk:(k:Int)<l.length)(h0:¬(l.getD k (0,[])).1=0)(h:(l.getD k (0,[])).1<0\/3<(l.getD k (0,[])).1\/¬(l.getD k (0,[])).2= []\/nW l k<k-nW l k+2):false=bL l:=
 zU hk h0 (by
  grind[jQ])
theorem Þ {l:List fa} {k:Nat}(h:ji l k)(hk:¬(k:Int)<l.length):(bif decide (jQ l k=1) then decide (nW l k<=16) else false)=bL l:=by
 grind[ary]
theorem ajS {l:List fa} {k:Nat}(h:ji l k)(hk:¬(k:Int)<l.length):(bif decide (nW l k=l.length-nW l k+1) then decide (nW l k<=16) else false)=bL l:=by
 rw [<-Þ h hk];have :=h.1;grind[jQ]
theorem azz(l:List fa): []=br l 0:=rfl
theorem T1 {l:List fa} {k:Nat}(hk:(k:Int)<l.length)(h:(l.getD k (0,[])).1=0):br l k++ [(l.getD (Int.toNat (k:Int)) (0,[])).2]=br l (k+1):=by exact Ü hk h
theorem T2 {l:List fa} {k:Nat}(hp:l.length<=1099511627776)(h:bS l k)(s:B8):(br l k).length+ [s].length<=8796093022208/\small (br l k)/\small (e8 (br l k))/\small (bU (e8 (br l k))):=by
 grind[Wd,br,mr,Lc,bS,List.length_singleton,small]
theorem ß {l:List fa} {k:Nat}(h:bS l k)(hk:¬(k:Int)<l.length):bU (e8 (br l k))=aO l/\sorted (br l k)=aO l:=by
 have :=arC h hk;rw [Lc,this];exact⟨rfl,rfl⟩
def zV:B8:= [104,97,121]
abbrev El:=Int×Int×B8
def T3:List El:= [(-1,0,zV)]
def kE:List El:= [(-1,0,zV),(-2,3,[])]
def gk:List fa:= [(0,zV)]
def hdT(l:List B8):B8:=l.getD 0 []
def r9(k:Nat):Int:=if k=0 then -1 else 0
def pw(l:List El)(n:Int):El:=l.getD n.toNat (0,0,[])
def lR(l:List fa):Prop :=small l/\∀o∈l,small o.2
theorem Gy {l:List fa}(h:lh l=false):lR l:=by
 refine⟨afE h,fun o ho=> ?_⟩;have :=(ajP h).2 o ho;grind[small]
theorem ajU {l:List fa}(h:lR l)(k:Nat):small (nm l k).2:=by
 by_cases hk:k<l.length
 . exact h.2 _ (bq l k _ hk)
 . unfold nm;rw [List.getD_eq_getElem?_getD,List.getElem?_eq_none w!];exact Nat.zero_le _
theorem wo {x:Nat}(h:(x:Int)<(([104,97,121]:List Int).length:Int)):x=0\/x=1\/x=2:=by
 grind
theorem ge3 {x:Nat}(h2:bM x 3)(h:¬(x:Int)<(([104,97,121]:List Int).length:Int)):x=3:=by
 grind[bM]
end Go.S

end
section
namespace Go.S
abbrev Wp:=B8×Bool
def gV(v:Int):Wp:=if dz v then([],true) else(num v,false)
def fM(b:B8)(bB:Int):Wp:=if bB<b.length then([],true) else(text b,false)
def dW(n:Int)(g:B8)(l:List Sg):Wp:=if bm n g l then fM (hB n g l) 10000 else([],true)
def HV(d:B8):Bool:=decide ((d.length:Int)=32)
def fb(p:List B8):Wp:=if 64<(p.length:Int) then([],true) else(num p.length++(p.takeWhile HV).flatten,!cz p)
def gW(p:List B8)(k:Nat):B8:=num p.length++(p.take k).flatten
def lD(p:List B8)(k:Nat):Prop :=p.length<=64/\k<=p.length/\∀d∈p.take k,(d.length:Int)=32
def cat(a b:Wp):Wp:=(a.1++b.1,a.2 || b.2)
def iD(p:Pf):Wp:=
 if fp p.2.1 p.2.2.1 p.2.2.2.1 then cat (cat (cat (gV p.1) (fM (e9 p.2.1 p.2.2.1 p.2.2.2.1) 200)) (fb p.2.2.2.2.1)) (fM p.2.2.2.2.2 4000)
 else((gV p.1).1,true)
def pfD(l:List Pf)(i:Nat):Pf:=l.getD i rF
def Ca(l:List Pf):Nat->Wp
 |0=>(num l.length,false)
 |k+1=>cat (Ca l k) (iD (pfD l k))
def fg(l:List (List Pf))(i:Nat):List Pf:=l.getD i []
def eY(n:Int)(g:B8)(s:List Sg)(l:List (List Pf)):Nat->Wp
 |0=>cat ([1],false) (dW n g s)
 |k+1=>cat (eY n g s l k) (Ca (fg l k) (fg l k).length)
def pF(w:Wp):B8:=if w.2 then [] else if 1048576<(w.1.length:Int) then [] else w.1
def ri(w:Wp):Int:=if w.2 then 1 else if 1048576<(w.1.length:Int) then 3 else 0
def Je(l:List (List Pf)):Bool:=l.all fun x=>decide ((x.length:Int)<=16)
def pG(n:Int)(g:B8)(s:List Sg)(l:List (List Pf)):B8×Int:=
 if(l.length:Int)≠s.length\/Je l=false then([],1) else(pF (eY n g s l l.length),ri (eY n g s l l.length))
def QS(n:Int)(g:B8)(s:List Sg)(a:Int)(d:B8)(p:List B8):Wp:=
 cat (cat (cat (cat ([2],false) (dW n g s)) (gV a)) (fM d 2000)) (fb p)
def zW(n:Int)(g:B8)(s:List Sg)(a:Int)(d:B8)(p:List B8):B8×Int:=(pF (QS n g s a d p),ri (QS n g s a d p))
def QT(n:Int)(g:B8)(s:List Sg)(n':Int)(g':B8)(s':List Sg)(p:List B8):Wp:=
 cat (cat (cat ([3],false) (dW n g s)) (dW n' g' s')) (fb p)
def xD(n:Int)(g:B8)(s:List Sg)(n':Int)(g':B8)(s':List Sg)(p:List B8):B8×Int:=(pF (QT n g s n' g' s' p),ri (QT n g s n' g' s' p))
def cM(p:List B8):B8:=num p.length++p.flatten
def iU(p:List B8)(k:Nat):B8:=num p.length++(p.take k).flatten
def bz(n:Int)(g:B8)(s:List Sg):B8:=text (hB n g s)
def du(p:Pf):B8:=num p.1++text (e9 p.2.1 p.2.2.1 p.2.2.2.1)++cM p.2.2.2.2.1++text p.2.2.2.2.2
def jb(l:List Pf)(k:Nat):B8:=num l.length++(l.take k).flatMap du
def ia(n:Int)(g:B8)(s:List Sg)(l:List (List Pf))(k:Nat):B8:= [1]++bz n g s++(l.take k).flatMap fun x=>jb x x.length
def pH(n:Int)(g:B8)(s:List Sg)(l:List (List Pf)):B8:=ia n g s l l.length
def mA(n:Int)(g:B8)(s:List Sg)(a:Int)(d:B8)(p:List B8):B8:= [2]++bz n g s++num a++text d++cM p
def np(n:Int)(g:B8)(s:List Sg)(n':Int)(g':B8)(s':List Sg)(p:List B8):B8:= [3]++bz n g s++bz n' g' s'++cM p
def po(p:Pf):Bool:= !dz p.1&&(fp p.2.1 p.2.2.1 p.2.2.2.1&&(decide ((p.2.2.2.2.1.length:Int)<=64)&&(cz p.2.2.2.2.1&&decide ((p.2.2.2.2.2.length:Int)<=4000))))
abbrev Rs:=Int×Int
def cT(b:B8)(a e:Int):Rs×Hd:=
 if(az b a e 10000).1.2.2≠0 then((az b a e 10000).1.2,(0,[],[]))
 else(((az b a e 10000).1.2.1,(hR (az b a e 10000).2).2),(hR (az b a e 10000).2).1)
def ik(b:B8)(a e:Int):Rs×Lk:=
 if(az b a e 200).1.2.2≠0 then((az b a e 200).1.2,([],[],[]))
 else(((az b a e 200).1.2.1,(bw (az b a e 200).2).2),(bw (az b a e 200).2).1)
def ec(b:B8)(a e bB:Int):Rs×Int:=
 if bB<(an b a e).2 then(((an b a e).1.2.1,2),0) else((an b a e).1.2,(an b a e).2)
def vt(b:B8)(a e:Int):Nat->Rs×List B8
 |0=>((a,e),[])
 |k+1=>((aD b (vt b a e k).1.1 (vt b a e k).1.2).1.2,(vt b a e k).2++ [(aD b (vt b a e k).1.1 (vt b a e k).1.2).2])
def lS(b:B8)(a e:Int):Nat:=(ec b a e 64).2.toNat
def ga(b:B8)(a e:Int)(k:Nat):Rs×List B8:=vt b (ec b a e 64).1.1 (ec b a e 64).1.2 k
def pq(b:B8)(a e:Int):Rs×List B8:=ga b a e (lS b a e)
def q1(b:B8)(a e:Int):Rs×Int:=((an b a e).1.2,(an b a e).2)
def q2(b:B8)(a e:Int):Rs×Lk:=ik b (q1 b a e).1.1 (q1 b a e).1.2
def q3(b:B8)(a e:Int):Rs×List B8:=pq b (q2 b a e).1.1 (q2 b a e).1.2
def q4(b:B8)(a e:Int):Rs×B8:=((az b (q3 b a e).1.1 (q3 b a e).1.2 4000).1.2,(az b (q3 b a e).1.1 (q3 b a e).1.2 4000).2)
def gG(b:B8)(a e:Int):Rs×Pf:=((q4 b a e).1,((q1 b a e).2,(q2 b a e).2.1,(q2 b a e).2.2.1,(q2 b a e).2.2.2,(q3 b a e).2,(q4 b a e).2))
def Cb(b:B8)(a e:Int):Nat->Rs×List Pf
 |0=>((a,e),[])
 |k+1=>((gG b (Cb b a e k).1.1 (Cb b a e k).1.2).1,(Cb b a e k).2++ [(gG b (Cb b a e k).1.1 (Cb b a e k).1.2).2])
def QU(b:B8)(a e:Int):Nat:=(ec b a e 16).2.toNat
def QV(b:B8)(a e:Int)(k:Nat):Rs×List Pf:=Cb b (ec b a e 16).1.1 (ec b a e 16).1.2 k
def à(b:B8)(a e:Int):Rs×List Pf:=QV b a e (QU b a e)
def vu(b:B8)(a e:Int):Nat->Rs×List (List Pf)
 |0=>((a,e),[])
 |k+1=>((à b (vu b a e k).1.1 (vu b a e k).1.2).1,(vu b a e k).2++ [(à b (vu b a e k).1.1 (vu b a e k).1.2).2])
def eP(b:B8)(kind:UInt8):Int:=if 1048576<(b.length:Int) then 3 else if b.length=0 then 4 else if b.getD 0 0=kind then 0 else 2
abbrev An:=Hd×List (List Pf)
def aH(b:B8):Rs×Hd:=cT b 1 0
def iV(b:B8)(k:Nat):Rs×List (List Pf):=vu b (aH b).1.1 (aH b).1.2 k
def aN(b:B8):Nat:=(aH b).2.2.2.length
def fh(b:B8):(Int×B8×List Sg×List (List Pf))×Int:=
 if eP b 1≠0 then((0,[],[],[]),eP b 1)
 else if done b (iV b (aN b)).1.1 (iV b (aN b)).1.2≠0 then((0,[],[],[]),done b (iV b (aN b)).1.1 (iV b (aN b)).1.2)
 else(((aH b).2.1,(aH b).2.2.1,(aH b).2.2.2,(iV b (aN b)).2),0)
def QW(b:B8):Rs×Hd:=cT b 1 0
def T4(b:B8):Rs×Int:=q1 b (QW b).1.1 (QW b).1.2
def pg3(b:B8):Rs×B8:=((az b (T4 b).1.1 (T4 b).1.2 2000).1.2,(az b (T4 b).1.1 (T4 b).1.2 2000).2)
def E2(b:B8):Rs×List B8:=pq b (pg3 b).1.1 (pg3 b).1.2
def di(b:B8):(Int×B8×List Sg×Int×B8×List B8)×Int:=
 if eP b 2≠0 then((0,[],[],0,[],[]),eP b 2)
 else if done b (E2 b).1.1 (E2 b).1.2≠0 then((0,[],[],0,[],[]),done b (E2 b).1.1 (E2 b).1.2)
 else(((QW b).2.1,(QW b).2.2.1,(QW b).2.2.2,(T4 b).2,(pg3 b).2,(E2 b).2),0)
def st1(b:B8):Rs×Hd:=cT b 1 0
def st2(b:B8):Rs×Hd:=cT b (st1 b).1.1 (st1 b).1.2
def E3(b:B8):Rs×List B8:=pq b (st2 b).1.1 (st2 b).1.2
def cR(b:B8):(Int×B8×List Sg×Int×B8×List Sg×List B8)×Int:=
 if eP b 3≠0 then((0,[],[],0,[],[],[]),eP b 3)
 else if done b (E3 b).1.1 (E3 b).1.2≠0 then((0,[],[],0,[],[],[]),done b (E3 b).1.1 (E3 b).1.2)
 else(((st1 b).2.1,(st1 b).2.2.1,(st1 b).2.2.2,(st2 b).2.1,(st2 b).2.2.1,(st2 b).2.2.2,(E3 b).2),0)
end Go.S

end
section
namespace Go.S
theorem QX {P R:B8} {v:Int}(h:dz v=false):an (P++(num v++R)) P.length 0=((P++(num v++R),(P.length:Int)+(num v).length,0),v):=by
 simp [dz,Bool.or_eq_false_iff,decide_eq_false_iff_not] at h;grind[Int.toNat_natCast,List.drop_left,sn,C7,List.length_append,Int.natCast_add]
theorem Jf {P R d:B8} {m:Int}(h:(d.length:Int)<=m)(hm:m<=1048576):az (P++(text d++R)) P.length 0 m=((P++(text d++R),(P.length:Int)+(text d).length,0),d):=by
 have hd:(P++(text d++R)).drop ((P.length:Nat):Int).toNat=text d++R:=by rw [V!,p?]
 have e:text d++R=num (d.length:Int)++(d++R):=by simp [text]
 have hf:=sn (v:=(d.length:Int)) w! w! (d++R)
 have hT:aA (text d++R) m=(d,((text d).length:Int),0):=by
  unfold aA;rw [e,hf,if_neg z!,if_neg w!,if_neg (by simp;omega)];simp [text]
 unfold az;rw [xt w! (by simp;omega),tq w! (by simp;omega),hd,hT];simp
theorem arD {P R d:B8}(h:(d.length:Int)=32):aD (P++(d++R)) P.length 0=((P++(d++R),(P.length:Int)+d.length,0),d):=by
 rw [WT w! (by simp;omega),V!,p?];have :(d++R).take 32=d:=by rw [show 32=d.length by omega,List.take_left]
 rw [this,h]
theorem OW:∀(l:List Sg),(∀i,i<l.length->lI (sg l i).1 (sg l i).2.1 (sg l i).2.2.1 (sg l i).2.2.2=true)->(gy l).length<=50*l.length
 | [],_=>by simp [gy]
 |s::l,h=>by
  have h0:=A7 (h 0 z!);have ih:=OW l fun i hi=>by have :=h (i+1) (by simp;omega);simpa [sg] using this
  have e:gy (s::l)=zQ s++gy l:=rfl;rw [e,C!,F?];have hs:s.2.2.2.length=32:=h0.2.2.2.2.2;have n1:=bF s.2.1;have n2:=bF s.2.2.1;simp [zQ,C!];omega
theorem QY {n:Int} {g:B8} {l:List Sg}(h:bm n g l=true):((hB n g l).length:Int)<=4000:=by
 grind[gU,oJ,OW,bF,hB,List.length_append]
theorem Ba {b:B8} {m:Int}(h:(b.length:Int)<=m):fM b m=(text b,false):=by simp_all[fM,N!]
theorem T5 {v:Int}(h:dz v=false):gV v=(num v,false):=by grind[gV]
theorem Bb {n:Int} {g:B8} {l:List Sg}(h:bm n g l=true):dW n g l=(bz n g l,false):=by
 have :=QY h;unfold dW bz;rw [if_pos h,Ba w!]
theorem á {p:List B8}(h:cz p=true):p.takeWhile HV=p:=by
 induction p with
 |nil=>rfl
 |cons a l ih=>
  simp_all[cz,List.all_cons,B!,List.takeWhile_cons_of_pos,HV]
theorem Bc {p:List B8}(h:(p.length:Int)<=64)(h1:cz p=true):fb p=(cM p,false):=by
 simp_all[fb,cM,N!,á]
theorem wu {p:Pf}:po p=true↔dz p.1=false/\fp p.2.1 p.2.2.1 p.2.2.2.1=true/\(p.2.2.2.2.1.length:Int)<=64/\cz p.2.2.2.2.1=true/\(p.2.2.2.2.2.length:Int)<=4000:=by
 simp_all[po,B!,I?,H!]
theorem LU {p:Pf}(h:po p=true):iD p=(du p,false):=by
 obtain⟨h1,h2,h3,h4,h5⟩:=wu.1 h;have hl:=oh h2;unfold iD du;rw [if_pos h2,T5 h1,Ba w!,Bc h3 h4,Ba w!];rfl
theorem LV {l:List Pf}(h:∀p∈l,po p=true):∀k,k<=l.length->Ca l k=(jb l k,false)
 |0,_=>by simp [Ca,jb]
 |k+1,hk=>by
  have hm:=h _ (bq l k rF w!);simp [Ca];rw [LV h k w!,show pfD l k=l.getD k rF from rfl,LU hm];simp [cat,jb,Bool.or_self];rw [ar l k rF w!,r?];simp
theorem LW {n:Int} {g:B8} {s:List Sg} {l:List (List Pf)}(hr:bm n g s=true)(h:∀x∈l,∀p∈x,po p=true):∀k,k<=l.length->eY n g s l k=(ia n g s l k,false)
 |0,_=>by grind[eY,ia,Bb,cat]
 |k+1,hk=>by
  have hm:=h _ (bq l k [] w!);simp [eY];rw [LW hr h k w!,show fg l k=l.getD k [] from rfl,LV hm _ (O! _)];simp [cat,ia,Bool.or_self];rw [ar l k [] w!,r?];simp
theorem Bd {P R:B8} {n:Int} {g:B8} {s:List Sg}(h:bm n g s=true):
  cT (P++(bz n g s++R)) P.length 0=(((P.length:Int)+(bz n g s).length,0),(n,g,s)):=by
 have :=QY h;unfold cT bz;rw [Jf w! (by decide),if_neg z!,LJ h]
theorem afH {P R a b c:B8}(h:fp a b c=true):
  ik (P++(text (e9 a b c)++R)) P.length 0=(((P.length:Int)+(text (e9 a b c)).length,0),(a,b,c)):=by
 have :=oh h;unfold ik;rw [Jf w! (by decide),if_neg z!,Tq h]
theorem LX {P R:B8} {v m:Int}(h:0<=v)(h1:v<=m)(hm:m<=64):
  ec (P++(num v++R)) P.length 0 m=(((P.length:Int)+(num v).length,0),v):=by
 unfold ec;rw [QX (by grind[dz]),if_neg w!]
theorem OX {P R:B8} {p:List B8}(h:cz p=true):∀k,k<=p.length->
  vt (P++(p.flatten++R)) P.length 0 k=(((P.length:Int)+((p.take k).flatten).length,0),p.take k)
 |0,_=>by rfl
 |k+1,hk=>by
  have hd:((p.getD k []).length:Int)=32:=by grind[cL,bq]
  have e:P++(p.flatten++R)=(P++(p.take k).flatten)++(p.getD k []++((p.drop (k+1)).flatten++R)):=by
   have :p.flatten=(p.take k).flatten++(p.getD k []++(p.drop (k+1)).flatten):=by
    conv=>lhs;rw [<-Q? (k+1) p,ar p k [] w!]
    simp
   grind
  simp only [vt];rw [OX h k w!];have :=arD (P:=P++(p.take k).flatten) (R:=(p.drop (k+1)).flatten++R) hd;rw [<-e,C!,Int.natCast_add] at this;rw [this,ar p k [] w!];simp [Int.add_assoc]
theorem Gz {P R:B8} {p:List B8}(h:(p.length:Int)<=64)(h1:cz p=true):
  pq (P++(cM p++R)) P.length 0=(((P.length:Int)+(cM p).length,0),p):=by
 have e:P++(cM p++R)=P++(num p.length++(p.flatten++R)):=by simp [cM]
 have hc:=LX (P:=P) (R:=p.flatten++R) (v:=(p.length:Int)) (m:=64) w! h (by decide);rw [<-e] at hc;unfold pq ga lS;rw [hc];simp;have hd:=OX (P:=P++num p.length) (R:=R) h1 p.length (Nat.le_refl _);rw [show P++num p.length++(p.flatten++R)=P++(cM p++R) by simp [cM],List.length_append,Int.natCast_add] at hd;rw [hd,List.take_length];simp [cM,Int.add_assoc]
theorem WX {P R:B8} {p:Pf}(h:po p=true):
  gG (P++(du p++R)) P.length 0=(((P.length:Int)+(du p).length,0),p):=by
 obtain⟨h1,h2,h3,h4,h5⟩:=wu.1 h;obtain⟨a,t,u,v,w,d⟩:=p;generalize hb:P++(du (a,t,u,v,w,d)++R)=b;have e1:b=P++(num a++(text (e9 t u v)++(cM w++(text d++R)))):=by rw [<-hb];simp [du]
 have r1:q1 b P.length 0=(((P.length:Int)+(num a).length,0),a):=by unfold q1;rw [e1,QX h1]
 have r2:q2 b P.length 0=(((P.length:Int)+(num a).length+(text (e9 t u v)).length,0),(t,u,v)):=by
  unfold q2;rw [r1];have :=afH (P:=P++num a) (R:=cM w++(text d++R)) h2;rw [show P++num a++(text (e9 t u v)++(cM w++(text d++R)))=b by rw [e1];simp,List.length_append,Int.natCast_add] at this;exact this
 have r3:q3 b P.length 0=(((P.length:Int)+(num a).length+(text (e9 t u v)).length+(cM w).length,0),w):=by
  unfold q3;rw [r2];have :=Gz (P:=P++num a++text (e9 t u v)) (R:=text d++R) h3 h4;rw [show P++num a++text (e9 t u v)++(cM w++(text d++R))=b by rw [e1];simp,List.length_append,List.length_append,Int.natCast_add,Int.natCast_add] at this;exact this
 have r4:q4 b P.length 0=(((P.length:Int)+(num a).length+(text (e9 t u v)).length+(cM w).length+(text d).length,0),d):=by
  unfold q4;rw [r3];have :=Jf (P:=P++num a++text (e9 t u v)++cM w) (R:=R) (d:=d) (m:=4000) h5 (by decide);rw [show P++num a++text (e9 t u v)++cM w++(text d++R)=b by rw [e1];simp,List.length_append,List.length_append,List.length_append,Int.natCast_add,Int.natCast_add,Int.natCast_add] at this;simp only [this]
 unfold gG;rw [r1,r2,r3,r4];simp [du,Int.add_assoc]
end Go.S

end
section
namespace Go.S
theorem Dg(l:List Pf):jb l l.length=num l.length++l.flatMap du:=by simp [jb]
theorem T6 {P R:B8} {l:List Pf}(h:∀p∈l,po p=true):∀k,k<=l.length->
  Cb (P++(l.flatMap du++R)) P.length 0 k=(((P.length:Int)+((l.take k).flatMap du).length,0),l.take k)
 |0,_=>by rfl
 |k+1,hk=>by
  have hm:=h _ (bq l k rF w!)
  have e:P++(l.flatMap du++R)=(P++(l.take k).flatMap du)++(du (l.getD k rF)++((l.drop (k+1)).flatMap du++R)):=by
   have :l.flatMap du=(l.take k).flatMap du++(du (l.getD k rF)++(l.drop (k+1)).flatMap du):=by
    conv=>lhs;rw [<-Q? (k+1) l,ar l k rF w!]
    simp
   rw [this];simp
  simp only [Cb];rw [T6 h k w!];have :=WX (P:=P++(l.take k).flatMap du) (R:=(l.drop (k+1)).flatMap du++R) hm;rw [<-e,C!,Int.natCast_add] at this;rw [this,ar l k rF w!,r?];simp [Int.add_assoc]
theorem ajW {P R:B8} {l:List Pf}(h:∀p∈l,po p=true)(hl:(l.length:Int)<=16):
  à (P++(jb l l.length++R)) P.length 0=(((P.length:Int)+(jb l l.length).length,0),l):=by
 have e:P++(jb l l.length++R)=P++(num l.length++(l.flatMap du++R)):=by grind[Dg]
 have hc:=LX (P:=P) (R:=l.flatMap du++R) (v:=(l.length:Int)) (m:=16) w! hl (by decide);rw [<-e] at hc;unfold à QV QU;rw [hc];simp;have hd:=T6 (P:=P++num l.length) (R:=R) h l.length (Nat.le_refl _);rw [show P++num l.length++(l.flatMap du++R)=P++(jb l l.length++R) by rw [e];simp,List.length_append,Int.natCast_add] at hd;rw [hd,List.take_length,Dg];simp [Int.add_assoc]
def lJ(l:List (List Pf)):B8:=l.flatMap fun x=>jb x x.length
theorem OY {P R:B8} {l:List (List Pf)}(h:∀x∈l,(x.length:Int)<=16/\∀p∈x,po p=true):∀k,k<=l.length->
  vu (P++(lJ l++R)) P.length 0 k=(((P.length:Int)+(lJ (l.take k)).length,0),l.take k)
 |0,_=>by rfl
 |k+1,hk=>by
  have hm:=h _ (bq l k [] w!)
  have e:P++(lJ l++R)=(P++lJ (l.take k))++(jb (l.getD k []) (l.getD k []).length++(lJ (l.drop (k+1))++R)):=by
   have :lJ l=lJ (l.take k)++(jb (l.getD k []) (l.getD k []).length++lJ (l.drop (k+1))):=by
    unfold lJ;conv=>lhs;rw [<-List.take_append_drop (k+1) l,ar l k [] w!]
    simp
   grind
  simp [vu];rw [OY h k w!];have :=ajW (P:=P++lJ (l.take k)) (R:=lJ (l.drop (k+1))++R) hm.2 hm.1;rw [<-e,C!,Int.natCast_add] at this;rw [this,ar l k [] w!];simp [lJ,Int.add_assoc]
theorem LY {b:B8} {a:Int}(h:a=b.length):done b a 0=0:=by
 simp_all[Ti,N!]
theorem ajX {n:Int} {g:B8} {s:List Sg} {l:List (List Pf)}(hr:bm n g s=true)(hl:l.length=s.length)(h:∀x∈l,(x.length:Int)<=16/\∀p∈x,po p=true)(hb:((pH n g s l).length:Int)<=1048576):
  fh (pH n g s l)=((n,g,s,l),0):=by
 have e:pH n g s l= [1]++(bz n g s++(lJ l++ [])):=by simp [pH,ia,lJ]
 generalize pH n g s l=b at *;have hg:eP b 1=0:=by unfold eP;rw [if_neg w!,if_neg (by rw [e];simp),if_pos (by rw [e];rfl)]
 have h1:aH b=((1+((bz n g s).length:Int),0),(n,g,s)):=by
  rw [e];exact Bd (P:= [1]) (R:=lJ l++ []) hr
 have hN:aN b=l.length:=by unfold aN;rw [h1];exact hl.symm
 have h2:iV b (aN b)=((1+((bz n g s).length:Int)+(lJ l).length,0),l):=by
  unfold iV;rw [h1,hN];have :=OY (P:= [1]++bz n g s) (R:= []) h l.length (Nat.le_refl _);rw [show [1]++bz n g s++(lJ l++ [])=b by rw [e];simp,List.length_append,Int.natCast_add,List.take_length] at this;exact this
 have hlen:(b.length:Int)=1+((bz n g s).length:Int)+(lJ l).length:=by rw [e];simp;omega
 unfold fh;rw [if_neg w!,h2,LY hlen.symm,if_neg (by decide),h1]
theorem afI {n:Int} {g:B8} {s:List Sg} {a:Int} {d:B8} {p:List B8}(hr:bm n g s=true)(ha:dz a=false)(hd:(d.length:Int)<=2000)(h3:(p.length:Int)<=64)(h4:cz p=true)(hb:((mA n g s a d p).length:Int)<=1048576):
  di (mA n g s a d p)=((n,g,s,a,d,p),0):=by
 have e:mA n g s a d p= [2]++(bz n g s++(num a++(text d++(cM p++ [])))):=by simp [mA]
 generalize mA n g s a d p=b at *;have hg:eP b 2=0:=by unfold eP;rw [if_neg w!,if_neg (by rw [e];simp),if_pos (by rw [e];rfl)]
 have h1:QW b=((1+((bz n g s).length:Int),0),(n,g,s)):=by
  rw [e];exact Bd (P:= [2]) hr
 have h2:T4 b=((1+((bz n g s).length:Int)+(num a).length,0),a):=by
  unfold T4 q1;rw [h1];have :=QX (P:= [2]++bz n g s) (R:=text d++(cM p++ [])) ha;rw [show [2]++bz n g s++(num a++(text d++(cM p++ [])))=b by rw [e];simp,List.length_append,Int.natCast_add] at this;simp at this;simp only [this]
 have h3':pg3 b=((1+((bz n g s).length:Int)+(num a).length+(text d).length,0),d):=by
  unfold pg3;rw [h2];have :=Jf (P:= [2]++bz n g s++num a) (R:=cM p++ []) hd (by decide);rw [show [2]++bz n g s++num a++(text d++(cM p++ []))=b by rw [e];simp,List.length_append,List.length_append,Int.natCast_add,Int.natCast_add] at this;simp at this;simp only [this]
 have h4':E2 b=((1+((bz n g s).length:Int)+(num a).length+(text d).length+(cM p).length,0),p):=by
  unfold E2;rw [h3'];have :=Gz (P:= [2]++bz n g s++num a++text d) (R:= []) h3 h4;rw [show [2]++bz n g s++num a++text d++(cM p++ [])=b by rw [e];simp,List.length_append,List.length_append,List.length_append,Int.natCast_add,Int.natCast_add,Int.natCast_add] at this;exact this
 have hlen:(b.length:Int)=1+((bz n g s).length:Int)+(num a).length+(text d).length+(cM p).length:=by rw [e];simp;omega
 unfold di;rw [if_neg w!,h4',LY hlen.symm,if_neg (by decide),h1,h2,h3']
theorem afJ {n n':Int} {g g':B8} {s s':List Sg} {p:List B8}(hr:bm n g s=true)(nX:bm n' g' s'=true)(h3:(p.length:Int)<=64)(h4:cz p=true)(hb:((np n g s n' g' s' p).length:Int)<=1048576):
  cR (np n g s n' g' s' p)=((n,g,s,n',g',s',p),0):=by
 have e:np n g s n' g' s' p= [3]++(bz n g s++(bz n' g' s'++(cM p++ []))):=by simp [np]
 generalize np n g s n' g' s' p=b at *;have hg:eP b 3=0:=by unfold eP;rw [if_neg w!,if_neg (by rw [e];simp),if_pos (by rw [e];rfl)]
 have h1:st1 b=((1+((bz n g s).length:Int),0),(n,g,s)):=by
  rw [e];exact Bd (P:= [3]) hr
 have h2:st2 b=((1+((bz n g s).length:Int)+(bz n' g' s').length,0),(n',g',s')):=by
  unfold st2;rw [h1];have :=Bd (P:= [3]++bz n g s) (R:=cM p++ []) nX;rw [show [3]++bz n g s++(bz n' g' s'++(cM p++ []))=b by rw [e];simp,List.length_append,Int.natCast_add] at this;exact this
 have h3':E3 b=((1+((bz n g s).length:Int)+(bz n' g' s').length+(cM p).length,0),p):=by
  unfold E3;rw [h2];have :=Gz (P:= [3]++bz n g s++bz n' g' s') (R:= []) h3 h4;rw [show [3]++bz n g s++bz n' g' s'++(cM p++ [])=b by rw [e];simp,List.length_append,List.length_append,Int.natCast_add,Int.natCast_add] at this;exact this
 have hlen:(b.length:Int)=1+((bz n g s).length:Int)+(bz n' g' s').length+(cM p).length:=by rw [e];simp;omega
 unfold cR;rw [if_neg w!,h3',LY hlen.symm,if_neg (by decide),h1,h2]
end Go.S

end
section
namespace Go.S
def jM(d:Bool)(w:Wp):Bool:=d || w.2
def bytesOf(w:Wp):B8:=w.1
def lT(w:Wp):Bool:=w.2
def wv(l:List (List Pf)):Prop :=l.length<=1000/\∀x∈l,∀p∈x,p.2.2.2.2.2.length<=1099511627776
def gb(n:Int)(g:B8)(s:List Sg)(l:List (List Pf))(k j:Nat):Wp:=cat (eY n g s l k) (Ca (fg l k) j)
def nO(s:List Sg)(l:List (List Pf))(k:Nat):Prop :=k<=l.length/\l.length=s.length/\wv l/\∀i,i<k->(fg l i).length<=16
def lE(s:List Sg)(l:List (List Pf))(k j:Nat):Prop :=nO s l k/\k<l.length/\(fg l k).length<=16/\j<=(fg l k).length
def pI(b:B8)(k j:Nat):Rs×List Pf:=QV b (iV b k).1.1 (iV b k).1.2 j
def pr(b:B8)(k:Nat):Nat:=QU b (iV b k).1.1 (iV b k).1.2
def jo(p:List B8):Prop :=p.length<=64/\cz p=true
def xE(n:Int)(g:B8)(s:List Sg)(l:List (List Pf)):Prop :=bm n g s=true/\l.length<=1000/\∀x∈l,x.length<=16/\∀p∈x,po p=true
def iW(n:Int)(g:B8)(s:List Sg)(l:List (List Pf))(k j:Nat):B8:=ia n g s l k++jb (fg l k) j
def E4(n:Int)(g:B8)(s:List Sg)(a:Int)(d:B8)(p:List B8):Prop :=bm n g s=true/\dz a=false/\d.length<=2000/\jo p
theorem vv(s:B8):(text s).length<=s.length+9:=by
 grind[bF,text,List.length_append]
theorem wx(b:B8) {m:Int}(hm:0<=m):((fM b m).1.length:Int)<=m+9:=by
 grind[fM,vv]
theorem LZ(v:Int):(gV v).1.length<=9:=by
 grind[gV,bF]
theorem Be(n:Int)(g:B8)(s:List Sg):(dW n g s).1.length<=10009:=by
 unfold dW;split
 . have :=wx (hB n g s) (m:=10000) (by decide);omega
 grind
theorem â:∀(p:List B8),(p.takeWhile HV).flatten.length<=32*p.length
 | []=>by simp
 |a::p=>by
  have :=â p;by_cases h:HV a=true
  . rw [List.takeWhile_cons_of_pos h,List.flatten_cons,C!,F?];have :(a.length:Int)=32:=i? h;omega
  simp_all
theorem Dh(p:List B8):(fb p).1.length<=2057:=by
 grind[fb,bF,â,List.length_append]
theorem HW(p:Pf):(iD p).1.length<=7000:=by
 have h1:=LZ p.1;have h2:=wx (e9 p.2.1 p.2.2.1 p.2.2.2.1) (m:=200) (by decide);have h3:=Dh p.2.2.2.2.1;have h4:=wx p.2.2.2.2.2 (m:=4000) (by decide);grind[iD,cat,List.length_append]
theorem Bf(l:List Pf):∀k,(Ca l k).1.length<=7000*k+9
 |0=>by grind[Ca,bF]
 |k+1=>by
  have :=Bf l k;have :=HW (pfD l k);simp [Ca,cat,C!];omega
theorem GA(n:Int)(g:B8)(s:List Sg)(l:List (List Pf)):∀k,(∀i,i<k->(fg l i).length<=16)->(eY n g s l k).1.length<=120000*k+20000
 |0,_=>by
  grind[Be,eY,cat,List.length_append,List.length_singleton]
 |k+1,h=>by
  have :=GA n g s l k fun i hi=>h i w!;have :=Bf (fg l k) (fg l k).length;have :=h k w!;simp [eY,cat,C!];omega
theorem aIS {p:List B8}(h:¬(64:Int)<p.length):lD p 0:=⟨w!,K! _,z!⟩
theorem arF {p:List B8} {k:Nat}(h:lD p k):(gW p k).length<=2057:=by
 obtain⟨h1,h2,h3⟩:=h
 have q:∀(l:List B8),(∀d∈l,(d.length:Int)=32)->l.flatten.length=32*l.length:=by
  intro l;induction l with
  |nil=>grind
  |cons a l ih=>
   grind
 grind[bF,List.length_take,gW,List.length_append]
theorem T7 {p:List B8} {k:Nat}(h:lD p k)(hk:(k:Int)<p.length)(hd:((p.getD k []).length:Int)=32):lD p (k+1)/\gW p k++p.getD k []=gW p (k+1):=by
 have e:=ar p k [] w!;refine⟨⟨h.1,w!,?_⟩,?_⟩
 . rw [e];intro d hm;rcases F!.1 hm with q|q
   . exact h.2.2 d q
   grind
 grind[gW]
theorem arG {p:List B8}:∀ {k:Nat},(∀d∈p.take k,(d.length:Int)=32)->k<p.length->¬((p.getD k []).length:Int)=32->p.takeWhile HV=p.take k:=by
 induction p with
 |nil=>grind
 |cons a p ih=>
  intro k h hk hd;cases k with
  |zero=>simp_all[List.takeWhile_cons_of_neg,HV,H!]
  |succ k=>
   have ha:=h a z!;rw [List.takeWhile_cons_of_pos (show HV a=true from S? ha),List.take_succ_cons,ih (k:=k) (fun d hd=>h d (by exact G! _ hd)) (by simpa using hk) hd]
theorem ã {p:List B8} {k:Nat}(h:lD p k)(hk:(k:Int)<p.length)(hd:¬((p.getD k []).length:Int)=32):fb p=(gW p k,true):=by
 have hD:cz p=false :=by
  grind[cL,bq]
 unfold fb gW;rw [if_neg (by have :=h.1;omega),hD,arG h.2.2 w! hd];rfl
theorem ä {p:List B8} {k:Nat}(h:lD p k)(hk:¬(k:Int)<p.length):fb p=(gW p k,false):=by
 have e:k=p.length:=by have :=h.2.1;omega
 have hD:cz p=true :=(cL p).2 fun d hd=>by have :=h.2.2 d x!;omega
 unfold fb gW;rw [if_neg (by have :=h.1;omega),hD,á hD,e,List.take_length];rfl
theorem ajY {p:List B8}(h:(64:Int)<p.length):fb p=([],true):=by simp_all[fb,R!]
theorem aIT {s:List Sg} {l:List (List Pf)}(hp:wv l)(h:(l.length:Int)=s.length):nO s l 0:=⟨K! _,w!,hp,fun i hi=>by omega⟩
theorem aB5 {s:List Sg} {l:List (List Pf)} {k:Nat}(h:nO s l k)(hk:(k:Int)<l.length)(h1:¬(16:Int)<(fg l k).length):lE s l k 0:=⟨h,w!,w!,K! _⟩
theorem ajZ {s:List Sg} {l:List (List Pf)} {k j:Nat}(h:lE s l k j)(hj:(j:Int)<(fg l k).length):lE s l k (j+1):=⟨h.1,h.2.1,h.2.2.1,w!⟩
theorem å {n:Int} {g:B8} {s:List Sg} {l:List (List Pf)} {k j:Nat}(h:lE s l k j)(hj:¬(j:Int)<(fg l k).length):nO s l (k+1)/\gb n g s l k j=eY n g s l (k+1):=by
 have e:j=(fg l k).length:=by have :=h.2.2.2;omega
 refine⟨⟨by have :=h.2.1;omega,h.1.2.1,h.1.2.2.1,fun i hi=> ?_⟩,by subst e;rfl⟩;by_cases q:i=k
 . subst q;exact h.2.2.1
 . exact h.1.2.2.2 i w!
theorem aj0 {n:Int} {g:B8} {s:List Sg} {l:List (List Pf)}(h:¬(l.length:Int)=s.length):pG n g s l=([],1):=by simp_all[pG,R!]
theorem æ {n:Int} {g:B8} {s:List Sg} {l:List (List Pf)} {k:Nat}(hk:(k:Int)<l.length)(h:(16:Int)<(fg l k).length):pG n g s l=([],1):=by
 have :Je l=false :=by
  rw [<-Bool.not_eq_true];intro q;have :=of_decide_eq_true (List.all_eq_true.1 q _ (bq l k [] w!));grind[fg]
 simp_all[pG,R!]
theorem ç {n:Int} {g:B8} {s:List Sg} {l:List (List Pf)} {k:Nat}(h:nO s l k)(hk:¬(k:Int)<l.length):pG n g s l=(pF (eY n g s l k),ri (eY n g s l k)):=by
 have e:k=l.length:=by have :=h.1;omega
 subst e
 have :Je l=true :=W!.2 fun x hx=>by
  obtain⟨i,hi,rfl⟩:=List.mem_iff_getElem.1 hx;have :=h.2.2.2 i hi;have e:fg l i=l[i]:=by simp [fg,I!,hi]
  rw [e] at this;exact S? w!
 unfold pG;rw [if_neg (by rw [this,h.2.1];simp)]
theorem aj1 {s:List Sg} {l:List (List Pf)} {k j:Nat}(h:lE s l k j)(hj:(j:Int)<(fg l k).length):(pfD (fg l k) j).2.2.2.2.2.length<=1099511627776:=
 h.1.2.2.1.2 _ (bq l k [] h.2.1) _ (bq (fg l k) j rF w!)
theorem è {n:Int} {g:B8} {s:List Sg} {l:List (List Pf)} {k:Nat}(h:nO s l k):(eY n g s l k).1.length<=130000000:=by
 have :=GA n g s l k h.2.2.2;have :=h.1;have :=h.2.2.1.1;omega
theorem aj2 {n:Int} {g:B8} {s:List Sg} {l:List (List Pf)} {k j:Nat}(h:lE s l k j):(gb n g s l k j).1.length<=140000000:=by
 have :=è (n:=n) (g:=g) h.1;have :=Bf (fg l k) j;have :=h.2.2.1;have :=h.2.2.2
 grind[gb,cat,List.length_append]
end Go.S

end
section
namespace Go.S
theorem arH(v:Int):(kg [] v).length<=9:=by
 grind[kg,bF]
theorem aIU(v:Int):kg [] v=(gV v).1:=by grind[kg,gV]
theorem aIV(v:Int)(d:Bool):(bif !decide (ug v=0) then true else d)=jM d (gV v):=by
 grind[ug,gV,jM,dz]
theorem QZ {n:Nat}(h:n<=1000):gV (n:Int)=(num (n:Int),false):=by
 grind[gV,Da]
theorem é {b:B8} {m:Int}(h:m<b.length):fM b m=([],true):=by simp_all[fM,R!]
theorem aj3 {b:B8} {m:Int}(h:¬m<b.length):fM b m=(text b,false):=by simp_all[fM,N!]
theorem aj4 {n:Int} {g:B8} {s:List Sg}(h:¬(hW n g s).2=0):dW n g s=([],true):=by
 grind[bm,EU,dW]
theorem Q0 {n:Int} {g:B8} {s:List Sg}(h:(hW n g s).2=0):dW n g s=fM (hW n g s).1 10000/\(hW n g s).1.length<=100000:=by
 simp_all[ajI,dW,R!,Ø]
theorem arI(a b c:B8):(jJ a b c).length<=200:=by
 grind[jJ,oh]
theorem aB6 {a b c:B8}(h:¬pd a b c=0):fp a b c=false :=by
 grind[fp,pd]
theorem arJ {a b c:B8}(h:pd a b c=0):fp a b c=true/\jJ a b c=e9 a b c:=by
 cases q:fp a b c with
 |true=>exact⟨rfl,by grind[jJ]⟩
 |false=>grind[pd]
theorem ê {p1:Int} {p2 p3 p4:B8} {p5:List B8} {p6:B8}(h:¬pd p2 p3 p4=0):iD (p1,p2,p3,p4,p5,p6)=((gV p1).1,true):=by
 grind[iD,aB6]
theorem T8 {p1:Int} {p2 p3 p4:B8} {p5:List B8} {p6:B8}(h:pd p2 p3 p4=0):iD (p1,p2,p3,p4,p5,p6)=cat (cat (cat (gV p1) (fM (jJ p2 p3 p4) 200)) (fb p5)) (fM p6 4000):=by
 grind[iD,arJ]
theorem azA {n:Int} {g:B8} {s:List Sg} {l:List (List Pf)} {k j:Nat}(p:Pf)(hp:p=pfD (fg l k) j)(d:Bool)(b:B8)(hd:d=lT (gb n g s l k j))(hb:b=bytesOf (gb n g s l k j)):
  jM d (iD p)=lT (gb n g s l k (j+1))/\b++bytesOf (iD p)=bytesOf (gb n g s l k (j+1)):=by
 subst hp;subst hd;subst hb;simp [jM,lT,bytesOf,gb,Ca,cat,Bool.or_assoc,U!,and_self]
theorem ë {b:B8} {c:UInt8}(h:(1048576:Int)<b.length):eP b c=3:=by simp_all[eP,R!]
theorem ì {b:B8} {c:UInt8}(h:¬(1048576:Int)<b.length)(h1:(b.length:Int)=0):eP b c=4:=by simp_all[eP,N!,R!]
theorem aj5 {b:B8} {c:UInt8}(h:¬(1048576:Int)<b.length)(h1:¬(b.length:Int)=0)(h2:¬((b.getD (Int.toNat 0) 0).toNat:Int)=c.toNat):eP b c=2:=by
 grind[eP]
theorem aj6 {b:B8} {c:UInt8}(h:¬(1048576:Int)<b.length)(h1:¬(b.length:Int)=0)(h2:((b.getD (Int.toNat 0) 0).toNat:Int)=c.toNat):eP b c=0:=by
 unfold eP;grind[UInt8.toNat_inj]
theorem í(b:B8)(a e m:Int):(az b a e m).2.length<=b.length:=by
 grind[az,cV]
theorem aj7(b:B8)(a e:Int) {m:Int}(hm:0<=m):(ec b a e m).2<=m:=by
 grind[ec]
theorem Q1 {b:B8} {a e m:Int}(h:m<(an b a e).2):ec b a e m=(((an b a e).1.2.1,2),0):=by simp_all[ec,R!]
theorem WY {b:B8} {a e m:Int}(h:¬m<(an b a e).2):ec b a e m=((an b a e).1.2,(an b a e).2):=by simp_all[ec,N!]
theorem WZ {b:B8} {a e:Int}(h:¬(az b a e 10000).1.2.2=0):cT b a e=((az b a e 10000).1.2,(0,[],[])):=by simp_all[cT,R!]
theorem Q2 {b:B8} {a e:Int}(h:(az b a e 10000).1.2.2=0):cT b a e=(((az b a e 10000).1.2.1,(hR (az b a e 10000).2).2),(hR (az b a e 10000).2).1):=by simp_all[cT,N!]
theorem W0 {b:B8} {a e:Int}(h:¬(az b a e 200).1.2.2=0):ik b a e=((az b a e 200).1.2,([],[],[])):=by simp_all[ik,R!]
theorem Q3 {b:B8} {a e:Int}(h:(az b a e 200).1.2.2=0):ik b a e=(((az b a e 200).1.2.1,(bw (az b a e 200).2).2),(bw (az b a e 200).2).1):=by simp_all[ik,N!]
theorem î(b:B8)(a e:Int):∀k,(vt b a e k).2.length=k
 |0=>rfl
 |k+1=>by simp only [vt];rw [C!,î b a e k];rfl
theorem arK(b:B8)(a e:Int)(k:Nat):(ga b a e k).2.length=k:=î ..
theorem ï(b:B8)(a e:Int):∀k,(Cb b a e k).2.length=k
 |0=>rfl
 |k+1=>by simp only [Cb];rw [C!,ï b a e k];rfl
theorem arL(b:B8)(k j:Nat):(pI b k j).2.length=j:=ï ..
theorem ð(b:B8)(a e:Int):∀k,(vu b a e k).2.length=k
 |0=>rfl
 |k+1=>by simp only [vu];rw [C!,ð b a e k];rfl
theorem arM(b:B8)(k:Nat):(iV b k).2.length=k:=ð ..
theorem aj8(b:B8)(a e:Int):lS b a e<=64:=by simp_all[aj7,lS]
theorem aj9(b:B8)(k:Nat):pr b k<=16:=by simp_all[aj7,iV,pr,QU]
theorem Q4 {x:Nat} {v:Int}(h:(x:Int)<v):x+1<=v.toNat:=by omega
theorem L0 {x:Nat} {v:Int}(h:bM x v.toNat)(h1:¬(x:Int)<v):x=v.toNat:=by grind[bM]
theorem arN(b:B8):(hR b).1.2.2.length<=64:=by
 by_cases h:(hR b).2=0
 . grind[oJ,gU,WS]
 simp_all[ajC,K!]
theorem aka(b:B8):aN b<=64:=by
 grind[aN,aH,cT,arN]
theorem Q5 {b:B8} {x:Nat}(h:(x:Int)<((cT b 1 0).2.2.2.length:Int)):x+1<=aN b:=by
 have :aN b=(cT b 1 0).2.2.2.length:=rfl;omega
theorem Q6 {b:B8} {x:Nat}(h:bM x (aN b))(h1:¬(x:Int)<((cT b 1 0).2.2.2.length:Int)):x=aN b:=by
 have :aN b=(cT b 1 0).2.2.2.length:=rfl;grind[bM]
theorem azB {b:B8}(h:¬eP b 1=0):fh b=((0,[],[],[]),eP b 1):=by simp_all[fh,R!]
theorem azC {b:B8} {k:Nat}(h:eP b 1=0)(hk:k=aN b)(h1:¬done b (iV b k).1.1 (iV b k).1.2=0):fh b=((0,[],[],[]),done b (iV b k).1.1 (iV b k).1.2):=by simp_all[fh,N!,R!]
theorem azD {b:B8} {k:Nat}(h:eP b 1=0)(hk:k=aN b)(h1:done b (iV b k).1.1 (iV b k).1.2=0):fh b=(((aH b).2.1,(aH b).2.2.1,(aH b).2.2.2,(iV b k).2),0):=by simp_all[fh,N!]
theorem akb {b:B8}(h:¬eP b 2=0):di b=((0,[],[],0,[],[]),eP b 2):=by simp_all[di,R!]
theorem akc {b:B8}(h:eP b 2=0)(h1:¬done b (E2 b).1.1 (E2 b).1.2=0):di b=((0,[],[],0,[],[]),done b (E2 b).1.1 (E2 b).1.2):=by simp_all[di,N!,R!]
theorem akd {b:B8}(h:eP b 2=0)(h1:done b (E2 b).1.1 (E2 b).1.2=0):di b=(((QW b).2.1,(QW b).2.2.1,(QW b).2.2.2,(T4 b).2,(pg3 b).2,(E2 b).2),0):=by simp_all[di,N!]
theorem ake {b:B8}(h:¬eP b 3=0):cR b=((0,[],[],0,[],[],[]),eP b 3):=by simp_all[cR,R!]
theorem str_1 {b:B8}(h:eP b 3=0)(h1:¬done b (E3 b).1.1 (E3 b).1.2=0):cR b=((0,[],[],0,[],[],[]),done b (E3 b).1.1 (E3 b).1.2):=by simp_all[cR,N!,R!]
theorem akf {b:B8}(h:eP b 3=0)(h1:done b (E3 b).1.1 (E3 b).1.2=0):cR b=(((st1 b).2.1,(st1 b).2.2.1,(st1 b).2.2.2,(st2 b).2.1,(st2 b).2.2.1,(st2 b).2.2.2,(E3 b).2),0):=by simp_all[cR,N!]
end Go.S

end
section
namespace Go.S
theorem Jg {n:Int} {g:B8} {l:List Sg}(h:bm n g l=true):(bz n g l).length<=5000:=by
 have :=QY h;grind[vv,hB,bz]
theorem dJ {n:Int} {g:B8} {l:List Sg}(h:bm n g l=true):0<=n/\n<=1000/\g.length=32/\l.length<=64:=by
 grind[gU,oJ]
theorem Bg {v:Int}(h:dz v=false):0<=v/\v<=4611686018427387904:=by
 grind[dz,Bool.or_eq_false_iff,decide_eq_false_iff_not]
theorem L1 {p:List B8}(h:jo p):(cM p).length<=2057:=by
 have :=Dh p;rw [Bc (by have :=h.1;omega) h.2] at this;omega
theorem akg {p:List B8}(h:jo p)(k:Nat):(iU p k).length<=2057/\∀i:Nat,(p.getD i []).length<=32:=by
 have q:∀(l:List B8),cz l=true->l.flatten.length=32*l.length:=by
  intro l;induction l with
  |nil=>grind
  |cons a l ih=>
   grind[cL,List.mem_cons_self,List.flatten_cons,List.length_append,List.length_cons,List.mem_cons_of_mem]
 have e:=q (p.take k) ((cL _).2 fun d hd=>(cL p).1 h.2 d (List.mem_of_mem_take hd));have :=bF (p.length:Int);have :=h.1;refine⟨?_,fun i=> ?_⟩
 . grind[iU,List.length_append,List.length_take]
 . by_cases hi:i<p.length
   . have :=(cL p).1 h.2 _ (bq p i [] hi);omega
   grind
theorem afK {p:List B8} {k:Nat}(hk:(k:Int)<p.length):iU p k++p.getD (Int.toNat (k:Int)) []=iU p (k+1):=by
 grind[Int.toNat_natCast,iU,ar]
theorem aB7(p:List B8):num p.length=iU p 0:=by simp [iU]
theorem akh {p:List B8} {k:Nat}(h:bS p k)(hk:¬(k:Int)<p.length):iU p k=cM p:=by
 grind[bS,iU,cM,List.take_length]
theorem aki {p:Pf}(h:po p=true):(du p).length<=7000:=by
 have :=HW p;grind[LU]
theorem ñ {n:Int} {g:B8} {s:List Sg} {l:List (List Pf)}(h:xE n g s l) {k j:Nat}(hk:(k:Int)<l.length)(hj:(j:Int)<(l.getD k []).length):po ((l.getD k []).getD j rF)=true :=
 (h.2.2 _ (bq l k [] w!)).2 _ (bq _ j rF w!)
theorem ò {n:Int} {g:B8} {s:List Sg} {l:List (List Pf)}(h:xE n g s l) {k:Nat}(hk:k<=l.length):(ia n g s l k).length<=130000000:=by
 have :=GA n g s l k fun i hi=>(h.2.2 _ (bq l i [] w!)).1;rw [LW h.1 (fun x hx=>(h.2.2 x hx).2) k hk] at this;have :=h.2.1;grind
theorem arO {n:Int} {g:B8} {s:List Sg} {l:List (List Pf)}(h:xE n g s l) {k j:Nat}(hk:k<l.length)(hj:j<=(fg l k).length):(iW n g s l k j).length<=140000000:=by
 have h1:=ò h (k:=k) w!;have h2:=Bf (fg l k) j;have hm:=h.2.2 _ (bq l k [] hk);grind[LV,fg,iW,List.length_append]
theorem aIW(n:Int)(g:B8)(s:List Sg)(l:List (List Pf))(k:Nat):ia n g s l k++num (l.getD (Int.toNat (k:Int)) []).length=iW n g s l k 0:=by
 grind[Int.toNat_natCast,iW,jb,fg]
theorem akj {n:Int} {g:B8} {s:List Sg} {l:List (List Pf)} {k j:Nat}(hj:(j:Int)<(l.getD k []).length):iW n g s l k j++du ((l.getD k []).getD j rF)=iW n g s l k (j+1):=by
 grind[fg,rF,ar,iW,jb]
theorem arP {n:Int} {g:B8} {s:List Sg} {l:List (List Pf)} {k j:Nat}(hk:(k:Int)<l.length)(h:j<=(fg l k).length)(hj:¬(j:Int)<(l.getD k []).length):iW n g s l k j=ia n g s l (k+1):=by
 grind[fg,iW,ia,ar]
theorem arQ {n:Int} {g:B8} {s:List Sg} {l:List (List Pf)} {k:Nat}(h:bS l k)(hk:¬(k:Int)<l.length):ia n g s l k=pH n g s l:=by
 have e:k=l.length:=by grind[bS]
 rw [e];rfl
theorem afL(n:Int)(g:B8)(s:List Sg)(l:List (List Pf)): [1]++bz n g s=ia n g s l 0:=by simp [ia]
theorem Q7 {n:Int} {g:B8} {l:List Sg}(h:bm n g l=true):bj (hB n g l)/\small (hB n g l):=by
 grind[Ø,bj,small]
end Go.S

end
section
namespace Go.S
def wy(n:Int)(g:B8)(l:List Sg):B8×Int:=if bm n g l then(mi 3 (hB n g l),0) else([],1)
def ó(n:Int)(g:B8)(l:List Sg):B8:=oc 3 (hB n g l)
def iX(docs:List B8)(l:List ax):B8×Int:=
 if aV docs l then(mi 3 (hB docs.length (root (leaves docs)) (aw docs l)),0) else([],7)
def xF(docs:List B8)(i:Int):B8:=docs.getD i.toNat []
def ô(docs:List B8)(i:Int):Prop :=0<=i/\i<docs.length
def L2(a b:B8):Bool:=decide (a=b)
def II(d:List bx)(ts:List B8):List Pf:=ts.map (cG d)
def iE(d:List bx)(ts:List B8)(k:Nat):List Pf:=(ts.take k).map (cG d)
def L3(d:List bx)(ts:List B8):Prop :=aQ d/\aI d=true/\ts.length<=1000/\∀t∈ts,isTerm t=true
def oN(l:List ax)(ts:List B8):List (List Pf):=l.map fun s=>II s.2.2 ts
def fD(l:List ax)(ts:List B8)(k:Nat):List (List Pf):=oN (l.take k) ts
def cQ(docs:List B8)(l:List ax)(q:List fa):B8×Int:=
 if aV docs l=false then([],7) else if bL q=false then([],1)
 else pG docs.length (root (leaves docs)) (aw docs l) (oN l (aO q))
def bO(docs:List B8)(l:List ax)(i:Int):B8×Int:=
 if aV docs l=false then([],7) else if i<0\/(docs.length:Int)<=i then([],5)
 else zW docs.length (root (leaves docs)) (aw docs l) i (docs.getD i.toNat []) (path (leaves docs) i)
def jD(a b:List B8):Bool:=decide (a.length<=b.length)&&decide (a=b.take a.length)
def xG(a b:List B8)(k:Nat):Prop :=a.length<=b.length/\k<=a.length/\a.take k=b.take k
def b8(docs:List B8)(l:List ax)(eQ:List B8)(l':List ax):B8×Int:=
 if aV docs l=false\/aV eQ l'=false then([],7) else if jD docs eQ=false then([],1)
 else xD docs.length (root (leaves docs)) (aw docs l) eQ.length (root (leaves eQ)) (aw eQ l') (cb (leaves eQ) docs.length)
end Go.S

end
section
namespace Go.S
theorem Bh {n:Int} {g:B8} {l:List Sg}(h:bm n g l=true):((bz n g l).length:Int)<=4009:=by
 have :=QY h;grind[vv,hB,bz]
theorem õ:∀(p:List B8),cz p=true->p.flatten.length=32*p.length
 | [],_=>rfl
 |a::p,h=>by
  have ha:=(cL _).1 h a (S! ..);have :=õ p ((cL _).2 fun d hd=>(cL _).1 h d (G! _ hd));rw [List.flatten_cons,C!,F?,ha,this];omega
theorem GB {p:List B8}(h:cz p=true):(cM p).length<=32*p.length+9:=by
 grind[bF,cM,List.length_append,õ]
theorem E5 {b:B8}(h:(b.length:Int)<=1048576):pF (b,false)=b/\ri (b,false)=0:=by
 simp_all[pF,ri,N!]
theorem qk {docs:List B8} {l:List ax}(h:aV docs l=true):docs.length<=1000/\(∀i,((docs.getD i []).length:Int)<=2000):=by
 have hf:=(RI.of (gx.1 h).1).fair;simp [c8,Bool.and_eq_true,List.all_eq_true,decide_eq_true_eq] at hf;grind
theorem gX(l:List B8):(leaves l).length=l.length:=by simp [leaves]
theorem L4 {docs:List B8} {l:List ax}(h:aV docs l=true) {i:Int}(h0:0<=i)(h1:i<docs.length):
  (path (leaves docs) i).length<=10/\cz (path (leaves docs) i)=true :=by
 have :=(qk h).1;exact⟨zT h0 (by grind[gX]) (by grind[gX]),Dd _ _ _ rfl (eX docs)⟩
theorem T9 {docs:List B8} {l:List ax}(h:aV docs l=true) {i:Int}(h0:0<=i)(h1:i<docs.length):
  bO docs l i=(mA docs.length (root (leaves docs)) (aw docs l) i (docs.getD i.toNat []) (path (leaves docs) i),0)/\
  di (bO docs l i).1=(((docs.length:Int),root (leaves docs),aw docs l,i,docs.getD i.toNat [],path (leaves docs) i),0)/\
  ((bO docs l i).1.length:Int)<=1048576:=by
 obtain⟨d1,d2⟩:=qk h;obtain⟨p1,p2⟩:=L4 h h0 h1;have hr:=ij h;have hn:dz i=false :=Da h0 w!
 have hl:((mA docs.length (root (leaves docs)) (aw docs l) i (docs.getD i.toNat []) (path (leaves docs) i)).length:Int)<=1048576:=by
  have a1:=Bh hr;grind[bF,vv,GB,mA,List.length_append,List.length_singleton]
 have e:bO docs l i=(mA docs.length (root (leaves docs)) (aw docs l) i (docs.getD i.toNat []) (path (leaves docs) i),0):=by
  unfold bO zW QS;rw [if_neg (by rw [h];decide),if_neg w!,Bb hr,T5 hn,Ba (d2 _),Bc w! p2];have :=E5 hl;simp only [mA] at this;simp only [cat,Bool.or_false,mA];rw [this.1,this.2]
 grind[afI]
theorem Ua {a b:List B8}(h:jD a b=true):a.length<=b.length:=by
 simp [jD,B!,H!] at h;omega
theorem Ub {docs eQ:List B8} {l l':List ax}(h:aV docs l=true)(h':aV eQ l'=true)(hb:jD docs eQ=true):
  b8 docs l eQ l'=(np docs.length (root (leaves docs)) (aw docs l) eQ.length (root (leaves eQ)) (aw eQ l') (cb (leaves eQ) docs.length),0)/\
  cR (b8 docs l eQ l').1=(((docs.length:Int),root (leaves docs),aw docs l,(eQ.length:Int),root (leaves eQ),aw eQ l',cb (leaves eQ) docs.length),0)/\
  ((b8 docs l eQ l').1.length:Int)<=1048576:=by
 have d1:=(qk h').1;have hr:=ij h;have nX:=ij h'
 have hp:cz (cb (leaves eQ) docs.length)=true/\(cb (leaves eQ) docs.length).length<=11:=by
  unfold cb;split
  . split
    . exact⟨rfl,K! _⟩
    . exact qj 10 _ _ _ (eX eQ) (by grind[gX])
  . exact⟨rfl,K! _⟩
 unfold b8;generalize cb (leaves eQ) docs.length=p at *
 have hl:((np docs.length (root (leaves docs)) (aw docs l) eQ.length (root (leaves eQ)) (aw eQ l') p).length:Int)<=1048576:=by
  have a1:=Bh hr;have a2:=Bh nX;grind[GB,np,List.length_append,List.length_singleton]
 have e:(if aV docs l=false\/aV eQ l'=false then(([]:B8),(7:Int)) else if jD docs eQ=false then([],1) else xD docs.length (root (leaves docs)) (aw docs l) eQ.length (root (leaves eQ)) (aw eQ l') p)=(np docs.length (root (leaves docs)) (aw docs l) eQ.length (root (leaves eQ)) (aw eQ l') p,0):=by
  unfold xD QT;rw [if_neg x!,if_neg x!,Bb hr,Bb nX,Bc w! hp.1];simp_all[E5,np,cat,Bool.or_false]
 grind[afJ]
theorem akk {v:Int}(h:v<16384):(num v).length<=2:=by
 grind[num,pB]
theorem Uc {l:List Int}(h:bK l=true):(ml l).length<=2*l.length+2:=by
 have hl:=oH h
 have q:∀k,k<=l.length->((List.range k).flatMap (fun i=>num (l.getD i 0-fW l i-1))).length<=2*k:=by
  intro k;induction k with
  |zero=>simp
  |succ k ih=>
   intro hk;have h1:=AX (Qw h (k:=k) w!);have h2:=(mq l k).1 ((mo l).1 h k w!);have h3:=akk (v:=l.getD k 0-fW l k-1) w!;rw [List.range_succ,r?,C!];simp only [List.flatMap_cons,List.flatMap_nil,A?];omega
 have :=q l.length (O! _);have h3:=akk (v:=(l.length:Int)) w!;simp only [ml,dA,C!];omega
theorem OZ {d:List bx}(h:aI d=true)(t:B8):bK (gS d t)=true :=by
 unfold gS;split
 . rename_i h1;have hb:=uo h1;simp_all[qY,aU]
 . rfl
theorem akl {d:List bx}(h:aI d=true) {i:Nat}(hi:i<=d.length):fp (bw (ja d i)).1.1 (bw (ja d i)).1.2.1 (bw (ja d i)).1.2.2=true :=by
 rcases zx h (k:=i) with q|q
 . have e:ja d i=e9 (if i=0 then [] else bV d (i-1)) (if i<d.length then bV d i else []) (gE (if i=0 then [] else fI d (i-1))):=rfl;grind[Tq]
 omega
theorem W2 {d:List bx}(h:aI d=true)(hp:d.length<=1048576)(t:B8):po (cG d t)=true :=by
 obtain⟨f1,f2,f3⟩:=LO (t:=t) h;have hlen:(leaves (dh d)).length=d.length+1:=by rw [gX,f3]
 refine wu.2 ⟨Da f1 (by grind[cG]),akl h w!,?_,Dd _ _ _ rfl (eX _),?_⟩
 . have :=zT (l:=leaves (dh d)) (i:=aU d t+1) (t:=21) f1 w! w!;grind[cG]
 grind[cG,OZ,Uc,oH]
theorem W3 {d:List bx}(h:aI d=true)(hp:d.length<=100)(hd:∀t,(gS d t).length<=200)(t:B8):(du (cG d t)).length<=880:=by
 obtain⟨f1,f2,f3⟩:=LO (t:=t) h;have hlen:(leaves (dh d)).length=d.length+1:=by rw [gX,f3]
 have a1:=bF (aU d t+1);have a2:=oh (akl h (i:=(aU d t+1).toNat) w!);have a3:=vv (e9 (bw (ja d (aU d t+1).toNat)).1.1 (bw (ja d (aU d t+1).toNat)).1.2.1 (bw (ja d (aU d t+1).toNat)).1.2.2);have a4:=GB (Dd _ (leaves (dh d)) (aU d t+1) rfl (eX _));have a5:=zT (l:=leaves (dh d)) (i:=aU d t+1) (t:=7) f1 w! w!
 have a6:(text (if eW d t then ml (gS d t) else [])).length<=411:=by
  have :=vv (if eW d t then ml (gS d t) else [])
  have q:(if eW d t then ml (gS d t) else []).length<=402:=by
   split
   . have :=Uc (OZ h t);have :=hd t;omega
   . exact K! _
  omega
 simp [du,cG,C!];omega
theorem akm {d:List bx}(h:aI d=true)(hp:d.length<=1048576)(ts:List B8):∀p∈II d ts,po p=true :=by
 intro p Bp;obtain⟨t,_,rfl⟩:=List.mem_map.1 Bp;grind[W2]
theorem GC {docs:List B8} {l:List ax}(h:aV docs l=true):∀s∈l,aI s.2.2=true/\s.2.2.length<=1048576/\aQ s.2.2:=by
 intro s hs;have R:=RI.of (gx.1 h).1;obtain⟨h1,h2,_⟩:=R.seg s hs;refine⟨?_,h2.1,h2⟩;have :dQ s.1 s.2.1 s.2.2=true :=h1;simp [dQ,Bool.and_eq_true] at this;grind
theorem E6 {docs:List B8} {l:List ax}(h:aV docs l=true) {ts:List B8}(ht:ts.length<=16):∀x∈oN l ts,(x.length:Int)<=16/\∀p∈x,po p=true :=by
 intro x hx;obtain⟨s,hs,rfl⟩:=List.mem_map.1 hx;grind[GC,II,akm]
theorem zX {docs:List B8} {l:List ax}(h:aV docs l=true):(aw docs l).length=l.length:=by
 grind[aw,fY,gx,List.length_map]
theorem W4 {docs:List B8} {l:List ax} {q:List fa}(h:aV docs l=true)(hq:bL q=true):
  cQ docs l q=(pF (pH docs.length (root (leaves docs)) (aw docs l) (oN l (aO q)),false),ri (pH docs.length (root (leaves docs)) (aw docs l) (oN l (aO q)),false)):=by
 have hm:=E6 h (kN hq);have hl:(oN l (aO q)).length=(aw docs l).length:=by rw [zX h];simp [oN]
 have ha:Je (oN l (aO q))=true :=List.all_eq_true.2 fun x hx=>decide_eq_true (hm x hx).1;unfold cQ pG;rw [if_neg (by rw [h];decide),if_neg (by rw [hq];decide),if_neg (by rw [hl,ha];simp),LW (ij h) (fun x hx=>(hm x hx).2) _ (Nat.le_refl _)];rfl
theorem GF {docs:List B8} {l:List ax} {q:List fa}(h:aV docs l=true)(hq:bL q=true)(he:(cQ docs l q).2=0):
  cQ docs l q=(pH docs.length (root (leaves docs)) (aw docs l) (oN l (aO q)),0)/\((cQ docs l q).1.length:Int)<=1048576/\
  fh (cQ docs l q).1=(((docs.length:Int),root (leaves docs),aw docs l,oN l (aO q)),0):=by
 have e:=W4 h hq;rw [e] at he |-
 have hl:((pH docs.length (root (leaves docs)) (aw docs l) (oN l (aO q))).length:Int)<=1048576:=by
  simp_all[ri,N!]
 have hb:=E5 hl;rw [hb.1,hb.2];exact⟨rfl,hl,ajX (ij h) (by grind[zX,oN]) (E6 h (kN hq)) hl⟩
theorem zY {α:Type}(f:α->B8)(c:Nat):∀(l:List α),(∀x∈l,(f x).length<=c)->(l.flatMap f).length<=c*l.length
 | [],_=>by simp
 |a::l,h=>by
  have ih:=zY f c l fun x hx=>h x (List.mem_cons_of_mem _ hx);grind[List.length_append,List.length_cons,Nat.mul_succ]
theorem ö {docs:List B8} {l:List ax} {q:List fa}(h:aV docs l=true)(hq:bL q=true)(hg:fq docs l=false):(cQ docs l q).2=0:=by
 rw [W4 h hq];refine(E5 ?_).2;have ht:=kN hq;have hl:l.length<=64:=(RI.of (gx.1 h).1).le |> fun q=>by grind[bW]
 have hD:∀s∈l,hX s.2.2=false :=by
  grind[fq,Bool.or_eq_false_iff,List.any_eq_false]
 have lK:∀x∈oN l (aO q),(jb x x.length).length<=880*16+9:=by
  intro x hx;obtain⟨s,hs,rfl⟩:=e?.1 hx;obtain⟨f1,f2,f3⟩:=GC h s hs;obtain⟨g1,g2⟩:=Wv (hD s hs)
  have hd:∀t,(gS s.2.2 t).length<=200:=by
   intro t;unfold gS;split
   . rename_i hb;have fv:=uo hb;exact(g2 _ (bq s.2.2 (aU s.2.2 t).toNat ([],[]) w!)).2
   grind
  have :=zY du 880 (II s.2.2 (aO q)) (fun p hp=>by
   obtain⟨t,_,rfl⟩:=List.mem_map.1 hp;grind[W3])
  grind[bF,II,aO,Dg,List.length_append,Nat.mul_le_mul_left]
 have :=zY (fun x=>jb x x.length) _ _ lK;have hn:(oN l (aO q)).length=l.length:=by simp [oN]
 have a1:=Bh (ij h);grind[Nat.mul_le_mul_left,pH,ia,List.length_append,List.length_singleton,List.take_length]
end Go.S

end
section
namespace Go.S
def L5(docs:List B8)(l:List ax):B8:=ó docs.length (root (leaves docs)) (aw docs l)
def hx(l:List hZ):IH:=(bo (cr l).1 (cr l).2).1
def gd(l m:List hZ)(k:Nat):IH:=bG (hx l) m k
theorem W5 {n:Int} {g:B8} {l:List Sg}(h:¬(hW n g l).2=0):wy n g l=([],1)/\(hW n g l).2=1:=by
 grind[bm,EU,QP,wy]
theorem Q8 {n:Int} {g:B8} {l:List Sg}(h:(hW n g l).2=0):wy n g l=(mi 3 (hW n g l).1,0)/\bj (hW n g l).1:=by
 simp_all[ajI,wy,R!,Q7]
theorem Q9 {docs:List B8} {l:List ax}(h:¬(cX docs l).2=0):aV docs l=false :=by
 grind[A9]
theorem lj {docs:List B8} {l:List ax}(h:(cX docs l).2=0):aV docs l=true/\(cX docs l).1.1=(docs.length:Int)/\(cX docs l).1.2.1=root (leaves docs)/\(cX docs l).1.2.2=aw docs l:=by
 grind[aV,A9,ajH]
theorem akn {docs:List B8} {l:List ax}(h:¬(cX docs l).2=0):iX docs l=([],7):=by grind[iX,Q9]
theorem ø {docs:List B8} {l:List ax}(h:(cX docs l).2=0):wy (cX docs l).1.1 (cX docs l).1.2.1 (cX docs l).1.2.2=iX docs l:=by
 simp_all[lj,iX,wy,R!,ij]
theorem HX {t:B8}(h:isTerm t=true):small t:=by grind[zw,small]
theorem azE(d:List bx)(ts:List B8): []=iE d ts 0:=rfl
theorem ù(d:List bx)(ts:List B8)(k:Nat):(iE d ts k).length<=ts.length:=by grind[iE,List.length_take]
theorem Ud {d:List bx} {ts:List B8} {k:Nat}(h:(k:Int)<ts.length):iE d ts k++ [cG d (ts.getD (Int.toNat (k:Int)) [])]=iE d ts (k+1):=by
 grind[Int.toNat_natCast,iE,ar]
theorem ú {d:List bx} {ts:List B8} {k:Nat}(h:bS ts k)(hk:¬(k:Int)<ts.length):iE d ts k=II d ts:=by
 grind[bS,iE,II,List.take_length]
theorem aB8 {d:List bx} {ts:List B8}(h:L3 d ts) {k:Nat}(hk:(k:Int)<ts.length):isTerm (ts.getD (Int.toNat (k:Int)) [])=true :=by
 exact h.2.2.2 _ (bq ts k [] w!)
theorem azF(l:List ax)(ts:List B8): []=fD l ts 0:=rfl
theorem û(l:List ax)(ts:List B8)(k:Nat):(fD l ts k).length<=l.length:=by grind[fD,oN,List.length_take]
theorem Ue {l:List ax} {ts:List B8} {k:Nat}(h:(k:Int)<l.length):fD l ts k++ [II (l.getD (Int.toNat (k:Int)) (0,0,[])).2.2 ts]=fD l ts (k+1):=by
 grind[Int.toNat_natCast,fD,oN,ar]
theorem ü {l:List ax} {ts:List B8} {k:Nat}(h:bS l k)(hk:¬(k:Int)<l.length):fD l ts k=oN l ts:=by
 grind[bS,fD,List.take_length]
theorem wz {docs:List B8} {l:List ax}(h:aV docs l=true):l.length<=64:=by simpa [bW] using(RI.of (gx.1 h).1).le
theorem gf {docs:List B8} {l:List ax}(h:aV docs l=true):bJ docs/\nN (leaves docs)/\small (leaves docs):=by
 obtain⟨h1,h2⟩:=C9 (gx.1 h).1;exact⟨h1,h2,h2⟩
theorem ý {docs:List B8} {l:List ax} {q:List fa}(h:aV docs l=true)(hq:bL q=true) {k:Nat}(hk:(k:Int)<l.length):L3 (l.getD (Int.toNat (k:Int)) (0,0,[])).2.2 (aO q):=by
 obtain⟨f1,f2,f3⟩:=GC h _ (bq l k (0,0,[]) w!);exact⟨f3,f1,by grind[kN],TY hq⟩
theorem ako {docs:List B8} {l:List ax} {q:List fa}(h:¬(cX docs l).2=0):cQ docs l q=([],7):=by simp_all[cQ,R!,Q9]
theorem þ {docs:List B8} {l:List ax} {q:List fa}(h:(cX docs l).2=0)(hq:bL q=false):cQ docs l q=([],1):=by
 simp_all[cQ,N!,lj,R!]
theorem Ra {docs:List B8} {l:List ax} {q:List fa}(h:aV docs l=true)(hq:bL q=true) {k:Nat}(h1:bS l k)(hk:¬(k:Int)<l.length):
  pG ((len docs:Nat):Int) (root (leaves docs)) (aw docs l) (fD l (aO q) k)=cQ docs l q/\wv (fD l (aO q) k):=by
 rw [ü h1 hk];refine⟨by unfold cQ;rw [if_neg x!,if_neg x!];rfl,?_,?_⟩
 . grind[wz,oN]
 . intro x hx p hp;have :=(wu.1 ((E6 h (kN hq) x hx).2 p hp)).2.2.2.2;omega
theorem akp {docs:List B8} {l:List ax} {i:Int}(h:¬(cX docs l).2=0):bO docs l i=([],7):=by simp_all[bO,R!,Q9]
theorem ÿ {docs:List B8} {l:List ax} {i:Int}(h:(cX docs l).2=0)(hi:i<0\/(docs.length:Int)<=i):bO docs l i=([],5):=by
 simp_all[bO,N!,lj,R!]
theorem E7 {docs:List B8} {l:List ax} {i:Int}(h:(cX docs l).2=0)(hi:¬i<0/\¬(docs.length:Int)<=i):
  qh (leaves docs) i=0/\zW (cX docs l).1.1 (cX docs l).1.2.1 (cX docs l).1.2.2 i (docs.getD i.toNat []) (my (leaves docs) i)=bO docs l i/\(docs.getD i.toNat []).length<=1099511627776:=by
 obtain⟨h1,h2,h3,h4⟩:=lj h;have q:cz (leaves docs)=true/\0<=i/\i<(leaves docs).length:=⟨eX docs,w!,by grind[gX]⟩;refine⟨by simp_all[qh,if_pos],?_,by grind[qk]⟩;simp_all[bO,my,if_pos,if_neg]
theorem arR {docs:List B8} {l:List ax} {i:Int}(h:aV docs l=true)(hi:ô docs i):kA (leaves docs) i:=⟨⟨eX docs,(gf h).2.1⟩,hi.1,by rw [gX];exact hi.2⟩
theorem arS {a b:List B8} {m:List ax}(h:aV b m=true)(hb:jD a b=true):rf (leaves b) (a.length:Int):=⟨⟨eX b,(gf h).2.1⟩,w!,by simp_all[gX,Ua]⟩
theorem aB9(a b:List B8):(bif decide ((a.length:Int)<=b.length) then qc a (b.take (Int.toNat (a.length:Int))) else false)=jD a b:=by
 grind[Int.toNat_natCast,jD,qc,decide_eq_true,decide_eq_false]
theorem aCa {y2:List ax} {ts:List B8} {k j:Nat}(hk:(k:Int)<y2.length)(h:bS ts j)(hj:¬(j:Int)<ts.length):fD y2 ts k++ [iE (ao y2 k).2.2 ts j]=fD y2 ts (k+1):=by
 rw [ú h hj,<-Ue hk,V!];rfl
theorem arT(p:Pf):(p.1,p.2.1,p.2.2.1,p.2.2.2.1,p.2.2.2.2.1,p.2.2.2.2.2)=p:=rfl
theorem aCb {y2:List ax} {ts:List B8} {k j:Nat}(hj:(j:Int)<ts.length):
  iE (ao y2 k).2.2 ts j++ [((cG (y2.getD (Int.toNat (k:Int)) (0,0,[])).2.2 (ts.getD (Int.toNat (j:Int)) [])).1,(cG (y2.getD (Int.toNat (k:Int)) (0,0,[])).2.2 (ts.getD (Int.toNat (j:Int)) [])).2.1,(cG (y2.getD (Int.toNat (k:Int)) (0,0,[])).2.2 (ts.getD (Int.toNat (j:Int)) [])).2.2.1,(cG (y2.getD (Int.toNat (k:Int)) (0,0,[])).2.2 (ts.getD (Int.toNat (j:Int)) [])).2.2.2.1,(cG (y2.getD (Int.toNat (k:Int)) (0,0,[])).2.2 (ts.getD (Int.toNat (j:Int)) [])).2.2.2.2.1,(cG (y2.getD (Int.toNat (k:Int)) (0,0,[])).2.2 (ts.getD (Int.toNat (j:Int)) [])).2.2.2.2.2)]=iE (ao y2 k).2.2 ts (j+1):=by
 rw [arT,<-Ud hj,V!];rfl
theorem Rb {a:List B8} {l:List ax} {b:List B8} {m:List ax}(h:¬(cX a l).2=0\/¬(cX b m).2=0):b8 a l b m=([],7):=by
 unfold b8;grind[Q9]
theorem Jh {a:List B8} {l:List ax} {b:List B8} {m:List ax}(h:(cX a l).2=0)(h':(cX b m).2=0)(hb:jD a b=false):b8 a l b m=([],1):=by
 simp_all[b8,N!,lj,R!]
theorem Ji {a:List B8} {l:List ax} {b:List B8} {m:List ax}(h:(cX a l).2=0)(h':(cX b m).2=0)(hb:jD a b=true):
  xD (cX a l).1.1 (cX a l).1.2.1 (cX a l).1.2.2 (cX b m).1.1 (cX b m).1.2.1 (cX b m).1.2.2 (cb (leaves b) (a.length:Int))=b8 a l b m/\kz (leaves b) (a.length:Int)=0:=by
 obtain⟨h1,h2,h3,h4⟩:=lj h;obtain⟨g1,g2,g3,g4⟩:=lj h';simp_all[Ua,b8,N!,kz,R!,eX,gX]
theorem Ā {a b:List B8}(h:(b.length:Int)<a.length):jD a b=false :=by
 grind[jD,decide_eq_false]
theorem aIX {a b:List B8}(h:¬(b.length:Int)<a.length):xG a b 0:=⟨w!,K! _,z!⟩
theorem ā {a b:List B8} {k:Nat}(h:xG a b k)(hk:(k:Int)<a.length)(he:L2 (a.getD (Int.toNat (k:Int)) []) (b.getD (Int.toNat (k:Int)) [])=false):jD a b=false :=by
 have gI:=of_decide_eq_false he;grind[jD]
theorem akq {a b:List B8} {k:Nat}(h:xG a b k)(hk:(k:Int)<a.length)(he:L2 (a.getD (Int.toNat (k:Int)) []) (b.getD (Int.toNat (k:Int)) [])=true):xG a b (k+1):=by
 rw [V!] at he;refine⟨h.1,w!,?_⟩;rw [ar a k [] w!,ar b k [] (by have :=h.1;omega),h.2.2,i? he]
theorem Jj {a b:List B8} {k:Nat}(h:xG a b k)(hk:¬(k:Int)<a.length):jD a b=true :=by
 have q:=h.2.2;grind[List.take_length,jD,decide_eq_true]
end Go.S

end
