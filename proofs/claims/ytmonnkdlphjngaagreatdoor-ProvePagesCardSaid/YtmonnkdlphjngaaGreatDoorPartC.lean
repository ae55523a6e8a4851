import Derived.Test.YtmonnkdlphjngaaGreatDoorPartB
set_option linter.unusedVariables false
set_option linter.unusedSimpArgs false
section
namespace Go.S
def fo(kind:UInt8)(parts:List (List UInt8)):List UInt8:=kind::parts.flatten
def k9(kind:UInt8)(parts:List (List UInt8))(k:Nat):List UInt8:=fo kind (parts.take k)
def abC(parts:List (List UInt8)):Prop :=parts.flatten.length<=35184372088832
def kI(kind:Nat)(b:List UInt8):List UInt8:=UInt8.ofNat kind::b
def hX(kind:Int)(b:List UInt8):List UInt8:=UInt8.ofNat (kind%256).toNat::b
def qG(kind:Nat)(b:List UInt8):List UInt8:=sum (kI kind b)
def nU(kind:Int)(b:List UInt8):List UInt8:=sum (hX kind b)
def leaf(b:List UInt8):List UInt8:=qG 0 b
def N0(l r:List UInt8):List UInt8:=qG 1 (l++r)
def GN(l r:List UInt8):Bool:=decide (l.length=32)&&decide (r.length=32)
def dF(l r:List UInt8):List UInt8:=if GN l r then N0 l r else []
def mj(l r:List UInt8):Int:=if GN l r then 0 else 1
def bz(b:List UInt8):Prop :=b.length<1099511627776
theorem yb(k:Nat)(b:List UInt8):(qG k b).length=32:=Bs _
theorem abV {parts:List (List UInt8)} {n:Nat}(h:abC parts)(hn:n<parts.length):(fo 0 (parts.take n)).length+(parts.getD n []).length<=140737488355328:=by
 have h1:(parts.take (n+1)).flatten.length<=parts.flatten.length:=by
  grind[List.take_append_drop,List.flatten_append,List.length_append]
 rw [au parts n [] hn,List.flatten_append,List.length_append] at h1;grind[abC,fo,List.length_cons,List.flatten_cons,List.flatten_nil]
theorem Ti {parts:List (List UInt8)} {n:Nat}(k:UInt8)(h:abC parts)(hn:n<parts.length):(fo k (parts.take n)).length+(parts.getD n []).length<=140737488355328:=by
 have :=abV h hn;grind[fo]
theorem abW(k:UInt8)(p:List (List UInt8)): [UInt8.ofNat (Int.toNat (k.toNat:Int))]=k9 k p 0:=by simp [k9,fo]
theorem N1(k:UInt8)(p:List (List UInt8))(x:Nat)(h:x<p.length):k9 k p x++List.getD p (Int.toNat (x:Int)) []=k9 k p (x+1):=by
 grind[k9,fo,Int.toNat_natCast,au,List.flatten_append]
theorem Qs(k:UInt8)(p:List (List UInt8))(x:Nat)(h:¬x<p.length):k9 k p x=fo k p:=by
 grind[k9,List.take_of_length_le,Nat.not_lt]
end Go.S

end
section
namespace Go.S
def bD(c:Int):Bool:=decide (0<=c)&&(decide (c<=1114111)&&(decide (c<55296) || decide (57343<c)))
def dB(c:Int):Int:=if c<128 then 1 else if c<2048 then 2 else if c<65536 then 3 else 4
def u8(c:Int):UInt8:=UInt8.ofNat c.toNat
def more(c:Int):UInt8:=u8 (128+c%64)
def enc(c:Int):List UInt8:=if c<128 then [u8 c] else if c<2048 then [u8 (192+c/64),more c] else if c<65536 then [u8 (224+c/4096),more (c/64),more c]
 else [u8 (240+c/262144),more (c/4096),more (c/64),more c]
def fh(c:Int):List UInt8:=if bD c then enc c else []
def vr(c:Int):Int:=if bD c then 0 else 1
def cI(b:List UInt8):Int:=((b.getD 0 0).toNat:Int)
def uN(b:List UInt8):Nat:=if cI b<128 then 1 else if cI b/32=6 then 2 else if cI b/16=14 then 3 else if cI b/8=30 then 4 else 0
def uC(b:List UInt8):Int:=if cI b/32=6 then cI b%32 else if cI b/16=14 then cI b%16 else cI b%8
def bV(b:List UInt8):Nat->Int
 |0=>uC b
 |k+1=>bV b k*64+((b.getD (k+1) 0).toNat:Int)%64
def qH(b:List UInt8)(n:Nat):Bool:=((b.drop 1).take (n-1)).all fun x=>x.toNat/64==2
def aS(b:List UInt8):Int×Int:=
 if uN b=1 then(cI b,1)
 else if uN b=0\/b.length<uN b\/qH b (uN b)=false\/bD (bV b (uN b-1))=false\/dB (bV b (uN b-1))≠uN b then(65533,1)
 else(bV b (uN b-1),uN b)
def rT:Nat->List UInt8->List Int
 |0,_=> []
 |f+1,b=>if b.isEmpty then [] else(aS b).1::rT f (b.drop (aS b).2.toNat)
def decode(b:List UInt8):List Int:=rT b.length b
def lR:List (Int×Int):= [(65,90),(97,122),(192,214),(216,246),(248,255),(913,929),(931,937),(945,969),(1024,1119)]
def kh:List (Int×Int×Int):= [(65,90,32),(192,214,32),(216,222,32),(913,929,32),(931,937,32),(1024,1039,80),(1040,1071,32)]
def la(c:Int)(s:Int×Int):Bool:=decide (s.1<=c)&&decide (c<=s.2)
def letter(c:Int):Bool:=lR.any (la c)
def digit(c:Int):Bool:=decide (48<=c)&&decide (c<=57)
def bj(c:Int):Int:=match kh.find? (fun s=>la c (s.1,s.2.1)) with
 |some s=>c+s.2.2
 |none=>c
def mD(c:Int)(k:Nat):Prop :=k<=9/\∀s∈lR.take k,la c s=false
def nb(c:Int)(k:Nat):Prop :=k<=7/\∀s∈kh.take k,la c (s.1,s.2.1)=false
def mE(b:List UInt8)(k:Nat):Prop :=(2<=uN b/\k+1<=uN b/\uN b<=b.length)/\∀x∈(b.drop 1).take k,x.toNat/64=2
def iM(b:List UInt8)(r:List UInt8)(l:List Int):Prop :=l++decode r=decode b/\r.length+l.length<=b.length
theorem ct(b:List UInt8)(m:Int)(h1:1<=m)(h:m<=b.length):(List.drop (Int.toNat 1) (List.take (Int.toNat m) b)).length=m.toNat-1:=by
 grind
theorem je(b:List UInt8)(m:Int)(x:Nat)(h:(x:Int)+1<m):List.getD (List.drop (Int.toNat 1) (List.take (Int.toNat m) b)) (Int.toNat (x:Int)) 0=b.getD (x+1) 0:=by
 grind
theorem lb(b:List UInt8)(m:Int)(x:Nat)(h:(x:Int)+1<m):List.getD (List.drop (Int.toNat 1) (List.take (Int.toNat m) b)) x 0=b.getD (x+1) 0:=je b m x h
section
variable {b:List UInt8} {n x:Nat}
theorem qI(h1:¬((b.getD (Int.toNat 0) 0).toNat:Int)<128)(h2:((b.getD (Int.toNat 0) 0).toNat:Int)/2^Int.toNat 5=6):uN b=2:=by
 have e:((b.getD (Int.toNat 0) 0).toNat:Int)=cI b:=rfl;grind[Int.toNat,uN]
theorem qJ(h1:¬((b.getD (Int.toNat 0) 0).toNat:Int)<128)(h2:¬((b.getD (Int.toNat 0) 0).toNat:Int)/2^Int.toNat 5=6)(h3:((b.getD (Int.toNat 0) 0).toNat:Int)/2^Int.toNat 4=14):uN b=3:=by
 have e:((b.getD (Int.toNat 0) 0).toNat:Int)=cI b:=rfl;grind[Int.toNat,uN]
theorem qK(h1:¬((b.getD (Int.toNat 0) 0).toNat:Int)<128)(h2:¬((b.getD (Int.toNat 0) 0).toNat:Int)/2^Int.toNat 5=6)(h3:¬((b.getD (Int.toNat 0) 0).toNat:Int)/2^Int.toNat 4=14)
  (h4:((b.getD (Int.toNat 0) 0).toNat:Int)/2^Int.toNat 3=30):uN b=4:=by
 have e:((b.getD (Int.toNat 0) 0).toNat:Int)=cI b:=rfl;grind[Int.toNat,uN]
theorem uf1(h1:((b.getD (Int.toNat 0) 0).toNat:Int)<128):aS b=(((b.getD (Int.toNat 0) 0).toNat:Int),1):=by
 have hn:uN b=1:=by
  exact W! h1
 simp [aS,hn,H?];rfl
theorem uf0(h1:¬((b.getD (Int.toNat 0) 0).toNat:Int)<128)(h2:¬((b.getD (Int.toNat 0) 0).toNat:Int)/2^Int.toNat 5=6)(h3:¬((b.getD (Int.toNat 0) 0).toNat:Int)/2^Int.toNat 4=14)
  (h4:¬((b.getD (Int.toNat 0) 0).toNat:Int)/2^Int.toNat 3=30):aS b=(65533,1):=by
 have hn:uN b=0:=by
  have e:((b.getD (Int.toNat 0) 0).toNat:Int)=cI b:=rfl;grind[Int.toNat,uN]
 grind[aS]
theorem N2(hn:uN b=n)(h2:2<=n)(h:b.length<n\/qH b n=false\/bD (bV b (n-1))=false\/dB (bV b (n-1))≠n):aS b=(65533,1):=by
 grind[aS]
theorem p8(hn:uN b=n)(h2:2<=n)(h:(b.length:Int)<n):aS b=(65533,1):=N2 hn h2 (.inl (by omega))
theorem Tj(hn:uN b=n)(h2:2<=n)(h:¬(b.length:Int)<n):mE b 0:=⟨by omega,by simp⟩
theorem aHD(h2:((b.getD (Int.toNat 0) 0).toNat:Int)/2^Int.toNat 5=6):Vg.aM ((b.getD (Int.toNat 0) 0).toNat:Int) 31=bV b 0:=by
 rw [zV _ (by omega)];have e:((b.getD (Int.toNat 0) 0).toNat:Int)=cI b:=rfl;grind[Int.toNat,bV,uC]
theorem aHE(h2:¬((b.getD (Int.toNat 0) 0).toNat:Int)/2^Int.toNat 5=6)(h3:((b.getD (Int.toNat 0) 0).toNat:Int)/2^Int.toNat 4=14):Vg.aM ((b.getD (Int.toNat 0) 0).toNat:Int) 15=bV b 0:=by
 rw [Tb _ (by omega)];have e:((b.getD (Int.toNat 0) 0).toNat:Int)=cI b:=rfl;grind[Int.toNat,bV,uC]
theorem aHF(h2:¬((b.getD (Int.toNat 0) 0).toNat:Int)/2^Int.toNat 5=6)(h3:¬((b.getD (Int.toNat 0) 0).toNat:Int)/2^Int.toNat 4=14):Vg.aM ((b.getD (Int.toNat 0) 0).toNat:Int) 7=bV b 0:=by
 rw [abJ _ (by omega)];have e:((b.getD (Int.toNat 0) 0).toNat:Int)=cI b:=rfl;grind[Int.toNat,bV,uC]
theorem Qt(b:List UInt8):∀k,k<=4->0<=bV b k/\bV b k*64^(4-k)<=536870911
 |0,_=>by grind[bV,uC]
 |k+1,h=>by
  have ih:=Qt b k (by omega);simp [bV];have :k=0\/k=1\/k=2\/k=3:=by omega
  grind
theorem bR(h:mE b x):x<=3/\0<=bV b x/\bV b x<=536870911/\2<=uN b/\uN b<=4/\x+1<=uN b/\uN b<=b.length:=by
 have h4:uN b<=4:=by grind[uN]
 have hx:x<=3:=by have :=h.1;omega
 have :=Qt b x (by omega)
 have hp:(1:Int)<=64^(4-x):=by
  have :x=0\/x=1\/x=2\/x=3:=by omega
  grind
 have hm:bV b x*1<=bV b x*64^(4-x):=Int.mul_le_mul_of_nonneg_left hp this.1;exact⟨hx,this.1,by omega,h.1.1,h4,h.1.2.1,h.1.2.2⟩
theorem Tk(h1:1<=x)(h:x<b.length)(m:Nat)(hm:x<=m):b.getD x 0∈(b.drop 1).take m:=by
 have fP:x-1<((b.drop 1).take m).length:=by grind
 have :((b.drop 1).take m)[x-1]=b.getD x 0:=by
  grind
 grind
theorem sZ(hn:uN b=n)(h:mE b x)(hx:x+1<n)(hb:¬((b.getD (x+1) 0).toNat:Int)/2^Int.toNat 6=2):aS b=(65533,1):=by
 have bS:=bR h;grind[N2,qH,List.all_eq_true,Tk]
theorem N3(h:mE b x)(hb:((b.getD (x+1) 0).toNat:Int)/2^Int.toNat 6=2)(hx:x+1<uN b):mE b (x+1):=by
 refine⟨by have :=h.1;omega,fun y hy=> ?_⟩;have bS:=bR h;have hl:x<(b.drop 1).length:=by grind
 rw [au _ x 0 hl] at hy;rcases F!.1 hy with hy|hy
 . exact h.2 y hy
 grind
theorem Tl(h:mE b x)(hx:x+1<uN b):Vg.cn (bV b x*2^Int.toNat 6) (Vg.aM ((b.getD (x+1) 0).toNat:Int) 63)=bV b (x+1):=by
 have :=bR h;rw [GB _ (by omega),show Int.toNat 6=6 by rfl,fJ _ _ 6 this.2.1 (by omega) (by omega)];rfl
theorem Qu(h:mE b x)(hx:x+1=uN b):qH b (uN b)=true :=by
 simp only [qH,E?,<-hx,Nat.add_sub_cancel];intro y hy;simpa using h.2 y hy
theorem an9 {c:Bool}(hn:uN b=n)(h:mE b x)(hx:x+1=n)(hc:(bif !bD (bV b x) then true else !decide (dB (bV b x)=(n:Int)))=c):aS b=if c=true then(65533,1) else(bV b x,(n:Int)):=by
 have hb:=bR h;grind[Qu,aS,Nat.add_sub_cancel]
end
theorem aoa(c:Int):Vg.cn (c%64) 128=((more c).toNat:Int):=by
 grind[GC,more,u8,UInt8.toNat_ofNat']
theorem ec {c:Int}(h:bD c=true):0<=c/\c<=1114111:=by
 simp_all[bD,B!,I!]
theorem Tm(x:UInt8):UInt8.ofNat (Int.toNat (x.toNat:Int))=x:=by simp
theorem U3(c:Int)(h0:0<=c)(h:c<128): [UInt8.ofNat (Int.toNat (c%256))]=enc c:=by
 simp [enc,W! h,u8,show c%256=c by omega]
theorem aob(d:Int)(h0:0<=d)(h:d<32):Vg.cn 192 d=192+d:=by
 rw [show(192:Int)=6*2^5 by rfl,fJ 6 d 5 (by omega) h0 h]
theorem aoc(d:Int)(h0:0<=d)(h:d<16):Vg.cn 224 d=224+d:=by
 rw [show(224:Int)=14*2^4 by rfl,fJ 14 d 4 (by omega) h0 h]
theorem aod(d:Int)(h0:0<=d)(h:d<8):Vg.cn 240 d=240+d:=by
 rw [show(240:Int)=30*2^3 by rfl,fJ 30 d 3 (by omega) h0 h]
theorem aoe(c:Int)(h0:0<=c)(h:128<=c/\c<2048): [UInt8.ofNat (Int.toNat (Vg.cn 192 (c/2^Int.toNat 6%256))),UInt8.ofNat (Int.toNat ((more c).toNat:Int))]=enc c:=by
 simp [enc,if_neg (by omega :¬c<128),if_pos h.2,Tm,u8,show Int.toNat 6=6 by rfl];grind[aob]
theorem aof(c:Int)(h0:0<=c)(h:2048<=c/\c<65536): [UInt8.ofNat (Int.toNat (Vg.cn 224 (c/2^Int.toNat 12%256))),UInt8.ofNat (Int.toNat ((more (c/2^Int.toNat 6)).toNat:Int)),UInt8.ofNat (Int.toNat ((more c).toNat:Int))]=enc c:=by
 simp [enc,if_neg (by omega :¬c<128),if_neg (by omega :¬c<2048),if_pos h.2,Tm,u8,show Int.toNat 6=6 by rfl,show Int.toNat 12=12 by rfl];grind[aoc]
theorem aog(c:Int)(h0:0<=c)(h1:c<=1114111)(h:65536<=c): [UInt8.ofNat (Int.toNat (Vg.cn 240 (c/2^Int.toNat 18%256))),UInt8.ofNat (Int.toNat ((more (c/2^Int.toNat 12)).toNat:Int)),UInt8.ofNat (Int.toNat ((more (c/2^Int.toNat 6)).toNat:Int)),UInt8.ofNat (Int.toNat ((more c).toNat:Int))]=enc c:=by
 simp [enc,if_neg (by omega :¬c<128),if_neg (by omega :¬c<2048),if_neg (by omega :¬c<65536),Tm,u8,show Int.toNat 6=6 by rfl,show Int.toNat 12=12 by rfl,show Int.toNat 18=18 by rfl];grind[aod]
theorem nV(b:List UInt8)(h:0<b.length):1<=(aS b).2/\(aS b).2<=b.length/\0<=(aS b).1/\(aS b).1<=1114111:=by
 unfold aS;split
 . have :=(b.getD 0 0).toNat_lt;grind[cI]
 . split
   . omega
   . rename_i h1 h2;simp at h2;have :=ec h2.2.2.2.1;omega
theorem By:∀(f g:Nat) (b:List UInt8),b.length<=f->b.length<=g->rT f b=rT g b
 |0,0,b,_,_=>rfl
 |0,g+1,b,h,_=>by
  grind[List.eq_nil_of_length_eq_zero,rT]
 |f+1,0,b,_,h=>by
  grind[List.eq_nil_of_length_eq_zero,rT]
 |f+1,g+1,b,h1,h2=>by
  simp only [rT];cases hb:b.isEmpty with
  |true=>rfl
  |false=>
   have hl:0<b.length:=by
    grind
   have :=nV b hl;rw [By f g _ (by rw [V!];omega) (by rw [V!];omega)]
theorem Qv:decode []= []:=rfl
theorem uD(b:List UInt8)(h:0<b.length):decode b=(aS b).1::decode (b.drop (aS b).2.toNat):=by
 have hb:=nV b h;unfold decode;obtain⟨n,hn⟩:∃n,b.length=n+1:=⟨b.length-1,by omega⟩;rw [hn];simp only [rT];have :b.isEmpty=false :=by grind
 rw [this];simp only [Bool.false_eq_true,if_false];rw [By n _ _ (by grind) (Nat.le_refl _)]
theorem azW(b:List UInt8):iM b b []:=⟨rfl,by simp⟩
theorem N4 {b r:List UInt8} {l:List Int}(h:iM b r l)(hr:0<(r.length:Int)):1<=(aS r).2/\(aS r).2<=r.length/\r.length+l.length<=b.length:=by
 have :=nV r (by omega);exact⟨this.1,this.2.1,h.2⟩
theorem KW {b r:List UInt8} {l:List Int}(h:iM b r l)(hr:0<(r.length:Int)):iM b (r.drop (aS r).2.toNat) (l++ [(aS r).1]):=by
 have hb:=nV r (by omega);refine⟨?_,?_⟩
 . rw [U!,List.singleton_append,<-uD r (by omega)];exact h.1
 . have :=h.2;grind
theorem Qw {b r:List UInt8} {l:List Int}(h:iM b r l)(hr:¬0<(r.length:Int)):l=decode b:=by
 have :r= []:=List.eq_nil_of_length_eq_zero (by omega);have :=h.1;grind[Qv]
theorem oS(b:List UInt8):(decode b).length<=b.length:=by
 have :∀f (c:List UInt8),(rT f c).length<=f:=by
  intro f;induction f with
  |zero=>grind[rT]
  |succ f ih=>grind[rT,aS]
 exact this _ _
theorem qL(a b:Bool):(bif a then b else false)=(a&&b):=by grind
theorem nine {x:Nat}(h:(x:Int)<9):x=0\/x=1\/x=2\/x=3\/x=4\/x=5\/x=6\/x=7\/x=8:=by omega
theorem GO {c:Int} {x:Nat}(h:(x:Int)<9):(bif decide (List.getD [65,97,192,216,248,913,931,945,1024] (Int.toNat (x:Int)) 0<=c) then decide (c<=List.getD [90,122,214,246,255,929,937,969,1119] (Int.toNat (x:Int)) 0) else false)=la c (lR.getD x (0,0)):=by
 rcases nine h with rfl|rfl|rfl|rfl|rfl|rfl|rfl|rfl|rfl<;>simp [la,lR,Q!,List.getD_cons_zero,List.getD_cons_succ,qL]
theorem Tn {c:Int} {x:Nat}(h:(x:Int)<9)(hc:(bif decide (List.getD [65,97,192,216,248,913,931,945,1024] (Int.toNat (x:Int)) 0<=c) then decide (c<=List.getD [90,122,214,246,255,929,937,969,1119] (Int.toNat (x:Int)) 0) else false)=true):true=letter c:=by
 grind[GO,letter,List.any_eq_true,bu,lR,List.length_cons,List.length_nil]
theorem To {c:Int} {x:Nat}(hi:mD c x)(h:(x:Int)<9)(hc:(bif decide (List.getD [65,97,192,216,248,913,931,945,1024] (Int.toNat (x:Int)) 0<=c) then decide (c<=List.getD [90,122,214,246,255,929,937,969,1119] (Int.toNat (x:Int)) 0) else false)=false):mD c (x+1):=by
 rw [GO h] at hc;refine⟨by omega,fun s hs=> ?_⟩;rw [au lR x (0,0) (by grind[lR,List.length_cons,List.length_nil])] at hs;rcases List.mem_append.1 hs with hs|hs
 . exact hi.2 s hs
 grind
theorem Tp {c:Int} {x:Nat}(hi:mD c x)(h:¬(x:Int)<9):false=letter c:=by
 symm
 have hx:x=9:=by have :=hi.1;omega
 simp only [letter,List.any_eq_false];intro s hs;have :=hi.2 s (by simp_all[lR]);grind
theorem seven {x:Nat}(h:(x:Int)<7):x=0\/x=1\/x=2\/x=3\/x=4\/x=5\/x=6:=by omega
theorem KX {c:Int} {x:Nat}(h:(x:Int)<7):(bif decide (List.getD [65,192,216,913,931,1024,1040] (Int.toNat (x:Int)) 0<=c) then decide (c<=List.getD [90,214,222,929,937,1039,1071] (Int.toNat (x:Int)) 0) else false)=la c ((kh.getD x (0,0,0)).1,(kh.getD x (0,0,0)).2.1)/\
  List.getD ([32,32,32,32,32,80,32]:List Int) (Int.toNat (x:Int)) 0=(kh.getD x (0,0,0)).2.2:=by
 rcases seven h with rfl|rfl|rfl|rfl|rfl|rfl|rfl<;>simp [la,kh,Q!,List.getD_cons_zero,List.getD_cons_succ,qL,and_self]
theorem DL {α:Type}(p:α->Bool)(d:α):∀(l:List α) (x:Nat),x<l.length->(∀s∈l.take x,p s=false)->p (l.getD x d)=true->l.find? p=some (l.getD x d)
 | [],x,h,_,_=>by grind
 |a::l,0,_,_,h=>by grind
 |a::l,x+1,hx,h1,h=>by
  have ha:=h1 a (by simp);rw [List.find?_cons,ha];exact DL p d l x (by simpa using hx) (fun s hs=>h1 s (by simp [hs])) h
theorem KY {c:Int} {x:Nat}(hi:nb c x)(h:(x:Int)<7)(hc:(bif decide (List.getD [65,192,216,913,931,1024,1040] (Int.toNat (x:Int)) 0<=c) then decide (c<=List.getD [90,214,222,929,937,1039,1071] (Int.toNat (x:Int)) 0) else false)=true):
  c+List.getD ([32,32,32,32,32,80,32]:List Int) (Int.toNat (x:Int)) 0=bj c/\(c<=1071/\65<=c/\List.getD ([32,32,32,32,32,80,32]:List Int) (Int.toNat (x:Int)) 0<=80/\0<=List.getD ([32,32,32,32,32,80,32]:List Int) (Int.toNat (x:Int)) 0):=by
 have hat:=KX (c:=c) h;refine⟨?_,?_⟩
 . rw [hat.1] at hc;rw [hat.2];simp only [bj];rw [DL (fun s=>la c (s.1,s.2.1)) (0,0,0) kh x (by grind) hi.2 hc]
 . rcases seven h with rfl|rfl|rfl|rfl|rfl|rfl|rfl<;>simp [List.getD] at hc |- <;>omega
theorem abY {c:Int} {x:Nat}(hi:nb c x)(h:(x:Int)<7)(hc:(bif decide (List.getD [65,192,216,913,931,1024,1040] (Int.toNat (x:Int)) 0<=c) then decide (c<=List.getD [90,214,222,929,937,1039,1071] (Int.toNat (x:Int)) 0) else false)=false):nb c (x+1):=by
 rw [(KX h).1] at hc;refine⟨by omega,fun s hs=> ?_⟩;rw [au kh x (0,0,0) (by grind[kh,List.length_cons,List.length_nil])] at hs;rcases List.mem_append.1 hs with hs|hs
 . exact hi.2 s hs
 grind
theorem abZ {c:Int} {x:Nat}(hi:nb c x)(h:¬(x:Int)<7):c=bj c:=by
 have hx:x=7:=by have :=hi.1;omega
 simp [bj];rw [List.find?_eq_none.2 (fun s hs=>by rw [hi.2 s (by simp_all[kh])];simp)]
theorem ta {b:List UInt8} {n x:Nat} {m:Int}(hn:uN b=n)(h:mE b x)(hx:x+1=n)(hc:bD (bV b x)=false\/¬dB (bV b x)=m)(hm:(n:Int)=m):aS b=(65533,1):=by
 have hb:=bR h;grind[N2]
theorem tc {b:List UInt8} {n x:Nat} {m:Int}(hn:uN b=n)(h:mE b x)(hx:x+1=n)(hc:bD (bV b x)=true/\dB (bV b x)=m)(hm:(n:Int)=m):aS b=(bV b x,m):=by
 have :=an9 (c:=false) hn h hx (by grind);grind
theorem Tq {A B:Prop} [Decidable A] [Decidable B](h:A/\B):(bif decide A then decide B else false)=true :=by grind
theorem aey {A B:Prop} [Decidable A] [Decidable B](h:¬A\/¬B):(bif decide A then decide B else false)=false :=by
 grind
end Go.S
namespace Go.S
def jD(c:Int):Bool:=(decide (0<=c)&&decide (c<55296)) || (decide (57343<c)&&decide (c<1114112))
def b8(c a b:Int):Bool:=decide (a<=c)&&decide (c<=b)
def kj(a b:Int):Int:=if a<b then a else b
def Bz(n:Int):Int:= [0,0,192,224,240].getD n.toNat 0
def lS(b:List UInt8)(n:Int):Nat->Int
 |0=>cI b-Bz n
 |k+1=>lS b n k*64+((b.getD (k+1) 0).toNat:Int)-128
def bp(b:List UInt8)(n:Int):Int:=if(b.length:Int)<n then -1 else lS b n (n.toNat-1)
def yc(b:List UInt8)(n:Int):Prop :=0<b.length/\1<=n/\n<=4
def oA(b:List UInt8)(n:Int)(k:Nat):Prop :=(n<=b.length)/\1<=k/\k<=n
def oT(b:List UInt8)(k:Nat):Bool:=jD (bp b k)&&decide (enc (bp b k)=b.take k)
def fX(b:List UInt8):Nat->Int×Int
 |0=>(65533,1)
 |k+1=>if oT b (k+1) then(bp b (k+1:Nat),((k+1:Nat):Int)) else fX b k
theorem GP(c:Int):jD c=bD c:=by
 grind[jD,bD]
theorem CM {c:Int} {y:UInt8}(h0:0<=c)(h1:c<256):u8 c=y↔c=(y.toNat:Int):=by
 constructor
 . grind[u8,UInt8.toNat_ofNat']
 simp_all[u8]
theorem GQ {c:Int} {y:UInt8}:more c=y↔128+c%64=(y.toNat:Int):=CM (by omega) (by omega)
theorem azX {c:Int} {y0:UInt8}(h0:0<=c)(h1:c<=1114111):enc c= [y0]↔c<128/\c=(y0.toNat:Int):=by
 unfold enc;split
 . simp [s?,and_true,CM h0 (by omega), *,true_and]
 grind
theorem aez {c:Int} {y0 y1:UInt8}(h0:0<=c)(h1:c<=1114111):enc c= [y0,y1]↔128<=c/\c<2048/\192+c/64=(y0.toNat:Int)/\128+c%64=(y1.toNat:Int):=by
 unfold enc;split
 . grind
 . split
   . simp [s?,and_true,CM (c:=192+c/64) (by omega) (by omega),GQ];omega
   grind
theorem aeA {c:Int} {y0 y1 y2:UInt8}(h0:0<=c)(h1:c<=1114111):enc c= [y0,y1,y2]↔2048<=c/\c<65536/\224+c/4096=(y0.toNat:Int)/\128+c/64%64=(y1.toNat:Int)/\128+c%64=(y2.toNat:Int):=by
 unfold enc;split
 . grind
 . split
   . grind
   . split
     . simp [s?,and_true,CM (c:=224+c/4096) (by omega) (by omega),GQ];omega
     grind
theorem aeB {c:Int} {y0 y1 y2 y3:UInt8}(h0:0<=c)(h1:c<=1114111):enc c= [y0,y1,y2,y3]↔65536<=c/\240+c/262144=(y0.toNat:Int)/\128+c/4096%64=(y1.toNat:Int)/\128+c/64%64=(y2.toNat:Int)/\128+c%64=(y3.toNat:Int):=by
 unfold enc;split
 . grind
 . split
   . grind
   . split
     . grind
     . simp [s?,and_true,CM (c:=240+c/262144) (by omega) (by omega),GQ];omega
def jf(b:List UInt8)(k:Nat):Prop :=uN b=k/\k<=b.length/\(k=1\/(qH b k=true/\bD (bV b (k-1))=true/\dB (bV b (k-1))=(k:Int)))
theorem tf(b:List UInt8)(k:Nat):oT b k=true↔bD (bp b k)=true/\enc (bp b k)=b.take k:=by
 simp_all[oT,GP,B!,I!]
theorem Tr {b:List UInt8} {k:Nat}(h:b.length<k):oT b k=false :=by
 simp_all[bp,W!,oT,jD]
theorem GR(b:List UInt8):0<=cI b/\cI b<256:=by have :=(b.getD 0 0).toNat_lt;grind[cI]
theorem N5(x0:UInt8)(l:List UInt8):(oT (x0::l) 1=true↔jf (x0::l) 1)/\bp (x0::l) 1=cI (x0::l):=by
 have hb:bp (x0::l) 1=cI (x0::l):=by
  rfl
 refine⟨?_,hb⟩;have hl:=GR (x0::l);rw [tf];show bD (bp (x0::l) 1)=true/\enc (bp (x0::l) 1)= [x0]↔_;rw [hb];have hr:bD (cI (x0::l))=true :=by grind[bD]
 rw [azX hl.1 (by omega),hr];simp [jf,uN,true_or,and_true,List.length_cons,true_and];have :cI (x0::l)=(x0.toNat:Int):=rfl;grind
theorem ab1(b:List UInt8):uN b=2↔cI b/32=6:=by grind[uN]
theorem ab2(b:List UInt8):uN b=3↔cI b/16=14:=by grind[uN]
theorem ab3(b:List UInt8):uN b=4↔cI b/8=30:=by grind[uN]
theorem Qx(c:Int):dB c=2↔128<=c/\c<2048:=by grind[dB]
theorem Qy(c:Int):dB c=3↔2048<=c/\c<65536:=by grind[dB]
theorem Qz(c:Int):dB c=4↔65536<=c:=by grind[dB]
theorem dH(c:Int):bD c=true↔0<=c/\c<=1114111/\(c<55296\/57343<c):=by simp [bD]
theorem aeC(x0 x1:UInt8)(l:List UInt8):(oT (x0::x1::l) 2=true↔jf (x0::x1::l) 2)/\(jf (x0::x1::l) 2->bp (x0::x1::l) 2=bV (x0::x1::l) 1):=by
 have hb:bp (x0::x1::l) 2=((x0.toNat:Int)-192)*64+x1.toNat-128:=by
  rfl
 have hl:cI (x0::x1::l)=(x0.toNat:Int):=rfl
 have ha:cI (x0::x1::l)/32=6->bV (x0::x1::l) 1=(x0.toNat:Int)%32*64+(x1.toNat:Int)%64:=by
  simp_all[bV,uC,W!]
 have hg:jf (x0::x1::l) 2↔(cI (x0::x1::l)/32=6/\(x1.toNat/64=2/\bD (bV (x0::x1::l) 1)=true/\dB (bV (x0::x1::l) 1)=2)):=by
  grind[jf,ab1,qH]
 grind[tf,dH,aez,Qx]
theorem aeD(x0 x1 x2:UInt8)(l:List UInt8):(oT (x0::x1::x2::l) 3=true↔jf (x0::x1::x2::l) 3)/\(jf (x0::x1::x2::l) 3->bp (x0::x1::x2::l) 3=bV (x0::x1::x2::l) 2):=by
 have hb:bp (x0::x1::x2::l) 3=(((x0.toNat:Int)-224)*64+x1.toNat-128)*64+x2.toNat-128:=by
  rfl
 have hl:cI (x0::x1::x2::l)=(x0.toNat:Int):=rfl
 have ha:cI (x0::x1::x2::l)/16=14->bV (x0::x1::x2::l) 2=((x0.toNat:Int)%16*64+(x1.toNat:Int)%64)*64+(x2.toNat:Int)%64:=by
  grind[bV,uC]
 have hg:jf (x0::x1::x2::l) 3↔(cI (x0::x1::x2::l)/16=14/\((x1.toNat/64=2/\x2.toNat/64=2)/\bD (bV (x0::x1::x2::l) 2)=true/\dB (bV (x0::x1::x2::l) 2)=3)):=by
  grind[jf,ab2,qH]
 grind[tf,dH,aeA,Qy]
theorem aeE(x0 x1 x2 x3:UInt8)(l:List UInt8):(oT (x0::x1::x2::x3::l) 4=true↔jf (x0::x1::x2::x3::l) 4)/\(jf (x0::x1::x2::x3::l) 4->bp (x0::x1::x2::x3::l) 4=bV (x0::x1::x2::x3::l) 3):=by
 have hb:bp (x0::x1::x2::x3::l) 4=((((x0.toNat:Int)-240)*64+x1.toNat-128)*64+x2.toNat-128)*64+x3.toNat-128:=by
  rfl
 have hl:cI (x0::x1::x2::x3::l)=(x0.toNat:Int):=rfl
 have ha:cI (x0::x1::x2::x3::l)/8=30->bV (x0::x1::x2::x3::l) 3=(((x0.toNat:Int)%8*64+(x1.toNat:Int)%64)*64+(x2.toNat:Int)%64)*64+(x3.toNat:Int)%64:=by
  grind[bV,uC]
 have hg:jf (x0::x1::x2::x3::l) 4↔(cI (x0::x1::x2::x3::l)/8=30/\((x1.toNat/64=2/\x2.toNat/64=2/\x3.toNat/64=2)/\bD (bV (x0::x1::x2::x3::l) 3)=true/\dB (bV (x0::x1::x2::x3::l) 3)=4)):=by
  grind[jf,ab3,qH]
 rw [hg,tf];grind[dH,aeB,Qz]
theorem qM(b:List UInt8)(k:Nat)(hb:0<b.length)(h1:1<=k)(h4:k<=4):(oT b k=true↔jf b k)/\(jf b k->bp b k=bV b (k-1)\/(k=1/\bp b k=cI b)):=by
 by_cases hs:b.length<k
 . rw [Tr hs];exact⟨⟨fun h=>absurd h (by decide),fun h=>absurd h.2.1 (by omega)⟩,fun h=>absurd h.2.1 (by omega)⟩
 . have :k=1\/k=2\/k=3\/k=4:=by omega
   match b,this with
   | [],_=>grind
   |x0::l, .inl h=>grind[N5]
   |x0::x1::l, .inr (.inl h)=>grind[aeC]
   |x0::x1::x2::l, .inr (.inr (.inl h))=>grind[aeD]
   |x0::x1::x2::x3::l, .inr (.inr (.inr h))=>grind[aeE]
   | [_], .inr (.inl h)=>grind
   | [_], .inr (.inr (.inl h))=>grind
   | [_,_], .inr (.inr (.inl h))=>grind
   | [_], .inr (.inr (.inr h))=>grind
   | [_,_], .inr (.inr (.inr h))=>grind
   | [_,_,_], .inr (.inr (.inr h))=>grind
theorem QA {b:List UInt8} {k:Nat}(h:jf b k)(h1:1<=k)(h4:k<=4)(hb:0<b.length):aS b=(bp b k,(k:Int)):=by
 have ht:=(qM b k hb h1 h4).2 h;obtain⟨hn,hl,hr⟩:=h;simp [aS,hn];by_cases hk:k=1
 . subst hk;rcases ht with ht|ht
   . obtain⟨x0,l,rfl⟩:∃x0 l,b=x0::l:=by cases b with
      |nil=>grind
      |cons x l=>grind
     rfl
   grind
 grind
theorem KZ {b:List UInt8}(hb:0<b.length)(n:Nat):∀k,k<=4->(∀j,j<=k->1<=j->¬jf b j)->fX b k=(65533,1)
 |0,_,_=>rfl
 |k+1,h4,h=>by
  simp [fX]
  have :oT b (k+1)=false :=by
   cases ht:oT b (k+1) with
   |false=>rfl
   |true=>simp_all[absurd,qM,N!]
  rw [this];exact KZ hb n k (by omega) (fun j hj=>h j (by omega))
theorem zW {b:List UInt8}(hb:0<b.length) {n:Nat}(hg:jf b n)(h1:1<=n):∀k,k<=4->n<=k->fX b k=(bp b n,(n:Int))
 |0,_,h=>by omega
 |k+1,h4,h=>by
  simp only [fX];by_cases hk:n=k+1
  . subst hk;rw [(qM b (k+1) hb (by omega) h4).1.2 hg,W! rfl]
  . have :oT b (k+1)=false :=by
     cases ht:oT b (k+1) with
     |false=>rfl
     |true=>
      have :=(qM b (k+1) hb (by omega) h4).1.1 ht;have h2:=this.1;have h3:=hg.1;omega
    rw [this];exact zW hb hg h1 k (by omega) (by omega)
theorem aeF(b:List UInt8):uN b<=4:=by grind[uN]
theorem wS(b:List UInt8)(hb:0<b.length):fX b 4=aS b:=by
 by_cases hg:jf b (uN b)/\1<=uN b
 . rw [zW hb hg.1 hg.2 4 (N! _) (aeF b),QA hg.1 hg.2 (aeF b) hb]
 . rw [KZ hb 0 4 (Nat.le_refl _) (fun j hj h1 h=>hg (by have :=h.1;grind))];simp [aS];by_cases h1:uN b=1
   . exfalso;apply hg
     exact⟨⟨rfl,by omega, .inl h1⟩,by omega⟩
   . rw [T! h1];rw [W!];by_cases h0:uN b=0
     . omega
     . refine .inr ?_;by_cases hl:b.length<uN b
       . omega
       . refine .inr ?_;cases hc:qH b (uN b) with
         |false=>grind
         |true=>
          cases hr:bD (bV b (uN b-1)) with
          |false=>grind
          |true=>
           refine .inr (.inr fun hs=>hg ⟨⟨rfl,by omega, .inr ⟨hc,hr,hs⟩⟩,by omega⟩)
theorem aoh(c:Int)(h0:0<=c)(h:c<128): [UInt8.ofNat (Int.toNat (c%256))]=enc c:=U3 c h0 h
theorem aoi(c:Int)(h0:0<=c)(h:128<=c/\c<2048): [UInt8.ofNat (Int.toNat ((192+c/64)%256)),UInt8.ofNat (Int.toNat ((128+c%64)%256))]=enc c:=by
 simp [enc,if_neg (by omega :¬c<128),if_pos h.2,more,u8];grind
theorem aoj(c:Int)(h0:0<=c)(h:2048<=c/\c<65536): [UInt8.ofNat (Int.toNat ((224+c/4096)%256)),UInt8.ofNat (Int.toNat ((128+c/64%64)%256)),UInt8.ofNat (Int.toNat ((128+c%64)%256))]=enc c:=by
 simp [enc,if_neg (by omega :¬c<128),if_neg (by omega :¬c<2048),if_pos h.2,more,u8];grind
theorem aok(c:Int)(h0:0<=c)(h1:c<=1114111)(h:65536<=c): [UInt8.ofNat (Int.toNat ((240+c/262144)%256)),UInt8.ofNat (Int.toNat ((128+c/4096%64)%256)),UInt8.ofNat (Int.toNat ((128+c/64%64)%256)),UInt8.ofNat (Int.toNat ((128+c%64)%256))]=enc c:=by
 simp only [enc,if_neg (by omega :¬c<128),if_neg (by omega :¬c<2048),if_neg (by omega :¬c<65536),more,u8];grind
theorem GS(c:Int):letter c=(b8 c 65 90 || (b8 c 97 122 || (b8 c 192 214 || (b8 c 216 246 || (b8 c 248 255 || (b8 c 913 929 || (b8 c 931 937 || (b8 c 945 969 || b8 c 1024 1119)))))))):=by
 simp_all[letter,lR,la,b8,List.any_cons,List.any_nil,Bool.or_false]
theorem tg {c:Int}(h:b8 c 1024 1039=true):c+80=bj c/\c<=1039/\1024<=c:=by
 simp [b8,Bool.and_eq_true,decide_eq_true_eq] at h;simp [bj,kh,la,List.find?_cons];grind
theorem th {c:Int}(h:b8 c 1024 1039=false)(hc:b8 c 65 90=true\/b8 c 192 214=true\/b8 c 216 222=true\/b8 c 913 929=true\/b8 c 931 937=true\/b8 c 1040 1071=true):c+32=bj c/\c<=1071/\65<=c:=by
 have e:∀a b:Int,la c (a,b)=b8 c a b:=fun _ _=>rfl;simp [bj,kh,List.find?_cons,e,h];grind[b8]
theorem ti {c:Int}(h:b8 c 1024 1039=false)(hc:b8 c 65 90=false/\b8 c 192 214=false/\b8 c 216 222=false/\b8 c 913 929=false/\b8 c 931 937=false/\b8 c 1040 1071=false):c=bj c:=by
 have e:∀a b:Int,la c (a,b)=b8 c a b:=fun _ _=>rfl;simp_all[bj,kh,List.find?_cons,List.find?_nil]
theorem GU(b:List UInt8)(n:Int):∀k,k<=4-> -(1000*128^k)<=lS b n k/\lS b n k<=1000*128^k
 |0,_=>by
  have :=GR b;grind[Bz,lS]
 |k+1,h=>by
  have ih:=GU b n k (by omega);simp [lS];have hx:=(b.getD (k+1) 0).toNat_lt;have :k=0\/k=1\/k=2\/k=3:=by omega
  grind
theorem U4 {b:List UInt8} {n:Int} {k:Nat}(h:oA b n k)(hp:yc b n): -268435456000<=lS b n (k-1)/\lS b n (k-1)<=268435456000:=by
 obtain⟨h1,h2,h3⟩:=h;obtain⟨_,_,hp⟩:=hp;have :=GU b n (k-1) (by omega);have hk:k-1=0\/k-1=1\/k-1=2\/k-1=3:=by omega
 grind
theorem ab4 {b:List UInt8} {n:Int} {k:Nat}(h:oA b n k):lS b n (k-1)*64+((b.getD (Int.toNat (k:Int)) 0).toNat:Int)-128=lS b n (k+1-1):=by
 obtain⟨j,rfl⟩:∃j,k=j+1:=⟨k-1,by have :=h.2.1;omega⟩;rfl
theorem K1 {b:List UInt8} {n:Int}:((b.getD (Int.toNat 0) 0).toNat:Int)- [0,0,192,224,240].getD n.toNat 0=lS b n 0:=rfl
theorem aeG {b:List UInt8} {n:Int} {k:Nat}(h:oA b n k)(hk:¬(k:Int)<n):lS b n (k-1)=bp b n:=by
 have h1:=h.1;have h2:=h.2
 have :k=n.toNat:=by omega
 simp_all[bp,T!]
theorem QB {b:List UInt8} {n:Int}(h:(b.length:Int)<n): -1=bp b n:=by simp_all[bp,W!]
theorem ab5 {b:List UInt8} {i j:Nat}(hi:i<b.length):List.drop (Int.toNat (i:Int)) (List.take (Int.toNat (kj ((i:Int)+(j:Int)) (b.length:Int))) b)=(b.drop i).take j:=by
 simp [kj];split
 . grind[Int.toNat_natCast,List.drop_take,Nat.add_sub_cancel_left]
 grind[Int.toNat_natCast,List.take_length,List.take_of_length_le,List.length_drop]
theorem Ts(b:List UInt8)(k:Nat):fX b (k+1)=if jD (bp b ((k+1:Nat):Int))=true/\enc (bp b ((k+1:Nat):Int))=b.take (k+1) then(bp b ((k+1:Nat):Int),((k+1:Nat):Int)) else fX b k:=by
 simp_all[fX,oT,B!,I!]
theorem Tt {c:Int}(h:jD c=true):0<=c/\c<=1114111:=by simp_all[GP,ec]
theorem aol(b:List UInt8):iM b (b.drop 0) []:=⟨rfl,by simp⟩
theorem nX {b:List UInt8} {x1:Nat×List Int} {x4:Nat×Nat}(h2:iM b (b.drop x1.1) x1.2/\x1.1<=b.length)(h3:(x1.1:Int)<b.length)(h5:x4.1<=4/\(x1.1:Int)=x4.2)(h9:¬((x4.1+1:Nat):Int)<=4):
  1<=(fX (b.drop x4.2) x4.1).2/\(x1.1:Int)+(fX (b.drop x4.2) x4.1).2<=b.length/\
  iM b (b.drop (Int.toNat ((x1.1:Int)+(fX (b.drop x4.2) x4.1).2))) (x1.2++ [(fX (b.drop x4.2) x4.1).1])/\x1.2.length+1<=b.length:=by
 have e1:x4.1=4:=by omega
 have e2:x4.2=x1.1:=by omega
 have hl:0<(b.drop x1.1).length:=by grind
 rw [e1,e2,wS _ hl];have hb:=nV _ hl;have hs:=KW h2.1 (by omega);rw [List.drop_drop] at hs;have h6:=h2.1.2;grind
theorem K2 {b:List UInt8} {x1:Nat×List Int} {x4:Nat×Nat}(h3:(x1.1:Int)<b.length)(h5:x4.1<=4/\(x1.1:Int)=x4.2):
  fX (b.drop x1.1) (x4.1+1)=bif (bif jD (bp (b.drop (Int.toNat (x1.1:Int))) ((x4.1+1:Nat):Int)) then decide (enc (bp (b.drop (Int.toNat (x1.1:Int))) ((x4.1+1:Nat):Int))=List.drop (Int.toNat (x1.1:Int)) (List.take (Int.toNat (kj ((x1.1:Int)+((x4.1+1:Nat):Int)) (b.length:Int))) b)) else false)
   then(bp (b.drop (Int.toNat (x1.1:Int))) ((x4.1+1:Nat):Int),((x4.1+1:Nat):Int)) else fX (b.drop x4.2) x4.1:=by
 rw [ab5 (by omega),Ts,show x4.2=x1.1 by omega,Int.toNat_natCast];grind
theorem ab6 {α β:Type}(c:Bool)(p q:α×β):(bif c then p else q).1=(bif c then p.1 else q.1):=by grind
theorem ab7 {α β:Type}(c:Bool)(p q:α×β):(bif c then p else q).2=(bif c then p.2 else q.2):=by grind
end Go.S

end
section
namespace Go.S
def fv(c:Int):Bool:=letter c || digit c
def jE(t:List UInt8):List Int->List UInt8
 | []=>t
 |c::w=>if 64<t.length+(fh (bj c)).length then t else jE (t++fh (bj c)) w
def en(w:List Int):List UInt8:=jE [] w
def Kl(w:List Int):Prop :=w.length<=1099511627776/\∀c∈w,bD c=true
def jg(w:List Int)(k:Nat)(t:List UInt8):Prop :=jE t (w.drop k)=en w/\k<=w.length/\t.length<=64
def jZ(acc:List Int):List Int->List (List Int)
 | []=>if acc.isEmpty then [] else [acc]
 |c::l=>if fv c then jZ (acc++ [c]) l else if acc.isEmpty then jZ [] l else acc::jZ [] l
def aW(b:List UInt8):List (List UInt8):=(jZ [] (decode b)).map en
def abw(d:List Int)(k:Nat)(T:List (List UInt8))(W:List Int):Prop :=
 T++(jZ W (d.drop k)).map en=(jZ [] d).map en/\k<=d.length/\T.length<=k/\W.length<=k/\(∀c∈W,c∈d)
def kJ(d:List Int)(k:Nat)(T:List (List UInt8)):Prop :=
 T++(jZ [] (d.drop k)).map en=(jZ [] d).map en/\k<=d.length+1/\T.length<=k
def pO(d:List Int)(i k:Nat):Prop :=i<=k/\k<=d.length/\∀c∈(d.drop i).take (k-i),fv c=true
def isTerm(s:List UInt8):Bool:=decide (aW s= [s])
def c7(l:List (List UInt8)):Nat->Nat
 |0=>0
 |k+1=>if Op.bytesLess (l.getD k []) (l.getD (c7 l k) []) then k else c7 l k
def cX(l:List (List UInt8)):Nat:=c7 l l.length
def p9(l:List (List UInt8))(k:Nat):Prop :=1<=k/\(k<=l.length\/k=1)
theorem N6(c:Int):bj c=c\/(65<=c/\c<=1071/\(bj c=c+32\/bj c=c+80)):=by
 cases h:b8 c 1024 1039 with
 |true=>grind[tg]
 |false=>
  by_cases h2:b8 c 65 90=true\/b8 c 192 214=true\/b8 c 216 222=true\/b8 c 913 929=true\/b8 c 931 937=true\/b8 c 1040 1071=true
  . grind[th]
  . grind[ti]
theorem uE {c:Int}(h:bD c=true):bD (bj c)=true :=by
 grind[N6,dH]
theorem Km(b:List UInt8):bD (aS b).1=true :=by
 grind[aS,GR,dH]
theorem lT(b:List UInt8):∀c∈decode b,bD c=true :=by
 have :∀f (x:List UInt8),∀c∈rT f x,bD c=true :=by
  intro f;induction f with
  |zero=>grind[rT]
  |succ f ih=>
   grind[rT,Km]
 exact this _ b
theorem ml {α:Type}(l:List α)(k:Nat)(d:α)(h:k<l.length):l.drop k=l.getD k d::l.drop (k+1):=by
 simp_all
theorem U5(w:List Int):jg w 0 []:=⟨rfl,J! _,by simp⟩
theorem GV {w:List Int} {k:Nat} {t:List UInt8}(h:jg w k t)(hk:(k:Int)<w.length)(hs:¬(64:Int)<(t.length:Int)+((fh (bj (w.getD (Int.toNat (k:Int)) 0))).length:Int)):jg w (k+1) (t++fh (bj (w.getD (Int.toNat (k:Int)) 0))):=by
 obtain⟨h1,h2,h3⟩:=h;rw [Int.toNat_natCast] at *;rw [ml w k 0 (by omega)] at h1;simp only [jE] at h1;rw [if_neg (by omega)] at h1;exact⟨h1,by omega,by grind⟩
theorem GW {w:List Int} {k:Nat} {t:List UInt8}(h:jg w k t)(hk:(k:Int)<w.length)(hs:(64:Int)<(t.length:Int)+((fh (bj (w.getD (Int.toNat (k:Int)) 0))).length:Int)):t=en w:=by
 obtain⟨h1,h2,h3⟩:=h;grind[Int.toNat_natCast,ml,jE]
theorem K3 {w:List Int} {k:Nat} {t:List UInt8}(h:jg w k t)(hk:¬(k:Int)<w.length):t=en w:=by
 obtain⟨h1,h2,h3⟩:=h;rw [Q? (by omega)] at h1;exact h1
theorem GX(c:Int):(enc c).length<=4:=by grind[enc]
theorem K4(c:Int):(fh c).length<=4:=by grind[fh,GX]
theorem qN {w:List Int} {k:Nat}(h:Kl w)(hk:(k:Int)<w.length):fh (bj (w.getD (Int.toNat (k:Int)) 0))=enc (bj (w.getD (Int.toNat (k:Int)) 0))/\0<=bj (w.getD (Int.toNat (k:Int)) 0)/\bj (w.getD (Int.toNat (k:Int)) 0)<=1114111:=by
 have :=uE (h.2 _ (bu w k 0 (by omega)));simp_all[fh,H?,dH]
theorem azY(d:List Int):abw d 0 [] []:=⟨rfl,J! _,by simp,by simp,by simp⟩
theorem ab8 {d:List Int} {k:Nat} {T:List (List UInt8)} {W:List Int}(h:abw d k T W)(hk:(k:Int)<d.length)(hw:fv (d.getD (Int.toNat (k:Int)) 0)=true):abw d (k+1) T (W++ [d.getD (Int.toNat (k:Int)) 0]):=by
 obtain⟨h1,h2,h3,h4,h5⟩:=h;rw [Int.toNat_natCast] at *;rw [ml d k 0 (by omega)] at h1;simp only [jZ] at h1;rw [if_pos hw] at h1;refine⟨h1,by omega,by omega,by grind,fun c hc=> ?_⟩;grind
theorem aeH {d:List Int} {k:Nat} {T:List (List UInt8)} {W:List Int}(h:abw d k T W)(hk:(k:Int)<d.length)(hw:fv (d.getD (Int.toNat (k:Int)) 0)=false)(hW:(0:Int)<W.length):abw d (k+1) (T++ [en W]) []:=by
 obtain⟨h1,h2,h3,h4,h5⟩:=h;rw [ml d k 0 (by omega)] at h1;simp [jZ] at h1;refine⟨?_,by omega,by grind,by simp,by simp⟩;grind
theorem ab9 {d:List Int} {k:Nat} {T:List (List UInt8)} {W:List Int}(h:abw d k T W)(hk:(k:Int)<d.length)(hw:fv (d.getD (Int.toNat (k:Int)) 0)=false)(hW:¬(0:Int)<W.length):abw d (k+1) T W:=by
 obtain⟨h1,h2,h3,h4,h5⟩:=h;have :W= []:=List.eq_nil_of_length_eq_zero (by omega);subst this;rw [ml d k 0 (by omega)] at h1;simp only [jZ] at h1;rw [if_neg (by grind),if_pos (by simp)] at h1;exact⟨h1,by omega,by omega,by simp,by simp⟩
theorem aca {b:List UInt8} {k:Nat} {T:List (List UInt8)} {W:List Int}(h:abw (decode b) k T W)(hk:¬(k:Int)<(decode b).length)(hW:(0:Int)<W.length):T++ [en W]=aW b:=by
 obtain⟨h1,h2,h3,h4,h5⟩:=h;rw [List.drop_eq_nil_of_le (by omega)] at h1;simp [jZ] at h1;rw [if_neg (by grind)] at h1;exact h1
theorem acb {b:List UInt8} {k:Nat} {T:List (List UInt8)} {W:List Int}(h:abw (decode b) k T W)(hk:¬(k:Int)<(decode b).length)(hW:¬(0:Int)<W.length):T=aW b:=by
 obtain⟨h1,h2,h3,h4,h5⟩:=h;have :W= []:=Y! (by omega);subst this;rw [Q? (by omega)] at h1;simp [jZ,List.isEmpty_nil,H?,List.map_nil,C?] at h1;exact h1
theorem nc {b:List UInt8} {k:Nat} {T:List (List UInt8)} {W:List Int}(h:abw (decode b) k T W)(hb:b.length<=1099511627776):Kl W/\T.length<=1099511627776/\W.length<=1099511627776/\k<=1099511627776:=by
 obtain⟨h1,h2,h3,h4,h5⟩:=h;have :=oS b;exact⟨⟨by omega,fun c hc=>lT b c (h5 c hc)⟩,by omega,by omega,by omega⟩
theorem aom(d:List Int):kJ d 0 []:=⟨rfl,J! _,by simp⟩
theorem azZ {d:List Int} {k:Nat}(h:(k:Int)<d.length):pO d k k:=⟨N! _,by omega,by simp⟩
theorem acd {d:List Int} {i k:Nat}(h:pO d i k)(hk:(k:Int)<d.length)(hw:fv (d.getD (Int.toNat (k:Int)) 0)=true):pO d i (k+1):=by
 obtain⟨h1,h2,h3⟩:=h;refine⟨by omega,by omega,fun c hc=> ?_⟩;rw [show k+1-i=(k-i)+1 by omega,au _ _ 0 (by grind)] at hc;grind
theorem GY:∀(u acc rest:List Int),(∀c∈u,fv c=true)->jZ acc (u++rest)=jZ (acc++u) rest
 | [],acc,rest,_=>by simp
 |c::u,acc,rest,h=>by
  simp_all[c?,jZ,W!,GY,U!]
theorem ace {d:List Int} {i k:Nat} {T:List (List UInt8)}(h:kJ d i T)(hr:pO d i k)(hs:¬(k:Int)<d.length\/fv (d.getD (Int.toNat (k:Int)) 0)=false)(hik:(i:Int)<k):
  kJ d (k+1) (T++ [en (List.take (Int.toNat (k:Int)-Int.toNat (i:Int)) (List.drop (Int.toNat (i:Int)) d))]):=by
 obtain⟨h1,h2,h3⟩:=h;obtain⟨r1,r2,r3⟩:=hr;refine⟨?_,by omega,by grind⟩;rw [<-List.take_append_drop (k-i) (d.drop i),GY _ _ _ r3,List.nil_append,List.drop_drop,show i+(k-i)=k by omega] at h1
 have dR:(List.take (k-i) (List.drop i d)).isEmpty=false :=by
  rw [List.isEmpty_eq_false_iff];intro h0;have :=congrArg List.length h0;grind
 by_cases hk:k<d.length
 . rw [ml d k 0 hk] at h1;simp_all[jZ,T!,U!]
 . rw [Q? (show d.length<=k by omega)] at h1;rw [Q? (show d.length<=k+1 by omega)];simp_all[jZ,T!,List.isEmpty_nil,H?,List.map_nil,C?,T?]
theorem Tu {d:List Int} {i k:Nat} {T:List (List UInt8)}(h:kJ d i T)(hi:(i:Int)<d.length)(hr:pO d i k)(hs:¬(k:Int)<d.length\/fv (d.getD (Int.toNat (k:Int)) 0)=false)(hik:¬(i:Int)<k):kJ d (k+1) T:=by
 obtain⟨h1,h2,h3⟩:=h;have :i=k:=by have :=hr.1;omega
 subst this;rw [ml d i 0 (by omega)] at h1;simp only [jZ] at h1;rw [if_neg (by grind),if_pos (by simp)] at h1;exact⟨h1,by omega,by omega⟩
theorem acf {b:List UInt8} {i:Nat} {T:List (List UInt8)}(h:kJ (decode b) i T)(hi:¬(i:Int)<(decode b).length):T=aW b:=by
 obtain⟨h1,h2,h3⟩:=h;rw [Q? (by omega)] at h1;simp [jZ,List.isEmpty_nil,H?,List.map_nil,C?] at h1;exact h1
theorem aon {b:List UInt8} {i k:Nat}(hb:b.length<=1099511627776):Kl (List.take (Int.toNat (k:Int)-Int.toNat (i:Int)) (List.drop (Int.toNat (i:Int)) (decode b))):=by
 have :=oS b;refine⟨by grind,fun c hc=>lT b c (List.mem_of_mem_drop (List.mem_of_mem_take hc))⟩
theorem acg(s:List UInt8):(bif decide (((aW s).length:Int)=1) then decide (List.getD (aW s) (Int.toNat 0) []=s) else false)=isTerm s:=by
 unfold isTerm;match h:aW s with
 | []=>simp
 | [x]=>grind
 |x::y::l=>grind
theorem wT {l:List (List UInt8)}:∀k,0<l.length->k<=l.length->c7 l k<l.length
 |0,h,_=>h
 |k+1,h,hk=>by
  simp [c7];split
  . omega
  . exact wT k h (by omega)
theorem QC(l:List (List UInt8)):c7 l 1=0:=by
 have :∀b:Bool,(if b=true then 0 else 0)=(0:Nat):=by grind
 exact this _
theorem Tv {l:List (List UInt8)} {k:Nat}(h:p9 l k)(hk:¬(k:Int)<l.length):c7 l k=cX l:=by
 obtain⟨h1,h2⟩:=h;rcases h2 with h2|h2
 . rw [show k=l.length by omega];rfl
 . subst h2;by_cases h0:l.length=0
   . unfold cX;rw [h0,QC];rfl
   . rw [show 1=l.length by omega];rfl
theorem aeI {c:Int}(h:letter c=true\/digit c=true):fv c=true :=by grind[fv]
theorem QD {c:Int}(h:letter c=false/\digit c=false):fv c=false :=by grind[fv]
theorem ach(c:Int):(bif letter c then true else bif decide (48<=c) then decide (c<=57) else false)=fv c:=by
 grind[fv,digit,letter]
theorem QE(l:List (List UInt8))(x:Nat):(bif Op.bytesLess (List.getD l (Int.toNat (x:Int)) []) (List.getD l (Int.toNat ((c7 l x:Nat):Int)) []) then(x:Int) else((c7 l x:Nat):Int))=((c7 l (x+1):Nat):Int):=by
 rw [show c7 l (x+1)=if Op.bytesLess (l.getD x []) (l.getD (c7 l x) [])=true then x else c7 l x from rfl];grind
def sE:Nat->List (List UInt8)->List (List UInt8)
 |0,_=> []
 |f+1,l=>if l.isEmpty then [] else l.getD (cX l) []::sE f (l.filter (fun x=> !decide (x=l.getD (cX l) [])))
def sorted(l:List (List UInt8)):List (List UInt8):=sE l.length l
def oU(l0 l out:List (List UInt8)):Prop :=out++sorted l=sorted l0/\out.length+l.length<=l0.length
def iz(l:List (List UInt8))(s:List UInt8)(k:Nat)(r:List (List UInt8)):Prop :=r=(l.take k).filter (fun x=> !decide (x=s))/\k<=l.length
def tj(l:List (List UInt8))(t:List UInt8)(k:Nat):List Int:=((List.range k).filter (fun i=>decide (l.getD i []=t))).map (fun(i:Nat)=>(i:Int))
def places(b t:List UInt8):List Int:=tj (aW b) t (aW b).length
def jh(l:List (List UInt8))(t:List UInt8)(k:Nat)(r:List Int):Prop :=r=tj l t k/\k<=l.length/\r.length<=k
def Tw(c:Int):Bool:=fv c&&decide (bj c=c)
def Tx(s:List UInt8):Bool:=(decode s).all Tw&&(decide (0<((decode s).length:Int))&&decide ((s.length:Int)<=64))
def ay1(d:List Int)(k:Nat):Prop :=(∀c∈d.take k,Tw c=true)/\k<=d.length
theorem wU {l:List (List UInt8)}(h:0<l.length):cX l<l.length:=wT _ h (N! _)
theorem qO {l:List (List UInt8)}(h:0<l.length):(l.filter (fun x=> !decide (x=l.getD (cX l) []))).length<l.length:=by
 have hm:=bu l (cX l) [] (wU h);simp_all
theorem yZ:∀(f g:Nat) (l:List (List UInt8)),l.length<=f->l.length<=g->sE f l=sE g l
 |0,0,_,_,_=>rfl
 |0,g+1,l,h,_=>by
  have :l= []:=Y! (by omega);subst this;rfl
 |f+1,0,l,_,h=>by
  have :l= []:=Y! (by omega);subst this;rfl
 |f+1,g+1,l,h1,h2=>by
  simp only [sE];cases hl:l.isEmpty with
  |true=>rfl
  |false=>
   have hp:0<l.length:=by grind
   have :=qO hp;rw [T! (by simp),T! (by simp),yZ f g _ (by omega) (by omega)]
theorem BA {l:List (List UInt8)}(h:0<l.length):sorted l=l.getD (cX l) []::sorted (l.filter (fun x=> !decide (x=l.getD (cX l) []))):=by
 have hr:=qO h;unfold sorted;obtain⟨n,hn⟩:∃n,l.length=n+1:=⟨l.length-1,by omega⟩;rw [hn];simp only [sE];have :l.isEmpty=false :=by grind
 rw [this,T! (by simp),yZ n _ _ (by omega) (N! _)]
theorem aoo(l:List (List UInt8)):oU l l []:=⟨rfl,by simp⟩
theorem aci {l m out:List (List UInt8)}(h:oU l m out)(hm:¬(0:Int)<m.length):out=sorted l:=by
 have :m= []:=List.eq_nil_of_length_eq_zero (by omega);have h1:=h.1;grind[sorted,sE]
theorem aop(l:List (List UInt8))(s:List UInt8):iz l s 0 []:=⟨by simp,J! _⟩
theorem Tz {l:List (List UInt8)} {s:List UInt8} {k:Nat} {r:List (List UInt8)}(h:iz l s k r)(hk:(k:Int)<l.length)(hs:(!decide (l.getD (Int.toNat (k:Int)) []=s))=true):iz l s (k+1) (r++ [l.getD (Int.toNat (k:Int)) []]):=by
 rw [Q!] at *;refine⟨?_,by omega⟩;rw [au l k [] (by omega),List.filter_append,<-h.1,List.filter_cons,hs];simp
theorem TC {l:List (List UInt8)} {s:List UInt8} {k:Nat} {r:List (List UInt8)}(h:iz l s k r)(hk:(k:Int)<l.length)(hs:(!decide (l.getD (Int.toNat (k:Int)) []=s))=false):iz l s (k+1) r:=by
 rw [Q!] at *;refine⟨?_,by omega⟩;rw [au l k [] (by omega),List.filter_append,<-h.1,List.filter_cons,hs];simp
theorem acj {l:List (List UInt8)} {s:List UInt8} {k:Nat} {r:List (List UInt8)}(h:iz l s k r):r.length<=k:=by
 rw [h.1];grind
theorem GZ {l m out r:List (List UInt8)} {k:Nat}(h:oU l m out)(hm:(0:Int)<m.length)(hr:iz m (m.getD (Int.toNat ((cX m:Nat):Int)) []) k r)(hk:¬(k:Int)<m.length):oU l r (out++ [m.getD (Int.toNat ((cX m:Nat):Int)) []])/\r.length<m.length:=by
 rw [Q!] at *;obtain⟨h1,h2⟩:=h;have :k=m.length:=by have :=hr.2;omega
 have e:r=m.filter (fun x=> !decide (x=m.getD (cX m) [])):=by rw [hr.1,this,List.take_length]
 have hl:=qO (l:=m) (by omega);rw [BA (by omega)] at h1;rw [e];refine⟨⟨?_,?_⟩,hl⟩
 . rw [U!];exact h1
 . rw [C!];simp only [D?,x?];omega
theorem N7 {l:List (List UInt8)} {t:List UInt8} {k:Nat} {r:List Int}(h:jh l t k r)(hk:(k:Int)<l.length)(hs:l.getD (Int.toNat (k:Int)) []=t):jh l t (k+1) (r++ [(k:Int)]):=by
 rw [Int.toNat_natCast] at *;refine⟨?_,by omega,by have :=h.2.2;grind⟩;rw [h.1];simp only [tj,List.range_succ,List.filter_append,List.map_append,List.filter_cons,hs,decide_true,if_true,List.filter_nil,List.map_cons,List.map_nil]
theorem N8 {l:List (List UInt8)} {t:List UInt8} {k:Nat} {r:List Int}(h:jh l t k r)(hk:(k:Int)<l.length)(hs:¬l.getD (Int.toNat (k:Int)) []=t):jh l t (k+1) r:=by
 refine⟨?_,by omega,by have :=h.2.2;omega⟩;rw [h.1];grind[tj,List.range_succ,decide_eq_false]
theorem ack(l:List (List UInt8))(t:List UInt8):jh l t 0 []:=⟨rfl,J! _,N! _⟩
theorem QF {b t:List UInt8} {k:Nat} {r:List Int}(h:jh (aW b) t k r)(hk:¬(k:Int)<(aW b).length):r=places b t:=by
 rw [h.1,show k=(aW b).length by have :=h.2.1;omega];rfl
theorem aPA(d:List Int):ay1 d 0:=⟨by simp,J! _⟩
theorem aMV {d:List Int} {k:Nat}(h:ay1 d k)(hk:(k:Int)<d.length)(hw:fv (d.getD (Int.toNat (k:Int)) 0)=true)(hs:bj (d.getD (Int.toNat (k:Int)) 0)=d.getD (Int.toNat (k:Int)) 0):ay1 d (k+1):=by
 refine⟨fun c hc=> ?_,by omega⟩;rw [au d k 0 (by omega)] at hc;rcases F!.1 hc with hc|hc
 . exact h.1 c hc
 grind[List.mem_singleton,Tw,decide_true,Bool.and_self]
theorem aNW {s:List UInt8} {k:Nat}(hk:(k:Int)<(decode s).length)(hw:fv ((decode s).getD (Int.toNat (k:Int)) 0)=false\/¬bj ((decode s).getD (Int.toNat (k:Int)) 0)=(decode s).getD (Int.toNat (k:Int)) 0):false=Tx s:=by
 have hm:=bu (decode s) k 0 (by omega)
 have :(decode s).all Tw=false :=by
  grind[List.all_eq_false,Tw]
 simp [Tx,this,Bool.false_and]
theorem aNX {s:List UInt8} {k:Nat}(h:ay1 (decode s) k)(hk:¬(k:Int)<(decode s).length):(bif decide (0<((decode s).length:Int)) then decide ((s.length:Int)<=64) else false)=Tx s:=by
 have :(decode s).all Tw=true :=by
  have h1:=h.1;grind[List.take_length]
 simp_all[Tx,Bool.true_and,decide,decode]
theorem uF(b:List UInt8):(aW b).length<=b.length:=by
 have h0:∀(l acc:List Int),(jZ acc l).length<=l.length+acc.length:=by
  intro l;induction l with
  |nil=>intro acc;simp [jZ];cases acc<;>simp
  |cons c l ih=>
   grind[jZ]
 grind[decode,oS,aW,List.length_map]
theorem BB {m l':List (List UInt8)} {s s':List UInt8} {k:Nat} {r:List (List UInt8)}(h:iz l' s' k r/\m=l'/\s=s'):iz m s k r:=by grind
end Go.S

end
section
namespace Go.S
theorem K5(b:List UInt8):∀k,(fX b k).1≠65533->enc (fX b k).1=b.take (fX b k).2.toNat
 |0,h=>absurd rfl h
 |k+1,h=>by
  simp [fX] at h |-;by_cases ht:oT b (k+1)=true
  . simp_all[W!,tf]
  simp_all[T!,K5]
theorem QG {b:List UInt8}(hb:0<b.length)(h:(aS b).1≠65533):enc (aS b).1=b.take (aS b).2.toNat:=by
 rw [<-wS b hb] at h |-;grind[K5]
theorem N9:∀(n:Nat) (b:List UInt8),b.length<=n->(∀c∈decode b,c≠65533)->(decode b).flatMap enc=b:=by
 intro n;induction n with
 |zero=>intro b h _;have :b= []:=Y! (by omega)
        subst this;rfl
 |succ n ih=>
  intro b h hc;by_cases h0:b.length=0
  . grind
  . have hb:=nV b (by omega);rw [uD b (by omega)] at hc |-;rw [List.flatMap_cons,QG (by omega) (hc _ (by simp)),ih _ (by grind) (fun c h'=>hc c (by grind))];simp_all
theorem oB {c:Int}(h0:0<=c)(h1:c<256):((u8 c).toNat:Int)=c:=((CM h0 h1).1 rfl).symm
theorem wV {c:Int}(hr:bD c=true)(r:List UInt8):bp (enc c++r) ((enc c).length:Nat)=c/\1<=(enc c).length/\(enc c).length<=4:=by
 have hb:=ec hr;unfold enc;split
 . grind[N5,u8,cI,oB]
 . split
   . refine⟨?_,by simp,by simp⟩;show bp (u8 (192+c/64)::more c::r) 2=c;have h1:=oB (c:=192+c/64) (by omega) (by omega);have h2:((more c).toNat:Int)=128+c%64:=oB (c:=128+c%64) (by omega) (by omega)
     have e:bp (u8 (192+c/64)::more c::r) 2=(((u8 (192+c/64)).toNat:Int)-192)*64+(more c).toNat-128:=by
      rfl
     omega
   . split
     . refine⟨?_,by simp,by simp⟩;show bp (u8 (224+c/4096)::more (c/64)::more c::r) 3=c;have h1:=oB (c:=224+c/4096) (by omega) (by omega);have h2:((more (c/64)).toNat:Int)=128+c/64%64:=oB (c:=128+c/64%64) (by omega) (by omega);have h3:((more c).toNat:Int)=128+c%64:=oB (c:=128+c%64) (by omega) (by omega)
       have e:bp (u8 (224+c/4096)::more (c/64)::more c::r) 3=((((u8 (224+c/4096)).toNat:Int)-224)*64+(more (c/64)).toNat-128)*64+(more c).toNat-128:=by
        rfl
       omega
     . refine⟨?_,by simp,by simp⟩;show bp (u8 (240+c/262144)::more (c/4096)::more (c/64)::more c::r) 4=c;have h1:=oB (c:=240+c/262144) (by omega) (by omega);have h2:((more (c/4096)).toNat:Int)=128+c/4096%64:=oB (c:=128+c/4096%64) (by omega) (by omega);have h3:((more (c/64)).toNat:Int)=128+c/64%64:=oB (c:=128+c/64%64) (by omega) (by omega);have h4:((more c).toNat:Int)=128+c%64:=oB (c:=128+c%64) (by omega) (by omega)
       have e:bp (u8 (240+c/262144)::more (c/4096)::more (c/64)::more c::r) 4=(((((u8 (240+c/262144)).toNat:Int)-240)*64+(more (c/4096)).toNat-128)*64+(more (c/64)).toNat-128)*64+(more c).toNat-128:=by
        rfl
       omega
theorem TD {c:Int}(hr:bD c=true)(r:List UInt8):aS (enc c++r)=(c,((enc c).length:Int)):=by
 obtain⟨hb,h1,h4⟩:=wV hr r;have hl:0<(enc c++r).length:=by grind
 have ht:oT (enc c++r) (enc c).length=true :=by
  grind[tf,List.take_left']
 have hg:=(qM _ _ hl h1 h4).1.1 ht;rw [<-wS _ hl,zW hl hg h1 4 (N! _) h4,hb]
theorem wW:∀(P:List Int),(∀c∈P,bD c=true)->decode (P.flatMap enc)=P
 | [],_=>rfl
 |c::P,h=>by
  have hr:=h c (by simp);have h1:=(wV hr []).2.1;rw [List.flatMap_cons,uD _ (by grind),TD hr];rw [Int.toNat_natCast,List.drop_left' rfl,wW P (fun x hx=>h x (by simp [hx]))]
theorem G1:∀(w:List Int) (t:List UInt8),t.length+(w.flatMap fun c=>fh (bj c)).length<=64->jE t w=t++w.flatMap fun c=>fh (bj c)
 | [],t,_=>by simp [jE]
 |c::w,t,h=>by
  rw [List.flatMap_cons,List.length_append] at h;simp only [jE];rw [if_neg (by omega),G1 w _ (by grind),List.flatMap_cons,List.append_assoc]
theorem wX:∀(w:List Int) (t:List UInt8),∃p:List Int,(∀c∈p,c∈w)/\jE t w=t++p.flatMap fun c=>fh (bj c)
 | [],t=>⟨[],by simp,by simp [jE]⟩
 |c::w,t=>by
  simp [jE];split
  . exact⟨[],by simp,by simp⟩
  . obtain⟨p,h1,h2⟩:=wX w (t++fh (bj c));refine⟨c::p,?_,by grind⟩;grind
theorem yd:∀(w:List Int) (t:List UInt8),t.length<=64->(jE t w).length<=64
 | [],t,h=>h
 |c::w,t,h=>by
  simp [jE];split
  . exact h
  . exact yd w _ (by rw [C!];omega)
theorem BC:∀(l acc:List Int),(∀c∈acc,fv c=true)->∀W∈jZ acc l,∀c∈W,fv c=true/\(c∈acc\/c∈l)
 | [],acc,ha,W,hW,c,hc=>by
   grind[jZ,List.mem_singleton]
 |x::l,acc,ha,W,hW,c,hc=>by
  simp [jZ] at hW;by_cases hx:fv x=true
  . rw [W! hx] at hW
    have :=BC l (acc++ [x]) (fun y hy=>by
     grind) W hW c hc
    grind
  . have hn:∀W'∈jZ [] l,∀c∈W',fv c=true/\(c∈acc\/c∈x::l):=fun W' h' y hy=>by
     have :=BC l [] (by simp) W' h' y hy;grind
    grind
theorem uG {c a b:Int}(h:c<a\/b<c):b8 c a b=false :=by
 grind[b8,Bool.and_eq_false_iff,decide_eq_false_iff_not]
theorem G2 {c a b:Int}:b8 c a b=true↔a<=c/\c<=b:=by simp [b8]
theorem BD(c:Int):bj (bj c)=bj c:=by
 have stay:∀x:Int,(97<=x/\x<192)\/(223<=x/\x<913)\/(938<=x/\x<1024)\/1072<=x->bj x=x:=fun x h=>by
  grind[ti,uG]
 cases h:b8 c 1024 1039 with
 |true=>grind[tg]
 |false=>
  by_cases h2:b8 c 65 90=true\/b8 c 192 214=true\/b8 c 216 222=true\/b8 c 913 929=true\/b8 c 931 937=true\/b8 c 1040 1071=true
  . grind[th,G2]
  . grind[ti]
theorem wY(c:Int):letter c=true↔(65<=c/\c<=90)\/(97<=c/\c<=122)\/(192<=c/\c<=214)\/(216<=c/\c<=246)\/(248<=c/\c<=255)\/(913<=c/\c<=929)\/(931<=c/\c<=937)\/(945<=c/\c<=969)\/(1024<=c/\c<=1119):=by
 simp_all[GS,X?,G2]
theorem CN(c:Int):fv c=true↔letter c=true\/(48<=c/\c<=57):=by simp [fv,digit]
theorem DN {c:Int}(h:fv c=true):fv (bj c)=true :=by
 cases h1:b8 c 1024 1039 with
 |true=>grind[tg,CN,wY]
 |false=>
  by_cases h2:b8 c 65 90=true\/b8 c 192 214=true\/b8 c 216 222=true\/b8 c 913 929=true\/b8 c 931 937=true\/b8 c 1040 1071=true
  . grind[th,G2,CN,wY]
  . grind[ti]
theorem rU {α β:Type} {l:List α} {f g:α->List β}(h:∀x∈l,f x=g x):l.flatMap f=l.flatMap g:=by
 induction l with
 |nil=>rfl
 |cons a l ih=>grind
theorem BE {c:Int}(h:bD c=true):fh c=enc c:=by simp_all[fh,H?]
theorem acm(s:List UInt8):Tx s=isTerm s:=by
 rw [Bool.eq_iff_iff];simp only [Tx,isTerm,B!,I!,E?,Tw];constructor
 . rintro⟨hg,h0,hl⟩
   have hf:=N9 s.length s (N! _) (fun c hc e=>by
    grind[CN,wY])
   have hw:jZ [] (decode s)= [decode s]:=by
    have :=GY (decode s) [] [] (fun c hc=>(hg c hc).1);grind[jZ]
   have he:(decode s).flatMap (fun c=>fh (bj c))=s:=by
    grind[rU,BE,lT]
   grind[aW,en,G1]
 . intro h
   have hlen:s.length<=64:=by
    have hm:s∈aW s:=by grind
    simp only [aW,g?] at hm;obtain⟨w,_,hw⟩:=hm;rw [<-hw];exact yd w [] (by simp)
   have hm:s∈aW s:=by grind
   simp only [aW,g?] at hm;obtain⟨W,hW,hs⟩:=hm;have aI:=BC (decode s) [] (by simp) W hW;obtain⟨p,hp,hpf⟩:=wX W []
   have hr:∀c∈p,bD (bj c)=true :=fun c hc=>uE (lT s c (by
    grind))
   have Nb:s=(p.map bj).flatMap enc:=by
    rw [<-hs];show jE [] W=_
    grind[List.flatMap_map,rU,BE]
   have hd:decode s=p.map bj:=by
    grind[wW]
   grind[DN,BD,decode,jZ,List.length_pos_iff]
end Go.S

end
section
namespace Go.S
theorem dq:∀a:List UInt8,Op.bytesLess a a=false
 | []=>rfl
 |a::x=>by simp [Op.bytesLess,dq x]
theorem mF:∀a b c:List UInt8,Op.bytesLess a b=true->Op.bytesLess b c=true->Op.bytesLess a c=true
 |_,[],_,h,_=>by grind[Op.bytesLess]
 |_,_::_,[],_,h=>by grind[Op.bytesLess]
 | [],_::_,_::_,_,_=>rfl
 |a::x,b::y,c::z,h1,h2=>by
  simp [Op.bytesLess,X?,I!,B!,beq_iff_eq] at h1 h2 |-;rcases h1 with h1|⟨rfl,h1⟩
  . rcases h2 with h2|⟨rfl,h2⟩
    . rw [UInt8.lt_iff_toNat_lt] at *;omega
    . left;exact h1
  . rcases h2 with h2|⟨rfl,h2⟩
    . left;exact h2
    . right;exact⟨rfl,mF x y z h1 h2⟩
theorem iO:∀a b:List UInt8,Op.bytesLess a b=true\/a=b\/Op.bytesLess b a=true
 | [],[]=> .inr (.inl rfl)
 | [],_::_=> .inl rfl
 |_::_,[]=> .inr (.inr rfl)
 |a::x,b::y=>by
  simp [Op.bytesLess,X?,I!,B!,beq_iff_eq,s?];by_cases h:a=b
  . subst h;rcases iO x y with h|h|h
    . exact .inl (.inr ⟨rfl,h⟩)
    . exact .inr (.inl ⟨rfl,h⟩)
    . exact .inr (.inr (.inr ⟨rfl,h⟩))
  . have :a.toNat≠b.toNat:=fun e=>h (UInt8.toNat_inj.1 e);by_cases h2:a.toNat<b.toNat
    . exact .inl (.inl (UInt8.lt_iff_toNat_lt.2 h2))
    . exact .inr (.inr (.inl (UInt8.lt_iff_toNat_lt.2 (by omega))))
theorem jT {a b:List UInt8}(h:Op.bytesLess a b=true):Op.bytesLess b a=false :=by
 grind[mF,dq]
def tm(l:List (List UInt8)):Prop :=l.Pairwise fun a b=>Op.bytesLess a b=true
theorem uH:∀(l m:List (List UInt8)),tm l->tm m->(∀x,x∈l↔x∈m)->l=m
 | [],[],_,_,_=>rfl
 | [],b::m,_,_,h=>by have :=(h b).2 (by simp);grind
 |a::l,[],_,_,h=>by have :=(h a).1 (by simp);grind
 |a::l,b::m,hl,hm,h=>by
  obtain⟨hl1,hl2⟩:=W?.1 hl;obtain⟨hm1,hm2⟩:=W?.1 hm
  have gv:a=b:=by
   rcases L!.1 ((h a).1 (by simp)) with e|e
   . exact e
   . rcases L!.1 ((h b).2 (by simp)) with e2|e2
     . exact e2.symm
     . have q1:=hm1 a e;have q2:=jT (hl1 b e2);rw [q1] at q2;cases q2
  subst gv
  have :=uH l m hl2 hm2 (fun x=>by
   constructor
   . intro hx;rcases L!.1 ((h x).1 (by simp [hx])) with e|e
     . have :=hl1 x hx;rw [e,dq] at this;cases this
     . exact e
   . intro hx;rcases L!.1 ((h x).2 (by simp [hx])) with e|e
     . have :=hm1 x hx;rw [e,dq] at this;cases this
     . exact e)
  rw [this]
theorem G3(l:List (List UInt8)):∀k,k<=l.length->∀i,i<k->Op.bytesLess (l.getD i []) (l.getD (c7 l k) [])=false
 |0,_,i,hi=>by omega
 |k+1,hk,i,hi=>by
  have ih:=G3 l k (by omega);rw [show c7 l (k+1)=if Op.bytesLess (l.getD k []) (l.getD (c7 l k) [])=true then k else c7 l k from rfl];by_cases h:Op.bytesLess (l.getD k []) (l.getD (c7 l k) [])=true
  . grind[dq,mF]
  grind
theorem G4:∀(n:Nat) (l:List (List UInt8)),l.length<=n->tm (sorted l)/\∀x,x∈sorted l↔x∈l:=by
 intro n;induction n with
 |zero=>
  intro l h;have :l= []:=Y! (by omega);subst this;exact⟨List.Pairwise.nil,fun x=>Iff.rfl⟩
 |succ n ih=>
  intro l h;by_cases h0:l.length=0
  . grind
  . have hp:0<l.length:=by omega
    have hr:=qO hp;obtain⟨i1,i2⟩:=ih (l.filter (fun x=> !decide (x=l.getD (cX l) []))) (by omega);have hm:l.getD (cX l) []∈l:=bu l _ [] (wU hp);rw [BA hp];refine⟨W?.2 ⟨fun x hx=> ?_,i1⟩,fun x=> ?_⟩
    . have AR:=(i2 x).1 hx;simp at AR;obtain⟨i,hi,e⟩:=List.mem_iff_getElem.1 AR.1;have q:=G3 l l.length (Nat.le_refl _) i hi;grind[iO,cX,absurd,Op.bytesLess]
    grind
theorem lf(l:List (List UInt8)):tm (sorted l):=(G4 _ l (N! _)).1
theorem iA(l:List (List UInt8))(x:List UInt8):x∈sorted l↔x∈l:=(G4 _ l (N! _)).2 x
theorem TF {l m:List (List UInt8)}(h1:tm m)(h2:∀x,x∈m↔x∈l):m=sorted l:=
 uH _ _ h1 (lf l) (fun x=>(h2 x).trans (iA l x).symm)
def bJ:List (List UInt8)->List (List UInt8)
 | []=> []
 |a::l=>match bJ l with
  | []=> [a]
  |b::r=>if a=b then b::r else a::b::r
theorem pP:∀(l:List (List UInt8)) (x:List UInt8),x∈bJ l↔x∈l
 | [],_=>Iff.rfl
 |a::l,x=>by
  have ih:=pP l x;simp only [bJ];split
  . rename_i h;rw [h] at ih;rw [m?,L!];constructor
    . exact .inl
    . rintro(h|h)
      . exact h
      . have :=ih.2 h;cases this
  . rename_i b r h;rw [h] at ih;split
    . rename_i e;subst e;rw [ih,L!];constructor
      . exact .inr
      . rintro(h2|h2)
        . rw [<-ih,h2];simp
        . exact h2
    . rw [L!,ih,L!]
theorem ayZ:∀(l:List (List UInt8)),(l.Pairwise fun a b=>Op.bytesLess b a=false)->tm (bJ l)
 | [],_=>List.Pairwise.nil
 |a::l,h=>by
  obtain⟨h1,h2⟩:=W?.1 h;have ih:=ayZ l h2;simp [bJ];split
  . exact List.pairwise_singleton _ _
  . rename_i b r hb;rw [hb] at ih;split
    . omega
    . refine W?.2 ⟨fun x hx=> ?_,ih⟩;have wZ:b∈l:=by rw [<-pP l,hb];simp
      have gv:Op.bytesLess a b=true :=by
       grind[iO]
      rcases L!.1 hx with e|e
      . grind
      . exact mF _ _ _ gv ((W?.1 ih).1 x e)
theorem Ew {l m:List (List UInt8)}(h1:m.Pairwise fun a b=>Op.bytesLess b a=false)(h2:∀x,x∈m↔x∈l):bJ m=sorted l:=
 TF (ayZ m h1) (fun x=>(pP m x).trans (h2 x))
end Go.S
namespace Go.S
def gY(a b:List UInt8):Int:=if Op.bytesLess a b then -1 else if Op.bytesLess b a then 1 else 0
theorem aoq(a b:List UInt8):decide (gY a b=0)=decide (a=b):=by
 unfold gY;rcases iO a b with h|h|h
 . grind[dq]
 . grind[dq]
 . grind[dq]
end Go.S
namespace Go.S
def lh(l:List (List UInt8))(k:Nat):Prop :=1<=k/\k<=l.length/\∀j,j+1<k->¬l.getD (j+1) []=l.getD j []
def gZ(l:List (List UInt8))(x i k:Nat)(m:List (List UInt8)):Prop :=1<=k/\x+k<=l.length/\1<=i/\i+1<=x+k/\m.length=l.length/\m.drop i=l.drop i/\m.take i=bJ (l.take (x+k))
theorem QH {l:List (List UInt8)}(h:l≠ []):∃b r,bJ l=b::r:=by
 cases hc:bJ l with
 |nil=>
  cases l with
  |nil=>grind
  |cons a l=>have :=(pP (a::l) a).2 (by simp);grind
 |cons b r=>grind
theorem y5(a b:List UInt8):∀p:List (List UInt8),bJ (p++ [a,b])=if a=b then bJ (p++ [a]) else bJ (p++ [a])++ [b]
 | []=>by
   grind[bJ]
 |c::p=>by
  have ih:=y5 a b p;obtain⟨h,r,e⟩:=QH (l:=p++ [a]) (by simp);grind[bJ]
theorem oC {l:List (List UInt8)} {n:Nat}(h:n+1<l.length):bJ (l.take (n+2))=if l.getD n []=l.getD (n+1) [] then bJ (l.take (n+1)) else bJ (l.take (n+1))++ [l.getD (n+1) []]:=by
 grind[au,List.append_assoc,List.singleton_append,y5]
theorem CO {l:List (List UInt8)}:∀k,k<=l.length->(∀j,j+1<k->¬l.getD (j+1) []=l.getD j [])->bJ (l.take k)=l.take k
 |0,_,_=>by rfl
 |1,h,_=>by
  cases l with
  |nil=>rfl
  |cons a l=>rfl
 |k+2,hk,h=>by
  rw [oC (by omega),T! (fun e=>h k (by omega) e.symm),CO (k+1) (by omega) (fun j hj=>h j (by omega)),<-au l (k+1) [] (by omega)]
theorem G5 {l:List (List UInt8)}(h:(l.length:Int)<2):l=bJ l:=by
 match l,h with
 | [],_=>rfl
 | [a],_=>rfl
 |a::b::l,h=>grind
theorem aeJ {l:List (List UInt8)}(h:¬(l.length:Int)<2):lh l 1:=⟨N! _,by omega,fun j hj=>by omega⟩
theorem K6 {l:List (List UInt8)} {k:Nat}(h:lh l k)(hk:(k:Int)<l.length)(hn:¬l.getD k []=l.getD (Int.toNat ((k:Int)-1)) []):lh l (k+1):=by
 obtain⟨h1,h2,h3⟩:=h;rw [show Int.toNat ((k:Int)-1)=k-1 by omega] at hn;refine⟨by omega,by omega,fun j hj=> ?_⟩;grind
theorem QI {l:List (List UInt8)} {k:Nat}(h:lh l k)(hk:¬(k:Int)<l.length):l=bJ l:=by
 obtain⟨h1,h2,h3⟩:=h;have e:=CO k h2 h3;grind
theorem U6 {l:List (List UInt8)} {x:Nat}(h:lh l x)(hx:(x:Int)<l.length)(he:l.getD x []=l.getD (Int.toNat ((x:Int)-1)) []):gZ l x x 1 l:=by
 obtain⟨h1,h2,h3⟩:=h;rw [show Int.toNat ((x:Int)-1)=x-1 by omega] at he;refine⟨N! _,by omega,h1,N! _,rfl,rfl,?_⟩;obtain⟨y,rfl⟩:∃y,x=y+1:=⟨x-1,by omega⟩;rw [Nat.add_sub_cancel] at he;rw [show y+1+1=y+2 by omega,oC (by omega),W! he.symm,CO (y+1) (by omega) h3]
theorem K7 {l m:List (List UInt8)} {x i k:Nat}(h:gZ l x i k m)(hk:x+k<l.length):m.getD (x+k) []=l.getD (x+k) []/\m.getD (x+k-1) []=l.getD (x+k-1) []:=by
 obtain⟨h1,h2,h3,h4,h5,h6,h7⟩:=h
 have key:∀j,i<=j->m.getD j []=l.getD j []:=fun j hj=>by
  have :=congrArg (fun q=>q.getD (j-i) []) h6;grind
 grind
theorem G6 {l m:List (List UInt8)} {x i k:Nat}(h:gZ l x i k m)(hk:x+k<l.length)(he:m.getD (x+k) []=m.getD (x+k-1) []):gZ l x i (k+1) m:=by
 have hg:=K7 h hk;obtain⟨h1,h2,h3,h4,h5,h6,h7⟩:=h;refine⟨by omega,by omega,h3,by omega,h5,h6,?_⟩;rw [h7];obtain⟨n,hn⟩:∃n,x+k=n+1:=⟨x+k-1,by omega⟩;rw [show x+(k+1)=n+2 by omega,hn,oC (by omega),if_pos];grind
theorem K8 {l m:List (List UInt8)} {x i k:Nat}(h:gZ l x i k m)(hk:x+k<l.length)(he:¬m.getD (x+k) []=m.getD (x+k-1) []):gZ l x (i+1) (k+1) (m.set i (m.getD (x+k) [])):=by
 have hg:=K7 h hk;obtain⟨h1,h2,h3,h4,h5,h6,h7⟩:=h;rw [hg.1];refine⟨by omega,by omega,by omega,by omega,by grind,?_,?_⟩
 . rw [List.drop_set,if_pos (by omega)];have :=congrArg (List.drop 1) h6;grind[List.drop_drop]
 . have hi:i<(m.set i (l.getD (x+k) [])).length:=by grind
   rw [au _ _ [] hi,List.take_set,List.set_eq_of_length_le (by grind),h7];rw [List.getD_eq_getElem?_getD,List.getElem?_set_self (by omega),Option.getD_some];obtain⟨n,hn⟩:∃n,x+k=n+1:=⟨x+k-1,by omega⟩;rw [show x+(k+1)=n+2 by omega,hn,oC (by omega),if_neg];grind
theorem K9 {l m:List (List UInt8)} {x i k:Nat}(h:gZ l x i k m)(hk:¬x+k<l.length):m.take i=bJ l:=by
 obtain⟨h1,h2,h3,h4,h5,h6,h7⟩:=h;grind
end Go.S

end
section
namespace Go.S
def up(l:List (List UInt8)):Prop :=l.Pairwise fun a b=>Op.bytesLess b a=false
def eo(l:List (List UInt8)):List (List UInt8):=l.mergeSort fun a b=> !Op.bytesLess b a
theorem acn(l:List (List UInt8)):up (eo l):=by
 have :=List.pairwise_mergeSort (le:=fun a b=> !Op.bytesLess b a) (fun a b c h1 h2=>by
  grind[Bool.not_eq_true',iO,mF]) (fun a b=>by
  grind[iO,jT,dq]) l
 exact this.imp (fun h=>by grind)
theorem w2(l:List (List UInt8)):(eo l).Perm l:=List.mergeSort_perm l _
theorem TG(l:List (List UInt8)):(eo l).length=l.length:=(w2 l).length_eq
theorem G7(l:List (List UInt8)):bJ (eo l)=sorted l:=Ew (acn l) (fun _=>(w2 l).mem_iff)
end Go.S

end
section
namespace Go.S
def sp(n:Nat):Nat:=2^Nat.log2 (n-1)
def split(n:Int):Int:=if n<2\/1099511627776<n then 0 else((sp n.toNat:Nat):Int)
def gP(n:Int)(k:Int)(t:Nat):Prop :=k=((2^t:Nat):Int)/\k<n
def sF:Nat->List (List UInt8)->List UInt8
 |0,_=>sum []
 |f+1,l=>if l.length=0 then sum [] else if l.length=1 then l.getD 0 [] else dF (sF f (l.take (sp l.length))) (sF f (l.drop (sp l.length)))
def root(l:List (List UInt8)):List UInt8:=sF l.length l
def cR(l:List (List UInt8)):Bool:=l.all fun d=>decide ((d.length:Int)=32)
def oV(l:List (List UInt8))(k:Nat):Prop :=(∀d∈l.take k,(d.length:Int)=32)/\k<=l.length
def cO(l:List (List UInt8)):Prop :=cR l=true/\l.length<=1099511627776
def pn(l:List (List UInt8)):List UInt8:=if cR l then root l else []
def nd(l:List (List UInt8)):Int:=if cR l then 0 else 1
def leaves(l:List (List UInt8)):List (List UInt8):=l.map leaf
def ep(l:List (List UInt8))(k:Nat):List (List UInt8):=(l.take k).map leaf
def c8(l:List (List UInt8)):Prop :=l.length<=1099511627776/\∀b∈l,b.length<1099511627776
def comb(s:List (List UInt8)):List (List UInt8):=s.take (s.length-2)++ [dF (s.getD (s.length-2) []) (s.getD (s.length-1) [])]
def tp(s:List (List UInt8)):Prop :=2<=s.length/\s.length<=1099511627776
def pQ(l:List (List UInt8))(t a:Nat):List UInt8:=root ((l.drop (2^t*a)).take (2^t))
def po(l:List (List UInt8))(t j:Nat):List (List UInt8):=
 if j=0 then [] else if j%2=1 then po l (t+1) (j/2)++ [pQ l t (j-1)] else po l (t+1) (j/2)
termination_by j
def ng(l:List (List UInt8))(i:Nat)(s:List (List UInt8)):Prop :=s=po l 0 i/\i<=l.length
def l4(l:List (List UInt8))(i t j:Nat)(s:List (List UInt8)):Prop :=
 s=po l t j++ [pQ l t j]/\po l 0 (i+1)=po l t (j+1)/\2^t*(j+1)=i+1/\i<l.length
def nh(l:List (List UInt8))(s:List (List UInt8)):Prop :=∃t j,s=po l t j++ [root (l.drop (2^t*j))]/\2^t*j<l.length/\l.length-2^t*j<=2^t
theorem aeK {m t:Nat}(h1:2^t<=m)(h2:m<2^(t+1)):Nat.log2 m=t:=by
 grind[Nat.two_pow_pos,Nat.log2_eq_iff]
theorem TH {n t:Nat}(h1:2^t<n)(h2:n<=2^(t+1)):sp n=2^t:=by
 grind[sp,aeK]
theorem jF {n:Nat}(h:2<=n):1<=sp n/\sp n<n:=by
 grind[sp,Nat.log2_self_le,Nat.two_pow_pos,Nat.log2]
theorem oD:∀(f g:Nat) (l:List (List UInt8)),l.length<=f->l.length<=g->sF f l=sF g l
 |0,0,_,_,_=>rfl
 |0,g+1,l,h,_=>by
  simp_all[sF,W!]
 |f+1,0,l,_,h=>by
  simp_all[sF,W!]
 |f+1,g+1,l,h1,h2=>by
  simp only [sF];by_cases h0:l.length=0
  . grind
  . by_cases h3:l.length=1
    . grind
    . have :=jF (n:=l.length) (by omega);rw [if_neg h0,if_neg h0,if_neg h3,if_neg h3,oD f g _ (by grind) (by grind),oD f g _ (by grind) (by grind)]
theorem CP {l:List (List UInt8)}(h:l.length=0):root l=sum []:=by
 unfold root;rw [h];rfl
theorem CQ {l:List (List UInt8)}(h:l.length=1):root l=l.getD 0 []:=by
 simp_all[root,sF,T!,W!]
theorem ye {l:List (List UInt8)} {k:Nat}(h:2<=l.length)(hk:sp l.length=k):root l=dF (root (l.take k)) (root (l.drop k)):=by
 have hb:=jF h;unfold root;obtain⟨n,hn⟩:∃n,l.length=n+1:=⟨l.length-1,by omega⟩;have e1:=oD n (l.take (sp l.length)).length (l.take (sp l.length)) (by grind) (Nat.le_refl _);have e2:=oD n (l.drop (sp l.length)).length (l.drop (sp l.length)) (by grind) (Nat.le_refl _);grind[sF]
theorem cb(l:List (List UInt8)):cR l=true↔∀d∈l,d.length=32:=by
 simp [cR,List.all_eq_true,decide_eq_true_eq];grind
theorem aco:∀(n:Nat) (l:List (List UInt8)),l.length<=n->cR l=true->(root l).length=32:=by
 intro n;induction n with
 |zero=>grind[CP,Bs]
 |succ n ih=>
  intro l h hd;by_cases h0:l.length=0
  . grind
  . by_cases h1:l.length=1
    . grind[CQ,cb,bu]
    . have hb:=jF (n:=l.length) (by omega);rw [ye (by omega) rfl];have e1:=ih (l.take (sp l.length)) (by grind) ((cb _).2 fun d rl=>(cb l).1 hd d (List.mem_of_mem_take rl));have e2:=ih (l.drop (sp l.length)) (by grind) ((cb _).2 fun d rl=>(cb l).1 hd d (List.mem_of_mem_drop rl));simp [dF,GN,e1,e2,decide_true,Bool.and_self,if_true];rfl
theorem yf {l:List (List UInt8)}(h:cR l=true):(root l).length=32:=aco _ l (N! _) h
theorem az1 {l:List (List UInt8)} {a:Nat}(h:a<l.length):pQ l 0 a=l.getD a []:=by
 grind[pQ,CQ]
theorem two_pos(t:Nat):0<2^t:=Nat.two_pow_pos t
theorem acp {l:List (List UInt8)} {t a:Nat}(h:2^(t+1)*(a+1)<=l.length):dF (pQ l t (2*a)) (pQ l t (2*a+1))=pQ l (t+1) a:=by
 have hp:=two_pos t;have e0:2^(t+1)*a=2^t*(2*a):=by rw [Nat.pow_succ,Nat.mul_assoc]
 have e1:2^t*(2*a+1)=2^t*(2*a)+2^t:=by rw [Nat.mul_add,Nat.mul_one]
 have e2:2^(t+1)*(a+1)=2^t*(2*a)+(2^t+2^t):=by rw [Nat.mul_add,e0,Nat.mul_one,Nat.pow_succ];omega
 have hl:((l.drop (2^(t+1)*a)).take (2^(t+1))).length=2^t+2^t:=by rw [X!,V!];omega
 have tX:sp ((l.drop (2^(t+1)*a)).take (2^(t+1))).length=2^t:=by exact TH (by omega) (by omega)
 unfold pQ;rw [ye (l:=(l.drop (2^(t+1)*a)).take (2^(t+1))) (by omega) tX];congr 2
 . rw [List.take_take,e0,y? (by omega)]
 . rw [List.drop_take,S?,e0,e1];congr 1;omega
theorem w7(l:List (List UInt8)) {t j:Nat}(h:j%2=1):po l t j=po l (t+1) (j/2)++ [pQ l t (j-1)]:=by
 rw [po,T! (by omega),W! h]
theorem tq(l:List (List UInt8)) {t j:Nat}(h:j%2=0):po l t j=po l (t+1) (j/2):=by
 by_cases h0:j=0
 . subst h0;rw [po,W! rfl,po,W! rfl]
 . rw [po,T! h0,T! (by omega)]
theorem G8(l:List (List UInt8))(t:Nat):po l t 0= []:=by rw [po,W! rfl]
theorem BF(l:List (List UInt8)):∀(n t j:Nat),j<=n->(po l t j).length<=j/\(0<j->0<(po l t j).length):=by
 intro n;induction n with
 |zero=>grind[G8]
 |succ n ih=>
  intro t j h;by_cases h0:j=0
  . subst h0;rw [G8];simp
  . by_cases h1:j%2=1
    . rw [w7 l h1,C!];have :=ih (t+1) (j/2) (by omega);simp;omega
    . rw [tq l (by omega)];have :=ih (t+1) (j/2) (by omega);omega
theorem La(s:List (List UInt8))(a b:List UInt8):comb (s++ [a]++ [b])=s++ [dF a b]:=by
 unfold comb;have hl:(s++ [a]++ [b]).length=s.length+2:=by simp
 rw [hl,show s.length+2-2=s.length by omega,show s.length+2-1=s.length+1 by omega,U!,List.take_left']
 . simp [H!]
 . rfl
theorem aor(l:List (List UInt8)):ng l 0 []:=⟨(G8 l 0).symm,J! _⟩
theorem az2 {l s:List (List UInt8)} {i:Nat}(h:ng l i s)(hi:(i:Int)<l.length):l4 l i 0 i (s++ [l.getD (Int.toNat (i:Int)) []]):=by
 rw [Q!];refine⟨?_,rfl,by simp,by omega⟩;rw [h.1,az1 (by omega)]
theorem and_1 {j:Nat}:Vg.aM (j:Int) 1=((j%2:Nat):Int):=by
 have :Vg.aM (j:Int) 1=((j&&&1:Nat):Int):=rfl;grind
theorem CR {l s:List (List UInt8)} {i t j:Nat}(h:l4 l i t j s)(hj:Vg.aM (j:Int) 1=1):l4 l i (t+1) (j/2) (comb s)/\j/2<j/\2<=s.length:=by
 rw [and_1] at hj;obtain⟨h1,h2,h3,h4⟩:=h;have hs:s=po l (t+1) (j/2)++ [pQ l t (j-1)]++ [pQ l t j]:=by grind[w7]
 have e3:2^(t+1)*(j/2+1)=2^t*(j+1):=by
  grind
 refine⟨⟨?_,?_,by omega,h4⟩,by omega,by grind⟩
 . have e:=acp (l:=l) (t:=t) (a:=j/2) (by omega);grind[La]
 . rw [h2,tq l (by omega),show(j+1)/2=j/2+1 by omega]
theorem aeL {l s:List (List UInt8)} {i t j:Nat}(h:l4 l i t j s)(hj:¬Vg.aM (j:Int) 1=1):ng l (i+1) s:=by
 rw [and_1] at hj;obtain⟨h1,h2,h3,h4⟩:=h;refine⟨?_,by omega⟩;rw [h2,w7 l (by omega),show(j+1)/2=j/2 by omega,Nat.add_sub_cancel,<-tq l (by omega)];omega
theorem aeM {l s:List (List UInt8)} {i t j:Nat}(h:l4 l i t j s):s.length<=l.length:=by
 obtain⟨h1,h2,h3,h4⟩:=h;have :=(BF l j t j (N! _)).1;have hp:=two_pos t;have :j+1<=i+1:=by rw [<-h3];exact Nat.le_mul_of_pos_left _ hp
 grind
theorem aos(l:List (List UInt8)):∀(n t m:Nat),m<=n->0<m->2^t*m=l.length->nh l (po l t m):=by
 intro n;induction n with
 |zero=>omega
 |succ n ih=>
  intro t m h h0 he;by_cases h1:m%2=1
  . refine⟨t+1,m/2,?_,?_,?_⟩
    . have e:2^(t+1)*(m/2)=2^t*(m-1):=by rw [Nat.pow_succ,Nat.mul_assoc];congr 1;omega
      rw [w7 l h1,e];unfold pQ;rw [List.take_of_length_le];rw [List.length_drop,<-he,Nat.mul_sub,Nat.mul_one];grind
    . have e:2^(t+1)*(m/2)=2^t*(m-1):=by rw [Nat.pow_succ,Nat.mul_assoc];congr 1;omega
      rw [e,<-he];exact Nat.mul_lt_mul_of_pos_left (by omega) (two_pos t)
    . have e:2^(t+1)*(m/2)=2^t*(m-1):=by rw [Nat.pow_succ,Nat.mul_assoc];congr 1;omega
      rw [e,<-he,Nat.mul_sub,Nat.mul_one,Nat.pow_succ];omega
  . rw [tq l (by omega)];exact ih (t+1) (m/2) (by omega) (by omega) (by rw [<-he,Nat.pow_succ,Nat.mul_assoc];congr 1;omega)
theorem az3 {l s:List (List UInt8)} {i:Nat}(h:ng l i s)(hi:¬(i:Int)<l.length)(h0:¬(l.length:Int)=0):nh l s:=by
 have :i=l.length:=by have :=h.2;omega
 rw [h.1,this];exact aos l l.length 0 l.length (N! _) (by omega) (by simp)
theorem aeN(l:List (List UInt8)):∀(n t j:Nat),j<=n->0<j->2^t*j<l.length->l.length-2^t*j<=2^t->nh l (comb (po l t j++ [root (l.drop (2^t*j))]))/\(comb (po l t j++ [root (l.drop (2^t*j))])).length<(po l t j++ [root (l.drop (2^t*j))]).length:=by
 intro n;induction n with
 |zero=>omega
 |succ n ih=>
  intro t j h h0 h1 h2;by_cases ho:j%2=1
  . have e:2^(t+1)*(j/2)=2^t*(j-1):=by rw [Nat.pow_succ,Nat.mul_assoc];congr 1;omega
    have em:2^t*j=2^t*(j-1)+2^t:=by
     have :j=(j-1)+1:=by omega
     conv=>lhs;rw [this,Nat.mul_add,Nat.mul_one]
    have hl:(l.drop (2^t*(j-1))).length=2^t+(l.length-2^t*j):=by rw [V!];omega
    have tX:sp (l.drop (2^t*(j-1))).length=2^t:=by exact TH (by omega) (by omega)
    have er:dF (pQ l t (j-1)) (root (l.drop (2^t*j)))=root (l.drop (2^t*(j-1))):=by
     rw [ye (l:=l.drop (2^t*(j-1))) (by omega) tX,S?,<-em];rfl
    rw [w7 l ho,La,er];refine⟨⟨t+1,j/2,by rw [e],by omega,?_⟩,by simp⟩;omega
  . have e:2^(t+1)*(j/2)=2^t*j:=by rw [Nat.pow_succ,Nat.mul_assoc];congr 1;omega
    have :=ih (t+1) (j/2) (by omega) (by omega) (by rw [e];exact h1) (by omega);rw [e] at this;rw [tq l (by omega)];exact this
theorem Lb {l s:List (List UInt8)}(h:nh l s)(hs:(1:Int)<s.length):nh l (comb s)/\(comb s).length<s.length:=by
 obtain⟨t,j,h1,h2,h3⟩:=h
 have hj:0<j:=by
  grind[G8]
 rw [h1];exact aeN l j t j (N! _) hj h2 h3
theorem QJ {l s:List (List UInt8)}(h:nh l s)(hs:¬(1:Int)<s.length):s.getD (Int.toNat 0) []=root l/\s.length=1:=by
 obtain⟨t,j,h1,h2,h3⟩:=h;have hl:s.length=(po l t j).length+1:=by grind
 have hj:j=0:=by
  have :=(BF l j t j (N! _)).2;omega
 simp_all[G8]
theorem aeO {l s:List (List UInt8)}(h:nh l s):s.length<=l.length:=by
 obtain⟨t,j,h1,h2,h3⟩:=h;have :=(BF l j t j (Nat.le_refl _)).1;have hp:=two_pos t;have :=Nat.le_mul_of_pos_left j hp;grind
theorem aot {s:List (List UInt8)}(h:tp s):List.take (Int.toNat ((s.length:Int)-2+1)) (List.set s (Int.toNat ((s.length:Int)-2)) (dF (List.getD s (Int.toNat ((s.length:Int)-2)) []) (List.getD s (Int.toNat ((s.length:Int)-2+1)) [])))=comb s:=by
 have h1:=h.1;rw [show Int.toNat ((s.length:Int)-2+1)=s.length-2+1 by omega,show Int.toNat ((s.length:Int)-2)=s.length-2 by omega,show s.length-2+1=s.length-1 by omega];unfold comb;generalize dF (List.getD s (s.length-2) []) (List.getD s (s.length-1) [])=x;have hl:s.length-2<(s.set (s.length-2) x).length:=by grind
 rw [show s.length-1=s.length-2+1 by omega,au _ _ [] hl,List.take_set,List.set_eq_of_length_le (by grind)];grind
theorem QK {n:Int}(h:n<2\/1099511627776<n):0=split n:=by simp_all[split,W!]
theorem DO {n:Int}(h:¬n<2):gP n 1 0:=⟨rfl,by omega⟩
theorem w8 {n k:Int} {t:Nat}(h:gP n k t)(hk:2*k<n):gP n (2*k) (t+1)/\1<=k:=by
 have hp:=two_pos t;obtain⟨h1,h2⟩:=h;refine⟨⟨?_,hk⟩,by omega⟩;omega
theorem zX {n:Int}(h1:2<=n)(h2:n<=1099511627776):split n=((sp n.toNat:Nat):Int):=by simp_all[split,T!]
theorem y6 {n k:Int} {t:Nat}(h:gP n k t)(h1:¬n<2)(h2:¬1099511627776<n)(hk:¬2*k<n):k=split n:=by
 have hp:=two_pos t;obtain⟨e1,e2⟩:=h;grind[zX,TH,Nat.pow_succ]
theorem fL {n k:Int} {t:Nat}(h:gP n k t):1<=k/\k<n:=by
 have hp:=two_pos t;obtain⟨e1,e2⟩:=h;omega
theorem mG {l:List (List UInt8)}(h:cO l)(h2:2<=l.length):
  (0<=split (l.length:Int)/\split (l.length:Int)<=(l.length:Int))/\(l.take (Int.toNat (split (l.length:Int)))).length<l.length/\cO (l.take (Int.toNat (split (l.length:Int))))/\
    (l.drop (Int.toNat (split (l.length:Int)))).length<l.length/\cO (l.drop (Int.toNat (split (l.length:Int))))/\
    bz (root (l.take (Int.toNat (split (l.length:Int))))++root (l.drop (Int.toNat (split (l.length:Int)))))/\
    nU 1 (root (l.take (Int.toNat (split (l.length:Int))))++root (l.drop (Int.toNat (split (l.length:Int)))))=root l:=by
 have hb:=jF h2;have e:split (l.length:Int)=((sp l.length:Nat):Int):=zX (by omega) (by have :=h.2;omega);rw [e,Int.toNat_natCast];have p1:cO (l.take (sp l.length)):=⟨(cb _).2 fun d hd=>(cb l).1 h.1 d (List.mem_of_mem_take hd),by rw [List.length_take];have :=h.2;omega⟩;have p2:cO (l.drop (sp l.length)):=⟨(cb _).2 fun d hd=>(cb l).1 h.1 d (List.mem_of_mem_drop hd),by rw [List.length_drop];have :=h.2;omega⟩;have r1:=yf p1.1;have r2:=yf p2.1;refine⟨by omega,by grind,p1,by grind,p2,?_,?_⟩
 . grind[bz,List.length_append]
 . rw [ye h2 rfl];simp [dF,GN,r1,r2,decide_true,Bool.and_self,H?];rfl
theorem aou(l:List (List UInt8)):oV l 0:=⟨by simp,J! _⟩
theorem TI {l:List (List UInt8)} {k:Nat}(h:oV l k)(hk:(k:Int)<l.length)(hd:((l.getD (Int.toNat (k:Int)) []).length:Int)=32):oV l (k+1):=by
 refine⟨fun d rl=> ?_,by omega⟩;rw [au l k [] (by omega)] at rl;rcases F!.1 rl with rl|rl
 . exact h.1 d rl
 grind
theorem acq {l:List (List UInt8)} {k:Nat}(hk:(k:Int)<l.length)(hd:¬((l.getD (Int.toNat (k:Int)) []).length:Int)=32):false=cR l:=by
 grind[Int.toNat_natCast,cR,List.all_eq_false,bu]
theorem acr {l:List (List UInt8)} {k:Nat}(h:oV l k)(hk:¬(k:Int)<l.length):true=cR l:=by
 simp [cR,List.all_eq_true,decide_eq_true_eq];have h1:=h.1;grind[List.take_length]
theorem BG {l:List (List UInt8)} {k:Nat}(hk:(k:Int)<l.length):ep l k++ [leaf (l.getD (Int.toNat (k:Int)) [])]=ep l (k+1):=by
 grind[Int.toNat_natCast,ep,au]
theorem DP {l:List (List UInt8)} {k:Nat}(hk:¬(k:Int)<l.length):ep l k=leaves l:=by
 grind[ep,leaves,List.take_of_length_le]
theorem DQ {l:List (List UInt8)} {k:Nat}(h:c8 l)(hk:(k:Int)<l.length):bz (l.getD (Int.toNat (k:Int)) []):=by
 exact h.2 _ (bu l k [] (by omega))
theorem y7(l:List (List UInt8))(k:Nat):(ep l k).length<=l.length:=by grind[ep,List.length_map,List.length_take]
theorem ET {l s:List (List UInt8)} {i i' t j:Nat}(h:l4 l i' t j s/\(i:Int)=(i':Int)):l4 l i t j s:=by
 grind
theorem aeP {l s:List (List UInt8)} {i t j:Nat}(h:l4 l i t j s)(hj:Vg.aM (j:Int) 1=1)(hp:cO l):tp s:=by
 have :=aeM h;exact⟨(CR h hj).2.2,by have :=hp.2;omega⟩
theorem QL {l s:List (List UInt8)} {i:Nat}(h:ng l i s):s.length<=l.length:=by
 rw [h.1];have :=(BF l i 0 i (N! _)).1;have :=h.2;omega
theorem Lc {l:List (List UInt8)}(h:(l.length:Int)=0):sum (Vg.cW UInt8)=root l:=(CP (by omega)).symm
end Go.S

end
section
namespace Go.S
def eU(l:List Int)(i:Nat):Int:=if i=0 then -1 else l.getD (i-1) 0
def G9(l:List Int)(i:Nat):Bool:=decide (eU l i<l.getD i 0)&&decide (l.getD i 0<1000)
def cc(l:List Int):Bool:=(List.range l.length).all (G9 l)
def jP(l:List Int)(k:Nat):Prop :=(∀i,i<k->G9 l i=true)/\k<=l.length
def dc(l:List Int)(k:Nat):List UInt8:=num l.length++(List.range k).flatMap (fun i=>num (l.getD i 0-eU l i-1))
def mn(l:List Int):List UInt8:=dc l l.length
def ni(l:List Int):List UInt8:=if cc l then mn l else []
def lB(l:List Int):Int:=if cc l then 0 else 1
def qP(l:List Int):List UInt8:=if cc l then qG 2 (mn l) else []
def fM(l:List Int):List UInt8:=qG 2 (mn l)
def qQ(n a b:Int):Bool:=decide (a<=n)&&decide (n<b)
def gE:List Int:= []
def okL(l:List Int):List Int:=if cc l then l else []
def Ha(l:List Int)(a b:Int):List Int:=(okL l).filter (fun n=>qQ n a b)
def kK(l:List Int)(a b:Int)(r out:List Int):Prop :=out++r.filter (fun n=>qQ n a b)=Ha l a b/\out.length+r.length<=1000
def rV(a b:List Int)(k:Nat):Prop :=a.length=b.length/\a.take k=b.take k/\k<=a.length
def nY(a b:List Int):Bool:=decide (a=b)
theorem kL(l:List Int):cc l=true↔∀i,i<l.length->G9 l i=true :=by
 grind[cc,List.all_eq_true]
theorem kM(l:List Int)(i:Nat):G9 l i=true↔eU l i<l.getD i 0/\l.getD i 0<1000:=by
 simp_all[G9,B!,I!]
theorem mH(l:List Int)(k:Nat):eU l (k+1)=l.getD k 0:=by
 rfl
theorem w9(l:List Int):eU l 0= -1:=rfl
theorem EU {l:List Int} {k:Nat}(h:jP l k):∀i,i<k->(i:Int)<=l.getD i 0/\l.getD i 0<1000
 |0,hi=>by have :=(kM l 0).1 (h.1 0 hi);grind[w9]
 |i+1,hi=>by
  have :=(kM l (i+1)).1 (h.1 (i+1) hi);rw [mH] at this;have :=EU h i (by omega);omega
theorem CS {l:List Int} {k:Nat}(h:jP l k): -1<=eU l k/\eU l k<1000:=by
 cases k with
 |zero=>grind[w9]
 |succ k=>rw [mH];have :=EU h k (by omega);omega
theorem QM {l:List Int}(h:cc l=true):jP l l.length:=⟨(kL l).1 h,N! _⟩
theorem Oa {l:List Int} {k:Nat}(h:cc l=true)(hk:k<=l.length):jP l k:=⟨fun i hi=>(kL l).1 h i (by omega),hk⟩
theorem mI {l:List Int}(h:cc l=true):l.length<=1000:=by
 by_cases h0:l.length=0
 . omega
 . have :=EU (QM h) (l.length-1) (by omega);omega
theorem aov(l:List Int):jP l 0:=⟨fun i hi=>by omega,J! _⟩
theorem TJ {l:List Int} {k:Nat}(h:jP l k)(hk:(k:Int)<l.length)(hg:¬l.getD (Int.toNat (k:Int)) 0<=eU l k/\¬1000<=l.getD (Int.toNat (k:Int)) 0):jP l (k+1):=by
 refine⟨fun i hi=> ?_,by omega⟩;by_cases he:i=k
 . grind[kM]
 . exact h.1 i (by omega)
theorem acu {l:List Int} {k:Nat}(hk:(k:Int)<l.length)(hg:l.getD (Int.toNat (k:Int)) 0<=eU l k\/1000<=l.getD (Int.toNat (k:Int)) 0):false=cc l:=by
 grind[Int.toNat_natCast,kM,kL]
theorem acv {l:List Int} {k:Nat}(h:jP l k)(hk:¬(k:Int)<l.length):true=cc l:=by
 symm
 exact(kL l).2 fun i hi=>h.1 i (by omega)
theorem Hb {l:List Int} {k:Nat}(hk:0<(k:Int)):l.getD (Int.toNat ((k:Int)-1)) 0=eU l k:=by
 simp only [eU];rw [T! (by omega),show Int.toNat ((k:Int)-1)=k-1 by omega]
theorem aMW {l:List Int} {k:Nat}(h:jP l k)(hk:(k:Int)<l.length)(hg:l.getD (Int.toNat (k:Int)) 0<0\/999<l.getD (Int.toNat (k:Int)) 0\/(0<(k:Int)/\l.getD (Int.toNat (k:Int)) 0<=l.getD (Int.toNat ((k:Int)-1)) 0)):false=cc l:=by
 refine acu hk ?_;have :=CS h;grind[Hb]
theorem aL7 {l:List Int} {k:Nat}(h:jP l k)(hk:(k:Int)<l.length)(hg:¬l.getD (Int.toNat (k:Int)) 0<0/\¬999<l.getD (Int.toNat (k:Int)) 0/\(¬0<(k:Int)\/¬l.getD (Int.toNat (k:Int)) 0<=l.getD (Int.toNat ((k:Int)-1)) 0)):jP l (k+1):=by
 refine TJ h hk ?_;by_cases h0:0<(k:Int)
 . grind[Hb]
 . have :k=0:=by omega
   grind[w9]
theorem CT(l:List Int):dc l 0=num l.length:=by simp [dc]
theorem pR(l:List Int)(k:Nat):dc l k++num (l.getD k 0-eU l k-1)=dc l (k+1):=by
 grind[dc,List.range_succ,List.append_assoc]
theorem xa(l:List Int):∀k,(dc l k).length<=9+9*k
 |0=>by grind[CT,bG]
 |k+1=>by
  rw [<-pR,C!];have :=xa l k;have :=bG (l.getD k 0-eU l k-1);omega
theorem Ld {v:Int}(h0:0<=v)(h:v<=4611686018427387904):jd (Vg.cW UInt8) v=num v:=by
 grind[c5,Bool.or_eq_false_iff,decide_eq_false_iff_not,jd]
theorem yg {l:List Int} {k:Nat}(h:cc l=true)(hk:(k:Int)<l.length):0<=l.getD (Int.toNat (k:Int)) 0-eU l k-1/\l.getD (Int.toNat (k:Int)) 0-eU l k<=1001/\0<=l.getD (Int.toNat (k:Int)) 0:=by
 rw [Q!];have h1:=(kM l k).1 ((kL l).1 h k (by omega));have h2:=CS (Oa (k:=k) h (by omega));omega
theorem Hc {l:List Int} {k:Nat}(h:cc l=true)(hk:(k:Int)<l.length):dc l k++jd (Vg.cW UInt8) (l.getD (Int.toNat (k:Int)) 0-eU l k-1)=dc l (k+1):=by
 grind[yg,Ld,Int.toNat_natCast,pR]
theorem sG {l:List Int} {k:Nat}(h:cc l=true)(hk:(k:Int)<l.length)(v:Int):(dc l k).length+(jd (Vg.cW UInt8) v).length<=20000/\(dc l k).length+(num v).length<=20000:=by
 have h1:=xa l k;have h2:=mI h;have h3:=bG v
 have h4:(jd (Vg.cW UInt8) v).length<=9:=by
  grind[jd]
 omega
theorem He {l:List Int}(h:cc l=true):(mn l).length<=20000:=by
 grind[xa,mI,mn]
theorem Ob {l:List Int} {k:Nat}(hk:(k:Int)=0):dc l k++num (l.getD (Int.toNat 0) 0)=dc l (k+1):=by
 have :k=0:=by omega
 subst this;rw [<-pR,w9];congr 2;show l.getD 0 0=l.getD 0 0- -1-1;omega
theorem QN {l:List Int} {k:Nat}(hk:¬(k:Int)=0):dc l k++num (l.getD (Int.toNat (k:Int)) 0-l.getD (Int.toNat ((k:Int)-1)) 0-1)=dc l (k+1):=by
 rw [Hb (by omega),Q!,pR]
theorem acw {l:List Int}(h:cc l=true):dc l l.length=ni l:=by simp [ni,h,H?];rfl
theorem aow(a:List Int)(s1 s2:Int):kK a s1 s2 (okL a) []:=by
 refine⟨rfl,?_⟩;grind[okL,mI]
theorem acx {a:List Int} {s1 s2 n:Int} {r out:List Int}(h:kK a s1 s2 (n::r) out)(hn:qQ n s1 s2=true):kK a s1 s2 r (out++ [n]):=by
 obtain⟨h1,h2⟩:=h;refine⟨by grind,by grind⟩
theorem aeQ {a:List Int} {s1 s2 n:Int} {r out:List Int}(h:kK a s1 s2 (n::r) out)(hn:qQ n s1 s2=false):kK a s1 s2 r out:=by
 obtain⟨h1,h2⟩:=h;rw [List.filter_cons,if_neg (by grind)] at h1;exact⟨h1,by grind⟩
theorem acy {a:List Int} {s1 s2:Int} {out:List Int}(h:kK a s1 s2 [] out):out=Ha a s1 s2:=by
 have :=h.1;grind
theorem aox {a b:List Int}(h:(a.length:Int)=b.length):rV a b 0:=⟨by omega,by simp,J! _⟩
theorem TK {a b:List Int} {k:Nat}(h:rV a b k)(hk:(k:Int)<a.length)(he:a.getD (Int.toNat (k:Int)) 0=b.getD (Int.toNat (k:Int)) 0):rV a b (k+1):=by
 rw [Int.toNat_natCast] at he;obtain⟨h1,h2,h3⟩:=h;exact⟨h1,by grind[au],by omega⟩
theorem acz {a b:List Int} {k:Nat}(he:¬a.getD (Int.toNat (k:Int)) 0=b.getD (Int.toNat (k:Int)) 0):false=nY a b:=by
 grind[nY,decide_eq_false_iff_not]
theorem acA {a b:List Int}(h:¬(a.length:Int)=b.length):false=nY a b:=by
 grind[nY,decide_eq_false_iff_not]
theorem acB {a b:List Int} {k:Nat}(h:rV a b k)(hk:¬(k:Int)<a.length):true=nY a b:=by
 obtain⟨h1,h2,h3⟩:=h;simp_all[nY,I!,I?]
end Go.S

end
section
namespace Go.S
abbrev bL:=List UInt8×List Int
abbrev Lk:=List UInt8×List UInt8×List UInt8
def xb(a b:List UInt8):Bool:=Op.bytesLess a b || decide (a=b)
def dI(d:List bL)(i:Nat):List UInt8:=(d.getD i ([],[])).1
def gy(d:List bL)(i:Nat):List Int:=(d.getD i ([],[])).2
def bf(d:List bL):Prop :=d.length<=1048576/\∀e∈d,e.1.length<=1099511627776
def uI(d:List bL)(i:Nat):Bool:= !(decide (0<i)&&xb (dI d i) (dI d (i-1)))&&(!decide ((gy d i).length=0)&&(cc (gy d i)&&isTerm (dI d i)))
def aY(d:List bL):Bool:=(List.range d.length).all (uI d)
def DR(d:List bL)(k:Nat):Prop :=(∀i,i<k->uI d i=true)/\k<=d.length
def eI(a b c:List UInt8):Bool:=decide ((a.length:Int)<=64)&&(decide ((b.length:Int)<=64)&&decide ((c.length:Int)=32))
def fG(a b c:List UInt8):List UInt8:=text a++text b++c
def ig(a b c:List UInt8):List UInt8:=if eI a b c then fG a b c else []
def mo(a b c:List UInt8):Int:=if eI a b c then 0 else 1
def TL(b:List UInt8):Rd×List UInt8:=ax b 0 0 64
def Oc(b:List UInt8):Rd×List UInt8:=ax (TL b).1.1 (TL b).1.2.1 (TL b).1.2.2 64
def oW(b:List UInt8):Rd×List UInt8:=aC (Oc b).1.1 (Oc b).1.2.1 (Oc b).1.2.2
def bw(b:List UInt8):Lk×Int:=
 if done (oW b).1.1 (oW b).1.2.1 (oW b).1.2.2=0 then(((TL b).2,(Oc b).2,(oW b).2),0) else(([],[],[]),done (oW b).1.1 (oW b).1.2.1 (oW b).1.2.2)
def zY(b:List UInt8):Lk×Int:=
 if(aU b 64).2.2≠0 then(([],[],[]),(aU b 64).2.2)
 else if(aU (b.drop (aU b 64).2.1.toNat) 64).2.2≠0 then(([],[],[]),(aU (b.drop (aU b 64).2.1.toNat) 64).2.2)
 else if((b.drop ((aU b 64).2.1+(aU (b.drop (aU b 64).2.1.toNat) 64).2.1).toNat).length:Int)<32 then(([],[],[]),4)
 else if 32<((b.drop ((aU b 64).2.1+(aU (b.drop (aU b 64).2.1.toNat) 64).2.1).toNat).length:Int) then(([],[],[]),2)
 else(((aU b 64).1,(aU (b.drop (aU b 64).2.1.toNat) 64).1,b.drop ((aU b 64).2.1+(aU (b.drop (aU b 64).2.1.toNat) 64).2.1).toNat),0)
def hY(d:List bL)(i:Nat):List UInt8:=
 fG (if i=0 then [] else dI d (i-1)) (if i<d.length then dI d i else []) (fM (if i=0 then [] else gy d (i-1)))
def ez(d:List bL)(k:Nat):List (List UInt8):=(List.range k).map (hY d)
def eh(d:List bL):List (List UInt8):=ez d (d.length+1)
def b6(d:List bL):List (List UInt8):=if aY d then eh d else []
def dE(d:List bL):Int:=if aY d then 0 else 1
def l6(d:List bL):List UInt8:=root (leaves (eh d))
def uJ(d:List bL):List UInt8:=if aY d then l6 d else []
def du(d:List bL)(t:List UInt8):Nat->Int
 |0=> -1
 |k+1=>if xb (dI d k) t then(k:Int) else du d t k
def br(d:List bL)(t:List UInt8):Int:=if aY d then du d t d.length else -1
def fx(d:List bL)(t:List UInt8):Bool:=decide (0<=br d t)&&decide (dI d (br d t).toNat=t)
def ji(d:List bL)(t:List UInt8):List Int:=if fx d t then gy d (br d t).toNat else []
def gm(a b:List bL):Bool:=decide (a=b)
def jQ(a b:List bL)(k:Nat):Prop :=a.length=b.length/\a.take k=b.take k/\k<=a.length
def apH(a b:List (List UInt8)):Bool:=decide (a=b)
def ay3(a b:List (List UInt8))(k:Nat):Prop :=a.length=b.length/\a.take k=b.take k/\k<=a.length
def cP(docs:List (List UInt8))(s1 s2:Int):Bool:=
 docs.all (fun b=>decide ((b.length:Int)<=2000))&&(decide ((docs.length:Int)<=1000)&&(decide (0<=s1)&&(decide (s1<=s2)&&decide (s2<=(docs.length:Int)))))
def nj(docs:List (List UInt8))(k:Nat):Prop :=(∀b∈docs.take k,b.length<=2000)/\k<=docs.length
def qR(b t:List UInt8):Bool:=decide (0<((places b t).length:Int))
theorem uK(d:List bL):aY d=true↔∀i,i<d.length->uI d i=true :=by
 grind[aY,List.all_eq_true]
theorem aHH(d:List bL):DR d 0:=⟨fun i hi=>by omega,J! _⟩
theorem U7 {d:List bL} {k:Nat}(hk:(k:Int)<d.length)(h:uI d k=false):false=aY d:=by
 grind[uK]
theorem aeR {d:List bL} {k:Nat}(h:DR d k)(hk:(k:Int)<d.length)(he:uI d k=true):DR d (k+1):=by
 refine⟨fun i hi=> ?_,by omega⟩;by_cases e:i=k
 . grind
 . exact h.1 i (by omega)
theorem aoy {d:List bL} {k:Nat}(h:DR d k)(hk:¬(k:Int)<d.length):true=aY d:=by
 symm;exact(uK d).2 fun i hi=>h.1 i (by omega)
theorem acC {d:List bL} {k:Nat}(h:bf d):(d.getD k ([],[])).1.length<=1099511627776:=by
 by_cases hk:k<d.length
 . exact h.2 _ (bu d k _ hk)
 grind
theorem qS(d:List bL)(i:Nat):uI d i=true↔(i=0\/xb (dI d i) (dI d (i-1))=false)/\(gy d i).length≠0/\cc (gy d i)=true/\isTerm (dI d i)=true :=by
 simp_all[uI,B!,L?,Bool.and_eq_false_iff,e?,id]
theorem Hf(d:List bL)(i:Nat):uI d i=false↔(0<i/\xb (dI d i) (dI d (i-1))=true)\/(gy d i).length=0\/cc (gy d i)=false\/isTerm (dI d i)=false :=by
 grind[qS]
theorem Hg:∀(w:List Int) (t:List UInt8),t.length<=64->(jE t w).length<=64
 | [],t,h=>h
 |c::w,t,h=>by
  simp [jE];split
  . exact h
  . exact Hg w _ (by rw [C!];omega)
theorem xc {s:List UInt8}(h:isTerm s=true):s.length<=64:=by
 simp [isTerm,decide_eq_true_eq] at h;have hm:s∈aW s:=by grind
 simp [aW,g?] at hm;obtain⟨w,_,hw⟩:=hm;rw [<-hw];exact Hg w [] (by simp)
theorem qT {d:List bL}(h:aY d=true) {i:Nat}(hi:i<d.length):(dI d i).length<=64/\cc (gy d i)=true :=by
 grind[qS,uK,xc]
theorem rW(b:List UInt8)(a e m:Int):(ax b a e m).1.1=b:=by grind[ax]
theorem acD {l:List Int}(h:cc l=true):qP l=fM l/\(fM l).length=32:=by
 refine⟨by simp [qP,h,H?];rfl,yb _ _⟩
theorem xd {d:List bL}(h:aY d=true) {k:Nat}:eI (if k=0 then [] else dI d (k-1)) (if k<d.length then dI d k else []) (fM (if k=0 then [] else gy d (k-1)))=true\/d.length<k:=by
 by_cases hk:d.length<k
 . omega
 . refine .inl ?_;have e3:(fM (if k=0 then [] else gy d (k-1))).length=32:=yb _ _;simp only [eI,e3,B!,I!];refine⟨?_,?_,rfl⟩
   . by_cases h0:k=0
     . grind
     . grind[qT]
   . by_cases h0:k<d.length
     . grind[qT]
     grind
theorem aoz {d:List bL}(h:aY d=true) {k:Nat}(hk:k<=d.length):ig (if k=0 then [] else dI d (k-1)) (if k<d.length then dI d k else []) (qP (if k=0 then [] else gy d (k-1)))=hY d k:=by
 have hp:cc (if k=0 then [] else gy d (k-1))=true :=by
  by_cases h0:k=0
  . rw [W! h0];rfl
  . rw [T! h0];exact(qT h (i:=k-1) (by omega)).2
 rw [(acD hp).1];rcases xd h (k:=k) with hl|hl
 . simp [ig,hl,H?];rfl
 omega
theorem DS(d:List bL)(k:Nat):ez d k++ [hY d k]=ez d (k+1):=by
 grind[ez,List.range_succ]
theorem zZ(d:List bL)(k:Nat):(ez d k).length=k:=by simp [ez]
theorem nZ {a b c:List UInt8}(h:eI a b c=true):(fG a b c).length<=200:=by
 simp [eI,Bool.and_eq_true,decide_eq_true_eq] at h;grind[bG,fG,text,List.length_append]
theorem jG {d:List bL}(hp:bf d)(h:aY d=true):c8 (eh d)/\cO (leaves (eh d)):=by
 have hl:(eh d).length=d.length+1:=zZ d _;have hd:=hp.1;refine⟨⟨by omega,fun b hb=> ?_⟩,⟨?_,?_⟩⟩
 . simp [eh,ez,g?,q?] at hb;obtain⟨i,hi,rfl⟩:=hb;rcases xd h (k:=i) with hk|hk
   . grind[nZ,hY]
   omega
 . rw [cb];intro x hx;simp [leaves,g?] at hx;obtain⟨b,_,rfl⟩:=hx;rfl
 grind[leaves,List.length_map]
theorem BH {d:List bL} {t:List UInt8}:∀k,-1<=du d t k/\du d t k<k
 |0=>by grind[du]
 |k+1=>by
  have :=BH (d:=d) (t:=t) k;grind[du]
theorem TM {d:List bL} {t:List UInt8} {k:Nat}(h:xb (dI d k) t=true):(k:Int)=du d t (k+1):=by
 simp_all[du,W!]
theorem TN {d:List bL} {t:List UInt8} {k:Nat}(h:xb (dI d k) t=false):du d t k=du d t (k+1):=by
 simp_all[du,T!]
theorem aeS {a b:List bL}(h:(a.length:Int)=b.length):jQ a b 0:=⟨by omega,by simp,J! _⟩
theorem QO {a b:List bL} {k:Nat}(h:jQ a b k)(hk:(k:Int)<a.length)(he:a.getD k ([],[])=b.getD k ([],[])):jQ a b (k+1):=by
 obtain⟨h1,h2,h3⟩:=h;exact⟨h1,by grind[au],by omega⟩
theorem TO {a b:List bL} {k:Nat}(he:¬a.getD k ([],[])=b.getD k ([],[])):false=gm a b:=by
 grind[gm,decide_eq_false_iff_not]
theorem TP {a b:List bL}(h:¬(a.length:Int)=b.length):false=gm a b:=by
 grind[gm,decide_eq_false_iff_not]
theorem TQ {a b:List bL} {k:Nat}(h:jQ a b k)(hk:¬(k:Int)<a.length):true=gm a b:=by
 obtain⟨h1,h2,h3⟩:=h;simp_all[gm,I!,I?]
theorem aOG {a b:List (List UInt8)}(h:(a.length:Int)=b.length):ay3 a b 0:=⟨by omega,by simp,J! _⟩
theorem aL8 {a b:List (List UInt8)} {k:Nat}(h:ay3 a b k)(hk:(k:Int)<a.length)(he:a.getD k []=b.getD k []):ay3 a b (k+1):=by
 obtain⟨h1,h2,h3⟩:=h;exact⟨h1,by grind[au],by omega⟩
theorem aMX {a b:List (List UInt8)} {k:Nat}(he:¬a.getD k []=b.getD k []):false=apH a b:=by
 grind[apH,decide_eq_false_iff_not]
theorem aMY {a b:List (List UInt8)}(h:¬(a.length:Int)=b.length):false=apH a b:=by
 grind[apH,decide_eq_false_iff_not]
theorem aMZ {a b:List (List UInt8)} {k:Nat}(h:ay3 a b k)(hk:¬(k:Int)<a.length):true=apH a b:=by
 obtain⟨h1,h2,h3⟩:=h;simp_all[apH,I!,I?]
theorem U8(docs:List (List UInt8)):nj docs 0:=⟨by simp,J! _⟩
theorem Hh {docs:List (List UInt8)} {k:Nat}(h:nj docs k)(hk:(k:Int)<docs.length)(hl:((docs.getD k []).length:Int)<=2000):nj docs (k+1):=by
 refine⟨fun b hb=> ?_,by omega⟩;rw [au docs k [] (by omega)] at hb;rcases F!.1 hb with hb|hb
 . exact h.1 b hb
 grind
theorem Le {docs:List (List UInt8)} {k:Nat} {s1 s2:Int}(hk:(k:Int)<docs.length)(hl:2000<((docs.getD k []).length:Int)):false=cP docs s1 s2:=by
 have :docs.all (fun b=>decide ((b.length:Int)<=2000))=false :=by
  grind
 simp [cP,this,Bool.false_and]
theorem Lf {docs:List (List UInt8)} {k:Nat}(h:nj docs k)(hk:¬(k:Int)<docs.length):docs.all (fun b=>decide ((b.length:Int)<=2000))=true :=by
 have h1:=h.1;grind[List.take_of_length_le]
theorem QP:∀(a b:List UInt8),xb b a= !Op.bytesLess a b
 | [],[]=>rfl
 | [],b::y=>by rfl
 |a::x,[]=>by rfl
 |a::x,b::y=>by
  have ih:=QP x y;simp [xb] at ih;simp [xb,Op.bytesLess];grind
def cOk(d:List bL)(i:Nat):Prop :=(gy d i).length≠0/\cc (gy d i)=true/\isTerm (dI d i)=true
def aAC(d:List bL)(k:Nat):Prop :=(∀i,i<k->cOk d i)/\(∀i,i<k->i+1<d.length->xb (dI d (i+1)) (dI d i)=false)/\k<=d.length
theorem aSq(d:List bL):aAC d 0:=⟨fun i hi=>by omega,fun i hi=>by omega,J! _⟩
theorem aOI {d:List bL} {k:Nat}(hk:(k:Int)<d.length)(h:isTerm (dI d k)=false\/(gy d k).length=0\/cc (gy d k)=false):false=aY d:=by
 grind[U7,Hf]
theorem aOJ {d:List bL} {k:Nat}(hk:(k:Int)+1<d.length)(h:Op.bytesLess (dI d k) (dI d (k+1))=false):false=aY d:=by
 refine U7 (k:=k+1) (by omega) ((Hf d (k+1)).2 (.inl ⟨by omega,?_⟩));grind[Nat.add_sub_cancel,QP]
theorem aOK {d:List bL} {k:Nat}(h:aAC d k)(hk:(k:Int)<d.length)(hc:cOk d k)(hl:¬(k:Int)+1<d.length\/Op.bytesLess (dI d k) (dI d (k+1))=true):aAC d (k+1):=by
 refine⟨fun i hi=> ?_,fun i hi Nn=> ?_,by omega⟩
 . by_cases e:i=k
   . grind
   . exact h.1 i (by omega)
 . by_cases e:i=k
   . grind[QP]
   . exact h.2.1 i (by omega) Nn
theorem aPB {d:List bL} {k:Nat}(h:aAC d k)(hk:¬(k:Int)<d.length):true=aY d:=by
 symm
 have e:k=d.length:=by have :=h.2.2;omega
 subst e;refine(uK d).2 fun i hi=>(qS d i).2 ⟨?_,(h.1 i hi)⟩;by_cases h0:i=0
 . omega
 . have :=h.2.1 (i-1) (by omega) (by omega);grind
theorem aoA {d:List bL}(h:aY d=true) {k:Nat}(hk:k<=d.length):
  ig (bif decide ((k:Int)<(d.length:Int)) then bif decide (0<(k:Int)) then(List.getD d (Int.toNat ((k:Int)-1)) ([],[])).1 else [] else bif decide (0<(k:Int)) then(List.getD d (Int.toNat ((k:Int)-1)) ([],[])).1 else [])
   (bif decide ((k:Int)<(d.length:Int)) then(List.getD d (Int.toNat (k:Int)) ([],[])).1 else bif decide (0<(k:Int)) then [] else [])
   (qP (bif decide (0<(k:Int)) then(List.getD d (Int.toNat ((k:Int)-1)) ([],[])).2 else []))=hY d k:=by
 rw [<-aoz h hk];have e1:Int.toNat ((k:Int)-1)=k-1:=by omega
 rw [e1,Q!];by_cases h0:k=0
 . grind[dI,gy,List.eq_nil_of_length_eq_zero]
 . have h2:(0:Int)<(k:Int):=by omega
   by_cases h1:k<d.length
   . have h3:(k:Int)<(d.length:Int):=by omega
     simp only [P? h2,P? h3,T! h0,W! h1,K!];rfl
   . have h3:¬(k:Int)<(d.length:Int):=by omega
     simp only [P? h2,V? h3,T! h0,T! h1,K!,P!];rfl
theorem aeT {d:List bL} {t:List UInt8}(h:aY d=true):du d t d.length=br d t:=by simp_all[br,H?]
theorem qU {d:List bL}(h:dE d=0):aY d=true :=by
 grind[aY,dE,absurd]
theorem aHI {d:List bL}(h:¬dE d=0):aY d=false :=by
 grind[aY,absurd,dE]
theorem DT {l s:List UInt8}(h1:l.length<=1000)(h2:s.length<=1000):lQ l s:=⟨by omega,by omega⟩
theorem im {s:List UInt8}:(text s).length<=s.length+9:=by
 grind[bG,text,List.length_append]
theorem jt(a b c:List UInt8):eI a b c=true↔a.length<=64/\b.length<=64/\c.length=32:=by
 simp [eI,B!,I!];omega
theorem Hi {a b c:List UInt8}(h:64<(a.length:Int)\/64<(b.length:Int)\/¬(c.length:Int)=32):eI a b c=false :=by
 grind[jt]
theorem oX {a b c:List UInt8}(h:¬64<(a.length:Int)/\¬64<(b.length:Int)/\(c.length:Int)=32):eI a b c=true :=(jt a b c).2 (by omega)
theorem Lg {d:List bL} {t:List UInt8}(h:aY d=false): -1=br d t/\false=fx d t:=by
 grind[br,fx]
theorem aoB(d:List bL)(t:List UInt8)(x:Nat):(bif Op.bytesLess (List.getD d (Int.toNat (x:Int)) ([],[])).1 t || decide ((List.getD d (Int.toNat (x:Int)) ([],[])).1=t) then(x:Int) else du d t x)=du d t (x+1):=by
 grind[Int.toNat_natCast,xb,dI,du,TM,TN]
theorem aeU {d:List bL} {t:List UInt8}(h:aY d=true):(bif decide (0<=du d t d.length) then decide ((List.getD d (Int.toNat (du d t d.length)) ([],[])).1=t) else false)=fx d t:=by
 simp [fx,br,h,H?];cases decide (0<=du d t d.length)<;>rfl
theorem y8(b:List UInt8)(m:Int)(h:(aU b m).2.2=0):0<=(aU b m).2.1/\(aU b m).2.1<=b.length:=by
 grind[first,aU]
theorem U9(d:List bL)(x:Nat):
  (bif decide ((x:Int)-1+1<(d.length:Int)) then bif decide (0<=(x:Int)-1) then(List.getD d (Int.toNat ((x:Int)-1)) ([],[])).1 else [] else bif decide (0<=(x:Int)-1) then(List.getD d (Int.toNat ((x:Int)-1)) ([],[])).1 else [])=(if x=0 then [] else dI d (x-1))/\
  (bif decide ((x:Int)-1+1<(d.length:Int)) then(List.getD d (Int.toNat ((x:Int)-1+1)) ([],[])).1 else bif decide (0<=(x:Int)-1) then [] else [])=(if x<d.length then dI d x else [])/\
  (bif decide ((x:Int)-1+1<(d.length:Int)) then bif decide (0<=(x:Int)-1) then fM (List.getD d (Int.toNat ((x:Int)-1)) ([],[])).2 else fM (Vg.cW Int) else bif decide (0<=(x:Int)-1) then fM (List.getD d (Int.toNat ((x:Int)-1)) ([],[])).2 else fM (Vg.cW Int))=fM (if x=0 then [] else gy d (x-1)):=by
 have e1:Int.toNat ((x:Int)-1)=x-1:=by omega
 have e2:Int.toNat ((x:Int)-1+1)=x:=by omega
 rw [e1,e2];have c1:decide ((x:Int)-1+1<(d.length:Int))=decide (x<d.length):=by grind
 have c2:decide (0<=(x:Int)-1)= !decide (x=0):=by grind
 rw [c1,c2];by_cases h0:x=0
 . subst h0;by_cases h1:0<d.length
   . simp only [P? h1,W! h1,decide_true,Bool.not_true,K!,P!,H?];all_goals first|exact⟨rfl,rfl,rfl⟩|(refine⟨?_,?_,?_⟩<;>first|trivial|rfl)
   grind
 . by_cases h1:x<d.length
   . simp [P? h1,W! h1,V? h0,Bool.not_false,K!,T! h0];all_goals first|exact⟨rfl,rfl,rfl⟩|(refine⟨?_,?_,?_⟩<;>first|trivial|rfl)
   . simp only [V? h1,T! h1,V? h0,Bool.not_false,P!,K!,T! h0];all_goals first|exact⟨rfl,rfl,rfl⟩|(refine⟨?_,?_,?_⟩<;>first|trivial|rfl)
theorem apA {d:List bL} {t:List UInt8}(h:fx d t=true):0<=br d t/\br d t<(d.length:Int)/\(List.getD d (Int.toNat (br d t)) ([],[])).2=ji d t:=by
 have h1:=h;simp [fx,Bool.and_eq_true,decide_eq_true_eq] at h1;refine⟨h1.1,?_,by simp [ji,h,if_true];rfl⟩;unfold br;split
 . simp_all[BH]
 omega
end Go.S
namespace Go.S
def fY(docs:List (List UInt8))(a:Int)(k:Nat):List (List UInt8):=(List.range k).flatMap fun(i:Nat)=>sorted (aW (docs.getD (a+i).toNat []))
def bW(docs:List (List UInt8))(a:Int)(t:List UInt8)(k:Nat):List Int:=((List.range k).filter fun(i:Nat)=>qR (docs.getD (a+i).toNat []) t).map fun(i:Nat)=>a+i
def cu(docs:List (List UInt8))(a b:Int):List (List UInt8):=sorted (fY docs a (b-a).toNat)
def kl(docs:List (List UInt8))(a b:Int)(k:Nat):List bL:=((cu docs a b).take k).map fun t=>(t,bW docs a t (b-a).toNat)
def make(docs:List (List UInt8))(a b:Int):List bL:=(cu docs a b).map fun t=>(t,bW docs a t (b-a).toNat)
def fA(docs:List (List UInt8))(a b:Int):Prop :=0<=a/\a<=b/\b<=docs.length/\docs.length<=1000/\∀d∈docs,d.length<=4000
def eQ(a b:Int)(k:Nat):Prop :=a+k<=b
end Go.S
namespace Go.S
theorem Lh:∀(f:Nat) (l:List (List UInt8)),(sE f l).length<=l.length
 |0,l=>by simp [sE]
 |f+1,l=>by
  simp only [sE];split
  . simp
  . rename_i h;have h0:0<l.length:=by cases l;simp at h;simp
    have :=Lh f (l.filter (fun x=> !decide (x=l.getD (cX l) [])));have :=qO h0;rw [D?];omega
theorem mq(l:List (List UInt8)):(sorted l).length<=l.length:=Lh _ l
theorem QQ {docs:List (List UInt8)} {a b:Int}(hp:fA docs a b)(i:Nat):(docs.getD i []).length<=4000:=by
 by_cases h:i<docs.length
 . exact hp.2.2.2.2 _ (bu docs i [] h)
 grind
theorem Hj {docs:List (List UInt8)} {a b:Int}(hp:fA docs a b)(i:Nat):small (docs.getD i []):=by
 grind[QQ,small]
theorem aeV(docs:List (List UInt8))(a:Int): []=fY docs a 0:=rfl
theorem rX(docs:List (List UInt8))(a:Int)(k:Nat):fY docs a k++sorted (aW (docs.getD (Int.toNat (a+(k:Int))) []))=fY docs a (k+1):=by
 grind[fY,List.range_succ]
theorem xe {docs:List (List UInt8)} {a b:Int}(hp:fA docs a b)(i:Nat):(sorted (aW (docs.getD i []))).length<=4000:=by
 grind[QQ,uF,mq]
theorem qV {docs:List (List UInt8)} {a b:Int}(hp:fA docs a b):∀k,(fY docs a k).length<=4000*k
 |0=>by simp [fY]
 |k+1=>by
  rw [<-rX,C!];have :=qV hp k;have :=xe hp (Int.toNat (a+(k:Int)));omega
theorem acE(docs:List (List UInt8))(a:Int)(t:List UInt8): []=bW docs a t 0:=rfl
theorem xf {docs:List (List UInt8)} {a:Int} {t:List UInt8} {k:Nat}(h:qR (docs.getD (Int.toNat (a+(k:Int))) []) t=true):bW docs a t k++ [a+(k:Int)]=bW docs a t (k+1):=by
 simp only [bW,List.range_succ,List.filter_append,v?,List.filter_cons,h,H?,List.filter_nil,T?,List.map_nil]
theorem z6 {docs:List (List UInt8)} {a:Int} {t:List UInt8} {k:Nat}(h:qR (docs.getD (Int.toNat (a+(k:Int))) []) t=false):bW docs a t k=bW docs a t (k+1):=by
 grind[bW,List.range_succ]
theorem DU(docs:List (List UInt8))(a:Int)(t:List UInt8)(k:Nat):(bW docs a t k).length<=k:=by
 grind[bW,List.length_map,List.length_filter_le,qR,List.range,List.length_range]
theorem tu {docs:List (List UInt8)} {a b:Int} {k:Nat}(h:eQ a b k)(hk:¬a+(k:Int)<b):sorted (fY docs a k)=cu docs a b/\k=(b-a).toNat:=by
 unfold eQ at h;have :k=(b-a).toNat:=by omega
 exact⟨by rw [this];rfl,this⟩
theorem BI {docs:List (List UInt8)} {a b:Int} {k j:Nat} {t:List UInt8}(hk:k<(cu docs a b).length)(hj:j=(b-a).toNat)(ht:(cu docs a b).getD k []=t):kl docs a b k++ [(t,bW docs a t j)]=kl docs a b (k+1):=by
 grind[kl,au,cu]
theorem QR(docs:List (List UInt8))(a b:Int)(k:Nat):(kl docs a b k).length<=k:=by
 grind[kl,List.length_map,List.length_take]
theorem DV {docs:List (List UInt8)} {a b:Int} {k:Nat}(h:¬k<(cu docs a b).length):kl docs a b k=make docs a b:=by
 grind[kl,make,List.take_of_length_le]
theorem Hk {a b:Int} {k:Nat}(h:eQ a b k)(hp:a<=b):(k:Int)<=b-a:=by grind[eQ]
end Go.S

end
section
namespace Go.S
theorem Hl {b:List UInt8} {a:Int}(h0:0<=a)(h1:a<=b.length):inside b a=true :=by
 simp [inside,h0,h1]
theorem xg {b:List UInt8} {a e:Int}(h:e≠0):bI b a e=e:=by
 unfold bI;simp [h]
theorem uM {b:List UInt8} {a:Int}(h0:0<=a)(h1:a<=b.length):bI b a 0=0:=by
 unfold bI;simp [Hl h0 h1]
theorem CU {b:List UInt8} {a e:Int}(h:e≠0):done b a e=e:=by unfold done;rw [if_pos h]
theorem QS {b:List UInt8} {a:Int}(h0:0<=a)(h1:a<=b.length):done b a 0=if a<b.length then 2 else 0:=by
 unfold done;rw [if_neg (by decide),Hl h0 h1,if_neg (by decide)]
theorem TR(b:List UInt8):(first b).2.2=0->0<=(first b).1/\0<=(first b).2.1:=by
 unfold first
 split
 . intro _;exact⟨f? _,f? _⟩
 . split
   . intro _;exact⟨f? _,f? _⟩
   . split
     . intro _;exact⟨f? _,f? _⟩
     . intro _;refine⟨?_,?_⟩<;>simp only<;>omega
theorem qW {b:List UInt8} {p m:Int}(h0:0<=p)(h1:p<=b.length):
  cz b p m=((aU (b.drop p.toNat) m).1,(if(aU (b.drop p.toNat) m).2.2=0 then p+(aU (b.drop p.toNat) m).2.1 else 0),(aU (b.drop p.toNat) m).2.2):=by
 have hl:((b.drop p.toNat).length:Int)=b.length-p:=by rw [V!];omega
 have hb:=TR (b.drop p.toNat);have g1:(aX b p).1=(first (b.drop p.toNat)).1:=rfl;have g3:(aX b p).2.2=(first (b.drop p.toNat)).2.2:=rfl;by_cases he:(first (b.drop p.toNat)).2.2=0
 . have g2:(aX b p).2.1=p+(first (b.drop p.toNat)).2.1:=W! he;have bS:=hb he
   have F:aU (b.drop p.toNat) m=if m<(first (b.drop p.toNat)).1 then([],0,2) else if(b.length:Int)-(p+(first (b.drop p.toNat)).2.1)<(first (b.drop p.toNat)).1 then([],0,4) else(((b.drop p.toNat).drop (first (b.drop p.toNat)).2.1.toNat).take (first (b.drop p.toNat)).1.toNat,(first (b.drop p.toNat)).2.1+(first (b.drop p.toNat)).1,0):=by
    unfold aU;rw [if_neg (by simp [he]),hl];by_cases h2:m<(first (b.drop p.toNat)).1
    . rw [W! h2,W! h2]
    . rw [T! h2,T! h2];by_cases h3:(b.length:Int)-(p+(first (b.drop p.toNat)).2.1)<(first (b.drop p.toNat)).1
      . rw [W! h3,W! (by omega)]
      . rw [T! h3,T! (by omega)]
   rw [F];unfold cz;rw [g3,g1,g2,if_neg (by simp [he])];by_cases h2:m<(first (b.drop p.toNat)).1
   . simp only [W! h2];rfl
   . simp only [T! h2];by_cases h3:(b.length:Int)-(p+(first (b.drop p.toNat)).2.1)<(first (b.drop p.toNat)).1
     . simp only [W! h3];rfl
     . simp only [T! h3,H?];have a1:(p+(first (b.drop p.toNat)).2.1).toNat=p.toNat+(first (b.drop p.toNat)).2.1.toNat:=by omega
       have a2:(p+(first (b.drop p.toNat)).2.1+(first (b.drop p.toNat)).1).toNat-(p.toNat+(first (b.drop p.toNat)).2.1.toNat)=(first (b.drop p.toNat)).1.toNat:=by omega
       have a3:p+(first (b.drop p.toNat)).2.1+(first (b.drop p.toNat)).1=p+((first (b.drop p.toNat)).2.1+(first (b.drop p.toNat)).1):=by omega
       rw [S?,a1,List.drop_take,a2,a3]
 . have F:aU (b.drop p.toNat) m=([],0,(first (b.drop p.toNat)).2.2):=by unfold aU;rw [if_pos he]
   rw [F];unfold cz;rw [g3,if_pos he];simp only [if_neg he]
theorem acF(b:List UInt8):bw b=zY b:=by
 have hl:(0:Int)<=b.length:=by omega
 have s0:bI b 0 0=0:=uM (by omega) hl;have g0:=qW (b:=b) (p:=0) (m:=64) (by omega) hl;rw [show(0:Int).toNat=0 by rfl,List.drop_zero] at g0
 have r1:TL b=if(aU b 64).2.2≠0 then((b,0,(aU b 64).2.2),[]) else((b,(aU b 64).2.1,0),(aU b 64).1):=by
  unfold TL ax;rw [s0,if_neg (by decide),g0];by_cases h:(aU b 64).2.2=0
  . simp [h]
  . simp [h]
 unfold bw zY;by_cases e1:(aU b 64).2.2=0
 . rw [T! (by simp [e1])] at r1;have b1:=y8 b 64 e1;have s1:bI b (aU b 64).2.1 0=0:=uM b1.1 b1.2;have g1:=qW (b:=b) (p:=(aU b 64).2.1) (m:=64) b1.1 b1.2;generalize hn:(aU b 64).2.1=n1 at *;generalize hf:aU (b.drop n1.toNat) 64=f2 at *
   have r2:Oc b=if f2.2.2≠0 then((b,n1,f2.2.2),[]) else((b,n1+f2.2.1,0),f2.1):=by
    unfold Oc;rw [r1];unfold ax;simp only;rw [s1,if_neg (by decide),g1];by_cases h:f2.2.2=0
    . simp [h]
    . simp [h]
   by_cases e2:f2.2.2=0
   . rw [T! (by simp [e2])] at r2;have b2:=y8 (b.drop n1.toNat) 64 (by rw [hf];exact e2);rw [hf,V!] at b2;have s2:bI b (n1+f2.2.1) 0=0:=uM (by omega) (by omega);have hdl:((b.drop (n1+f2.2.1).toNat).length:Int)=b.length-(n1+f2.2.1):=by rw [V!];omega
     have r3:oW b=if(b.length:Int)-(n1+f2.2.1)<32 then((b,n1+f2.2.1,4),[]) else((b,n1+f2.2.1+32,0),(b.drop (n1+f2.2.1).toNat).take 32):=by
      unfold oW;rw [r2];unfold aC;simp only;rw [s2,if_neg (by decide)]
     by_cases h4:(b.length:Int)-(n1+f2.2.1)<32
     . rw [W! h4] at r3;rw [r3];simp only [CU (show(4:Int)≠0 by decide),e1,e2,hdl,h4,ne_eq,not_true_eq_false,Z?,H?,show ¬(4:Int)=0 by decide]
     . rw [T! h4] at r3;rw [r3];have hd:=QS (b:=b) (a:=n1+f2.2.1+32) (by omega) (by omega);by_cases h5:32<(b.length:Int)-(n1+f2.2.1)
       . rw [W! (show n1+f2.2.1+32<(b.length:Int) by omega)] at hd;simp only [hd,e1,e2,hdl,h4,h5,ne_eq,not_true_eq_false,Z?,H?,show ¬(2:Int)=0 by decide]
       . rw [T! (show ¬n1+f2.2.1+32<(b.length:Int) by omega)] at hd;have ht:(b.drop (n1+f2.2.1).toNat).take 32=b.drop (n1+f2.2.1).toNat:=I? (by omega);simp only [hd,e1,e2,hdl,h4,h5,ne_eq,not_true_eq_false,Z?,H?,r1,r2,ht]
   . rw [W! e2] at r2
     have r3:oW b=((b,n1,f2.2.2),[]):=by
      unfold oW;rw [r2];unfold aC;simp only;rw [xg e2,if_pos e2]
     rw [r3];simp only [CU e2,e1,e2,ne_eq,not_true_eq_false,not_false_eq_true,Z?,H?]
 . rw [W! e1] at r1
   have r2:Oc b=((b,0,(aU b 64).2.2),[]):=by
    unfold Oc;rw [r1];unfold ax;simp only;rw [xg e1,if_pos e1]
   have r3:oW b=((b,0,(aU b 64).2.2),[]):=by
    unfold oW;rw [r2];unfold aC;simp only;rw [xg e1,if_pos e1]
   rw [r3];simp only [CU e1,e1,ne_eq,not_false_eq_true,Z?,H?]
end Go.S

end
section
namespace Go.S
theorem tv(b t:List UInt8):qR b t=true↔t∈aW b:=by
 unfold qR;rw [decide_eq_true_iff];simp only [places,tj,List.length_map];constructor
 . intro h;have h1:0<((List.range (aW b).length).filter (fun i=>decide ((aW b).getD i []=t))).length:=by omega
   obtain⟨i,hi⟩:=List.exists_mem_of_length_pos h1;grind
 . intro h;obtain⟨i,hi,he⟩:=List.getElem_of_mem h
   have :i∈(List.range (aW b).length).filter (fun i=>decide ((aW b).getD i []=t)):=by
    grind
   grind
def fB(docs:List (List UInt8))(a:Int)(k:Nat):List (List UInt8):=sorted (aW (docs.getD (a+(k:Int)).toNat []))
def uO(docs:List (List UInt8))(a:Int)(k j:Nat)(s:List UInt8):List Int:=bW docs a s k++if s∈(fB docs a k).take j then [a+(k:Int)] else []
theorem az5(docs:List (List UInt8))(a:Int)(s:List UInt8):uO docs a 0 0 s= []:=by rfl
theorem DW {l:List (List UInt8)}(h:tm l):l.Nodup:=h.imp fun {a b} gv dR=>by
 grind[dq]
theorem qX {l:List (List UInt8)} {j:Nat}(hj:j<l.length)(s:List UInt8):s∈l.take (j+1)↔s∈l.take j\/s=l.getD j []:=by
 grind[List.take_add_one,List.getElem?_eq_getElem]
theorem QT {l:List (List UInt8)}(h:l.Nodup) {j:Nat}(hj:j<l.length):l.getD j []∉l.take j:=by
 grind[List.getElem?_eq_getElem,List.getElem_of_mem,List.length_take,List.pairwise_iff_getElem]
theorem aeW {docs:List (List UInt8)} {a:Int} {k j:Nat}(hj:j<(fB docs a k).length):uO docs a k (j+1) ((fB docs a k).getD j [])=uO docs a k j ((fB docs a k).getD j [])++ [a+(k:Int)]:=by
 have h1:(fB docs a k).getD j []∉(fB docs a k).take j:=QT (DW (lf (aW (docs.getD (a+(k:Int)).toNat [])))) hj;have h2:=(qX hj ((fB docs a k).getD j [])).2 (.inr rfl);simp_all[uO,W!,T!,C?]
theorem acG {docs:List (List UInt8)} {a:Int} {k j:Nat}(hj:j<(fB docs a k).length) {s:List UInt8}(hs:s≠(fB docs a k).getD j []):uO docs a k (j+1) s=uO docs a k j s:=by
 simp_all[uO,fB,W!,qX,T!]
theorem acH {docs:List (List UInt8)} {a:Int} {k j:Nat}(hj:¬j<(fB docs a k).length)(s:List UInt8):uO docs a k j s=uO docs a (k+1) 0 s:=by
 simp [uO,List.take_zero,List.not_mem_nil,Z?,C?];rw [I? (by omega)];by_cases h:s∈fB docs a k
 . rw [W! h];exact xf ((tv _ _).2 ((iA _ _).1 h))
 . rw [T! h,C?];refine z6 ?_;cases hh:qR (docs.getD (Int.toNat (a+(k:Int))) []) s with
   |false=>rfl
   |true=>exact absurd ((iA _ _).2 ((tv _ _).1 hh)) h
theorem aeX(docs:List (List UInt8))(a:Int)(k j:Nat)(s:List UInt8):(uO docs a k j s).length<=k+1:=by
 grind[DU,uO,List.length_append]
theorem z7(docs:List (List UInt8))(a:Int)(x:List UInt8):∀k,x∈fY docs a k↔bW docs a x k≠ []
 |0=>by simp [fY,bW]
 |k+1=>by
  rw [<-rX,F!,z7 docs a x k,iA,<-tv];cases h:qR (docs.getD (Int.toNat (a+(k:Int))) []) x with
  |true=>rw [<-xf h];simp
  |false=>grind[z6]
end Go.S
namespace Go.S
def ij(docs:List (List UInt8))(a b:Int):List bL×Int:=if cP docs a b then(make docs a b,0) else([],1)
end Go.S

end
section
namespace Go.S
abbrev Sg:=Int×Int×Int×List UInt8
def iB(a b:Int):Bool:=decide (0<=a)&&(decide (a<b)&&decide (b<=1000))
def CV(d:List bL)(a b:Int)(i:Nat):Bool:=decide (((Ha (gy d i) a b).length:Int)=((gy d i).length:Int))
def dQ(a b:Int)(d:List bL):Bool:=(iB a b&&aY d)&&(List.range d.length).all (CV d a b)
def rY(a b:Int)(d:List bL)(k:Nat):Prop :=iB a b=true/\aY d=true/\(∀i,i<k->CV d a b i=true)/\k<=d.length
def nA(a b:Int)(d:List bL):(Int×Int×Int×List UInt8)×Int:=if dQ a b d then((a,b,(d.length:Int)+1,l6 d),0) else((0,0,0,[]),1)
def CW(a b:Int)(d:List bL):Int×Int×Int×List UInt8:=(a,b,((eh d).length:Int),l6 d)
def j3(a b n:Int)(r:List UInt8):Bool:=iB a b&&(decide (1<=n)&&(decide (n<=1099511627776)&&decide ((r.length:Int)=32)))
def c9(docs:List (List UInt8))(a b:Int):Bool:=cP docs a b&&decide (a<b)
def sg(l:List Sg)(i:Nat):Sg:=l.getD i (0,0,0,[])
def vt(l:List Sg)(i:Nat):Bool:=j3 (sg l i).1 (sg l i).2.1 (sg l i).2.2.1 (sg l i).2.2.2&& !(decide (0<i)&& !decide ((sg l i).1=(sg l (i-1)).2.1))
def nE(l:List Sg)(n:Int):Bool:=
 if l.length=0 then decide (n=0)
 else(List.range l.length).all (vt l)&&(decide ((l.length:Int)<=64)&&(decide ((sg l 0).1=0)&&decide ((sg l (l.length-1)).2.1=n)))
theorem aoC {l:List Int} {a b:Int}(h:cc l=true)(h0:l.length≠0):(Ha l a b).length=l.length↔a<=l.getD 0 0/\l.getD (l.length-1) 0<b:=by
 have hs:∀n,n<l.length->∀i,i<=n->l.getD i 0<=l.getD n 0:=by
  intro n;induction n with
  |zero=>intro _ i hi;rw [show i=0 by omega];exact f? _
  |succ n ih=>
   intro hn i hi;by_cases e:i=n+1
   . rw [e];exact f? _
   . have h1:=ih (by omega) i (by omega);have h2:=(kM l (n+1)).1 ((kL l).1 h (n+1) hn);rw [mH] at h2;omega
 simp only [Ha,okL,h,H?];rw [List.length_filter_eq_length_iff];constructor
 . intro jO;have h1:=jO _ (bu l 0 0 (by omega));have h2:=jO _ (bu l (l.length-1) 0 (by omega));simp only [qQ,B!,I!] at h1 h2;exact⟨h1.1,h2.2⟩
 . rintro⟨h1,h2⟩ x hx;obtain⟨i,hi,rfl⟩:=List.mem_iff_getElem.1 hx;have e:l[i]=l.getD i 0:=by rw [H!,D! hi];rfl
   rw [e];have q1:=hs i hi 0 (J! _);have q2:=hs (l.length-1) (by omega) i (by omega);simp only [qQ,B!,I!];omega
theorem az6 {a b:Int} {d:List bL}(h1:iB a b=true)(h2:aY d=true):rY a b d 0:=⟨h1,h2,fun i hi=>by omega,J! _⟩
theorem acI {a b:Int} {d:List bL} {k:Nat}(h:rY a b d k)(hk:(k:Int)<d.length)(he:CV d a b k=true):rY a b d (k+1):=by
 refine⟨h.1,h.2.1,fun i hi=> ?_,by omega⟩;by_cases e:i=k
 . subst e;exact he
 . exact h.2.2.1 i (by omega)
theorem aeY {a b:Int} {d:List bL} {k:Nat}(hk:(k:Int)<d.length)(he:CV d a b k=false):false=dQ a b d:=by
 symm
 simp only [dQ]
 have :(List.range d.length).all (CV d a b)=false :=by
  rw [List.all_eq_false];exact⟨k,by rw [q?];omega,by rw [he];decide⟩
 rw [this,Bool.and_false]
theorem aeZ {a b:Int} {d:List bL} {k:Nat}(h:rY a b d k)(hk:¬(k:Int)<d.length):true=dQ a b d:=by
 symm
 simp only [dQ,h.1,h.2.1,Bool.true_and,E?,q?];intro i hi;exact h.2.2.1 i (by have :=h.2.2.2;omega)
theorem aoD {a b:Int} {d:List bL}(h:iB a b=false\/aY d=false):false=dQ a b d:=by
 symm
 rcases h with h|h<;>simp only [dQ,h,Bool.false_and,Bool.and_false]
theorem acJ {a b:Int} {d:List bL}(h:dQ a b d=true):aY d=true :=by
 simp only [dQ,B!] at h;exact h.1.2
end Go.S
namespace Go.S
theorem acK {d:List bL} {k:Nat}(h:aY d=true)(hk:(k:Int)<d.length):0<(gy d k).length/\(gy d k).length<=1000:=by
 have hq:=(qS d k).1 ((uK d).1 h k (by omega));exact⟨by have :=hq.2.1;omega,mI hq.2.2.1⟩
theorem Hm {a b:Int} {d:List bL}(h:dQ a b d=false):nA a b d=((0,0,0,[]),1):=by simp only [nA,h];rfl
theorem oY {a b:Int} {d:List bL}(h:dQ a b d=true):nA a b d=((a,b,(d.length:Int)+1,l6 d),0)/\dE d=0/\uJ d=l6 d:=by
 have hd:=acJ h;refine⟨by simp only [nA,h,H?],by simp only [dE,hd,H?],by simp only [uJ,hd,H?]⟩
end Go.S

end
section
namespace Go.S
def cQ(docs:List (List UInt8))(a b:Int):(Int×Int×List bL)×Int:=if c9 docs a b then((a,b,make docs a b),0) else((0,0,[]),1)
def uP(a1 a2:Int)(a3:List bL)(b1 b2:Int)(b3:List bL):Bool:=decide (a1=b1)&&(decide (a2=b2)&&decide (a3=b3))
def rowAt(l:List Sg)(k:Nat):Int:=if k=0 then 0 else(sg l (k-1)).2.1
def sW(l:List Sg)(k:Nat):Prop :=(∀i,i<k->vt l i=true)/\k<=l.length/\l.length<=64/\(0<k->(sg l 0).1=0)
end Go.S
namespace Go.S
theorem DX {m r d:List (List UInt8)} {i:Nat}(h:i<=m.length):(m.take i++r++d).take i=m.take i:=by
 grind
theorem Od {b:List UInt8}(h:small b):small (aW b):=by
 grind[uF,small]
theorem Oe {l:List (List UInt8)}(h:small l):small (eo l):=by
 grind[small,eo,List.length_mergeSort]
end Go.S
namespace Go.S
theorem Hn(a b:Bool):(Bool.rec false b a:Bool)=(a&&b):=by cases a<;>rfl
theorem QU {docs:List (List UInt8)} {a b:Int}(h:¬(ij docs a b).2=0):cQ docs a b=((0,0,[]),1)/\(ij docs a b).2=1:=by
 unfold ij at *;by_cases hf:cP docs a b=true
 . grind
 . grind[cQ,c9,cP]
theorem ae0 {docs:List (List UInt8)} {a b:Int}(h:(ij docs a b).2=0):cP docs a b=true/\ij docs a b=(make docs a b,0):=by
 grind[ij]
theorem QV {docs:List (List UInt8)} {a b:Int}(h:a=b):cQ docs a b=((0,0,[]),1):=by
 grind[cQ,c9]
theorem QW {docs:List (List UInt8)} {a b:Int}(h:(ij docs a b).2=0)(dR:¬a=b):cQ docs a b=((a,b,(ij docs a b).1),0):=by
 obtain⟨h1,h2⟩:=ae0 h;unfold cQ c9
 have hp:a<=b:=by
  simp_all[cP,B!,I!]
 grind
def qY(l:List Sg)(k:Nat):Bool:=decide ((sg l k).1=rowAt l k)&&j3 (sg l k).1 (sg l k).2.1 (sg l k).2.2.1 (sg l k).2.2.2
theorem ae1 {l:List Sg} {n:Int}(h:(64:Int)<l.length):false=nE l n:=by
 grind[nE]
theorem aoE {l:List Sg}(h:¬(64:Int)<l.length):sW l 0:=⟨fun i hi=>by omega,J! _,by omega,fun h=>by omega⟩
theorem Ho(l:List Sg):rowAt l 0=0:=rfl
theorem QX(l:List Sg)(k:Nat):rowAt l (k+1)=(sg l k).2.1:=by rfl
theorem Li {l:List Sg} {k:Nat}(h:0<k):vt l k=qY l k:=by
 grind[vt,qY,rowAt]
theorem Hp {l:List Sg}:vt l 0=j3 (sg l 0).1 (sg l 0).2.1 (sg l 0).2.2.1 (sg l 0).2.2.2:=by simp [vt]
theorem acL {l:List Sg} {k:Nat} {n:Int}(hc:sW l k)(hk:(k:Int)<l.length)(h:qY l k=false):false=nE l n:=by
 unfold nE;by_cases h0:k=0
 . subst h0;unfold qY at h;rw [Ho] at h;by_cases h1:(sg l 0).1=0
   . have :(List.range l.length).all (vt l)=false :=by
      rw [List.all_eq_false];exact⟨0,by grind,by grind[Hp]⟩
     grind
   grind
 . have :(List.range l.length).all (vt l)=false :=by
    rw [List.all_eq_false];exact⟨k,by grind,by grind[Li]⟩
   grind
theorem TS {l:List Sg} {k:Nat}(hc:sW l k)(hk:(k:Int)<l.length)(h:qY l k=true):sW l (k+1):=by
 refine⟨fun i hi=> ?_,by omega,hc.2.2.1,fun _=> ?_⟩
 . by_cases e:i=k
   . by_cases h0:i=0
     . unfold qY at h;grind[Hp]
     grind[Li]
   . exact hc.1 i (by omega)
 . by_cases h0:k=0
   . subst h0;unfold qY at h;rw [Bool.and_eq_true,decide_eq_true_eq] at h;exact h.1
   . exact hc.2.2.2 (by omega)
theorem acM {l:List Sg} {k:Nat} {n:Int}(hc:sW l k)(hk:¬(k:Int)<l.length):decide (rowAt l k=n)=nE l n:=by
 obtain⟨h1,h2,h3,h4⟩:=hc;have CX:k=l.length:=by omega
 subst CX;unfold nE;by_cases h0:l.length=0
 . rw [W! h0,h0,Ho,decide_eq_decide];omega
 . have e2:decide ((l.length:Int)<=64)=true :=P? (by omega);have e3:decide ((sg l 0).1=0)=true :=P? (h4 (by omega));simp_all[Bool.true_and,rowAt,T!]
end Go.S
namespace Go.S
theorem aoF {d:List bL} {t:List UInt8}(h:fx d t=false): []=ji d t:=by grind[ji]
theorem aoG {d:List bL} {t:List UInt8}(h:fx d t=true):small (List.getD d (Int.toNat (br d t)) ([],[])).2:=by
 obtain⟨h0,h1,_⟩:=apA h
 have hr:aY d=true :=by
  grind[aY,br]
 have :=acK (d:=d) (k:=Int.toNat (br d t)) hr (by omega);grind[small,gy]
end Go.S
namespace Go.S
theorem QY {l:List Sg} {k:Nat}(h:¬(sg l k).1=rowAt l k\/j3 (sg l k).1 (sg l k).2.1 (sg l k).2.2.1 (sg l k).2.2.2=false):qY l k=false :=by
 grind[qY]
theorem TT {l:List Sg} {k:Nat}(h:(sg l k).1=rowAt l k/\j3 (sg l k).1 (sg l k).2.1 (sg l k).2.2.1 (sg l k).2.2.2=true):qY l k=true :=by
 grind[qY,decide_eq_true]
end Go.S

end
section
namespace Go.S
def pS(e:bL):Bool:=decide ((200:Int)<e.1.length) || decide ((200:Int)<e.2.length)
def fN(d:List bL):Bool:=d.any pS || decide ((100:Int)<d.length)
def xh(d:List bL)(k:Nat):Prop :=(∀e∈d.take k,pS e=false)/\k<=d.length
def l7(docs:List (List UInt8)):Bool:=docs.any (fun b=>decide ((2500:Int)<b.length)) || decide ((40:Int)<docs.length)
def xi(docs:List (List UInt8))(k:Nat):Prop :=(∀b∈docs.take k,b.length<=2500)/\k<=docs.length
theorem aHJ(d:List bL):xh d 0:=⟨by simp,J! _⟩
theorem take_one {α:Type}(l:List α)(k:Nat)(x:α)(hk:k<l.length):l.take (k+1)=l.take k++ [l.getD k x]:=by
 simp_all
theorem ae2 {d:List bL} {k:Nat}(h:xh d k)(hk:(k:Int)<d.length)(he:pS (d.getD k ([],[]))=false):xh d (k+1):=by
 refine⟨fun e hm=> ?_,by omega⟩;rw [take_one d k ([],[]) (by omega),F!] at hm;rcases hm with hm|hm
 . exact h.1 e hm
 grind
theorem aoH {d:List bL} {k:Nat}(hk:(k:Int)<d.length)(he:pS (d.getD k ([],[]))=true):true=fN d:=by
 grind[fN]
theorem aoI {d:List bL} {k:Nat}(h:xh d k)(hk:¬(k:Int)<d.length):decide ((100:Int)<d.length)=fN d:=by
 unfold fN
 have :d.any pS=false :=by
  rw [List.any_eq_false];intro e he;have :=h.1 e (by grind[List.take_of_length_le]);grind
 grind
theorem TU {d:List bL}(h:fN d=false):d.length<=100/\∀e∈d,e.1.length<=200/\e.2.length<=200:=by
 unfold fN at h;rw [Bool.or_eq_false_iff,decide_eq_false_iff_not,List.any_eq_false] at h;refine⟨by omega,fun e he=> ?_⟩;have :=h.1 e he;simp [pS,Bool.or_eq_true,decide_eq_true_eq,not_or] at this;omega
theorem aHK(d:List (List UInt8)):xi d 0:=⟨by simp,J! _⟩
theorem ae3 {d:List (List UInt8)} {k:Nat}(h:xi d k)(hk:(k:Int)<d.length)(he:¬(2500:Int)<(d.getD k []).length):xi d (k+1):=by
 refine⟨fun e hm=> ?_,by omega⟩;rw [take_one d k [] (by omega),F!] at hm;rcases hm with hm|hm
 . exact h.1 e hm
 grind
theorem aoJ {d:List (List UInt8)} {k:Nat}(hk:(k:Int)<d.length)(he:(2500:Int)<(d.getD k []).length):true=l7 d:=by
 grind[l7]
theorem aoK {d:List (List UInt8)} {k:Nat}(h:xi d k)(hk:¬(k:Int)<d.length):decide ((40:Int)<d.length)=l7 d:=by
 unfold l7
 have :d.any (fun b=>decide ((2500:Int)<b.length))=false :=by
  rw [List.any_eq_false];intro e he;have :=h.1 e (by grind[List.take_of_length_le]);grind
 grind
end Go.S

end
section
namespace Go.S
theorem n0 {docs:List (List UInt8)} {f t:Int}(h:c9 docs f t=true):fA docs f t:=by
 simp [c9,cP,Bool.and_eq_true,List.all_eq_true,decide_eq_true_eq] at h;obtain⟨⟨h1,h2,h3,h4,h5⟩,h6⟩:=h;exact⟨h3,h4,h5,by omega,fun d hd=>by grind⟩
theorem QZ(a b:Int)(d:List bL):uP a b d a b d=true :=by simp [uP]
theorem Va {a b:Int} {d:List bL}(h:dQ a b d=true):nA a b d=((a,b,(d.length:Int)+1,l6 d),0):=by grind[nA]
theorem uQ(a b:Int)(d:List bL):CW a b d=(a,b,(d.length:Int)+1,l6 d):=by simp [CW,eh,ez]
end Go.S
namespace Go.S
theorem gF(l:List (List UInt8)):cR (leaves l)=true :=by
 rw [cb];intro d hd;simp [leaves,g?] at hd;obtain⟨b,_,rfl⟩:=hd;rfl
theorem ae4 {a b:Int} {d:List bL}(h:dQ a b d=true)(hp:bf d):j3 a b ((d.length:Int)+1) (l6 d)=true :=by
 have hw:iB a b=true :=by
  simp_all[dQ,B!]
 have hr:(l6 d).length=32:=yf (gF (eh d));unfold j3;rw [hw,hr];have :=hp.1;grind
end Go.S

end
section
namespace Go.S
theorem EV:∀(l acc:List Int),∀W∈jZ acc l,W≠ []
 | [],acc,W,hW=>by
   simp only [jZ] at hW;split at hW
   . cases hW
   . rename_i h;rw [m?.1 hW];intro e;rw [e] at h;exact h rfl
 |x::l,acc,W,hW=>by
  simp only [jZ] at hW;split at hW
  . exact EV l _ W hW
  . split at hW
    . exact EV l _ W hW
    . rename_i h;rcases L!.1 hW with e|hW
      . subst e;intro e;rw [e] at h;exact h rfl
      . exact EV l _ W hW
theorem Q0 {b t:List UInt8}(h:t∈aW b):isTerm t=true :=by
 rw [<-acm];simp only [aW,g?] at h;obtain⟨W,hW,hs⟩:=h;have aI:=BC (decode b) [] (by simp) W hW;have dR:=EV (decode b) [] W hW
 have hrW:∀c∈W,bD (bj c)=true :=fun c hc=>uE (lT b c (by
  rcases(aI c hc).2 with h|h
  . cases h
  . exact h))
 have hlen:t.length<=64:=by rw [<-hs];exact yd W [] (by simp)
 obtain⟨p,hp,hpf,hpn⟩:∃p:List Int,(∀c∈p,c∈W)/\jE [] W=p.flatMap (fun c=>fh (bj c))/\p≠ []:=by
  cases W with
  |nil=>exact absurd rfl dR
  |cons c w=>
   obtain⟨p,h1,h2⟩:=wX w ([]++fh (bj c));have hl:(fh (bj c)).length<=4:=by rw [BE (hrW c (by simp))];exact(wV (hrW c (by simp)) []).2.2
   refine⟨c::p,fun x hx=> ?_,?_,by simp⟩
   . rcases L!.1 hx with hx|hx
     . simp [hx]
     . simp [h1 x hx]
   . simp only [jE,x?];rw [T! (by omega),h2,List.flatMap_cons,t?]
 have hr:∀c∈p,bD (bj c)=true :=fun c hc=>hrW c (hp c hc)
 have Nb:t=(p.map bj).flatMap enc:=by
  rw [<-hs];show jE [] W=_
  rw [hpf,List.flatMap_map];exact rU fun c hc=>BE (hr c hc)
 have hd:decode t=p.map bj:=by
  rw [Nb]
  exact wW _ (fun c hc=>by
   obtain⟨c',h',rfl⟩:=g?.1 hc;exact hr c' h')
 simp only [Tx,B!,I!,E?,Tw,hd];refine⟨fun c hc=> ?_,?_,by omega⟩
 . obtain⟨c',h',rfl⟩:=g?.1 hc;exact⟨DN (aI c' (hp c' h')).1,BD c'⟩
 . have :=List.length_pos_iff.2 hpn;simp;omega
end Go.S
namespace Go.S
theorem rZ {docs:List (List UInt8)} {a:Int} {t:List UInt8} {k:Nat} {i:Int}:i∈bW docs a t k↔a<=i/\i<a+(k:Int)/\qR (docs.getD i.toNat []) t=true :=by
 simp only [bW,g?,List.mem_filter,q?];constructor
 . rintro⟨q,⟨h1,h2⟩,rfl⟩;exact⟨by omega,by omega,h2⟩
 . rintro⟨h1,h2,h3⟩;refine⟨(i-a).toNat,⟨by omega,?_⟩,by omega⟩;rw [show a+(((i-a).toNat:Nat):Int)=i by omega];exact h3
theorem Of(docs:List (List UInt8))(a:Int)(t:List UInt8)(k:Nat):(bW docs a t k).Pairwise (· < ·):=by
 simp only [bW];refine List.pairwise_map.2 ?_;refine List.Pairwise.filter _ ?_;exact(List.pairwise_lt_range (n:=k)).imp fun {x y} h=>by omega
theorem acN {l:List Int}(h:l.Pairwise (· < ·))(hb:∀x∈l,0<=x/\x<1000):cc l=true :=by
 rw [kL];intro i hi;rw [kM];have hm:=hb _ (bu l i 0 hi);refine⟨?_,hm.2⟩;cases i with
 |zero=>simp only [eU,W!];omega
 |succ i=>
  rw [mH];have :=(List.pairwise_iff_getElem.1 h) i (i+1) (by omega) hi (by omega);rw [H!,H!,D! hi,D! (show i<l.length by omega)];exact this
theorem yh(docs:List (List UInt8))(a b:Int):(make docs a b).length=(cu docs a b).length:=by simp [make]
theorem Og {docs:List (List UInt8)} {a b:Int} {i:Nat}(h:i<(cu docs a b).length):dI (make docs a b) i=(cu docs a b).getD i []:=by
 unfold dI make;rw [List.getD_eq_getElem?_getD,List.getElem?_map,List.getElem?_eq_getElem h,List.getD_eq_getElem?_getD,List.getElem?_eq_getElem h];rfl
theorem Oh {docs:List (List UInt8)} {a b:Int} {i:Nat}(h:i<(cu docs a b).length):gy (make docs a b) i=bW docs a ((cu docs a b).getD i []) (b-a).toNat:=by
 unfold gy make;rw [List.getD_eq_getElem?_getD,List.getElem?_map,List.getElem?_eq_getElem h,List.getD_eq_getElem?_getD,List.getElem?_eq_getElem h];rfl
theorem oZ {docs:List (List UInt8)} {a b:Int} {t:List UInt8}:t∈cu docs a b↔bW docs a t (b-a).toNat≠ []:=by
 unfold cu;rw [iA,z7]
theorem xj {docs:List (List UInt8)} {a b:Int}(hp:fA docs a b):aY (make docs a b)=true :=by
 rw [uK];intro i hi;rw [yh] at hi;rw [qS,Og hi,Oh hi];have hm:=bu (cu docs a b) i [] hi;have dR:=oZ.1 hm;have h1:=hp.1;have h2:=hp.2.1;have h3:=hp.2.2.1;have h4:=hp.2.2.2.1;refine⟨?_,?_,?_,?_⟩
 . by_cases h0:i=0
   . exact .inl h0
   right;rw [Og (by omega)];have Nn:tm (cu docs a b):=lf _;have :=(List.pairwise_iff_getElem.1 Nn) (i-1) i (by omega) hi (by omega);rw [QP,H!,H!,D! hi,D! (show i-1<(cu docs a b).length by omega)];simpa using this
 . intro e;exact dR (M?.1 e)
 . refine acN (Of _ _ _ _) fun x hx=> ?_;have :=rZ.1 hx;omega
 . obtain⟨x,hx⟩:=List.exists_mem_of_ne_nil _ dR;have :=rZ.1 hx;exact Q0 ((tv _ _).1 this.2.2)
theorem TV {docs:List (List UInt8)} {a b:Int}(hp:fA docs a b)(hn:(cu docs a b).length<=1048576):bf (make docs a b):=by
 refine⟨by rw [yh];exact hn,fun e he=> ?_⟩;simp only [make,g?] at he;obtain⟨t,ht,rfl⟩:=he;obtain⟨x,hx⟩:=List.exists_mem_of_ne_nil _ (oZ.1 ht);have h:=Q0 ((tv _ _).1 (rZ.1 hx).2.2);have :=xc h;simp only;omega
end Go.S

end
section
namespace Go.S
end Go.S
namespace Go.S
end Go.S
namespace Go.S
theorem ae5 {docs:List (List UInt8)} {a b:Int}(hp:fA docs a b)(gv:a<b):dQ a b (make docs a b)=true :=by
 have h1:=hp.1;have h2:=hp.2.2.1;have h3:=hp.2.2.2.1;unfold dQ;rw [xj hp]
 have hw:iB a b=true :=by
  unfold iB;simp;omega
 rw [hw,Bool.true_and,Bool.true_and,List.all_eq_true];intro i hi;rw [List.mem_range] at hi;have hr:=(qS _ _).1 ((uK _).1 (xj hp) i hi);unfold CV;rw [decide_eq_true_eq];have h:=(aoC hr.2.2.1 hr.2.1 (a:=a) (b:=b)).2 ?_
 . omega
 . rw [yh] at hi
   have hd:∀x∈gy (make docs a b) i,a<=x/\x<b:=fun x hx=>by
    rw [Oh hi] at hx;have :=rZ.1 hx;omega
   exact⟨(hd _ (bu _ 0 0 (by omega))).1,(hd _ (bu _ _ 0 (by omega))).2⟩
end Go.S

end
section
namespace Go.S
theorem Oi {n:Nat}(h:n<=64)(r:List UInt8):first (num (n:Int)++r)=((n:Int),1,0):=by
 have e:num (n:Int)= [UInt8.ofNat n]:=Bw n (by omega);have hn:(UInt8.ofNat n).toNat=n:=by grind[UInt8.toNat_ofNat']
 have hl:lead (num (n:Int)++r)=0:=by
  grind[lead,List.singleton_append,List.takeWhile,decide,decide_eq_false]
 grind[first,cT,List.take,UInt8.ofNat]
theorem y9 {a:List UInt8}(h:a.length<=64)(r:List UInt8):aU (text a++r) 64=(a,1+(a.length:Int),0):=by
 have e:text a++r=num (a.length:Int)++(a++r):=by simp [text]
 have el:num (a.length:Int)= [UInt8.ofNat a.length]:=Bw _ (by omega);have hf:=Oi (n:=a.length) h (a++r);unfold aU;rw [e,hf,if_neg (by simp),if_neg (by omega),if_neg (by grind)];simp [el]
theorem ae6 {a:List UInt8}(h:a.length<=64):(text a).length=1+a.length:=by
 grind[num,UInt8.ofNat,Bw,text]
theorem TW {b:List UInt8}(h:(first b).2.2=0):num (first b).1=b.take (first b).2.1.toNat/\(first b).2.1<=b.length:=by
 unfold first at h |-
 split at h
 . cases h
 . rename_i h1;split at h
   . cases h
   . rename_i h2;split at h
     . cases h
     . rename_i h3;rw [T! h1,T! h2,T! h3];have q:lead b<=b.length:=List.Sublist.length_le (List.takeWhile_sublist _);refine⟨?_,by simp;omega⟩;have :num (cT (b.take (lead b+1)))=b.take (lead b+1):=N? fun e=>h3 (.inr e);congr 1
theorem Q1 {a b c:List UInt8}(h:eI a b c=true):bw (fG a b c)=((a,b,c),0):=by
 simp [eI,B!,I!] at h;rw [acF];have h1:=y9 (a:=a) (by omega) (text b++c);have h2:=y9 (a:=b) (by omega) c;have l1:=ae6 (a:=a) (by omega);have l2:=ae6 (a:=b) (by omega);have hB:fG a b c=text a++(text b++c):=by simp [fG]
 have d1:(text a++(text b++c)).drop (1+(a.length:Int)).toNat=text b++c:=by
  rw [show(1+(a.length:Int)).toNat=(text a).length by omega];simp
 have d2:(text a++(text b++c)).drop (1+(a.length:Int)+(1+(b.length:Int))).toNat=c:=by
  rw [show(1+(a.length:Int)+(1+(b.length:Int))).toNat=(text a).length+(text b).length by omega,<-S?];simp
 unfold zY;rw [hB,h1,if_neg (by simp)];simp only [d1,h2,d2];rw [if_neg (by simp),if_neg (by omega),if_neg (by omega)]
end Go.S
namespace Go.S
end Go.S
namespace Go.S
end Go.S
namespace Go.S
end Go.S

end
section
namespace Go.S
abbrev aT:=Int×Int×List bL
def aB(l:List aT)(i:Nat):aT:=l.getD i (0,0,[])
def dT(d:List bL):List (List UInt8):=d.map (·.1)
def axY(l:List aT):List (List UInt8):=l.flatMap fun s=>dT s.2.2
def uT(l:List aT):List (List UInt8):=sorted (axY l)
def pT(t:List UInt8)(d:List bL):List Int:=(d.filter fun e=>decide (e.1=t)).flatMap (·.2)
def CY(l:List aT)(t:List UInt8):List Int:=l.flatMap fun s=>pT t s.2.2
def anQ(l:List aT)(k:Nat):List bL:=((uT l).take k).map fun t=>(t,CY l t)
def Oj(l:List aT):List bL:=(uT l).map fun t=>(t,CY l t)
def abt(l:List aT)(k:Nat)(s:aT):Int:=(((dT s.2.2).filter fun t=>decide (t∈(uT l).take k)).length:Nat)
def abn(l:List aT)(k:Nat):List Int:=l.map (abt l k)
def abk(l:List aT)(k i:Nat):List Int:=(abn l (k+1)).take i++(abn l k).drop i
def anP(l:List aT)(nx:List Int):Nat->Int
 |0=> -1
 |i+1=>if nx.getD i 0=((aB l i).2.2.length:Int) then anP l nx i
  else if anP l nx i<0\/Op.bytesLess (dI (aB l i).2.2 (nx.getD i 0).toNat) (dI (aB l (anP l nx i).toNat).2.2 (nx.getD (anP l nx i).toNat 0).toNat)=true then(i:Int)
  else anP l nx i
def apB(l:List aT):Prop :=l.length<=1000/\∀s∈l,aY s.2.2=true/\s.2.2.length<=1048576
def qZ(s:aT):Bool:=dQ s.1 s.2.1 s.2.2
def ae7(l:List aT)(i:Nat):Bool:=decide ((aB l (i+1)).1=(aB l i).2.1)
def Ol(l:List aT):Bool:=(List.range (l.length-1)).all (ae7 l)
def ae8(l:List aT):Prop :=l.length<=1000/\∀s∈l,bf s.2.2
def Vb(l:List aT):(Int×Int×List bL)×Int:=
 if l.length=0 then((0,0,[]),1)
 else if l.all qZ=false then((0,0,[]),1)
 else if Ol l=false then((0,0,[]),7)
 else(((aB l 0).1,(aB l (l.length-1)).2.1,Oj l),0)
theorem azd {P:List UInt8->Bool}:∀ {l:List (List UInt8)},tm l->(∀x∈l,∀y∈l,Op.bytesLess x y=true->P y=true->P x=true)->
  l.take (l.filter P).length=l.filter P/\l.drop (l.filter P).length=l.filter fun x=> !P x
 | [],_,_=>⟨rfl,rfl⟩
 |x::l,h,hP=>by
  have h1:=W?.1 h;have ih:=azd (l:=l) h1.2 fun a ha b hb=>hP a (G! _ ha) b (G! _ hb);cases hx:P x with
  |true=>
   grind
  |false=>
   grind[List.mem_cons_self,List.mem_cons_of_mem,List.filter_eq_nil_iff,List.filter_eq_self]
theorem ay0 {T:List (List UInt8)}(h:tm T)(k:Nat) {x y:List UInt8}(hx:x∈T)(hxy:Op.bytesLess x y=true)(hy:y∈T.take k):x∈T.take k:=by
 grind[List.take_append_drop,tm,jT]
theorem Om(d:List bL):(dT d).length=d.length:=by simp [dT]
theorem On(d:List bL)(i:Nat):(dT d).getD i []=dI d i:=by
 grind[dT,dI]
theorem acO {a b:List UInt8}(h:xb a b=false):Op.bytesLess b a=true :=by
 grind[xb,Bool.or_eq_false_iff,decide_eq_false_iff_not,iO,absurd]
theorem xk {d:List bL}(h:aY d=true):tm (dT d):=by
 have hs:∀n i,i<n->n<d.length->Op.bytesLess (dI d i) (dI d n)=true :=by
  intro n;induction n with
  |zero=>omega
  |succ n ih=>
   grind[qS,uK,acO,mF]
 unfold tm;grind[List.pairwise_iff_getElem,dT,dI,On,List.getElem?_eq_getElem,Om]
theorem ay9 {l:List aT} {s:aT}(hs:s∈l) {t:List UInt8}(ht:t∈dT s.2.2):t∈uT l:=by
 grind[uT,iA,axY]
theorem ae9(l:List aT):tm (uT l):=lf _
theorem aAK {l:List aT} {s:aT}(hs:s∈l)(hd:aY s.2.2=true)(k:Nat):
  (dT s.2.2).take (abt l k s).toNat=(dT s.2.2).filter (fun t=>decide (t∈(uT l).take k))/\(dT s.2.2).drop (abt l k s).toNat=(dT s.2.2).filter fun t=> !decide (t∈(uT l).take k):=by
 have :=azd (P:=fun t=>decide (t∈(uT l).take k)) (xk hd) fun x hx y hy hxy hPy=>by
  grind[ay0,ae9,ay9]
 grind[abt,Int.toNat_natCast]
theorem avH(l:List aT)(k:Nat)(s:aT):0<=abt l k s/\abt l k s<=s.2.2.length:=by
 grind[abt,List.length_filter_le,decide,uT,dT,Om]
theorem aAD {l:List aT} {s:aT}(hs:s∈l)(hd:aY s.2.2=true) {k:Nat}(h:abt l k s<s.2.2.length):
  dI s.2.2 (abt l k s).toNat∈dT s.2.2/\dI s.2.2 (abt l k s).toNat∈uT l/\dI s.2.2 (abt l k s).toNat∉(uT l).take k/\∀t∈dT s.2.2,t∉(uT l).take k->t=dI s.2.2 (abt l k s).toNat\/Op.bytesLess (dI s.2.2 (abt l k s).toNat) t=true :=by
 have h0:=avH l k s;have hc:=(aAK hs hd k).2;have hn:(abt l k s).toNat<(dT s.2.2).length:=by grind[Om]
 have aQ7:(dT s.2.2).drop (abt l k s).toNat=dI s.2.2 (abt l k s).toNat::(dT s.2.2).drop ((abt l k s).toNat+1):=by
  rw [<-On,H!,D! hn];simp_all
 have hm:dI s.2.2 (abt l k s).toNat∈(dT s.2.2).filter fun t=> !decide (t∈(uT l).take k):=by
  grind
 simp at hm;refine⟨hm.1,ay9 hs hm.1,hm.2,fun t ht hk=> ?_⟩;grind[tm,dT,abt,xk,List.drop_sublist,List.pairwise_cons]
theorem aG4 {l:List aT} {s:aT}(hs:s∈l) {k:Nat}(h:∀t∈dT s.2.2,t∈(uT l).take k):abt l k s=s.2.2.length:=by
 grind[abt,List.filter_eq_self,Om]
theorem aoO {T:List (List UInt8)} {k:Nat}(hk:k<T.length)(t:List UInt8):t∈T.take (k+1)↔t∈T.take k\/t=T.getD k []:=qX hk t
theorem aAE {l:List aT} {k:Nat}(hk:k<(uT l).length):(uT l).getD k []∉(uT l).take k:=QT (DW (ae9 l)) hk
theorem aAU {ts:List (List UInt8)}(h:tm ts) {T:List (List UInt8)} {k:Nat}(hk:k<T.length)(hn:T.getD k []∉T.take k):
  (ts.filter fun t=>decide (t∈T.take (k+1))).length=(ts.filter fun t=>decide (t∈T.take k)).length+(if T.getD k []∈ts then 1 else 0):=by
 induction ts with
 |nil=>simp
 |cons x r ih=>
  have h1:=W?.1 h
  have hx:T.getD k []=x->T.getD k []∉r:=fun e hr=>by
   grind[dq]
  have ih:=ih h1.2;simp [List.filter_cons,aoO hk,decide_eq_true_eq,List.mem_cons] at ih |-;grind
def hit(l:List aT)(k:Nat)(s:aT):Prop :=abt l k s<s.2.2.length/\dI s.2.2 (abt l k s).toNat=(uT l).getD k []
theorem azk {l:List aT} {s:aT}(hs:s∈l)(hd:aY s.2.2=true) {k:Nat}(hk:k<(uT l).length):hit l k s↔(uT l).getD k []∈dT s.2.2:=by
 constructor
 . rintro⟨h1,h2⟩;grind[aAD]
 . intro hm
   have fP:abt l k s<s.2.2.length:=by
    by_cases h:abt l k s<s.2.2.length
    . exact h
    . have hc:=(aAK hs hd k).2;rw [List.drop_eq_nil_of_le (by grind[Om])] at hc
      have :(uT l).getD k []∈(dT s.2.2).filter fun t=> !decide (t∈(uT l).take k):=by
       grind[decide_eq_false,aAE]
      grind
   refine⟨fP,?_⟩;obtain⟨h1,h2,h3,h4⟩:=aAD hs hd fP;rcases h4 _ hm (aAE hk) with h5|h5
   . grind
   . exfalso;apply h3;refine(aoO hk _).1 (ay0 (ae9 l) (k+1) h2 h5 ((aoO hk _).2 (.inr rfl))) |>.resolve_right fun e=> ?_;grind[dq]
theorem aAw {l:List aT} {s:aT}(hs:s∈l)(hd:aY s.2.2=true) {k:Nat}(hk:k<(uT l).length):
  (hit l k s->abt l (k+1) s=abt l k s+1)/\(¬hit l k s->abt l (k+1) s=abt l k s):=by
 have :=aAU (xk hd) hk (aAE hk);simp_all[abt,azk,W!,T!]
theorem uR {t:List UInt8} {d:List bL}(h:t∉dT d):pT t d= []:=by
 have :d.filter (fun e=>decide (e.1=t))= []:=by
  rw [List.filter_eq_nil_iff];intro e he;simp;intro e2;exact h (by rw [<-e2];exact g?.2 ⟨e,he,rfl⟩)
 grind[pT]
theorem yi:∀ {d:List bL},tm (dT d)->∀ {i:Nat},i<d.length->pT (dI d i) d=gy d i
 | [],_,i,hi=>by rfl
 |e::d,h,0,_=>by
  have h1:=List.pairwise_cons.1 h;have hn:e.1∉dT d:=fun hm=>by have :=h1.1 _ hm;grind[dq]
  have :=uR hn;grind[pT,dI,gy]
 |e::d,h,i+1,hi=>by
  have h1:=W?.1 h
  have hm:dI d i∈dT d:=by
   rw [<-On,List.getD_eq_getElem?_getD,List.getElem?_eq_getElem (by grind[Om])];grind
  have dR:¬e.1=dI d i:=fun he=>by have h5:=h1.1 _ hm;grind[dq]
  have ih:=yi (d:=d) h1.2 (i:=i) (by grind);have e1:dI (e::d) (i+1)=dI d i:=rfl;have e2:gy (e::d) (i+1)=gy d i:=rfl;simp_all[pT,List.filter_cons,decide_eq_true_eq,if_neg]
end Go.S

end
section
namespace Go.S
theorem yj {l:List aT} {i:Nat}(h:i<l.length):aB l i∈l:=bu l i _ h
theorem anT {l:List aT} {k i:Nat}(h:i<l.length):(abn l k).getD i 0=abt l k (aB l i):=by
 grind[abn,aB,List.getElem?_eq_getElem]
theorem anW(l:List aT)(k:Nat):(abn l k).length=l.length:=by simp [abn]
theorem azh {l:List aT}(k:Nat):∀i,i<=l.length->
  (anP l (abn l k) i= -1/\∀j,j<i->abt l k (aB l j)=(aB l j).2.2.length)\/
  (∃q:Nat,anP l (abn l k) i=q/\q<i/\abt l k (aB l q)<(aB l q).2.2.length/\∀j,j<i->abt l k (aB l j)<(aB l j).2.2.length->
    Op.bytesLess (dI (aB l j).2.2 (abt l k (aB l j)).toNat) (dI (aB l q).2.2 (abt l k (aB l q)).toNat)=false)
 |0,_=> .inl ⟨rfl,fun j hj=>by omega⟩
 |i+1,hi=>by
  have ih:=azh (l:=l) k i (by omega);have h0:=avH l k (aB l i);simp only [anP];rw [anT (k:=k) (show i<l.length by omega)];by_cases he:abt l k (aB l i)=((aB l i).2.2.length:Int)
  . rw [W! he];rcases ih with⟨h1,h2⟩|⟨q,h1,h2,h3,h4⟩
    . refine .inl ⟨h1,fun j hj=> ?_⟩;by_cases e:j=i
      . rw [e];exact he
      . exact h2 j (by omega)
    . refine .inr ⟨q,h1,by omega,h3,fun j hj Kg=> ?_⟩;by_cases e:j=i
      . rw [e] at Kg;omega
      . exact h4 j (by omega) Kg
  . rw [T! he];rcases ih with⟨h1,h2⟩|⟨q,h1,h2,h3,h4⟩
    . rw [W! (Or.inl (by rw [h1];decide))];refine .inr ⟨i,rfl,by omega,by omega,fun j hj Kg=> ?_⟩;by_cases e:j=i
      . rw [e];exact dq _
      . have :=h2 j (by omega);omega
    . rw [h1];have e1:((q:Int)).toNat=q:=Q! q;rw [e1,anT (k:=k) (show q<l.length by omega)];cases hb:Op.bytesLess (dI (aB l i).2.2 (abt l k (aB l i)).toNat) (dI (aB l q).2.2 (abt l k (aB l q)).toNat) with
      |true=>
       refine .inr ⟨i,rfl,by omega,by omega,fun j hj Kg=> ?_⟩;by_cases e:j=i
       . rw [e];exact dq _
       . have h5:=h4 j (by omega) Kg;cases hc:Op.bytesLess (dI (aB l j).2.2 (abt l k (aB l j)).toNat) (dI (aB l i).2.2 (abt l k (aB l i)).toNat) with
         |false=>rfl
         |true=>rw [mF _ _ _ hc hb] at h5;cases h5
      |false=>
       refine .inr ⟨q,rfl,by omega,h3,fun j hj Kg=> ?_⟩;by_cases e:j=i
       . rw [e];exact hb
       . exact h4 j (by omega) Kg
theorem aM3 {l:List aT} {t:List UInt8}(h:t∈uT l):∃j,j<l.length/\t∈dT (aB l j).2.2:=by
 rw [uT,iA,axY,List.mem_flatMap] at h;obtain⟨s,hs,ht⟩:=h;obtain⟨j,hj,rfl⟩:=List.mem_iff_getElem.1 hs;refine⟨j,hj,?_⟩;grind[aB,List.getElem?_eq_getElem]
theorem aAF {T:List (List UInt8)} {k:Nat}(hk:k<T.length):T.getD k []∈T:=bu T k [] hk
theorem aAx {l:List aT}(hp:apB l) {k:Nat}(hk:k<(uT l).length):
  ∃q:Nat,anP l (abn l k) l.length=q/\q<l.length/\abt l k (aB l q)<(aB l q).2.2.length/\dI (aB l q).2.2 (abt l k (aB l q)).toNat=(uT l).getD k []:=by
 obtain⟨j,hj,hjt⟩:=aM3 (aAF hk);have hsj:=yj hj;obtain⟨h1,h2⟩:=(azk hsj (hp.2 _ hsj).1 hk).2 hjt;rcases azh (l:=l) k l.length (N! _) with⟨_,h4⟩|⟨q,h3,h4,h5,h6⟩
 . have :=h4 j hj;omega
 . refine⟨q,h3,h4,h5,?_⟩;have h7:=h6 j hj h1;rw [h2] at h7;have hsq:=yj h4;obtain⟨g1,g2,g3,_⟩:=aAD hsq (hp.2 _ hsq).1 h5;rcases iO ((uT l).getD k []) (dI (aB l q).2.2 (abt l k (aB l q)).toNat) with h8|h8|h8
   . rw [h7] at h8;cases h8
   . exact h8.symm
   . exfalso;apply g3;refine(aoO hk _).1 (ay0 (ae9 l) (k+1) g2 h8 ((aoO hk _).2 (.inr rfl))) |>.resolve_right fun e=> ?_;rw [e,dq] at h8;cases h8
theorem aG6 {l:List aT} {k:Nat}(hk:(uT l).length<=k):anP l (abn l k) l.length= -1:=by
 rcases azh (l:=l) k l.length (N! _) with⟨h,_⟩|⟨q,h3,h4,h5,h6⟩
 . exact h
 grind[yj,aG4,List.take_of_length_le,ay9]
theorem aAL {l:List aT}(hp:apB l)(k:Nat):anP l (abn l k) l.length<0↔(uT l).length<=k:=by
 grind[aAx,aG6]
def anN(l:List aT)(t:List UInt8)(i:Nat):List Int:=CY (l.take i) t
theorem aJS(l:List aT)(k i:Nat)(h:i<=l.length):(abk l k i).length=l.length:=by
 grind[abk,List.length_append,List.length_take,List.length_drop,anW]
theorem aQ9(l:List aT)(k:Nat):abn l k=abk l k 0:=by rfl
theorem aJT {l:List aT} {k:Nat}:abk l k l.length=abn l (k+1):=by
 simp_all[abk,I?,anW,N!,Q?,C?]
theorem azl {l:List aT} {k i:Nat}(h:i<l.length):(abk l k i).getD i 0=abt l k (aB l i):=by
 rw [<-anT h];grind[abn,List.length_take,anW,abk,List.getElem?_append_right]
theorem aG7 {l:List aT} {k i:Nat}(h:i<l.length)(he:abt l (k+1) (aB l i)=abt l k (aB l i)):abk l k i=abk l k (i+1):=by
 have e1:(abn l (k+1)).take (i+1)=(abn l (k+1)).take i++ [abt l (k+1) (aB l i)]:=by
  rw [au _ i 0 (by grind[anW]),anT h]
 have hn:i<(abn l k).length:=by grind[anW]
 have e2:(abn l k).drop i=abt l k (aB l i)::(abn l k).drop (i+1):=by
  rw [l? hn];rw [<-anT (k:=k) h,H!,D! hn];rfl
 grind[abk,List.append_assoc]
theorem aJU {l:List aT} {k i:Nat}(h:i<l.length)(he:abt l (k+1) (aB l i)=abt l k (aB l i)+1):(abk l k i).set i (abt l k (aB l i)+1)=abk l k (i+1):=by
 have hn:i<(abn l k).length:=by grind[anW]
 have e1:(abn l (k+1)).take (i+1)=(abn l (k+1)).take i++ [abt l (k+1) (aB l i)]:=by
  rw [au _ i 0 (by grind[anW]),anT h]
 have e2:(abn l k).drop i=abt l k (aB l i)::(abn l k).drop (i+1):=by
  rw [l? hn];rw [<-anT (k:=k) h,H!,D! hn];rfl
 have hl:((abn l (k+1)).take i).length=i:=by rw [X!,anW];omega
 simp_all[abk,U!,List.set_append_right,Nat.sub_self]
theorem aAV(l:List aT)(t:List UInt8):anN l t l.length=CY l t:=by simp [anN]
theorem aqw {l:List aT} {t:List UInt8} {i:Nat}(h:i<l.length):anN l t (i+1)=anN l t i++pT t (aB l i).2.2:=by
 have :l.take (i+1)=l.take i++ [aB l i]:=au l i _ h;grind[anN,CY]
theorem aAW {l:List aT}(hp:apB l) {k i:Nat}(hk:k<(uT l).length)(hi:i<l.length)(h1:abt l k (aB l i)<(aB l i).2.2.length)(h2:dI (aB l i).2.2 (abt l k (aB l i)).toNat=(uT l).getD k []):
  anN l ((uT l).getD k []) i++gy (aB l i).2.2 (abt l k (aB l i)).toNat=anN l ((uT l).getD k []) (i+1)/\(abk l k i).set i (abt l k (aB l i)+1)=abk l k (i+1):=by
 have hs:=yj hi;have hd:=(hp.2 _ hs).1;have h0:=avH l k (aB l i);refine⟨?_,aJU hi ((aAw hs hd hk).1 ⟨h1,h2⟩)⟩;grind[aqw,yi,xk]
theorem aAM {l:List aT}(hp:apB l) {k i:Nat}(hk:k<(uT l).length)(hi:i<l.length)(h:¬(abt l k (aB l i)<(aB l i).2.2.length/\dI (aB l i).2.2 (abt l k (aB l i)).toNat=(uT l).getD k [])):
  anN l ((uT l).getD k []) i=anN l ((uT l).getD k []) (i+1)/\abk l k i=abk l k (i+1):=by
 have hs:=yj hi;have hd:=(hp.2 _ hs).1;refine⟨?_,aG7 hi ((aAw hs hd hk).2 h)⟩;rw [aqw hi,uR (fun hm=>h ((azk hs hd hk).2 hm)),C?]
theorem aAN {l:List aT} {k:Nat}(hk:k<(uT l).length):anQ l k++ [((uT l).getD k [],CY l ((uT l).getD k []))]=anQ l (k+1):=by
 grind[anQ,au,uT]
theorem aAX {l:List aT} {k:Nat}(hk:(uT l).length<=k):anQ l k=Oj l:=by
 grind[anQ,Oj,List.take_of_length_le]
theorem aAY(l:List aT)(k:Nat):(anQ l k).length<=k:=by grind[anQ]
theorem aLw {l:List aT}(hp:apB l):(uT l).length<=1048576000:=by
 have h1:=mq (axY l)
 have h2:∀m:List aT,(∀s∈m,s.2.2.length<=1048576)->(axY m).length<=1048576*m.length:=by
  intro m;induction m with
  |nil=>grind[axY]
  |cons s m ih=>
   grind[List.mem_cons_of_mem,List.mem_cons_self,axY,List.length_append,Om,List.length_cons]
 have :=h2 l fun s hs=>(hp.2 s hs).2;have h3:=hp.1;grind[uT]
theorem Q2 {d:List bL}(h:aY d=true)(t:List UInt8):(pT t d).length<=1000:=by
 by_cases hm:t∈dT d
 . obtain⟨i,hi,e⟩:=List.mem_iff_getElem.1 hm;have e2:dI d i=t:=by rw [<-On,H!,D! hi];exact e
   grind[Om,yi,xk,mI,qT]
 grind[uR]
theorem azm {l:List aT}(hp:apB l)(t:List UInt8):∀i,i<=l.length->(anN l t i).length<=1000*i
 |0,_=>by simp [anN,CY]
 |i+1,hi=>by
  rw [aqw (by omega),C!];have :=azm hp t i (by omega);have :=Q2 (hp.2 _ (yj (show i<l.length by omega))).1 t;omega
end Go.S

end
section
namespace Go.S
abbrev Sp:=Int×Int
def jH(l:List Sp)(i:Nat):Sp:=l.getD i (0,0)
def lg(n:Int):Int:=(Nat.log2 n.toNat:Nat)
def az8(a b:Int):Int:=if a<0\/b<0\/b<=a then -1 else lg (b-a)
def afa(l:List Sp)(i:Nat):Int:=az8 (jH l i).1 (jH l i).2
def CZ(l:List Sp):Nat->Int×Bool
 |0=>(0,false)
 |k+1=>if afa l k<=afa l (k+1) then((k:Int),true) else CZ l k
def uS(l:List Sp):Int×Bool:=CZ l (l.length-1)
def BJ(l:List Sp)(i:Nat):List Sp:=l.take i++ [((jH l i).1,(jH l (i+1)).2)]++l.drop (i+2)
def tw:Nat->List Sp->List Sp
 |0,l=>l
 |n+1,l=>if(uS l).2 then tw n (BJ l (uS l).1.toNat) else l
def tx(l:List Sp):List Sp:=tw l.length l
def eF(l:List aT):List Sp:=l.map fun s=>(s.1,s.2.1)
def avF(a b:Int)(n:Nat):Prop :=0<=a/\a<b/\1<=n/\(n:Int)<=b-a
def apD(l:List Sp)(k:Nat):Prop :=(k+1<=l.length\/k=0)/\uS l=CZ l (l.length-1-k)
theorem aON {n:Int}(h:n<2):0=lg n:=by
 unfold lg;rw [Nat.log2_def,if_neg (by omega)];rfl
theorem aL9 {n:Int}(h:2<=n):1+lg (n/2)=lg n:=by
 unfold lg;rw [Nat.log2_def n.toNat,if_pos (by omega),show(n/2).toNat=n.toNat/2 by omega];omega
theorem aOO(n:Int):0<=lg n:=by grind[lg]
theorem aRa(n:Int)(h:0<=n):lg n<=n:=by
 unfold lg;by_cases h0:n.toNat=0
 . rw [h0];simp_all
 . have :=Nat.log2_lt (n:=n.toNat) (k:=n.toNat) h0;grind[Nat.lt_two_pow_self]
theorem Vc(l:List Sp):∀k,0<=(CZ l k).1/\((CZ l k).2=true->(CZ l k).1<k)
 |0=>⟨f? _,fun h=>by cases h⟩
 |k+1=>by
  have :=Vc l k;grind[CZ]
theorem afb {l:List Sp}(h:(uS l).2=true):0<=(uS l).1/\(uS l).1+1<l.length:=by
 have :=Vc l (l.length-1);grind[uS]
theorem acP {l:List Sp} {i:Nat}(h:i+1<l.length):(BJ l i).length+1=l.length:=by
 grind[BJ,List.length_append,List.length_take,List.length_drop,List.length_singleton]
theorem aAZ {l:List Sp}(h:(uS l).2=false):tx l=l:=by
 unfold tx;cases hl:l.length with
 |zero=>rfl
 |succ n=>grind[tw]
theorem aAO {l:List Sp}(h:(uS l).2=true):tx (BJ l (uS l).1.toNat)=tx l:=by
 have hb:=afb h;have hj:=acP (l:=l) (i:=(uS l).1.toNat) (by omega);unfold tx;rw [<-hj];simp_all[tw,if_true]
end Go.S

end
section
namespace Go.S
def bF(docs:List (List UInt8))(l:List Sp):List aT:=l.map fun s=>(s.1,s.2,make docs s.1 s.2)
def dw(l:List aT)(i:Nat):Int:=if i=0 then 0 else(aB l (i-1)).2.1
def hC(docs:List (List UInt8))(l:List aT)(i:Nat):Bool:=
 decide ((aB l i).1=dw l i)&&(c9 docs (aB l i).1 (aB l i).2.1&&decide ((aB l i).2.2=make docs (aB l i).1 (aB l i).2.1))
def bk(docs:List (List UInt8))(l:List aT):Bool:=cP docs 0 0&&(decide ((l.length:Int)<=64)&&(List.range l.length).all (hC docs l))
def aq(docs:List (List UInt8))(l:List aT):List (List UInt8)×List aT:=if bk docs l then(docs,l) else([],[])
def cD(l:List aT):Int:=dw l l.length
def fZ(docs:List (List UInt8))(l:List aT):Int:=cD (aq docs l).2
def cE(docs:List (List UInt8))(l:List aT)(doc:List UInt8):(List (List UInt8)×List aT)×Int:=
 if(2000:Int)<doc.length then(aq docs l,1)
 else if(1000:Int)<=(aq docs l).1.length then(aq docs l,3)
 else(((aq docs l).1++ [doc],(aq docs l).2),0)
def bQ(docs:List (List UInt8))(l:List aT):(List (List UInt8)×List aT)×Int:=
 if fZ docs l=(aq docs l).1.length then(aq docs l,5)
 else if(64:Int)<=(aq docs l).2.length then(aq docs l,3)
 else(((aq docs l).1,(aq docs l).2++ [(fZ docs l,((aq docs l).1.length:Int),make (aq docs l).1 (fZ docs l) (aq docs l).1.length)]),0)
def Hq(l:List aT)(i m:Nat)(s:aT):List aT:=l.take i++ [s]++l.drop (i+m)
def za(docs:List (List UInt8))(l:List aT)(i m:Nat):aT:=((aB l i).1,(aB l (i+m-1)).2.1,make docs (aB l i).1 (aB l (i+m-1)).2.1)
def Lj(l:List aT)(i m:Int):Bool:=decide (m<2) || (decide (i<0) || (decide ((l.length:Int)<m) || decide ((l.length:Int)-m<i)))
def yk(docs:List (List UInt8))(l:List aT)(i m:Int):(List (List UInt8)×List aT)×Int:=
 if Lj (aq docs l).2 i m then(aq docs l,1)
 else(((aq docs l).1,Hq (aq docs l).2 i.toNat m.toNat (za (aq docs l).1 (aq docs l).2 i.toNat m.toNat)),0)
def tz(docs:List (List UInt8))(l:List aT):List (List UInt8)×List aT:=((aq docs l).1,bF (aq docs l).1 (tx (eF (aq docs l).2)))
def BK(s:aT):Sg:=CW s.1 s.2.1 s.2.2
def aZ(docs:List (List UInt8))(l:List aT):List Sg:=(aq docs l).2.map BK
def ra(docs:List (List UInt8))(l:List aT)(k:Nat):Prop :=cP docs 0 0=true/\l.length<=64/\(∀i,i<k->hC docs l i=true)/\k<=l.length
def eG(docs:List (List UInt8)):Int->List Sp->Bool
 |_,[]=>true
 |a,s::r=>decide (s.1=a)&&(c9 docs s.1 s.2&&eG docs s.2 r)
def dK:Int->List Sp->Int
 |a,[]=>a
 |_,s::r=>dK s.2 r
theorem ay5(docs:List (List UInt8)):∀(a:Int) (l m:List Sp),eG docs a (l++m)=(eG docs a l&&eG docs (dK a l) m)
 |a,[],m=>by rfl
 |a,s::r,m=>by simp [c?,eG,dK];rw [ay5 docs s.2 r m,Bool.and_assoc,Bool.and_assoc]
theorem kN:∀(a:Int) (l m:List Sp),dK a (l++m)=dK (dK a l) m
 |_,[],_=>rfl
 |_,s::r,m=>by exact kN s.2 r m
theorem oa {docs:List (List UInt8)} {a b:Int}(h:c9 docs a b=true):a<b/\0<=a/\b<=docs.length/\docs.length<=1000/\∀d∈docs,d.length<=2000:=by
 simp [c9,cP,Bool.and_eq_true,List.all_eq_true,decide_eq_true_eq] at h;grind
theorem tA {docs:List (List UInt8)} {a b:Int}(h:cP docs 0 0=true)(h1:0<=a)(h2:a<b)(h3:b<=docs.length):c9 docs a b=true :=by
 simp [c9,cP,Bool.and_eq_true,List.all_eq_true,decide_eq_true_eq] at h |-;grind
theorem afc {docs:List (List UInt8)} {a b:Int}(h:c9 docs a b=true):cP docs 0 0=true :=by
 simp_all[c9,cP,B!,E?,I!,f?]
theorem BL {docs:List (List UInt8)}:∀ {l:List Sp} {a:Int},eG docs a l=true->a<=dK a l/\(l≠ []->c9 docs a (dK a l)=true)/\(dK a l<=docs.length\/l= [])
 | [],a,_=>⟨f? _,fun h=>absurd rfl h, .inr rfl⟩
 |s::r,a,h=>by
  simp [eG,Bool.and_eq_true,decide_eq_true_eq] at h;obtain⟨h1,h2,h3⟩:=h;have ih:=BL h3;have h4:=oa h2;grind[dK,tA,afc]
theorem qa {docs:List (List UInt8)}:∀ {l:List Sp} {a:Int},eG docs a l=true->∀s∈l,c9 docs s.1 s.2=true
 | [],_,_,s,hs=>by grind
 |t::r,a,h,s,hs=>by
  simp [eG,B!,I!] at h;rcases L!.1 hs with rfl|hs
  . exact h.2.1
  . exact qa h.2.2 s hs
theorem Hr:∀(l:List aT),dK 0 (eF l)=cD l:=by
 intro l;unfold cD dw;by_cases h:l.length=0
 . have :l= []:=Y! h;subst this;rfl
 . obtain⟨m,s,rfl⟩:∃m s,l=m++ [s]:=⟨l.dropLast,l.getLast (by grind),(List.dropLast_concat_getLast _).symm⟩
   have e:aB (m++ [s]) ((m++ [s]).length-1)=s:=by
    grind[aB,List.length_append,List.length_singleton,Nat.add_sub_cancel]
   rw [e];simp [eF,v?,T?,List.map_nil];rw [kN];rfl
theorem sH(docs:List (List UInt8))(l:List Sp):eF (bF docs l)=l:=by
 simp [eF,bF,List.map_map];have :((fun(s:aT)=>(s.1,s.2.1))∘fun(s:Sp)=>((s.1,s.2,make docs s.1 s.2):aT))=id:=by rfl
 simp_all
theorem r5(docs:List (List UInt8))(l m:List Sp):bF docs (l++m)=bF docs l++bF docs m:=by simp [bF]
theorem Ht(l m:List aT):eF (l++m)=eF l++eF m:=by simp [eF]
theorem rb(l:List aT):(eF l).length=l.length:=by simp [eF]
theorem ju(docs:List (List UInt8))(l:List Sp):(bF docs l).length=l.length:=by simp [bF]
theorem z8 {l m:List aT} {i:Nat}(h:i<l.length):aB (l++m) i=aB l i:=by
 grind[aB,List.getElem?_append_left]
theorem TX(l:List aT)(s:aT):aB (l++ [s]) l.length=s:=by
 simp_all[aB,H!,List.getElem?_append_right,N!,Nat.sub_self]
theorem Q3 {docs:List (List UInt8)}:∀(n:Nat) (l:List aT),l.length=n->((∀i,i<l.length->hC docs l i=true)↔eG docs 0 (eF l)=true/\l=bF docs (eF l))
 |0,l,h=>by
  have :l= []:=Y! h;subst this;exact⟨fun _=>⟨rfl,rfl⟩,fun _ i hi=>by omega⟩
 |n+1,l,h=>by
  obtain⟨m,s,rfl⟩:∃m s,l=m++ [s]:=⟨l.dropLast,l.getLast (by grind),(List.dropLast_concat_getLast _).symm⟩;have hm:m.length=n:=by grind
  have ih:=Q3 (docs:=docs) n m hm
  have e1:∀i,i<m.length->hC docs (m++ [s]) i=hC docs m i:=fun i hi=>by
   have h2:dw (m++ [s]) i=dw m i:=by
    unfold dw;by_cases h0:i=0
    . omega
    . rw [T! h0,T! h0,z8 (by omega)]
   grind[hC,z8]
  have e2:dw (m++ [s]) m.length=cD m:=by
   unfold cD dw;by_cases h0:m.length=0
   . omega
   . rw [T! h0,T! h0,z8 (by omega)]
  have e3:hC docs (m++ [s]) m.length=true↔s.1=cD m/\c9 docs s.1 s.2.1=true/\s.2.2=make docs s.1 s.2.1:=by
   grind[hC,TX]
  have e4:eG docs 0 (eF (m++ [s]))=true↔eG docs 0 (eF m)=true/\s.1=cD m/\c9 docs s.1 s.2.1=true :=by
   rw [Ht,ay5,Hr,B!];simp_all[eF,T?,List.map_nil,eG,Bool.and_true,B!,I!]
  have e5:m++ [s]=bF docs (eF (m++ [s]))↔m=bF docs (eF m)/\s.2.2=make docs s.1 s.2.1:=by
   rw [Ht,r5];constructor
   . intro h;have h5:=List.append_inj h (by rw [ju,rb]);have h6:=h5.2;simp only [bF,eF,List.map_cons,List.map_nil,List.cons.injEq,and_true] at h6;grind
   . rintro⟨h5,h6⟩;congr 1
     simp only [bF,eF,List.map_cons,List.map_nil,List.cons.injEq,and_true];grind
  grind
theorem BM {docs:List (List UInt8)} {l:List aT}:bk docs l=true↔cP docs 0 0=true/\l.length<=64/\eG docs 0 (eF l)=true/\l=bF docs (eF l):=by
 unfold bk;rw [Bool.and_eq_true,Bool.and_eq_true,decide_eq_true_eq,List.all_eq_true,<-Q3 (docs:=docs) l.length l rfl];grind
theorem Vd:bk [] []=true :=by decide
theorem mJ(docs:List (List UInt8))(l:List aT):bk (aq docs l).1 (aq docs l).2=true :=by
 unfold aq;by_cases h:bk docs l=true
 . grind
 simp_all[T!,Vd]
theorem fi {docs:List (List UInt8)} {l:List aT}(h:bk docs l=true):aq docs l=(docs,l):=by simp_all[aq,W!]
theorem az9 {docs:List (List UInt8)} {l:List Sp}(h1:cP docs 0 0=true)(h2:l.length<=64)(h3:eG docs 0 l=true):bk docs (bF docs l)=true :=
 BM.2 ⟨h1,by grind[ju],by grind[sH],by rw [sH]⟩
end Go.S

end
section
namespace Go.S
theorem C0:∀(l acc:List Int),2*(jZ acc l).length<=l.length+1+(if acc.isEmpty then 0 else 1)
 | [],acc=>by grind[jZ]
 |c::l,acc=>by
  simp [jZ,D?];by_cases hc:fv c=true
  . have :=C0 l (acc++ [c]);grind
  . have :=C0 l [];grind
theorem Q4(b:List UInt8):2*(aW b).length<=b.length+1:=by
 have h:=C0 (decode b) [];grind[oS,aW,List.length_map]
theorem Ll {docs:List (List UInt8)}(h:∀d∈docs,d.length<=2000)(a:Int):∀k,(fY docs a k).length<=1000*k
 |0=>by simp [fY]
 |k+1=>by
  rw [<-rX,List.length_append];have :=Ll h a k;have h2:=mq (aW (docs.getD (Int.toNat (a+(k:Int))) []));have h3:=Q4 (docs.getD (Int.toNat (a+(k:Int))) []);grind
theorem Q5 {docs:List (List UInt8)} {a b:Int}(h:c9 docs a b=true):bf (make docs a b):=by
 have hg:=oa h;grind[TV,n0,Ll,mq,fY,cu]
theorem TY {docs:List (List UInt8)} {t:List UInt8} {a b c:Int}(h:a<=b)(h2:b<=c):bW docs a t (b-a).toNat++bW docs b t (c-b).toNat=bW docs a t (c-a).toNat:=by
 have e:List.range (c-a).toNat=List.range (b-a).toNat++(List.range (c-b).toNat).map ((b-a).toNat+ ·):=by
  rw [<-List.range_add];congr 1;omega
 simp only [bW];rw [e,List.filter_append,v?,List.filter_map,List.map_map]
 have hq:((fun(i:Nat)=>qR (docs.getD (a+(i:Int)).toNat []) t)∘fun x=>(b-a).toNat+x)=fun(i:Nat)=>qR (docs.getD (b+(i:Int)).toNat []) t:=by
  funext i;simp only [Function.comp];rw [show(a+(((b-a).toNat+i:Nat):Int))=b+(i:Int) by omega]
 rw [hq];simp;omega
theorem Q6(docs:List (List UInt8))(a b:Int):dT (make docs a b)=cu docs a b:=by
 simp [dT,make,List.map_map];have :((fun(e:bL)=>e.1)∘fun t=>((t,bW docs a t (b-a).toNat):bL))=id:=by rfl
 simp_all
theorem BN {docs:List (List UInt8)} {a b:Int}(hp:fA docs a b)(t:List UInt8):pT t (make docs a b)=bW docs a t (b-a).toNat:=by
 by_cases hm:t∈cu docs a b
 . obtain⟨i,hi,e⟩:=List.mem_iff_getElem.1 hm;have e3:dI (make docs a b) i=t:=by grind[Og]
   grind[yi,xk,xj,yh,Oh]
 grind[uR,Q6,oZ]
theorem xl {docs:List (List UInt8)} {t:List UInt8}:∀ {m:List Sp} {a:Int},eG docs a m=true->CY (bF docs m) t=bW docs a t (dK a m-a).toNat
 | [],a,_=>by grind[CY,bF,dK,bW]
 |s::r,a,h=>by
  simp [eG,B!,I!] at h;obtain⟨h1,h2,h3⟩:=h;have ih:=xl (t:=t) h3;have h4:=oa h2;have h5:=BL h3;simp [CY,bF,T?,List.flatMap_cons,dK] at ih |-;rw [ih,BN (n0 h2),<-h1];exact TY (by omega) h5.1
theorem aoL {l:List aT} {t:List UInt8}:t∈uT l↔∃s∈l,t∈dT s.2.2:=by
 rw [uT,iA,axY,List.mem_flatMap]
theorem TZ {docs:List (List UInt8)} {m:List Sp} {a:Int}(h:eG docs a m=true)(hm:m≠ []):Oj (bF docs m)=make docs a (dK a m):=by
 have hK:uT (bF docs m)=cu docs a (dK a m):=by
  refine uH _ _ (ae9 _) (lf _) fun t=> ?_;rw [oZ,<-xl h,aoL];constructor
  . rintro⟨s,hs,ht⟩ he;simp only [CY,List.flatMap_eq_nil_iff] at he;have h1:=he s hs;simp only [bF,List.mem_map] at hs;obtain⟨p,hp,rfl⟩:=hs;grind[Q6,BN,n0,qa,oZ]
  . intro dR;obtain⟨x,hx⟩:=List.exists_mem_of_ne_nil _ dR;grind[CY,dT,uR]
 grind[Oj,make,List.map_congr_left,xl]
theorem uU {docs:List (List UInt8)} {m:List Sp} {a:Int}(h:eG docs a m=true)(hm:m≠ []):(jH m 0).1=a:=by
 cases m with
 |nil=>grind
 |cons s r=>
  simp [eG,B!,I!] at h;exact h.1
theorem BO:∀(m:List Sp) (a:Int),m≠ []->dK a m=(jH m (m.length-1)).2
 | [],_,h=>absurd rfl h
 | [s],a,_=>rfl
 |s::t::r,a,_=>by
  have :=BO (t::r) s.2 (by simp);simp only [dK,D?,jH] at this |-;rw [this];rfl
theorem pU(docs:List (List UInt8))(m:List Sp)(i:Nat)(h:i<m.length):aB (bF docs m) i=((jH m i).1,(jH m i).2,make docs (jH m i).1 (jH m i).2):=by
 simp [aB,bF,jH,H!,J?,D! h,Option.map_some,Option.getD_some]
theorem Aa {docs:List (List UInt8)}:∀ {m:List Sp} {a:Int},eG docs a m=true->∀i,i+1<m.length->(jH m (i+1)).1=(jH m i).2
 | [],_,_,i,hi=>by rfl
 |s::r,a,h,0,hi=>by
  simp [eG,Bool.and_eq_true,decide_eq_true_eq] at h;have :r≠ []:=by grind
  exact uU h.2.2 this
 |s::r,a,h,i+1,hi=>by
  simp [eG,Bool.and_eq_true,decide_eq_true_eq] at h;exact Aa h.2.2 i (by grind)
theorem afe {docs:List (List UInt8)} {m:List Sp} {a:Int}(h:eG docs a m=true)(hl:m.length<=1000):ae8 (bF docs m):=by
 refine⟨by grind[ju],fun s hs=> ?_⟩;simp only [bF,List.mem_map] at hs;obtain⟨p,hp,rfl⟩:=hs;grind[Q5,qa]
theorem DY {docs:List (List UInt8)} {m:List Sp} {a:Int}(h:eG docs a m=true):∀s∈bF docs m,qZ s=true :=by
 intro s hs;simp only [bF,g?] at hs;obtain⟨p,hp,rfl⟩:=hs;have h1:=qa h p hp;exact ae5 (n0 h1) (oa h1).1
theorem aff {docs:List (List UInt8)} {m:List Sp} {a:Int}(h:eG docs a m=true)(hm:m≠ []):Vb (bF docs m)=((a,dK a m,make docs a (dK a m)),0):=by
 have hl:0<m.length:=List.length_pos_iff.2 hm;unfold Vb;rw [ju,if_neg (by omega)];have h1:(bF docs m).all qZ=true :=List.all_eq_true.2 (DY h);rw [h1,if_neg (by decide)]
 have h2:Ol (bF docs m)=true :=by
  unfold Ol;rw [List.all_eq_true];intro i hi;rw [List.mem_range,ju] at hi;simp [ae7,decide_eq_true_eq];grind[pU,Aa]
 rw [h2,T! (by decide),pU _ _ _ hl,pU _ _ _ (by omega),uU h hm,<-BO m a hm,TZ h hm]
theorem BP {docs:List (List UInt8)} {S:List Sp} {i m:Nat}(h:eG docs 0 S=true)(hm:0<m)(hi:i+m<=S.length):
  eG docs (jH S i).1 ((S.drop i).take m)=true/\dK (jH S i).1 ((S.drop i).take m)=(jH S (i+m-1)).2/\(S.drop i).take m≠ []/\
  eG docs 0 (S.take i++ [((jH S i).1,(jH S (i+m-1)).2)]++S.drop (i+m))=true/\dK 0 (S.take i++ [((jH S i).1,(jH S (i+m-1)).2)]++S.drop (i+m))=dK 0 S:=by
 have e:S=S.take i++((S.drop i).take m++S.drop (i+m)):=by
  rw [<-S?,O?,O?]
 have hl:((S.drop i).take m).length=m:=by rw [X!,V!];omega
 have dR:(S.drop i).take m≠ []:=by intro e;rw [e] at hl;simp at hl;omega
 have h1:=h;rw [e,ay5,ay5,B!,B!] at h1;obtain⟨h2,h3,h4⟩:=h1
 have ef:(jH ((S.drop i).take m) 0)=jH S i:=by
  simp [jH,H!];rw [List.getElem?_take_of_lt hm,List.getElem?_drop];rfl
 have el:(jH ((S.drop i).take m) (m-1))=jH S (i+m-1):=by
  simp [jH,H!];rw [List.getElem?_take_of_lt (by omega),List.getElem?_drop,show i+(m-1)=i+m-1 by omega]
 have h5:=uU h3 dR;rw [ef] at h5;have h6:=BO _ (dK 0 (S.take i)) dR;rw [hl,el] at h6;rw [<-h5] at h3 h4 h6;have h7:=(BL h3).2.1 dR;rw [h6] at h7 h4;refine⟨h3,h6,dR,?_,?_⟩
 . rw [ay5,ay5,h2];simp [eG,kN,dK,h4,<-h5,h7,Bool.and_true,decide_true]
 . conv=>rhs;rw [e,kN,kN]
   rw [kN,kN];simp [dK];rw [<-h5,h6]
theorem uV(docs:List (List UInt8))(l:List Sp)(i:Nat):(bF docs l).take i=bF docs (l.take i):=by simp [bF,List.map_take]
theorem uW(docs:List (List UInt8))(l:List Sp)(i:Nat):(bF docs l).drop i=bF docs (l.drop i):=by simp [bF,List.map_drop]
theorem T0(docs:List (List UInt8)) {S:List Sp} {i m:Nat}(hm:0<m)(hi:i+m<=S.length):
  Hq (bF docs S) i m (za docs (bF docs S) i m)=bF docs (S.take i++ [((jH S i).1,(jH S (i+m-1)).2)]++S.drop (i+m)):=by
 unfold Hq za;rw [uV,uW,pU _ _ _ (by omega),pU _ _ _ (by omega),r5,r5];rfl
theorem afg {docs:List (List UInt8)} {S:List Sp} {i m:Nat}(h:eG docs 0 S=true)(hm:0<m)(hi:i+m<=S.length):
  Vb (((bF docs S).drop i).take m)=(za docs (bF docs S) i m,0):=by
 have hc:=BP h hm hi;grind[uW,uV,aff,za,pU]
theorem afh {docs:List (List UInt8)} {S:List Sp} {i m:Nat}(h:eG docs 0 S=true)(hm:0<m)(hi:i+m<=S.length)(hl:S.length<=1000):
  ae8 (((bF docs S).drop i).take m):=by
 have hc:=BP h hm hi;grind[uW,uV,afe,List.length_take,List.length_drop]
theorem acQ {docs:List (List UInt8)} {S:List Sp}(h:eG docs 0 S=true) {i:Nat}(hi:i+1<S.length):eG docs 0 (BJ S i)=true/\dK 0 (BJ S i)=dK 0 S:=by
 have hc:=BP (m:=2) h (by omega) (by omega :i+2<=S.length);exact⟨hc.2.2.2.1,hc.2.2.2.2⟩
theorem DZ {docs:List (List UInt8)}:∀(n:Nat) {S:List Sp},eG docs 0 S=true->eG docs 0 (tw n S)=true/\dK 0 (tw n S)=dK 0 S/\(tw n S).length<=S.length
 |0,S,h=>⟨h,rfl,N! _⟩
 |n+1,S,h=>by
  simp [tw];by_cases hb:(uS S).2=true
  . rw [W! hb];have h1:=afb hb;have h2:=acQ h (i:=(uS S).1.toNat) (by omega);have h3:=DZ n h2.1;have h4:=acP (l:=S) (i:=(uS S).1.toNat) (by omega);exact⟨h3.1,by rw [h3.2.1,h2.2],by omega⟩
  grind
end Go.S

end
section
namespace Go.S
abbrev Q7:=List (List UInt8)×List aT
abbrev nF:=Int×Int×Int×List UInt8
def lC(docs:List (List UInt8))(l:List aT)(a b c:Int)(d:List UInt8):Q7×Int:=
 if a=0 then cE docs l d else if a=1 then bQ docs l else if a=2 then yk docs l b c else(tz docs l,0)
def o0(l:List nF)(i:Nat):nF:=l.getD i (0,0,0,[])
def lj(x:Q7)(l:List nF):Nat->Q7
 |0=>x
 |k+1=>if(2500:Int)<(o0 l k).2.2.2.length then lj x l k else(lC (lj x l k).1 (lj x l k).2 (o0 l k).1 (o0 l k).2.1 (o0 l k).2.2.1 (o0 l k).2.2.2).1
def cY(l:List nF):Q7:=lj ([],[]) l (min l.length 40)
def r6(l:List nF):Nat->Nat
 |0=>0
 |k+1=>if(o0 l k).1=1 then r6 l k+1 else r6 l k
structure RI (docs:List (List UInt8)) (l:List aT) (S:List Sp):Prop where
 fair:cP docs 0 0=true
 le:S.length<=64
 row:eG docs 0 S=true
 eq:l=bF docs S
theorem RI.right {docs:List (List UInt8)} {l:List aT} {S:List Sp}(h:RI docs l S):bk docs l=true :=by
 rw [h.eq];exact az9 h.fair h.le h.row
theorem RI.of {docs:List (List UInt8)} {l:List aT}(h:bk docs l=true):RI docs l (eF l):=by
 have :=BM.1 h;exact⟨this.1,by grind[rb],this.2.2.1,this.2.2.2⟩
theorem o8(docs:List (List UInt8))(l:List aT):RI (aq docs l).1 (aq docs l).2 (eF (aq docs l).2):=RI.of (mJ docs l)
theorem RI.Q8 {docs:List (List UInt8)} {l:List aT} {S:List Sp}(h:RI docs l S):cD l=dK 0 S:=by
 rw [<-Hr,h.eq,sH]
theorem RI.bd {docs:List (List UInt8)} {l:List aT} {S:List Sp}(h:RI docs l S):0<=cD l/\cD l<=docs.length/\docs.length<=1000/\l.length=S.length:=by
 have h1:=BL h.row;rw [h.Q8]
 have h2:docs.length<=1000:=by
  have :=h.fair;simp [cP,B!,I!] at this;omega
 refine⟨h1.1,?_,h2,by rw [h.eq,ju]⟩;grind[dK]
theorem T1 {docs:List (List UInt8)} {a b:Int}(d:List UInt8)(h0:0<=a)(hb:b<=docs.length):make (docs++ [d]) a b=make docs a b:=by
 have e:∀i:Nat,i<(b-a).toNat->(docs++ [d]).getD (a+(i:Int)).toNat []=docs.getD (a+(i:Int)).toNat []:=fun i hi=>by
  grind
 have e1:∀t,bW (docs++ [d]) a t (b-a).toNat=bW docs a t (b-a).toNat:=fun t=>by
  simp_all[bW,List.filter_congr,q?]
 simp_all[fY,rU,q?,make,cu,j?]
theorem Q9 {docs:List (List UInt8)} {d:List UInt8}(h:cP docs 0 0=true)(hd:(d.length:Int)<=2000)(hl:(docs.length:Int)<1000):cP (docs++ [d]) 0 0=true :=by
 simp [cP,Bool.and_eq_true,List.all_eq_true,decide_eq_true_eq,List.length_append,List.length_singleton] at h |-;grind
theorem T2 {docs:List (List UInt8)} {d:List UInt8}(hf:cP (docs++ [d]) 0 0=true) {S:List Sp} {a:Int}(h:eG docs a S=true):eG (docs++ [d]) a S=true/\bF (docs++ [d]) S=bF docs S:=by
 induction S generalizing a with
 |nil=>exact⟨rfl,rfl⟩
 |cons s r ih=>
  simp [eG,Bool.and_eq_true,decide_eq_true_eq] at h;have h4:=oa h.2.1;grind[c9,tA,eG,decide_eq_true,bF,T1]
theorem RI.snoc {docs:List (List UInt8)} {l:List aT} {S:List Sp}(h:RI docs l S) {d:List UInt8}(hd:¬(2000:Int)<d.length)(hl:¬(1000:Int)<=docs.length):RI (docs++ [d]) l S:=by
 have hf:=Q9 h.fair (d:=d) (by omega) (by omega);have hr:=T2 (d:=d) hf h.row;exact⟨hf,h.le,hr.1,by rw [hr.2];exact h.eq⟩
theorem RI.flush {docs:List (List UInt8)} {l:List aT} {S:List Sp}(h:RI docs l S)(h1:¬cD l=docs.length)(h2:¬(64:Int)<=l.length):
  RI docs (l++ [(cD l,(docs.length:Int),make docs (cD l) docs.length)]) (S++ [(cD l,(docs.length:Int))])/\c9 docs (cD l) docs.length=true :=by
 have hb:=h.bd;have hf:=tA h.fair (a:=cD l) (b:=docs.length) hb.1 (by omega) (by omega);refine⟨⟨h.fair,by grind,?_,?_⟩,hf⟩
 . rw [ay5,h.row,<-h.Q8];simp_all[eG,decide_true,Bool.and_true]
 . rw [r5,<-h.eq];rfl
theorem Hu {l:List aT} {i m:Int}(h:Lj l i m=false):2<=m/\0<=i/\i+m<=l.length/\i.toNat+m.toNat<=l.length/\0<m.toNat:=by
 grind[Lj,Bool.or_eq_false_iff,decide_eq_false_iff_not]
theorem RI.cut {docs:List (List UInt8)} {l:List aT} {S:List Sp}(h:RI docs l S) {i m:Nat}(hm:0<m)(hi:i+m<=l.length):
  RI docs (Hq l i m (za docs l i m)) (S.take i++ [((jH S i).1,(jH S (i+m-1)).2)]++S.drop (i+m))/\Vb ((l.drop i).take m)=(za docs l i m,0)/\ae8 ((l.drop i).take m)/\(Hq l i m (za docs l i m)).length+m=l.length+1/\cD (Hq l i m (za docs l i m))=cD l:=by
 have hb:=h.bd;have hc:=BP h.row hm (by omega :i+m<=S.length)
 have hl:(S.take i++ [((jH S i).1,(jH S (i+m-1)).2)]++S.drop (i+m)).length+m=S.length+1:=by
  grind
 have hle:=h.le;have e:=T0 docs hm (by omega :i+m<=S.length)
 have R:RI docs (Hq l i m (za docs l i m)) (S.take i++ [((jH S i).1,(jH S (i+m-1)).2)]++S.drop (i+m)):=by
  rw [h.eq,e];exact⟨h.fair,by omega,hc.2.2.2.1,rfl⟩
 refine⟨R,?_,?_,?_,?_⟩
 . rw [h.eq];exact afg h.row hm (by omega)
 . rw [h.eq];exact afh h.row hm (by omega) (by omega)
 . have :=R.bd.2.2.2;omega
 . rw [R.Q8,h.Q8,hc.2.2.2.2]
theorem RI.aOP {docs:List (List UInt8)} {S:List Sp}(h:RI docs (bF docs S) S) {i:Nat}(hi:i+2<=S.length):
  RI docs (bF docs (BJ S i)) (BJ S i)/\Hq (bF docs S) i 2 (za docs (bF docs S) i 2)=bF docs (BJ S i)/\Vb (((bF docs S).drop i).take 2)=(za docs (bF docs S) i 2,0)/\ae8 (((bF docs S).drop i).take 2):=by
 have hc:=h.cut (i:=i) (m:=2) (by omega) (by grind[ju]);have e:=T0 docs (S:=S) (i:=i) (m:=2) (by omega) (by omega);have e2:BJ S i=S.take i++ [((jH S i).1,(jH S (i+2-1)).2)]++S.drop (i+2):=rfl;grind
theorem RI.settle {docs:List (List UInt8)} {l:List aT} {S:List Sp}(h:RI docs l S):RI docs (bF docs (tx S)) (tx S)/\dK 0 (tx S)=dK 0 S/\(tx S).length<=S.length:=by
 have hs:=DZ S.length h.row;have hle:=h.le;exact⟨⟨h.fair,by grind[tx],hs.1,rfl⟩,hs.2.1,hs.2.2⟩
theorem append_right(docs:List (List UInt8))(l:List aT)(d:List UInt8):bk (cE docs l d).1.1 (cE docs l d).1.2=true :=by
 unfold cE;by_cases h1:(2000:Int)<d.length
 . simp_all[W!,mJ]
 . rw [T! h1];by_cases h2:(1000:Int)<=(aq docs l).1.length
   . simp_all[W!,mJ]
   . rw [T! h2];exact((o8 docs l).snoc h1 h2).right
theorem BQ(docs:List (List UInt8))(l:List aT):bk (bQ docs l).1.1 (bQ docs l).1.2=true :=by
 unfold bQ;by_cases h1:fZ docs l=(aq docs l).1.length
 . simp_all[W!,mJ]
 . rw [T! h1];by_cases h2:(64:Int)<=(aq docs l).2.length
   . simp_all[W!,mJ]
   . rw [T! h2];exact((o8 docs l).flush h1 h2).1.right
theorem merge_right(docs:List (List UInt8))(l:List aT)(i m:Int):bk (yk docs l i m).1.1 (yk docs l i m).1.2=true :=by
 unfold yk;by_cases h1:Lj (aq docs l).2 i m=true
 . simp_all[W!,mJ]
 . rw [T! h1];have hb:=Hu (by simpa using h1);exact((o8 docs l).cut hb.2.2.2.2 hb.2.2.2.1).1.right
theorem Kn(docs:List (List UInt8))(l:List aT):bk (tz docs l).1 (tz docs l).2=true :=(o8 docs l).settle.1.right
theorem T3(docs:List (List UInt8))(l:List aT)(a b c:Int)(d:List UInt8):bk (lC docs l a b c d).1.1 (lC docs l a b c d).1.2=true :=by
 grind[lC,append_right,BQ,merge_right,Kn]
theorem D1 {x:Q7}(h:bk x.1 x.2=true)(l:List nF):∀k,bk (lj x l k).1 (lj x l k).2=true
 |0=>h
 |k+1=>by
  simp [lj];split
  . exact D1 h l k
  . exact T3 _ _ _ _ _ _
theorem Oo(l:List nF)(k:Nat):bk (lj ([],[]) l k).1 (lj ([],[]) l k).2=true :=D1 Vd l k
theorem Ra {docs:List (List UInt8)} {l:List aT}(h:bk docs l=true)(a b c:Int)(d:List UInt8):(lC docs l a b c d).1.2.length<=l.length+(if a=1 then 1 else 0):=by
 have hg:=fi h;unfold lC;by_cases h0:a=0
 . grind[cE]
 . rw [T! h0];by_cases h1:a=1
   . grind[bQ,List.length_append,List.length_singleton]
   . rw [T! h1,T! h1];by_cases h2:a=2
     . unfold yk;by_cases hb:Lj l b c=true
       . grind
       . have hb:=Hu (by simpa using hb);have :=((RI.of h).cut hb.2.2.2.2 hb.2.2.2.1).2.2.2.1;grind
     . rw [if_neg h2];simp [tz,hg,ju];have :=(RI.of h).settle.2.2;grind[rb]
theorem Lm(l:List nF):∀k,(lj ([],[]) l k).2.length<=r6 l k
 |0=>N! _
 |k+1=>by
  have ih:=Lm l k;have h:=Ra (Oo l k) (o0 l k).1 (o0 l k).2.1 (o0 l k).2.2.1 (o0 l k).2.2.2
  have e:r6 l (k+1)=r6 l k+(if(o0 l k).1=1 then 1 else 0):=by
   rw [r6];grind
  rw [e,lj];grind
theorem Hv(l:List nF):∀k,r6 l k<=k
 |0=>N! _
 |k+1=>by have :=Hv l k;simp [r6];split<;>omega
theorem keeps {docs:List (List UInt8)} {l:List aT}(h:bk docs l=true) {a:Int}(b c:Int)(d:List UInt8)(h0:a≠0):
  (lC docs l a b c d).1.1=docs/\(a=1->cD l<=cD (lC docs l a b c d).1.2/\((64:Int)<=l.length\/cD (lC docs l a b c d).1.2=docs.length))/\
  (a≠1->cD (lC docs l a b c d).1.2=cD l/\(lC docs l a b c d).1.2.length<=l.length):=by
 have hg:=fi h;have R:=RI.of h;have Eg:=R.bd;unfold lC;rw [if_neg h0];by_cases h1:a=1
 . unfold bQ fZ;by_cases e1:cD l=(docs.length:Int)
   . grind
   . by_cases e2:(64:Int)<=l.length
     . grind
     . have :=(R.flush e1 e2).1.Q8
       have h3:cD (l++ [(cD l,(docs.length:Int),make docs (cD l) docs.length)])=docs.length:=by
        rw [this,kN];rfl
       grind
 . rw [T! h1];by_cases h2:a=2
   . unfold yk;by_cases hb:Lj l b c=true
     . grind
     . have hb:=Hu (by simpa using hb);have hc:=R.cut hb.2.2.2.2 hb.2.2.2.1;grind
   . rw [if_neg h2];have hs:=R.settle;refine⟨by grind[tz],fun h=>absurd h h1,fun _=> ?_⟩;simp [tz,hg];refine⟨by rw [hs.1.Q8,hs.2.1,R.Q8],?_⟩;grind[ju,rb]
end Go.S

end
section
namespace Go.S
def ay4(l:List aT)(k:Nat):Prop :=k<=l.length/\l.length≠0/\ae8 l/\∀i,i<k->qZ (aB l i)=true
def aza(l:List aT)(k:Nat):Prop :=k+1<=l.length/\ae8 l/\l.all qZ=true/\∀i,i<k->ae7 l i=true
def uL(l:List aT):Nat:=(uT l).length
def uAt(l:List aT)(k:Nat):List UInt8:=(uT l).getD k []
def gL(docs:List (List UInt8))(l:List aT):Nat:=(aq docs l).2.length
def pL(l:List nF):Nat:=(cY l).2.length
def pD(l:List nF):Nat:=(cY l).1.length
def lU(l:List aT)(i:Nat):Nat:=(aB l i).2.2.length
def ei {α:Type}(l:List α)(k:Nat):Prop :=k<=l.length
def apx(l:List aT)(k:Nat):List (Int×Int):=eF (l.take k)
def C1(a b:List Int):Bool:=decide (a=b)
def BS(a b:List Int)(k:Nat):Prop :=a.length=b.length/\a.take k=b.take k/\k<=a.length
def xm(x1:List UInt8)(x2:List Int)(y1:List UInt8)(y2:List Int):Bool:=decide (x1=y1)&&decide (x2=y2)
def Hw(docs:List (List UInt8))(l:List aT)(k:Nat):Prop :=docs.length<=1000/\l.length<=64/\nj docs k
def r7(docs:List (List UInt8))(l:List aT):Prop :=docs.length<=1000000/\l.length<=1000000/\(∀b∈docs,small b)/\∀s∈l,small s.2.2/\∀e∈s.2.2,small e.2
def dx {α:Type}(z:α)(l:List α)(k:Nat):List α:=l.take k++List.replicate (l.length-k) z
def r8(x:List aT)(r:List aT)(i j:Nat):Prop :=i<x.length/\j<=(aB x i).2.2.length/\r.length=x.length/\∀d,r.set i ((aB r i).1,(aB r i).2.1,d)=(dx (0,0,[]) x i).set i ((aB x i).1,(aB x i).2.1,d)
def aAP(l:List aT)(i m:Int):Prop :=l.length<=1000000/\0<=i/\0<=m/\i+m<=l.length
def ayY(docs:List (List UInt8))(l:List aT)(L:List Sp):Prop :=RI (aq docs l).1 (bF (aq docs l).1 L) L/\tx L=tx (eF (aq docs l).2)
def afi(docs:List (List UInt8))(l:List Sp):Prop :=l.length<=1000000/\∀s∈l,fA docs s.1 s.2
def eH(docs:List (List UInt8))(l:List aT)(k:Nat):List Sg:=(aZ docs l).take k
def kn(docs:List (List UInt8))(l:List aT):Bool:=l.any (fun s=>fN s.2.2) || (l7 docs || decide ((100:Int)<l.length))
def xn(l:List aT)(k:Nat):Prop :=(∀s∈l.take k,fN s.2.2=false)/\k<=l.length
def aA0(l:List nF)(k:Nat):Prop :=k<=l.length/\k<=40
end Go.S
namespace Go.S
theorem aOQ {a b:Int}(h:a<0\/b<0\/b<=a): -1=az8 a b:=by simp_all[az8,W!]
theorem aJV {n:Int}(h:0<=n):lg ((n.toNat:Nat):Int)=lg n:=by rfl
theorem aPC {a b:Int}(h:¬a<0/\¬b<0/\¬b<=a):avF a b (b-a).toNat:=⟨by omega,by omega,by omega,by omega⟩
theorem aPD {n:Int}(h:1<n):1<=lg n:=by have :=aL9 (n:=n) (by omega);have :=aOO (n/2);omega
theorem aOR {a b:Int} {n:Nat}(h:avF a b n):1<=n/\(n:Int)<=b-a:=⟨h.2.2.1,h.2.2.2⟩
theorem aOS {t:Int} {n:Nat}(h:1<(n:Int)):t-lg n+1=t-lg (((n:Int)/2).toNat:Nat):=by
 grind[aJV,aL9]
theorem aM4 {a b:Int} {n:Nat}(h:avF a b n)(h1:1<(n:Int)):avF a b ((n:Int)/2).toNat:=by
 obtain⟨h2,h3,h4,h5⟩:=h;exact⟨h2,h3,by omega,by omega⟩
theorem aNY {a b:Int} {n:Nat}(h:¬a<0/\¬b<0/\¬b<=a)(hi:avF a b n)(h1:¬1<(n:Int)):lg (b-a)-lg n=az8 a b:=by
 unfold az8;rw [if_neg (by omega),<-aON (n:=(n:Int)) (by omega)];omega
end Go.S
namespace Go.S
theorem aSr(l:List aT)(k i:Nat):0<=(abn l k).getD i 0:=by
 by_cases h:i<l.length
 . rw [anT h];simp_all[avH]
 simp_all[H!,List.getElem?_eq_none,anW,f?]
theorem aSs {l:List aT} {k i:Nat}(h:(i:Int)<l.length)(hn:¬(abn l k).getD i 0=((aB l i).2.2.length:Int)):(abn l k).getD i 0<((aB l i).2.2.length:Int):=by
 have h':i<l.length:=by omega
 rw [anT h'] at hn |-;have :=avH l k (aB l i);omega
theorem aRb {l:List aT} {k i:Nat}(hi:i<=l.length)(h:¬anP l (abn l k) i<0):
  anP l (abn l k) i<l.length/\anP l (abn l k) i<(abn l k).length/\(anP l (abn l k) i).toNat<(abn l k).length/\(abn l k).getD (anP l (abn l k) i).toNat 0<((aB l (anP l (abn l k) i).toNat).2.2.length:Int):=by
 grind[anW,azh,Int.toNat_natCast,anT]
theorem aOT {l:List aT} {nx:List Int} {i:Nat}(h:nx.getD i 0=((aB l i).2.2.length:Int)):anP l nx i=anP l nx (i+1):=by simp_all[anP,W!]
theorem aOU {l:List aT} {nx:List Int} {i:Nat}(h:¬nx.getD i 0=((aB l i).2.2.length:Int)):
  (bif bif decide (anP l nx i<0) then true else Op.bytesLess (dI (aB l i).2.2 (nx.getD i 0).toNat) (dI (aB l (anP l nx i).toNat).2.2 (nx.getD (anP l nx i).toNat 0).toNat) then(i:Int) else anP l nx i)=anP l nx (i+1):=by
 grind[anP]
theorem aRc {l:List aT}(hp:apB l) {k i:Nat}(hi:i<=l.length)(Nn:¬(i:Int)<l.length)(h:anP l (abn l k) i<0):anQ l k=Oj l:=by
 grind[aAX,aAL]
theorem aPE {l:List aT}(hp:apB l) {k i:Nat}(hi:i<=l.length)(Nn:¬(i:Int)<l.length)(h:¬anP l (abn l k) i<0):
  k<uL l/\dI (aB l (anP l (abn l k) i).toNat).2.2 ((abn l k).getD (anP l (abn l k) i).toNat 0).toNat=uAt l k:=by
 have :i=l.length:=by omega
 subst this
 have hk:k<(uT l).length:=by
  simp_all[Nat.lt_of_not_le,aAL]
 obtain⟨q,h1,h2,h3,h4⟩:=aAx hp hk;refine⟨hk,?_⟩;rw [h1,Q!,anT h2];exact h4
theorem aRd {l:List aT} {a b:Nat}(h:anQ l a=anQ l b)(ha:a<=uL l)(hb:b<=uL l):a=b:=by
 simp_all[congrArg,List.length,anQ,List.length_map,X!,uL]
theorem aOV {l:List aT} {k i:Nat}(h:(i:Int)<l.length):0<=(abk l k i).getD i 0/\(abk l k i).getD i 0<=((aB l i).2.2.length:Int):=by
 rw [azl (by omega)];exact avH l k _
theorem aRe {l:List aT} {k i:Nat}(h:(i:Int)<l.length):(i:Int)<(abk l k i).length/\i<(abk l k i).length:=by
 grind[aJS]
theorem aRf {l:List aT}(hp:apB l) {k i:Nat}(hk:k<uL l)(h:(i:Int)<l.length)(h1:(abk l k i).getD i 0<((aB l i).2.2.length:Int))(h2:dI (aB l i).2.2 ((abk l k i).getD i 0).toNat=uAt l k):
  (abk l k i).set i ((abk l k i).getD i 0+1)=abk l k (i+1)/\anN l (uAt l k) i++gy (aB l i).2.2 ((abk l k i).getD i 0).toNat=anN l (uAt l k) (i+1):=by
 have h':i<l.length:=by omega
 rw [azl h'] at h1 h2 |-;have :=aAW hp hk h' h1 h2;exact⟨this.2,this.1⟩
theorem aPF {l:List aT}(hp:apB l) {k i:Nat}(hk:k<uL l)(h:(i:Int)<l.length)(hn:¬((abk l k i).getD i 0<((aB l i).2.2.length:Int)/\dI (aB l i).2.2 ((abk l k i).getD i 0).toNat=uAt l k)):
  abk l k i=abk l k (i+1)/\anN l (uAt l k) i=anN l (uAt l k) (i+1):=by
 have h':i<l.length:=by omega
 rw [azl h'] at hn;have :=aAM hp hk h' hn;exact⟨this.2,this.1⟩
theorem aPG {l:List aT}(hp:apB l) {k i:Nat}(h:(i:Int)<l.length):(anN l (uAt l k) i).length<=1000000/\(gy (aB l i).2.2 ((abk l k i).getD i 0).toNat).length<=1000:=by
 have h1:=azm hp (uAt l k) i (by omega);have h2:=hp.1;have hd:=(hp.2 _ (yj (show i<l.length by omega))).1;generalize (abk l k i).getD i 0=z;by_cases hz:z.toNat<(aB l i).2.2.length
 . rw [<-yi (xk hd) hz];grind[Q2]
 grind[gy,List.getElem?_eq_none]
theorem aRg {l:List aT} {k i:Nat}(hi:i<=l.length)(Nn:¬(i:Int)<l.length)(hk:k<uL l):anQ l k++ [(uAt l k,anN l (uAt l k) i)]=anQ l (k+1)/\abk l k i=abn l (k+1):=by
 have :i=l.length:=by omega
 subst this;refine⟨?_,aJT⟩;rw [aAV];exact aAN hk
theorem aSt {l:List aT}(hp:apB l) {k:Nat}(hk:k<=uL l):(anQ l k).length<=1048576000:=by
 grind[aAY,aLw,uL]
end Go.S
namespace Go.S
theorem aPH(l:List aT):List.replicate (Int.toNat ((l.length:Nat):Int)) (0:Int)=l.map (abt l 0):=by
 rw [Q!];have :l.map (abt l 0)=l.map (fun _=>(0:Int)):=j? fun s _=>by simp [abt]
 grind[List.map_const']
end Go.S
namespace Go.S
theorem aSu {l:List aT}(hp:apB l) {k i:Nat}(h:(i:Int)<l.length): -9223372036854775808<=(abk l k i).getD i 0+1/\(abk l k i).getD i 0+1<=9223372036854775807:=by
 have h1:=aOV (k:=k) h;have h2:=(hp.2 _ (yj (show i<l.length by omega))).2;omega
end Go.S
namespace Go.S
theorem aRh {l:List aT}(h:(l.length:Int)=0):Vb l=((0,0,[]),1):=by simp_all[Vb,W!]
theorem aRi {l:List aT} {k:Nat}(h:(k:Int)<l.length)(h2:qZ (aB l k)=false):Vb l=((0,0,[]),1):=by
 unfold Vb;grind[yj]
theorem aPI {l:List aT}(hp:ae8 l)(h:¬(l.length:Int)=0):ay4 l 0:=⟨J! _,by omega,hp,fun i hi=>by omega⟩
theorem aPJ {l:List aT} {k:Nat}(h:ay4 l k)(h1:(k:Int)<l.length)(h2:qZ (aB l k)=true):ay4 l (k+1):=
 ⟨by omega,h.2.1,h.2.2.1,fun i hi=>by
   by_cases e:i=k
   . grind
   . exact h.2.2.2 i (by omega)⟩
theorem aM5 {l:List aT} {k:Nat}(h:ay4 l k)(h1:¬(k:Int)<l.length):l.all qZ=true :=by
 rw [List.all_eq_true];intro s hs;obtain⟨j,hj,rfl⟩:=List.mem_iff_getElem.1 hs;have :=h.2.2.2 j (by omega);grind[aB,List.getElem?_eq_getElem]
theorem aPK {l:List aT} {k:Nat}(h:ay4 l k)(h1:¬(k:Int)<l.length):aza l 0:=⟨by have :=h.2.1;omega,h.2.2.1,aM5 h h1,fun i hi=>by omega⟩
theorem aPL {l:List aT} {k:Nat}(h:aza l k)(h1:(k:Int)+1<l.length)(h2:(aB l ((k:Int)+1).toNat).1=(aB l ((k:Int)+1-1).toNat).2.1):aza l (k+1):=
 ⟨by omega,h.2.1,h.2.2.1,fun i hi=>by
   by_cases e:i=k
   . simp_all[ae7,I!]
   . exact h.2.2.2 i (by omega)⟩
theorem aRj {l:List aT} {k:Nat}(h:aza l k)(h1:(k:Int)+1<l.length)(h2:¬(aB l ((k:Int)+1).toNat).1=(aB l ((k:Int)+1-1).toNat).2.1):Vb l=((0,0,[]),7):=by
 unfold Vb;rw [if_neg (by omega),if_neg (by rw [h.2.2.1];simp),if_pos];rw [<-Bool.not_eq_true,Ol,List.all_eq_true];intro hc;have :=hc k (List.mem_range.2 (by omega));simp_all[ae7,decide_eq_true_eq]
theorem aRk {l:List aT} {k:Nat}(h:aza l k)(h1:¬(k:Int)+1<l.length):Vb l=(((aB l 0).1,(aB l ((l.length:Int)-1).toNat).2.1,Oj l),0):=by
 have h0:=h.1;unfold Vb;rw [if_neg (by omega),if_neg (by rw [h.2.2.1];simp),if_neg,show((l.length:Int)-1).toNat=l.length-1 by omega];rw [Bool.not_eq_false,Ol,List.all_eq_true];intro i hi;exact h.2.2.2 i (by grind)
theorem Rb {s:aT}(h:qZ s=true):aY s.2.2=true :=by
 simp_all[qZ,dQ,B!]
theorem aRl {l:List aT} {k:Nat}(h:aza l k):apB l:=by
 refine⟨h.2.1.1,fun s hs=>⟨Rb (E?.1 h.2.2.1 s hs),?_⟩⟩;exact(h.2.1.2 s hs).1
theorem n_0(l:List Sp):apD l 0:=⟨.inr rfl,by rfl⟩
theorem aMa {l:List Sp} {k:Nat}(h:apD l k)(h1:0<=((len l:Nat):Int)-2-k):(((len l:Nat):Int)-2-k).toNat=l.length-2-k/\(((len l:Nat):Int)-2-k+1).toNat=l.length-2-k+1/\k+2<=l.length:=by
 grind[len]
theorem aRm {l:List Sp} {k:Nat}(h:apD l k)(h1:0<=((len l:Nat):Int)-2-k)
  (h2:az8 (jH l (((len l:Nat):Int)-2-k).toNat).1 (jH l (((len l:Nat):Int)-2-k).toNat).2<=az8 (jH l (((len l:Nat):Int)-2-k+1).toNat).1 (jH l (((len l:Nat):Int)-2-k+1).toNat).2):
  uS l=(((len l:Nat):Int)-2-k,true):=by
 obtain⟨e1,e2,e3⟩:=aMa h h1;rw [e1,e2] at h2;rw [h.2,show l.length-1-k=(l.length-2-k)+1 by omega];simp [CZ];rw [if_pos (show afa l (l.length-2-k)<=afa l (l.length-2-k+1) from h2)];grind
theorem aSv {l:List Sp} {k:Nat}(h:apD l k)(h1:0<=((len l:Nat):Int)-2-k)
  (h2:¬az8 (jH l (((len l:Nat):Int)-2-k).toNat).1 (jH l (((len l:Nat):Int)-2-k).toNat).2<=az8 (jH l (((len l:Nat):Int)-2-k+1).toNat).1 (jH l (((len l:Nat):Int)-2-k+1).toNat).2):
  apD l (k+1):=by
 obtain⟨e1,e2,e3⟩:=aMa h h1;rw [e1,e2] at h2;refine⟨.inl (by omega),?_⟩;rw [h.2,show l.length-1-k=(l.length-2-k)+1 by omega];simp [CZ];rw [T! (show ¬afa l (l.length-2-k)<=afa l (l.length-2-k+1) from h2),show l.length-1-(k+1)=l.length-2-k by omega]
theorem aRn {l:List Sp} {k:Nat}(h:apD l k)(h1:¬0<=((len l:Nat):Int)-2-k):uS l=(0,false):=by
 simp [len] at h1;rw [h.2,show l.length-1-k=0 by omega];rfl
theorem aMb {l:List aT} {k:Nat}(h:(k:Int)<l.length):apx l k++ [((aB l k).1,(aB l k).2.1)]=apx l (k+1):=by
 simp only [apx,eF];rw [au l k (0,0,[]) (by omega),v?];rfl
theorem aM6 {l:List aT} {k:Nat}(h:¬(k:Int)<l.length):apx l k=eF l:=by
 grind[apx,List.take_of_length_le]
theorem aLx(l:List aT)(k:Nat):(apx l k).length<=l.length:=by grind[apx,eF]
end Go.S

end
section
namespace Go.S
theorem afj {α:Type} {a b:List α}(h:(a.length:Int)=b.length):a.length=b.length/\a.take 0=b.take 0/\0<=a.length:=⟨by omega,by simp,J! _⟩
theorem Ln {α:Type} {a b:List α}(z:α) {k:Nat}(h:a.length=b.length/\a.take k=b.take k/\k<=a.length)(hk:(k:Int)<a.length)(he:a.getD k z=b.getD k z):a.length=b.length/\a.take (k+1)=b.take (k+1)/\k+1<=a.length:=by
 grind[au]
theorem Rc {α:Type} {a b:List α} {k:Nat}(h:a.length=b.length/\a.take k=b.take k/\k<=a.length)(hk:¬(k:Int)<a.length):a=b:=by
 grind
theorem Re {α:Type} {a b:List α}(h:¬(a.length:Int)=b.length):¬a=b:=fun e=>h (by rw [e])
theorem Rf {α:Type} {a b:List α}(z:α) {k:Nat}(h:¬a.getD k z=b.getD k z):¬a=b:=fun e=>h (by rw [e])
theorem aHL {docs:List (List UInt8)} {l:List aT}(h:1000<(docs.length:Int)\/64<(l.length:Int)):false=bk docs l:=by
 symm
 rw [<-Bool.not_eq_true];intro hc;obtain⟨h1,h2,_⟩:=BM.1 hc;simp [cP,B!,I!] at h1;omega
theorem aHM {docs:List (List UInt8)} {l:List aT} {k:Nat}(hk:(k:Int)<docs.length)(h:2000<((docs.getD k []).length:Int)):false=bk docs l:=by
 grind[BM,Le]
theorem afk {docs:List (List UInt8)} {l:List aT} {k:Nat}(h:Hw docs l k)(hk:¬(k:Int)<docs.length):ra docs l 0:=by
 refine⟨?_,h.2.1,fun i hi=>by omega,J! _⟩;have h1:=h.1;simp only [cP,B!,I!];exact⟨Lf h.2.2 hk,by omega,by omega,by omega,by omega⟩
theorem EW {docs:List (List UInt8)} {l:List aT} {k:Nat}(hk:(k:Int)<l.length)(h:hC docs l k=false):false=bk docs l:=by
 symm
 rw [<-Bool.not_eq_true];intro hc;simp_all[bk,B!,E?,q?]
theorem Rg {docs:List (List UInt8)} {l:List aT} {k:Nat}(h:ra docs l k)(hk:(k:Int)<l.length)(h1:hC docs l k=true):ra docs l (k+1):=
 ⟨h.1,h.2.1,fun i hi=>by
   by_cases e:i=k
   . grind
   . exact h.2.2.1 i (by omega),by omega⟩
theorem Ve {docs:List (List UInt8)} {l:List aT} {k:Nat}(h:ra docs l k)(hk:¬(k:Int)<l.length):true=bk docs l:=by
 have h2:=h.2.1;simp [bk,B!,E?,q?,I!];exact⟨h.1,by omega,fun i hi=>h.2.2.1 i (by omega)⟩
theorem aHN {docs:List (List UInt8)} {l:List aT} {k:Nat}(h:¬(aB l k).1=dw l k\/(aB l k).2.1<=dw l k\/(docs.length:Int)<(aB l k).2.1):hC docs l k=false :=by
 rw [<-Bool.not_eq_true];intro hc;simp [hC,B!,I!] at hc;obtain⟨h1,h2,_⟩:=hc;have :=oa h2;omega
theorem axZ {docs:List (List UInt8)} {l:List aT} {k:Nat}(hk:ra docs l k)(h:(aB l k).1=dw l k/\¬(aB l k).2.1<=dw l k/\¬(docs.length:Int)<(aB l k).2.1):
  c9 docs (aB l k).1 (aB l k).2.1=true :=by
 refine tA hk.1 ?_ (by omega) (by omega)
 have :∀i,i<=k->0<=dw l i:=by
  intro i hi;unfold dw;split
  . omega
  . have :=hk.2.2.1 (i-1) (by omega);simp [hC,B!,I!] at this;have :=oa this.2.1;omega
 grind
theorem aHO {docs:List (List UInt8)} {l:List aT} {k:Nat}(hk:ra docs l k)(h:(aB l k).1=dw l k/\¬(aB l k).2.1<=dw l k/\¬(docs.length:Int)<(aB l k).2.1)
  (h2:¬(cQ docs (aB l k).1 (aB l k).2.1).2=0\/gm (cQ docs (aB l k).1 (aB l k).2.1).1.2.2 (aB l k).2.2=false):hC docs l k=false :=by
 have hf:=axZ hk h;have hb:cQ docs (aB l k).1 (aB l k).2.1=(((aB l k).1,(aB l k).2.1,make docs (aB l k).1 (aB l k).2.1),0):=by grind[cQ]
 rw [hb] at h2;rcases h2 with h2|h2
 . omega
 . simp [gm,e?] at h2;rw [<-Bool.not_eq_true];intro hc;simp_all[hC,B!,I!]
theorem aHP {docs:List (List UInt8)} {l:List aT} {k:Nat}(hk:ra docs l k)(h:(aB l k).1=dw l k/\¬(aB l k).2.1<=dw l k/\¬(docs.length:Int)<(aB l k).2.1)
  (h2:(cQ docs (aB l k).1 (aB l k).2.1).2=0/\gm (cQ docs (aB l k).1 (aB l k).2.1).1.2.2 (aB l k).2.2=true):hC docs l k=true :=by
 have hf:=axZ hk h;simp_all[cQ,aB,make,gm,I!,hC,B!]
theorem Lo(l:List aT)(k:Nat):(aB l k).2.1=dw l (k+1):=by rfl
theorem BT {docs:List (List UInt8)} {l:List aT}(h:bk docs l=false):aq docs l=([],[]):=by grind[aq]
theorem aAa {l:List aT}(h:(l.length:Int)=0):0=cD l:=by simp_all[cD,dw,W!]
theorem aAb {l:List aT}(h:¬(l.length:Int)=0):(aB l ((l.length:Int)-1).toNat).2.1=cD l:=by
 simp_all[cD,dw,T!]
theorem Vf {α:Type}(z:α)(l:List α):List.replicate (Int.toNat ((l.length:Nat):Int)) z=dx z l 0:=by rfl
theorem yl {α:Type}(z:α) {l:List α} {k:Nat}(h:(k:Int)<l.length):(k:Int)<(dx z l k).length/\k<(dx z l k).length:=by
 grind[dx,List.length_append,List.length_take,List.length_replicate]
theorem T4 {α:Type}(z:α) {l:List α} {k:Nat}(h:k<=l.length):(dx z l k).length=l.length:=by
 grind[dx,List.length_append,List.length_take,List.length_replicate]
theorem Rh {α:Type}(z:α) {l:List α} {k:Nat}(h:(k:Int)<l.length):(dx z l k).set k (l.getD k z)=dx z l (k+1):=by
 have e:l.length-k=(l.length-(k+1))+1:=by omega
 grind[dx,au,List.set_append_right,List.length_take,min,List.append_assoc]
theorem Lp {α:Type}(z:α) {l:List α} {k:Nat}(h:¬(k:Int)<l.length):dx z l k=l:=by
 simp_all[dx,I?]
theorem aAc {x:List aT} {k:Nat}(h:(k:Int)<x.length):r8 x ((dx (0,0,[]) x k).set k ((aB x k).1,(aB x k).2.1,[])) k 0:=by
 have hl:=T4 ((0,0,[]):aT) (l:=x) (k:=k) (by omega);refine⟨by omega,Nat.zero_le _,by grind,fun d=> ?_⟩;grind[aB,dx,set,List.getElem?_set_self,List.set_set]
theorem afl {x r:List aT} {i j:Nat}(h:r8 x r i j):r.set i ((aB r i).1,(aB r i).2.1,(aB x i).2.2)=dx (0,0,[]) x (i+1):=by
 rw [h.2.2.2];exact Rh ((0,0,[]):aT) (l:=x) (k:=i) (by have :=h.1;omega)
theorem Ri {docs:List (List UInt8)} {l:List aT}(h:r7 docs l)(k:Nat):small (docs.getD k []):=by
 by_cases hk:k<docs.length
 . exact h.2.2.1 _ (bu docs k [] hk)
 grind[List.getElem?_eq_none,small]
theorem Ab {docs:List (List UInt8)} {l:List aT}(h:r7 docs l)(k:Nat):small (aB l k).2.2/\∀j,small ((aB l k).2.2.getD j ([],[])).2:=by
 by_cases hk:k<l.length
 . have h1:=h.2.2.2 _ (yj hk);grind[aB,bu,List.getElem?_eq_none,small]
 simp_all[aB,H!,List.getElem?_eq_none,small]
theorem xL {α:Type}(z:α)(l:List α)(j:Nat):l.set j (l.getD j z)=l:=by
 apply List.ext_getElem?;grind
end Go.S
namespace Go.S
theorem aoM {a b:bL}(h:xm a.1 a.2 b.1 b.2=true):a=b:=by
 simp [xm,Bool.and_eq_true,decide_eq_true_eq] at h;grind
theorem aoN {a b:bL}(h:xm a.1 a.2 b.1 b.2=false):¬a=b:=by
 grind[xm]
theorem acR {α:Type} {l:List α} {k:Nat}(h:small l)(hk:(k:Int)<l.length):(k:Int)+1<=9223372036854775807:=by grind[small]
theorem acS {x r:List aT} {i j:Nat}(h:r8 x r i j)(hj:(j:Int)<((aB x i).2.2.length:Int)):r8 x r i (j+1):=⟨h.1,by omega,h.2.2⟩
theorem acT {x:List aT} {i j:Nat}(hj:(j:Int)<((aB x i).2.2.length:Int)):ag (lU x i) (j+1)<ag (lU x i) j:=by
 grind[ag,lU]
end Go.S
namespace Go.S
theorem acU {d:List bL}(h:aY d=true):∀e∈d,e.2.length<=1000:=by
 intro e he;obtain⟨j,hj,rfl⟩:=List.mem_iff_getElem.1 he;have h1:=yi (xk h) hj;grind[Q2,dI,gy,List.getElem?_eq_getElem]
theorem RI.seg {docs:List (List UInt8)} {l:List aT} {S:List Sp}(h:RI docs l S):∀s∈l,qZ s=true/\bf s.2.2/\s=(s.1,s.2.1,make docs s.1 s.2.1)/\c9 docs s.1 s.2.1=true :=by
 intro s hs;rw [h.eq] at hs;have h1:=DY h.row s hs;simp only [bF,List.mem_map] at hs;obtain⟨p,hp,rfl⟩:=hs;have hf:=qa h.row p hp;grind[Q5]
theorem RI.small {docs:List (List UInt8)} {l:List aT} {S:List Sp}(h:RI docs l S):r7 docs l:=by
 have hb:=h.bd;have hle:=h.le;refine⟨by omega,by omega,fun b hb=> ?_,fun s hs=> ?_⟩
 . have :=h.fair;simp [cP,Bool.and_eq_true,List.all_eq_true,decide_eq_true_eq] at this;grind[Go.S.small]
 . obtain⟨h1,h2,_⟩:=h.seg s hs;refine⟨by have :=h2.1;grind[Go.S.small],fun e he=> ?_⟩;grind[acU,Rb,Go.S.small]
theorem D3(docs:List (List UInt8))(l:List aT):r7 (aq docs l).1 (aq docs l).2:=(o8 docs l).small
theorem o9(docs:List (List UInt8))(l:List aT):(aq docs l).1.length<=1000/\(aq docs l).2.length<=64/\0<=cD (aq docs l).2/\cD (aq docs l).2<=(aq docs l).1.length:=by
 have h:=o8 docs l;have hb:=h.bd;have hle:=h.le;omega
theorem tB(docs:List (List UInt8))(l:List aT) {k:Nat}(hk:k<(aq docs l).2.length):qZ (aB (aq docs l).2 k)=true/\bf (aB (aq docs l).2 k).2.2:=
 have h:=(o8 docs l).seg _ (yj hk)
 ⟨h.1,h.2.1⟩
theorem ax0 {docs:List (List UInt8)} {l:List aT} {d:List UInt8}(h:(2000:Int)<d.length):cE docs l d=(aq docs l,1):=by simp_all[cE,W!]
theorem ax1 {docs:List (List UInt8)} {l:List aT} {d:List UInt8}(h:¬(2000:Int)<d.length)(h1:(1000:Int)<=(aq docs l).1.length):cE docs l d=(aq docs l,3):=by simp_all[cE,T!,W!]
theorem afm {docs:List (List UInt8)} {l:List aT} {d:List UInt8}(h:¬(2000:Int)<d.length)(h1:¬(1000:Int)<=(aq docs l).1.length):cE docs l d=(((aq docs l).1++ [d],(aq docs l).2),0):=by simp_all[cE,T!]
theorem ax2 {docs:List (List UInt8)} {l:List aT}(h:cD (aq docs l).2=((aq docs l).1.length:Int)):bQ docs l=(aq docs l,5):=by simp_all[bQ,fZ,W!]
theorem ax3 {docs:List (List UInt8)} {l:List aT}(h:¬cD (aq docs l).2=((aq docs l).1.length:Int))(h1:(64:Int)<=(aq docs l).2.length):bQ docs l=(aq docs l,3):=by simp_all[bQ,fZ,T!,W!]
theorem ax4 {docs:List (List UInt8)} {l:List aT}(h:¬cD (aq docs l).2=((aq docs l).1.length:Int)):
  cQ (aq docs l).1 (cD (aq docs l).2) ((aq docs l).1.length:Nat)=((cD (aq docs l).2,((aq docs l).1.length:Int),make (aq docs l).1 (cD (aq docs l).2) ((aq docs l).1.length:Nat)),0):=by
 have hb:=o9 docs l;have hf:=tA (o8 docs l).fair hb.2.2.1 (by omega :cD (aq docs l).2<((aq docs l).1.length:Int)) (Int.le_refl _);grind[cQ]
theorem ax5 {docs:List (List UInt8)} {l:List aT}(h:¬cD (aq docs l).2=((aq docs l).1.length:Int))(h1:¬(64:Int)<=(aq docs l).2.length):
  bQ docs l=(((aq docs l).1,(aq docs l).2++ [(cQ (aq docs l).1 (cD (aq docs l).2) ((aq docs l).1.length:Nat)).1]),0):=by
 simp_all[ax4,bQ,fZ,T!]
theorem aMc {l:List aT} {i m:Int}(h:¬m<2/\¬i<0/\¬(l.length:Int)<m/\¬(l.length:Int)-m<i):Lj l i m=false/\(i+m).toNat-i.toNat=m.toNat/\i.toNat+m.toNat<=l.length/\0<m.toNat:=by
 grind[Lj,Bool.or_eq_false_iff,decide_eq_false_iff_not]
theorem aSw {docs:List (List UInt8)} {l:List aT} {i m:Int}(h:m<2\/i<0\/((aq docs l).2.length:Int)<m\/((aq docs l).2.length:Int)-m<i):yk docs l i m=(aq docs l,1):=by
 have :Lj (aq docs l).2 i m=true :=by
  simp_all[Lj,X?,I!]
 simp_all[yk,W!]
theorem aOW {docs:List (List UInt8)} {l:List aT} {i m:Int}(h:¬m<2/\¬i<0/\¬((aq docs l).2.length:Int)<m/\¬((aq docs l).2.length:Int)-m<i):
  ae8 (((aq docs l).2.take (i+m).toNat).drop i.toNat)/\Vb (((aq docs l).2.take (i+m).toNat).drop i.toNat)=(za (aq docs l).1 (aq docs l).2 i.toNat m.toNat,0)/\aAP (aq docs l).2 i m:=by
 obtain⟨h1,h2,h3,h4⟩:=aMc h;have hc:=(o8 docs l).cut h4 h3;have hb:=o9 docs l;rw [List.drop_take,h2];exact⟨hc.2.2.1,hc.2.1,by omega,by omega,by omega,by omega⟩
theorem aSx {docs:List (List UInt8)} {l:List aT} {i m:Int}(h:¬m<2/\¬i<0/\¬((aq docs l).2.length:Int)<m/\¬((aq docs l).2.length:Int)-m<i):
  yk docs l i m=(((aq docs l).1,Hq (aq docs l).2 i.toNat m.toNat (Vb (((aq docs l).2.take (i+m).toNat).drop i.toNat)).1),0):=by
 simp_all[aOW,yk,T!,aMc]
theorem aSy(docs:List (List UInt8))(l:List aT):ayY docs l (eF (aq docs l).2):=by
 have h:=o8 docs l;refine⟨?_,rfl⟩;rw [<-h.eq];exact h
theorem aSz {docs:List (List UInt8)} {l:List aT} {L:List Sp}(h:ayY docs l L):small (bF (aq docs l).1 L):=by
 have :=h.1.le;grind[small,ju]
theorem aPM {docs:List (List UInt8)} {l:List aT} {L:List Sp}(h:ayY docs l L)(h1:(uS (eF (bF (aq docs l).1 L))).2=false):bF (aq docs l).1 L=(tz docs l).2:=by
 rw [sH] at h1;unfold tz;rw [<-h.2,aAZ h1]
theorem aOX {docs:List (List UInt8)} {l:List aT} {L:List Sp}(h:ayY docs l L)(h1:(uS (eF (bF (aq docs l).1 L))).2=true):
  0<=(uS (eF (bF (aq docs l).1 L))).1/\(uS (eF (bF (aq docs l).1 L))).1+2<=((bF (aq docs l).1 L).length:Int)/\(bF (aq docs l).1 L).length<=64:=by
 have :=h.1.le;rw [ju,sH] at *;have :=afb h1;omega
theorem aSA {docs:List (List UInt8)} {l:List aT} {L:List Sp}(h:ayY docs l L)(h1:(uS (eF (bF (aq docs l).1 L))).2=true) {n:Int}(hn:(uS (eF (bF (aq docs l).1 L))).1=n):
  ae8 (((bF (aq docs l).1 L).drop n.toNat).take ((n+2).toNat-n.toNat))/\(Vb (((bF (aq docs l).1 L).drop n.toNat).take ((n+2).toNat-n.toNat))).2=0/\aAP (bF (aq docs l).1 L) n 2/\
  Hq (bF (aq docs l).1 L) n.toNat 2 (Vb (((bF (aq docs l).1 L).drop n.toNat).take ((n+2).toNat-n.toNat))).1=bF (aq docs l).1 (BJ L n.toNat)/\ayY docs l (BJ L n.toNat)/\(BJ L n.toNat).length<L.length:=by
 have hb:=aOX h h1;rw [hn] at hb;rw [ju] at hb;have hn':=hn;rw [sH] at h1 hn';have hf:=h.1.aOP (i:=n.toNat) (by omega);rw [show(n+2).toNat-n.toNat=2 by omega];have hl:=acP (l:=L) (i:=n.toNat) (by omega);refine⟨hf.2.2.2,by grind,⟨by grind[ju],hb.1,by omega,by grind[ju]⟩,by grind,⟨hf.1,?_⟩,by omega⟩;rw [<-h.2,<-hn'];exact aAO h1
theorem Rj {docs:List (List UInt8)} {l:List aT} {k:Nat}(h:(k:Int)<(aq docs l).2.length):
  eH docs l k++ [(nA (aB (aq docs l).2 k).1 (aB (aq docs l).2 k).2.1 (aB (aq docs l).2 k).2.2).1]=eH docs l (k+1):=by
 have hg:=tB docs l (k:=k) (by omega);have hr:dQ (aB (aq docs l).2 k).1 (aB (aq docs l).2 k).2.1 (aB (aq docs l).2 k).2.2=true :=hg.1;have hk:k<(aZ docs l).length:=by grind[aZ,List.length_map]
 unfold eH;rw [au (aZ docs l) k (0,0,0,[]) hk];rw [List.getD_eq_getElem?_getD,List.getElem?_eq_getElem hk];simp [aZ,List.getElem_map,Option.getD_some,BK];grind[Va,aq,aB,List.getElem?_eq_getElem,uQ]
theorem Vh {docs:List (List UInt8)} {l:List aT} {k:Nat}(h:¬(k:Int)<(aq docs l).2.length):eH docs l k=aZ docs l:=by
 grind[eH,List.take_of_length_le,aZ,List.length_map]
theorem BU(docs:List (List UInt8))(l:List aT)(k:Nat):(eH docs l k).length<=64:=by
 grind[o9,eH,aZ,List.length_take,List.length_map]
end Go.S
namespace Go.S
theorem aHQ {docs:List (List UInt8)} {l:List aT}(h:cP docs 0 0=false\/64<(l.length:Int)):false=bk docs l:=by
 grind[BM]
theorem afn {docs:List (List UInt8)} {l:List aT} {k:Nat}:
  (bif decide ((k:Int)=0) then
    bif !decide ((aB l (k:Int).toNat).1=0) then true
    else
     bif decide (0<(k:Int)) then
      bif !decide ((aB l (k:Int).toNat).1=(aB l ((k:Int)-1).toNat).2.1) then true
      else !c9 docs (aB l (k:Int).toNat).1 (aB l (k:Int).toNat).2.1
     else !c9 docs (aB l (k:Int).toNat).1 (aB l (k:Int).toNat).2.1
  else
   bif decide (0<(k:Int)) then
    bif !decide ((aB l (k:Int).toNat).1=(aB l ((k:Int)-1).toNat).2.1) then true
    else !c9 docs (aB l (k:Int).toNat).1 (aB l (k:Int).toNat).2.1
   else !c9 docs (aB l (k:Int).toNat).1 (aB l (k:Int).toNat).2.1)= !(decide ((aB l k).1=dw l k)&&c9 docs (aB l k).1 (aB l k).2.1):=by
 by_cases h:k=0
 . simp_all[dw,H?]
 . simp [dw,if_neg h];grind
theorem aoP {docs:List (List UInt8)} {l:List aT} {k:Nat}(h:(!(decide ((aB l k).1=dw l k)&&c9 docs (aB l k).1 (aB l k).2.1))=true):hC docs l k=false :=by
 grind[Bool.not_eq_true',hC,Bool.and_assoc]
theorem ax6 {docs:List (List UInt8)} {l:List aT} {k:Nat}(h:(!(decide ((aB l k).1=dw l k)&&c9 docs (aB l k).1 (aB l k).2.1))=false):(aB l k).1=dw l k/\c9 docs (aB l k).1 (aB l k).2.1=true :=by
 grind
theorem aAd {docs:List (List UInt8)} {l:List aT} {k:Nat}(h:uP (aB l k).1 (aB l k).2.1 (aB l k).2.2 (aB l k).1 (aB l k).2.1 (make docs (aB l k).1 (aB l k).2.1)=false):hC docs l k=false :=by
 have :¬(aB l k).2.2=make docs (aB l k).1 (aB l k).2.1:=fun e=>by grind[QZ]
 simp_all[hC,V?,Bool.and_false]
theorem aoQ {docs:List (List UInt8)} {l:List aT} {k:Nat}(h1:(aB l k).1=dw l k/\c9 docs (aB l k).1 (aB l k).2.1=true)(h:uP (aB l k).1 (aB l k).2.1 (aB l k).2.2 (aB l k).1 (aB l k).2.1 (make docs (aB l k).1 (aB l k).2.1)=true):hC docs l k=true :=by
 simp [uP,Bool.and_eq_true,decide_eq_true_eq] at h;simp [hC,Bool.and_eq_true,decide_eq_true_eq];grind
theorem acV {docs:List (List UInt8)} {l:List aT} {k:Nat}(h:k<=gL docs l)(h1:¬(k:Int)<(aq docs l).2.length):dw (aq docs l).2 k=fZ docs l:=by
 grind[gL,fZ,cD]
theorem RI.with {docs:List (List UInt8)} {l:List aT} {L:List Sp}(h:RI docs l L):afi docs L:=by
 have :=h.le;exact⟨by omega,fun s hs=>n0 (qa h.row s hs)⟩
theorem acW {docs:List (List UInt8)} {l:List aT} {k:Nat}(h:(k:Int)<(aq docs l).2.length):
  eH docs l k++ [CW (aB (aq docs l).2 k).1 (aB (aq docs l).2 k).2.1 (aB (aq docs l).2 k).2.2]=eH docs l (k+1):=by
 have hr:dQ (aB (aq docs l).2 k).1 (aB (aq docs l).2 k).2.1 (aB (aq docs l).2 k).2.2=true :=(tB docs l (k:=k) (by omega)).1;grind[Rj,Va,uQ]
end Go.S
namespace Go.S
end Go.S

end
section
namespace Go.S
theorem aHR(l:List aT):xn l 0:=⟨by simp,J! _⟩
theorem afo {l:List aT} {k:Nat}(h:xn l k)(hk:(k:Int)<l.length)(h1:fN (aB l k).2.2=false):xn l (k+1):=by
 refine⟨?_,by omega⟩;rw [au l k (0,0,[]) (by omega)];intro s hs;rcases F!.1 hs with hs|hs
 . exact h.1 s hs
 . rw [m?.1 hs];exact h1
theorem aoR {docs:List (List UInt8)} {l:List aT} {k:Nat}(hk:(k:Int)<l.length)(h1:fN (aB l k).2.2=true):true=kn docs l:=by
 grind[fN,List.any_eq_true,yj,kn]
theorem aoS {docs:List (List UInt8)} {l:List aT} {k:Nat}(h:xn l k)(hk:¬(k:Int)<l.length):(bif l7 docs then true else decide ((100:Int)<l.length))=kn docs l:=by
 have :l.any (fun s=>fN s.2.2)=false :=by
  rw [<-Bool.not_eq_true,List.any_eq_true];rintro⟨s,hs,h1⟩;have :=h.1 s (by grind[List.take_of_length_le]);grind
 grind[kn]
theorem Oq {docs:List (List UInt8)} {l:List aT}(h:kn docs l=false):small l/\l7 docs=false/\∀s∈l,fN s.2.2=false :=by
 grind[kn,Bool.or_eq_false_iff,decide_eq_false_iff_not,small,fN,List.any_eq_true]
theorem aSB(l:List nF):aA0 l 0:=⟨J! _,J! _⟩
theorem aOY {l:List nF} {k:Nat}(h:(k:Int)<l.length/\(k:Int)<40):aA0 l (k+1):=⟨by omega,by omega⟩
theorem aJW {x:Q7} {l:List nF} {k:Nat}(h:(2500:Int)<(o0 l k).2.2.2.length):lj x l k=lj x l (k+1):=by rw [lj,W! h]
theorem aM7 {x:Q7} {l:List nF} {k:Nat}(h:¬(2500:Int)<(o0 l k).2.2.2.length):(lC (lj x l k).1 (lj x l k).2 (o0 l k).1 (o0 l k).2.1 (o0 l k).2.2.1 (o0 l k).2.2.2).1=lj x l (k+1):=by rw [lj,T! h]
theorem aRo {x:Q7} {l:List nF} {k:Nat}:
  (bif decide (((o0 l k).2.2.2.length:Int)<=2500) then(lC (lj x l k).1 (lj x l k).2 (o0 l k).1 (o0 l k).2.1 (o0 l k).2.2.1 (o0 l k).2.2.2).1.1 else(lj x l k).1)=(lj x l (k+1)).1/\
  (bif decide (((o0 l k).2.2.2.length:Int)<=2500) then(lC (lj x l k).1 (lj x l k).2 (o0 l k).1 (o0 l k).2.1 (o0 l k).2.2.1 (o0 l k).2.2.2).1.2 else(lj x l k).2)=(lj x l (k+1)).2:=by
 grind[decide_eq_false,aJW,decide_eq_true,aM7]
theorem aPN {l:List nF} {k:Nat}(h:aA0 l k)(h1:¬(k:Int)<l.length\/¬(k:Int)<40):lj ([],[]) l k=cY l/\r6 l k=r6 l (min l.length 40):=by
 obtain⟨h2,h3⟩:=h;have :k=min l.length 40:=by omega
 subst this;exact⟨rfl,rfl⟩
theorem aoT(l:List nF):bk (cY l).1 (cY l).2=true :=Oo l _
theorem D4 {docs:List (List UInt8)} {l:List aT}(h:bk docs l=true):fZ docs l=cD l:=by grind[fZ,fi]
theorem T5 {docs:List (List UInt8)} {l:List aT}(h:bk docs l=true):nE (aZ docs l) (fZ docs l)=true :=by
 have R:=RI.of h;have hg:=fi h;have hle:=R.le;have hlen:(aZ docs l).length=l.length:=by grind[aZ,List.length_map]
 have tX:=rb l;rw [D4 h]
 have hsg:∀i,i<l.length->sg (aZ docs l) i=BK (aB l i):=fun i hi=>by
  simp [sg,aZ,hg,aB,H!,J?,D! hi,Option.map_some,Option.getD_some]
 have hse:∀i,i<l.length->aB l i=((jH (eF l) i).1,(jH (eF l) i).2,make docs (jH (eF l) i).1 (jH (eF l) i).2):=fun i hi=>by
  have :=pU docs (eF l) i (by omega);rw [<-R.eq] at this;omega
 unfold nE;rw [hlen];by_cases h0:l.length=0
 . have :l= []:=Y! h0;subst this;rfl
 . rw [if_neg h0];have dR:eF l≠ []:=fun e=>by grind
   simp;refine⟨fun i hi=> ?_,by omega,?_,?_⟩
   . have hr:=(R.seg _ (yj hi));have hr1:dQ (aB l i).1 (aB l i).2.1 (aB l i).2.2=true :=hr.1;simp [vt,B!,L?,Bool.and_eq_false_iff,e?,Bool.not_eq_false',I!];rw [hsg i hi];refine⟨?_,?_⟩
     . grind[BK,uQ,ae4]
     . by_cases hi0:0<i
       . rw [hsg (i-1) (by omega)];simp [BK];rw [uQ,uQ,hse i hi,hse (i-1) (by omega)];have :=Aa R.row (i-1) (by omega);grind
       omega
   . rw [hsg 0 (by omega)];simp [BK];rw [uQ,hse 0 (by omega)];exact uU R.row dR
   . rw [hsg (l.length-1) (by omega)];simp [BK];rw [uQ,hse (l.length-1) (by omega),R.Q8,BO _ _ dR,tX]
end Go.S
namespace Go.S
end Go.S
namespace Go.S
theorem aLB(docs:List (List UInt8))(l:List aT):(aZ docs l).length=gL docs l/\gL docs l<=64:=by
 grind[aZ,gL,o9]
end Go.S

end
section
namespace Go.S
abbrev Hd:=Int×List UInt8×List Sg
def bM(n:Int)(g:List UInt8)(l:List Sg):Bool:=decide (0<=n)&&(decide (n<=1000)&&(decide ((g.length:Int)=32)&&nE l n))
def cv(docs:List (List UInt8))(l:List aT):Bool:=bk docs l&&decide (fZ docs l=(docs.length:Int))
def gg(docs:List (List UInt8))(l:List aT):Hd×Int:=if cv docs l then(((docs.length:Int),root (leaves docs),aZ docs l),0) else((0,[],[]),7)
def xo(s:Sg):List UInt8:=num s.2.1++num s.2.2.1++s.2.2.2
def fj(l:List Sg):List UInt8:=l.flatMap xo
def hB(n:Int)(g:List UInt8)(l:List Sg):List UInt8:=num n++g++num l.length++fj l
def hW(n:Int)(g:List UInt8)(l:List Sg):List UInt8×Int:=if bM n g l then(hB n g l,0) else([],1)
def pq(b:List UInt8)(f:Int):Sg×Int×Int:=
 if(first b).2.2≠0 then((0,0,0,[]),0,(first b).2.2)
 else if(first (b.drop (first b).2.1.toNat)).2.2≠0 then((0,0,0,[]),0,(first (b.drop (first b).2.1.toNat)).2.2)
 else if(b.length:Int)<(first b).2.1+(first (b.drop (first b).2.1.toNat)).2.1+32 then((0,0,0,[]),0,4)
 else((f,(first b).1,(first (b.drop (first b).2.1.toNat)).1,(b.drop ((first b).2.1+(first (b.drop (first b).2.1.toNat)).2.1).toNat).take 32),(first b).2.1+(first (b.drop (first b).2.1.toNat)).2.1+32,0)
abbrev Hs:=List Sg×Int×Int×Int
def iC(b:List UInt8)(p:Int):Nat->Hs
 |0=>([],0,p,0)
 |k+1=>if(iC b p k).2.2.2≠0 then iC b p k
  else if(pq (b.drop (iC b p k).2.2.1.toNat) (iC b p k).2.1).2.2≠0 then((iC b p k).1,(iC b p k).2.1,(iC b p k).2.2.1,(pq (b.drop (iC b p k).2.2.1.toNat) (iC b p k).2.1).2.2)
  else((iC b p k).1++ [(pq (b.drop (iC b p k).2.2.1.toNat) (iC b p k).2.1).1],(pq (b.drop (iC b p k).2.2.1.toNat) (iC b p k).2.1).1.2.1,(iC b p k).2.2.1+(pq (b.drop (iC b p k).2.2.1.toNat) (iC b p k).2.1).2.1,0)
def Ac(b:List UInt8)(n:Int)(g:List UInt8)(s:Hs):Hd×Int:=
 if s.2.2.2≠0 then((0,[],[]),s.2.2.2)
 else if s.2.2.1<b.length\/bM n g s.1=false then((0,[],[]),2)
 else((n,g,s.1),0)
def hR(b:List UInt8):Hd×Int:=
 if(first b).2.2≠0 then((0,[],[]),(first b).2.2)
 else if(b.length:Int)<(first b).2.1+32 then((0,[],[]),4)
 else if(first (b.drop ((first b).2.1+32).toNat)).2.2≠0 then((0,[],[]),(first (b.drop ((first b).2.1+32).toNat)).2.2)
 else if 64<(first (b.drop ((first b).2.1+32).toNat)).1 then((0,[],[]),2)
 else Ac b (first b).1 ((b.drop (first b).2.1.toNat).take 32) (iC b ((first b).2.1+32+(first (b.drop ((first b).2.1+32).toNat)).2.1) (first (b.drop ((first b).2.1+32).toNat)).1.toNat)
def T6(a1:Int)(a2:List UInt8)(a3:List Sg)(b1:Int)(b2:List UInt8)(b3:List Sg):Bool:=decide (a1=b1)&&(decide (a2=b2)&&decide (a3=b3))
theorem Lq:∀(f v:Nat),v<128^f->1<=f->∃(m:List UInt8) (x:UInt8),mC f v=m++ [x]/\(∀y∈m,128<=y.toNat)/\x.toNat<128/\cT (m++ [x])=v/\(1<=m.length->x.toNat≠0)
 |0,v,_,h=>by omega
 |f+1,v,h,_=>by
  by_cases hv:v<128
  . have e:(UInt8.ofNat v).toNat=v:=by grind[UInt8.toNat_ofNat']
    refine⟨[],UInt8.ofNat v,by simp_all[mC,if_pos],by simp,by omega,?_,by simp⟩;grind[cT]
  . have hf:f≠0:=by grind
    obtain⟨m,x,h1,h2,h3,h4,h5⟩:=Lq f (v/128) (by omega) (by omega);have e:(UInt8.ofNat (v%128+128)).toNat=v%128+128:=by grind[UInt8.toNat_ofNat']
    refine⟨UInt8.ofNat (v%128+128)::m,x,?_,?_,h3,?_,fun _=> ?_⟩
    . simp_all[mC,T!]
    . grind
    . grind[cT]
    grind[List.eq_nil_of_length_eq_zero,cT]
theorem qb {v:Int}(h:0<=v)(h1:v<=4611686018427387904)(r:List UInt8):first (num v++r)=(v,((num v).length:Int),0):=by
 obtain⟨m,x,e,h2,h3,h4,h5⟩:=Lq 9 v.toNat (by omega) (by omega);have hl:m.length+1<=9:=by grind[CI]
 have e':num v=m++ [x]:=e;have g1:(m++ [x]++r).take m.length=m:=by grind
 have g2:(m++ [x]++r).getD m.length 0=x:=by
  grind
 have g3:(m++ [x]++r).take (m.length+1)=m++ [x]:=by grind
 have :=KV (m++ [x]++r) m.length (by grind) (by simp) (by omega) (by grind);rw [g2,g3,h4] at this;rw [e',this,if_neg]
 . simp;omega
 . rintro(⟨q1,q2⟩|q)
   . exact h5 q1 q2
   . omega
theorem r9 {b:List UInt8}(h:(first b).2.2=0):b=num (first b).1++b.drop (first b).2.1.toNat/\(first b).2.1=((num (first b).1).length:Int):=by
 obtain⟨q1,q2⟩:=TW h;have h0:=il b;grind[List.take_append_drop,List.length_take]
theorem ym {a b:Int} {c:Int} {d:List UInt8}(h:j3 a b c d=true):0<=a/\a<b/\b<=1000/\1<=c/\c<=1099511627776/\d.length=32:=by
 simp [j3,iB,B!,I!] at h;omega
theorem mK {l:List Sg} {n:Int}(h:nE l n=true):l.length<=64/\(∀i,i<l.length->j3 (sg l i).1 (sg l i).2.1 (sg l i).2.2.1 (sg l i).2.2.2=true)/\(0<l.length->(sg l 0).1=0)/\(∀i,i+1<l.length->(sg l (i+1)).1=(sg l i).2.1):=by
 unfold nE at h;split at h
 . grind
 . simp at h;obtain⟨h1,h2,h3,h4⟩:=h;refine⟨by omega,fun i hi=> ?_,fun _=>h3,fun i hi=> ?_⟩
   . simp_all[vt,B!]
   . have :=h1 (i+1) hi;simp_all[vt,B!,L?,Bool.and_eq_false_iff,e?,Bool.not_eq_false',I!]
theorem ga {n:Int} {g:List UInt8} {l:List Sg}:bM n g l=true↔0<=n/\n<=1000/\g.length=32/\nE l n=true :=by
 simp [bM,Bool.and_eq_true,decide_eq_true_eq];grind
theorem aoW {s:Sg}(h:j3 s.1 s.2.1 s.2.2.1 s.2.2.2=true)(r:List UInt8):pq (xo s++r) s.1=(s,((xo s).length:Int),0):=by
 have hg:=ym h;have e1:xo s++r=num s.2.1++(num s.2.2.1++(s.2.2.2++r)):=by simp [xo]
 have f1:=qb (v:=s.2.1) (by omega) (by omega) (num s.2.2.1++(s.2.2.2++r));have f2:=qb (v:=s.2.2.1) (by omega) (by omega) (s.2.2.2++r);have d1:(num s.2.1++(num s.2.2.1++(s.2.2.2++r))).drop (((num s.2.1).length:Int)).toNat=num s.2.2.1++(s.2.2.2++r):=by simp_all
 have d2:(num s.2.1++(num s.2.2.1++(s.2.2.2++r))).drop (((num s.2.1).length:Int)+((num s.2.2.1).length:Int)).toNat=s.2.2.2++r:=by
  rw [show(((num s.2.1).length:Int)+((num s.2.2.1).length:Int)).toNat=(num s.2.1).length+(num s.2.2.1).length by omega,<-S?,k?,k?]
 unfold pq;rw [e1,f1];simp only [d1,f2,d2];rw [if_neg (by simp),if_neg (by simp),if_neg (by simp;omega),List.take_left' hg.2.2.2.2.2];simp [xo,List.length_append];omega
theorem Lr {b:List UInt8} {f:Int}(h:(pq b f).2.2=0):b=xo (pq b f).1++b.drop (pq b f).2.1.toNat/\(pq b f).2.1=((xo (pq b f).1).length:Int)/\(pq b f).1.1=f:=by
 unfold pq at h |-;split at h
 . grind
 . rename_i h1;split at h
   . grind
   . rename_i h2;split at h
     . cases h
     . rename_i h3;rw [T! h1,T! h2,T! h3];obtain⟨p1,p2⟩:=r9 (b:=b) (N? h1);obtain⟨q1,q2⟩:=r9 (b:=b.drop (first b).2.1.toNat) (N? h2);generalize hm:(first b).2.1=m at *;generalize hk:(first (b.drop m.toNat)).2.1=k at *;have e1:b.drop (m+k).toNat=(b.drop m.toNat).drop k.toNat:=by rw [S?];congr 1;omega
       have e2:b.drop (m+k+32).toNat=(b.drop (m+k).toNat).drop 32:=by rw [S?];congr 1;omega
       have hl:((b.drop (m+k).toNat).take 32).length=32:=by rw [X!,V!];omega
       refine⟨?_,?_,rfl⟩
       . simp only [xo];rw [U!,U!,e2,O?,e1,<-q1];exact p1
       . simp [xo,C!,hl];omega
theorem Vi {l:List Sg}(hg:∀i,i<l.length->j3 (sg l i).1 (sg l i).2.1 (sg l i).2.2.1 (sg l i).2.2.2=true)(h0:0<l.length->(sg l 0).1=0)(hc:∀i,i+1<l.length->(sg l (i+1)).1=(sg l i).2.1)(a r:List UInt8):
  ∀k,k<=l.length->iC (a++(fj l++r)) (a.length:Int) k=(l.take k,(if k=0 then 0 else(sg l (k-1)).2.1),((a.length+(fj (l.take k)).length:Nat):Int),0)
 |0,_=>by rfl
 |k+1,hk=>by
  have ih:=Vi hg h0 hc a r k (by omega);have CX:k<l.length:=by omega
  have et:l.take (k+1)=l.take k++ [sg l k]:=au l k _ CX
  have ed:l=l.take k++(sg l k::l.drop (k+1)):=by
   have :l.drop k=sg l k::l.drop (k+1):=by
    rw [l? CX];congr 1;rw [sg,H!,D! CX];rfl
   rw [<-this];exact(O? k l).symm
  have es:fj l=fj (l.take k)++(xo (sg l k)++fj (l.drop (k+1))):=by
   grind[fj,sg]
  have hdr:(a++(fj l++r)).drop ((a.length+(fj (l.take k)).length:Nat):Int).toNat=xo (sg l k)++(fj (l.drop (k+1))++r):=by
   rw [Q!,es,<-S?,k?,U!,k?,U!]
  have hf:(if k=0 then(0:Int) else(sg l (k-1)).2.1)=(sg l k).1:=by
   grind
  have hs:=aoW (hg k CX) (fj (l.drop (k+1))++r);simp only [iC,ih,hdr,hf,hs];rw [T! (by simp),T! (by simp),T! (by omega),et];simp only [Nat.add_sub_cancel,fj,w?,List.flatMap_cons,List.flatMap_nil,C?,C!];congr 3
  omega
theorem Ad {n:Int} {g:List UInt8} {l:List Sg}(h:bM n g l=true):hR (hB n g l)=((n,g,l),0):=by
 obtain⟨h1,h2,h3,h4⟩:=ga.1 h;obtain⟨r1,r2,r3,r4⟩:=mK h4;have e:hB n g l=num n++(g++(num l.length++fj l)):=by simp [hB]
 have f1:=qb h1 (by omega) (g++(num l.length++fj l));have f2:=qb (v:=(l.length:Int)) (by omega) (by omega) (fj l);have d1:(num n++(g++(num l.length++fj l))).drop (((num n).length:Int)).toNat=g++(num l.length++fj l):=by rw [Q!,k?]
 have d2:(num n++(g++(num l.length++fj l))).drop (((num n).length:Int)+32).toNat=num l.length++fj l:=by
  rw [show(((num n).length:Int)+32).toNat=(num n).length+g.length by omega,<-S?,k?,k?]
 have lI:=Vi r2 r3 r4 (num n++(g++num l.length)) [] l.length (N! _);have ea:num n++(g++num l.length)++(fj l++ [])=num n++(g++(num l.length++fj l)):=by simp
 have el:(((num n++(g++num (l.length:Int))).length:Nat):Int)=((num n).length:Int)+32+((num (l.length:Int)).length:Int):=by simp;omega
 rw [ea,el,List.take_length] at lI;unfold hR;rw [e,f1];simp only [d1,d2,f2];rw [if_neg (by simp),if_neg (by simp;omega),if_neg (by simp),if_neg (by omega),List.take_left' h3,Int.toNat_natCast,lI];unfold Ac;rw [if_neg (by simp),if_neg];rw [h];rintro(q|q)
 . simp at q;omega
 . cases q
theorem Vj {b:List UInt8} {p:Int}(hp:0<=p):∀k,(iC b p k).2.2.2=0->p<=(iC b p k).2.2.1/\b.drop p.toNat=fj (iC b p k).1++b.drop (iC b p k).2.2.1.toNat/\(iC b p k).1.length=k
 |0,_=>by simp [iC,fj]
 |k+1,h=>by
  have ih:=Vj (b:=b) hp k;rw [iC] at h |-;generalize iC b p k=s at *;by_cases h1:s.2.2.2=0
  . rw [T! (fun e=>e h1)] at h |-;by_cases h2:(pq (b.drop s.2.2.1.toNat) s.2.1).2.2=0
    . rw [T! (fun e=>e h2)];obtain⟨i1,i2,i3⟩:=ih h1;obtain⟨q1,q2,q3⟩:=Lr h2;generalize pq (b.drop s.2.2.1.toNat) s.2.1=g at *;refine⟨by simp;omega,?_,by simp [i3]⟩;have e:b.drop (s.2.2.1+g.2.1).toNat=(b.drop s.2.2.1.toNat).drop g.2.1.toNat:=by rw [S?];congr 1;omega
      have e2:fj (s.1++ [g.1])=fj s.1++xo g.1:=by simp [fj]
      rw [e,e2,U!,<-q1];exact i2
    grind
  grind
theorem T7 {b:List UInt8}(h:(hR b).2=0):bM (hR b).1.1 (hR b).1.2.1 (hR b).1.2.2=true/\hB (hR b).1.1 (hR b).1.2.1 (hR b).1.2.2=b:=by
 unfold hR at h |-;split at h
 . omega
 . rename_i h1;split at h
   . cases h
   . rename_i h2;split at h
     . omega
     . rename_i h3;split at h
       . cases h
       . rename_i h4;rw [if_neg h1,if_neg h2,if_neg h3,if_neg h4];unfold Ac at h |-;split at h
         . omega
         . rename_i h5;split at h
           . cases h
           . rename_i h6;rw [T! h5,T! h6];obtain⟨p1,p2⟩:=r9 (b:=b) (N? h1);obtain⟨q1,q2⟩:=r9 (b:=b.drop ((first b).2.1+32).toNat) (N? h3);have b1:=il (b.drop ((first b).2.1+32).toNat);generalize hm:(first b).2.1=m at *;generalize hw:(first (b.drop (m+32).toNat)).1=w at *;generalize hk:(first (b.drop (m+32).toNat)).2.1=k at *;obtain⟨i1,i2,i3⟩:=Vj (b:=b) (p:=m+32+k) (by omega) w.toNat (N? h5);refine⟨?_,?_⟩
             . grind
             . have e0:b.drop (iC b (m+32+k) w.toNat).2.2.1.toNat= []:=Q? (by omega);rw [e0,C?] at i2;have e1:b.drop (m+32).toNat=(b.drop m.toNat).drop 32:=by rw [S?];congr 1;omega
               have e2:b.drop (m+32+k).toNat=(b.drop (m+32).toNat).drop k.toNat:=by rw [S?];congr 1;omega
               simp only [hB];rw [i3,<-i2,show((w.toNat:Nat):Int)=w by omega,e2,U!,U!,<-q1,e1,O?];exact p1.symm
theorem afp {b:List UInt8}(h:(hR b).2≠0):(hR b).1=(0,[],[]):=by
 grind[hR,Ac]
theorem T8 {a1:Int} {a2:List UInt8} {a3:List Sg} {b1:Int} {b2:List UInt8} {b3:List Sg}:T6 a1 a2 a3 b1 b2 b3=decide ((a1,a2,a3)=(b1,b2,b3)):=by
 grind[T6,Prod.mk.injEq,Bool.decide_and]
theorem Rk {a b:Hd}(ha:bM a.1 a.2.1 a.2.2=true)(hb:bM b.1 b.2.1 b.2.2=true):(hB a.1 a.2.1 a.2.2=hB b.1 b.2.1 b.2.2)↔a=b:=by
 grind[Ad]
end Go.S

end
section
namespace Go.S
def pr(n:Int)(g:List UInt8)(l:List Sg)(k:Nat):List UInt8:=num n++g++num l.length++fj (l.take k)
def zb(n:Int)(g:List UInt8)(l:List Sg)(k:Nat):Prop :=bM n g l=true/\k<=l.length
def pt(b:List UInt8)(a e f:Int):(Int×Int)×Sg:=
 (((aC b (an b (an b a e).1.2.1 (an b a e).1.2.2).1.2.1 (an b (an b a e).1.2.1 (an b a e).1.2.2).1.2.2).1.2.1,
   (aC b (an b (an b a e).1.2.1 (an b a e).1.2.2).1.2.1 (an b (an b a e).1.2.1 (an b a e).1.2.2).1.2.2).1.2.2),
  f,(an b a e).2,(an b (an b a e).1.2.1 (an b a e).1.2.2).2,
  (aC b (an b (an b a e).1.2.1 (an b a e).1.2.2).1.2.1 (an b (an b a e).1.2.1 (an b a e).1.2.2).1.2.2).2)
abbrev Ps:=(Int×Int)×Int×List Sg
def nk(b:List UInt8)(a e:Int):Nat->Ps
 |0=>((a,e),0,[])
 |k+1=>((pt b (nk b a e k).1.1 (nk b a e k).1.2 (nk b a e k).2.1).1,(pt b (nk b a e k).1.1 (nk b a e k).1.2 (nk b a e k).2.1).2.2.1,
   (nk b a e k).2.2++ [(pt b (nk b a e k).1.1 (nk b a e k).1.2 (nk b a e k).2.1).2])
def eZ(b:List UInt8):(Int×List UInt8×Int)×Int×Int:=
 (((an b 0 0).2,(aC b (an b 0 0).1.2.1 (an b 0 0).1.2.2).2,
   (an b (aC b (an b 0 0).1.2.1 (an b 0 0).1.2.2).1.2.1 (aC b (an b 0 0).1.2.1 (an b 0 0).1.2.2).1.2.2).2),
  (an b (aC b (an b 0 0).1.2.1 (an b 0 0).1.2.2).1.2.1 (aC b (an b 0 0).1.2.1 (an b 0 0).1.2.2).1.2.2).1.2.1,
  (an b (aC b (an b 0 0).1.2.1 (an b 0 0).1.2.2).1.2.1 (aC b (an b 0 0).1.2.1 (an b 0 0).1.2.2).1.2.2).1.2.2)
def gG(b:List UInt8)(k:Nat):Ps:=nk b (eZ b).2.1 (eZ b).2.2 k
def pN(b:List UInt8):Nat:=(eZ b).1.2.2.toNat
theorem EX(b:List UInt8)(a e:Int):(an b a e).1.1=b/\(aC b a e).1.1=b:=by
 grind[an,aC]
theorem Rl {b:List UInt8} {a e:Int}(h:e≠0):bI b a e=e:=by simp_all[bI,T!]
theorem BV {b:List UInt8} {a:Int}(h:0<=a)(h1:a<=b.length):bI b a 0=0:=by
 simp_all[bI,T!,inside,Bool.and_eq_false_iff,e?]
theorem Vk {b:List UInt8} {a e:Int}(h:e≠0):an b a e=((b,a,e),0):=by
 simp_all[an,Rl,W!]
theorem Vl {b:List UInt8} {a e:Int}(h:e≠0):aC b a e=((b,a,e),[]):=by
 simp_all[aC,Rl,W!]
theorem Ae {b:List UInt8} {a:Int}(h:0<=a)(h1:a<=b.length)(h2:(first (b.drop a.toNat)).2.2=0):an b a 0=((b,a+(first (b.drop a.toNat)).2.1,0),(first (b.drop a.toNat)).1):=by
 have e:(aX b a).2.2=0:=h2;unfold an;rw [BV h h1,if_neg (fun q=>q rfl),if_neg (fun q=>q e)];simp_all[aX,KT,if_true]
theorem Ot {b:List UInt8} {a:Int}(h:0<=a)(h1:a<=b.length)(h2:(first (b.drop a.toNat)).2.2≠0):an b a 0=((b,a,(first (b.drop a.toNat)).2.2),0):=by
 have e:(aX b a).2.2≠0:=h2;unfold an;rw [BV h h1,if_neg (fun q=>q rfl),if_pos e];rfl
theorem T9 {b:List UInt8} {a:Int}(h:0<=a)(h1:a+32<=b.length):aC b a 0=((b,a+32,0),(b.drop a.toNat).take 32):=by
 unfold aC;rw [BV h (by omega),if_neg (fun q=>q rfl),if_neg (by omega)]
theorem afq {b:List UInt8} {a:Int}(h:0<=a)(h1:a<=b.length)(h2:(b.length:Int)<a+32):aC b a 0=((b,a,4),[]):=by
 unfold aC;rw [BV h h1,if_neg (fun q=>q rfl),if_pos (by omega)]
theorem afr {b:List UInt8} {a e f:Int}(h:e≠0):(pt b a e f).1=(a,e):=by
 grind[pt,Vk,Vl]
theorem aoX {b:List UInt8} {a f:Int}(h:0<=a)(h1:a<=b.length)(h2:(pq (b.drop a.toNat) f).2.2=0):
  pt b a 0 f=((a+(pq (b.drop a.toNat) f).2.1,0),(pq (b.drop a.toNat) f).1)/\a+(pq (b.drop a.toNat) f).2.1<=b.length:=by
 unfold pq at h2 |-;split at h2
 . grind
 . rename_i q1;split at h2
   . grind
   . rename_i q2;split at h2
     . grind
     . rename_i q3;rw [T! q1,T! q2,T! q3];have q1':=N? q1;have q2':=N? q2;have b0:=il (b.drop a.toNat);have b1:=il ((b.drop a.toNat).drop (first (b.drop a.toNat)).2.1.toNat);have r1:=Ae h h1 q1';rw [V!] at q3;generalize hn:(first (b.drop a.toNat)).2.1=n at *;have ed:(b.drop a.toNat).drop n.toNat=b.drop (a+n).toNat:=by rw [S?];congr 1;omega
       rw [ed] at q2' b1 q3 |-;have r2:=Ae (b:=b) (a:=a+n) (by omega) (by omega) q2';generalize hm:(first (b.drop (a+n).toNat)).2.1=m at *;have ed2:(b.drop a.toNat).drop (n+m).toNat=b.drop (a+n+m).toNat:=by rw [S?];congr 1;omega
       have r3:=T9 (b:=b) (a:=a+n+m) (by omega) (by omega);unfold pt;simp only [r1,r2,r3,ed2];refine⟨?_,by omega⟩;congr 2
       omega
theorem aoY {b:List UInt8} {a f:Int}(h:0<=a)(h1:a<=b.length)(h2:(pq (b.drop a.toNat) f).2.2≠0):(pt b a 0 f).1.2=(pq (b.drop a.toNat) f).2.2:=by
 unfold pq at h2 |-;by_cases q1:(first (b.drop a.toNat)).2.2=0
 . have b0:=il (b.drop a.toNat);have r1:=Ae h h1 q1;generalize hn:(first (b.drop a.toNat)).2.1=n at *;have ed:(b.drop a.toNat).drop n.toNat=b.drop (a+n).toNat:=by grind[List.drop_drop]
   rw [ed] at h2 |-;have hb:a+n<=b.length:=by grind
   by_cases q2:(first (b.drop (a+n).toNat)).2.2=0
   . have b1:=il (b.drop (a+n).toNat);have r2:=Ae (b:=b) (a:=a+n) (by omega) hb q2;generalize hm:(first (b.drop (a+n).toNat)).2.1=m at *;by_cases q3:((b.drop a.toNat).length:Int)<n+m+32
     . grind[List.length_drop,afq,pt]
     grind
   . grind[Ot,Vl,pt]
 simp_all[W!,Ot,Vk,Vl,pt]
theorem C2 {b:List UInt8} {p:Int}(hp:0<=p)(Ey:p<=b.length):∀k,((iC b p k).2.2.2=0->nk b p 0 k=(((iC b p k).2.2.1,0),(iC b p k).2.1,(iC b p k).1)/\0<=(iC b p k).2.2.1/\(iC b p k).2.2.1<=b.length)/\((iC b p k).2.2.2≠0->(nk b p 0 k).1.2=(iC b p k).2.2.2)
 |0=>⟨fun _=>⟨rfl,hp,Ey⟩,fun h=>absurd rfl h⟩
 |k+1=>by
  obtain⟨i1,i2⟩:=C2 (b:=b) hp Ey k;rw [iC,nk];generalize iC b p k=s at *;generalize nk b p 0 k=t at *;by_cases h1:s.2.2.2=0
  . obtain⟨rfl,j1,j2⟩:=i1 h1;by_cases h2:(pq (b.drop s.2.2.1.toNat) s.2.1).2.2=0
    . obtain⟨g1,g2⟩:=aoX j1 j2 h2;have g3:=(Lr h2).2.1;grind
    simp_all[W!,absurd,aoY]
  simp_all[W!,afr]
theorem Rm(b:List UInt8)(a e:Int):∀k,(nk b a e k).2.2.length=k
 |0=>rfl
 |k+1=>by simp [nk,C!,S!,Rm b a e k]
theorem Hx {b:List UInt8} {a e:Int}(h:e≠0):∀k,(nk b a e k).1=(a,e)
 |0=>rfl
 |k+1=>by simp only [nk,Hx h k];exact afr h
theorem Af(b:List UInt8):
  ((eZ b).2.2≠0/\(eZ b).1.2.2=0/\hR b=((0,[],[]),(eZ b).2.2))\/
  ((eZ b).2.2=0/\0<=(eZ b).2.1/\(eZ b).2.1<=b.length/\0<=(eZ b).1.2.2/\hR b=if 64<(eZ b).1.2.2 then((0,[],[]),2) else Ac b (eZ b).1.1 (eZ b).1.2.1 (iC b (eZ b).2.1 (eZ b).1.2.2.toNat)):=by
 have b0:=il b;unfold hR;by_cases q1:(first b).2.2=0
 . have r1:=Ae (b:=b) (a:=0) (f? _) (Int.natCast_nonneg _) q1;generalize hn:(first b).2.1=n at *;by_cases q2:(b.length:Int)<n+32
   . simp_all[W!,afq,Vk,eZ,trivial]
   . rw [T! q2];have r2:=T9 (b:=b) (a:=n) (by omega) (by omega);have b1:=il (b.drop (n+32).toNat);by_cases q3:(first (b.drop (n+32).toNat)).2.2=0
     . grind[Ae,eZ]
     . have r3:=Ot (b:=b) (a:=n+32) (by omega) (by omega) q3;simp_all[eZ,trivial]
 . simp_all[Ot,f?,Int.natCast_nonneg,Vl,Vk,eZ,trivial]
theorem Rn {b:List UInt8}(h:64<(eZ b).1.2.2):hR b=((0,[],[]),2):=by
 grind[Af]
theorem afs {b:List UInt8}(h:¬64<(eZ b).1.2.2)(h0:done b (gG b (pN b)).1.1 (gG b (pN b)).1.2≠0):hR b=((0,[],[]),done b (gG b (pN b)).1.1 (gG b (pN b)).1.2):=by
 unfold gG pN at *;rcases Af b with⟨h1,h2,h3⟩|⟨h1,h2,h3,h4,h5⟩
 . simp_all[Hx,done,W!]
 . rw [h5,if_neg h];obtain⟨l1,l2⟩:=C2 h2 h3 (eZ b).1.2.2.toNat;generalize iC b (eZ b).2.1 (eZ b).1.2.2.toNat=s at *;unfold Ac;by_cases h6:s.2.2.2=0
   . simp_all[T!,inside,B!,I!,done]
   simp_all[W!,done]
theorem Vm {b:List UInt8}(h:¬64<(eZ b).1.2.2)(h0:done b (gG b (pN b)).1.1 (gG b (pN b)).1.2=0):
  hR b=if bM (eZ b).1.1 (eZ b).1.2.1 (gG b (pN b)).2.2 then(((eZ b).1.1,(eZ b).1.2.1,(gG b (pN b)).2.2),0) else((0,[],[]),2):=by
 unfold gG pN at *;rcases Af b with⟨h1,h2,h3⟩|⟨h1,h2,h3,h4,h5⟩
 . simp_all[Hx,done,W!,absurd]
 . rw [h5,if_neg h];obtain⟨l1,l2⟩:=C2 h2 h3 (eZ b).1.2.2.toNat;generalize iC b (eZ b).2.1 (eZ b).1.2.2.toNat=s at *;unfold Ac;by_cases h6:s.2.2.2=0
   . grind[done]
   simp_all[done,W!,absurd]
end Go.S

end
section
namespace Go.S
def aJX(a1:Int)(a2:List UInt8)(a3:List Sg)(b1:Int)(b2:List UInt8)(b3:List Sg)(k:Nat):Prop :=(a1=b1/\a2=b2)/\(a3.length=b3.length/\a3.take k=b3.take k/\k<=a3.length)
end Go.S

end
section
namespace Go.S
theorem aoZ(n:Int)(g:List UInt8)(l:List Sg):(bif decide (0<=n) then bif decide (n<=1000) then bif decide ((g.length:Int)=32) then nE l n else false else false else false)=bM n g l:=by
 grind[bM,decide]
theorem acX(docs:List (List UInt8))(l:List aT):(bif bk docs l then decide (fZ docs l=(docs.length:Int)) else false)=cv docs l:=by
 grind[cv,bk]
theorem Vn {docs:List (List UInt8)} {l:List aT}(h:bk docs l=false\/¬fZ docs l=(docs.length:Int)):gg docs l=((0,[],[]),7):=by
 grind[cv,gg]
theorem xp {docs:List (List UInt8)} {l:List aT}(h:bk docs l=true/\fZ docs l=(docs.length:Int)):gg docs l=(((docs.length:Int),root (leaves docs),aZ docs l),0):=by
 simp_all[cv,P?,gg,W!]
theorem Ag {docs:List (List UInt8)} {l:List aT}(h:bk docs l=true):c8 docs/\small (leaves docs):=by
 have R:=RI.of h;have hb:=R.bd;refine⟨⟨by omega,fun b hb=> ?_⟩,?_⟩
 . have :=R.fair;simp [cP,Bool.and_eq_true,List.all_eq_true,decide_eq_true_eq] at this;grind
 grind[small,leaves,List.length_map]
theorem Ro(docs:List (List UInt8)):nd (leaves docs)=0/\pn (leaves docs)=root (leaves docs):=by
 grind[nd,pn,gF]
theorem Ou {docs:List (List UInt8)}(h:c8 docs):cO (leaves docs):=⟨gF docs,by unfold leaves;rw [List.length_map];exact h.1⟩
theorem Vo {v:Int}(h:c5 v=false)(l:List UInt8):rS v=0/\jd l v=l++num v:=by grind[rS,jd]
theorem xq {v:Int}(h:0<=v)(h1:v<=1099511627776):c5 v=false :=by
 grind[c5,Bool.or_eq_false_iff,decide_eq_false_iff_not]
theorem Ua {n:Int} {g:List UInt8} {l:List Sg}(h:bM n g l=false):hW n g l=([],1):=by grind[hW]
theorem EY {n:Int} {g:List UInt8} {l:List Sg}(h:bM n g l=true):hW n g l=(hB n g l,0):=by grind[hW]
theorem Ah {n:Int} {g:List UInt8} {l:List Sg} {k:Nat}(h:zb n g l k)(hk:(k:Int)<l.length):c5 (sg l k).2.1=false/\c5 (sg l k).2.2.1=false/\(sg l k).2.2.2.length=32:=by
 have hg:=ym ((mK (ga.1 h.1).2.2.2).2.1 k (by omega));grind[xq]
theorem yn {n:Int} {g:List UInt8} {l:List Sg} {k:Nat}(h:zb n g l k):(pr n g l k).length<=100000:=by
 have hr:=ga.1 h.1;have h1:=bG n;have h2:=bG (l.length:Int);have h3:=(mK hr.2.2.2).1
 have h4:∀j,j<=l.length->(fj (l.take j)).length<=50*j:=by
  intro j;induction j with
  |zero=>grind[fj]
  |succ j ih=>
   intro hj;have hg:=ym ((mK hr.2.2.2).2.1 j (by omega));have :=ih (by omega);rw [au l j (0,0,0,[]) (by omega)];simp [fj,List.flatMap_append,List.flatMap_cons,List.flatMap_nil,List.append_nil,List.length_append] at this |-;grind[bG,sg,xo,List.length_append]
 have h6:=h.2;grind[pr,List.length_append]
theorem ax7(n:Int)(g:List UInt8)(l:List Sg):num n++g++num (l.length:Int)=pr n g l 0:=by simp [pr,fj]
theorem Rp {n:Int} {g:List UInt8} {l:List Sg} {k:Nat}(hk:(k:Int)<l.length):pr n g l k++num (sg l k).2.1++num (sg l k).2.2.1++(sg l k).2.2.2=pr n g l (k+1):=by
 simp [pr];rw [au l k (0,0,0,[]) (by omega)];simp [fj,w?,List.flatMap_cons,List.flatMap_nil,C?,xo,sg,U!]
theorem Ov {n:Int} {g:List UInt8} {l:List Sg} {k:Nat}(hk:¬(k:Int)<l.length):pr n g l k=hB n g l:=by
 grind[pr,hB,List.take_of_length_le]
theorem aPO(x y:Sg):(Bool.rec false (Bool.rec false (decide (x.2.2.2=y.2.2.2)) (decide (x.2.2.1=y.2.2.1))) (Bool.rec false (decide (x.2.1=y.2.1)) (decide (x.1=y.1))):Bool)=decide (x=y):=by
 grind[Hn,Prod.mk.injEq,Bool.decide_and]
theorem aRr {a1:Int} {a2:List UInt8} {a3:List Sg} {b1:Int} {b2:List UInt8} {b3:List Sg}(h:¬a1=b1\/¬a2=b2\/¬(a3.length:Int)=b3.length):false=T6 a1 a2 a3 b1 b2 b3:=by
 grind[T8,decide_eq_false_iff_not,Prod.mk.injEq]
theorem aPP {a1:Int} {a2:List UInt8} {a3:List Sg} {b1:Int} {b2:List UInt8} {b3:List Sg} {k:Nat}(h:¬sg a3 k=sg b3 k):false=T6 a1 a2 a3 b1 b2 b3:=by
 grind[T8,decide_eq_false_iff_not,Prod.mk.injEq]
theorem aPQ {a1:Int} {a2:List UInt8} {a3:List Sg} {b1:Int} {b2:List UInt8} {b3:List Sg} {k:Nat}(h:aJX a1 a2 a3 b1 b2 b3 k)(hk:¬(k:Int)<a3.length):true=T6 a1 a2 a3 b1 b2 b3:=by
 symm
 rw [T8,I!,h.1.1,h.1.2,Rc h.2 hk]
theorem aMd(a:Int)(b:List UInt8)(c:List Sg):T6 a b c a b c=true :=by simp [T6]
theorem aft {b:List UInt8} {k:Nat}(h:(k:Int)<(eZ b).1.2.2):k+1<=pN b:=by grind[pN]
theorem Ub {b:List UInt8} {k:Nat}(h:k<=pN b)(h1:¬(k:Int)<(eZ b).1.2.2):k=pN b:=by grind[pN]
theorem aAe(b:List UInt8)(k:Nat):(gG b k).2.2.length=k:=Rm b _ _ k
theorem ax8 {b:List UInt8} {k:Nat}(h:¬64<(eZ b).1.2.2)(hk:k<=pN b)(h1:¬(k:Int)<(eZ b).1.2.2)(h0:¬done b (gG b k).1.1 (gG b k).1.2=0):hR b=((0,[],[]),done b (gG b k).1.1 (gG b k).1.2):=by
 grind[Ub,afs]
theorem ax9 {b:List UInt8} {k:Nat}(h:¬64<(eZ b).1.2.2)(hk:k<=pN b)(h1:¬(k:Int)<(eZ b).1.2.2)(h0:done b (gG b k).1.1 (gG b k).1.2=0)(h2:bM (eZ b).1.1 (eZ b).1.2.1 (gG b k).2.2=false):hR b=((0,[],[]),2):=by
 rw [Ub hk h1] at h0 h2;simp_all[Vm,T!]
theorem aya {b:List UInt8} {k:Nat}(h:¬64<(eZ b).1.2.2)(hk:k<=pN b)(h1:¬(k:Int)<(eZ b).1.2.2)(h0:done b (gG b k).1.1 (gG b k).1.2=0)(h2:bM (eZ b).1.1 (eZ b).1.2.1 (gG b k).2.2=true):hR b=(((eZ b).1.1,(eZ b).1.2.1,(gG b k).2.2),0):=by
 rw [Ub hk h1] at h0 h2 |-;simp_all[Vm,W!]
end Go.S

end
section
namespace Go.S
theorem jI {docs:List (List UInt8)} {l:List aT}:cv docs l=true↔bk docs l=true/\fZ docs l=(docs.length:Int):=by
 simp_all[cv,B!,I!]
theorem afu {docs:List (List UInt8)} {l:List aT}(h:cv docs l=false):gg docs l=((0,[],[]),7):=by grind[gg]
theorem yo {docs:List (List UInt8)} {l:List aT}(h:cv docs l=true):gg docs l=(((docs.length:Int),root (leaves docs),aZ docs l),0):=xp (jI.1 h)
theorem aAv(docs:List (List UInt8))(l:List aT):small (aZ docs l):=by grind[aLB,small]
theorem re {docs:List (List UInt8)} {l:List aT}(h:cv docs l=true):bM (docs.length:Int) (root (leaves docs)) (aZ docs l)=true :=by
 obtain⟨h1,h2⟩:=jI.1 h;have hb:=(RI.of h1).bd;grind[ga,Int.natCast_nonneg,yf,gF,T5]
theorem afv {n:Int} {g:List UInt8} {l:List Sg}(h:(hW n g l).2=0):bM n g l=true/\hW n g l=(hB n g l,0):=by
 grind[EY,Ua]
theorem Vp {n:Int} {g:List UInt8} {l:List Sg}(h:bM n g l=true):(hB n g l).length<=100000:=by
 have :=yn (k:=l.length) ⟨h,Nat.le_refl _⟩;grind[Ov]
theorem apart {a b:Hd}(ha:(hW a.1 a.2.1 a.2.2).2=0)(hb:(hW b.1 b.2.1 b.2.2).2=0):(bif decide ((hW a.1 a.2.1 a.2.2).1=(hW b.1 b.2.1 b.2.2).1)==T6 a.1 a.2.1 a.2.2 b.1 b.2.1 b.2.2 then true else false)=true :=by
 grind[afv,T8,Rk,decide_eq_true,decide_eq_false]
theorem afw(l:List nF):(cY l).2.length<=40:=by
 grind[Lm,min,Hv,cY]
theorem acY {docs:List (List UInt8)} {l:List aT}(h:bk docs l=true)(a b c:Int)(d:List UInt8):(lC docs l a b c d).1.1.length<=docs.length+1:=by
 by_cases h0:a=0
 . have hg:=fi h;unfold lC;grind[cE]
 grind[keeps]
theorem Hy(l:List nF):∀k,(lj ([],[]) l k).1.length<=k
 |0=>N! _
 |k+1=>by
  have ih:=Hy l k;rw [lj];split
  . omega
  . have :=acY (Oo l k) (o0 l k).1 (o0 l k).2.1 (o0 l k).2.2.1 (o0 l k).2.2.2;omega
theorem afx(l:List nF):(cY l).1.length<=40:=by grind[Hy,min,cY]
theorem Uc(docs:List (List UInt8))(l:List aT):bQ docs l=lC docs l 1 0 0 []:=by rfl
theorem Rq {docs:List (List UInt8)} {l:List aT}(h:bk docs l=true)(hl:l.length<64):
  (bQ docs l).1.1=docs/\bk docs (bQ docs l).1.2=true/\cD (bQ docs l).1.2=docs.length/\(bQ docs l).1.2.length<=l.length+1/\cv docs (bQ docs l).1.2=true :=by
 grind[keeps,BQ,Ra,Uc,jI,D4]
theorem pf(l:List nF):(bQ (cY l).1 (cY l).2).1.1=(cY l).1/\bk (cY l).1 (bQ (cY l).1 (cY l).2).1.2=true/\cD (bQ (cY l).1 (cY l).2).1.2=(cY l).1.length/\(bQ (cY l).1 (cY l).2).1.2.length<=41/\cv (cY l).1 (bQ (cY l).1 (cY l).2).1.2=true :=by
 grind[afw,Rq,aoT]
theorem aAf {docs:List (List UInt8)} {l:List aT} {d:List UInt8}(h:bk docs l=true)(h1:¬(2000:Int)<d.length)(h2:docs.length<1000):cE docs l d=((docs++ [d],l),0):=by
 grind[fi,afm]
theorem grow(l:List nF) {d:List UInt8}(hd:¬(2000:Int)<d.length) {x:List aT}(hx:(bQ (cY l).1 (cY l).2).1.2=x):
  gg (cY l).1 x=((((cY l).1.length:Int),root (leaves (cY l).1),aZ (cY l).1 x),0)/\cE (cY l).1 x d=(((cY l).1++ [d],x),0)/\
  ∃s r,bQ ((cY l).1++ [d]) x=(((cY l).1++ [d],x++ [s]),0)/\gg ((cY l).1++ [d]) (x++ [s])=((((cY l).1.length:Int)+1,r,aZ (cY l).1 x++ [BK s]),0):=by
 have h40:=afx l;obtain⟨p1,p2,p3,p4,p5⟩:=pf l;rw [hx] at p2 p3 p4 p5;have ha:=aAf p2 hd (by omega);have hr:=append_right (cY l).1 x d;rw [ha] at hr;have hg:=fi hr
 have hf:bQ ((cY l).1++ [d]) x=(((cY l).1++ [d],x++ [(cD x,(((cY l).1++ [d]).length:Int),make ((cY l).1++ [d]) (cD x) ((cY l).1++ [d]).length)]),0):=by
  grind[bQ,fZ]
 refine⟨yo p5,ha,_,root (leaves ((cY l).1++ [d])),hf,?_⟩;have Fy:=Rq (docs:=(cY l).1++ [d]) (l:=x) hr (by omega);grind[yo,aZ,cY,cD,make,BK,fi]
end Go.S

end
section
namespace Go.S
def ob(i n:Int):List Bool:=if h:n<2 then [] else if i<((sp n.toNat:Nat):Int) then false ::ob i ((sp n.toNat:Nat):Int) else true ::ob (i-((sp n.toNat:Nat):Int)) (n-((sp n.toNat:Nat):Int))
termination_by n.toNat
decreasing_by
 . have :=jF (n:=n.toNat) (by omega);omega
 . have :=jF (n:=n.toNat) (by omega);omega
def path(l:List (List UInt8))(i:Int):List (List UInt8):=if h:l.length<2 then [] else if i<((sp l.length:Nat):Int) then path (l.take (sp l.length)) i++ [root (l.drop (sp l.length))] else path (l.drop (sp l.length)) (i-((sp l.length:Nat):Int))++ [root (l.take (sp l.length))]
termination_by l.length
decreasing_by
 . have :=jF (n:=l.length) (by omega);rw [X!];omega
 . have :=jF (n:=l.length) (by omega);rw [V!];omega
theorem Hz {i n:Int}(h:n<2):ob i n= []:=by rw [ob,dif_pos h]
theorem Rr {i n:Int}(h:2<=n)(hi:i<((sp n.toNat:Nat):Int)):ob i n=false ::ob i ((sp n.toNat:Nat):Int):=by rw [ob,dif_neg (by omega),W! hi]
theorem Rt {i n:Int}(h:2<=n)(hi:¬i<((sp n.toNat:Nat):Int)):ob i n=true ::ob (i-((sp n.toNat:Nat):Int)) (n-((sp n.toNat:Nat):Int)):=by rw [ob,dif_neg (by omega),T! hi]
theorem BW {l:List (List UInt8)} {i:Int}(h:l.length<2):path l i= []:=by rw [path,dif_pos h]
theorem BX {l:List (List UInt8)} {i:Int}(h:2<=l.length)(hi:i<((sp l.length:Nat):Int)):path l i=path (l.take (sp l.length)) i++ [root (l.drop (sp l.length))]:=by rw [path,dif_neg (by omega),W! hi]
theorem BY {l:List (List UInt8)} {i:Int}(h:2<=l.length)(hi:¬i<((sp l.length:Nat):Int)):path l i=path (l.drop (sp l.length)) (i-((sp l.length:Nat):Int))++ [root (l.take (sp l.length))]:=by rw [path,dif_neg (by omega),T! hi]
theorem Ai {C:Nat->Prop}(h0:∀n,n<2->C n)(h1:∀n,2<=n->C (sp n)->C (n-sp n)->C n)(n:Nat):C n:=by
 induction n using Nat.strongRecOn with
 |_ n ih=>
  by_cases h:n<2
  . exact h0 n h
  . have hb:=jF (n:=n) (by omega);exact h1 n (by omega) (ih _ (by omega)) (ih _ (by omega))
theorem acZ(n:Nat):∀(l:List (List UInt8)) (i:Int),l.length=n->(path l i).length=(ob i l.length).length:=by
 refine Ai (C:=fun n=>∀(l:List (List UInt8)) (i:Int),l.length=n->(path l i).length=(ob i l.length).length) (fun n h l i e=> ?_) (fun n h i1 i2 l i e=> ?_) n
 . rw [BW (by omega),Hz (by omega)];rfl
 . have hb:=jF (n:=l.length) (by omega);by_cases hi:i<((sp l.length:Nat):Int)
   . rw [BX (by omega) hi,Rr (by omega) (by rw [Q!];exact hi),C!];have :=i1 (l.take (sp l.length)) i (by rw [X!,e];have :=jF (n:=n) h;exact y? (by omega));rw [X!,y? (by omega)] at this;simp only [Q!,D?,x?];rw [this]
   . rw [BY (by omega) hi,Rt (by omega) (by rw [Q!];exact hi),C!];have :=i2 (l.drop (sp l.length)) (i-((sp l.length:Nat):Int)) (by rw [V!,e]);rw [V!] at this;simp only [Q!,D?,x?];rw [this];have :(((l.length-sp l.length:Nat)):Int)=(l.length:Int)-((sp l.length:Nat):Int):=by omega
     rw [this]
def j4(l:List (List UInt8))(i:Int):List (List UInt8):=if cR l=true/\0<=i/\i<l.length then path l i else []
def nm(l:List (List UInt8))(i:Int):Int:=if cR l=true/\0<=i/\i<l.length then 0 else 1
def rf(l:List (List UInt8)):Prop :=l.length<=1099511627776
def fk(l:List (List UInt8))(i:Int)(k:List (List UInt8)×Int×List (List UInt8)):Prop :=
 cR k.1=true/\k.1.length<=l.length/\0<=k.2.1/\k.2.1<k.1.length/\path l i=path k.1 k.2.1++k.2.2.reverse/\k.2.2.length+k.1.length<=l.length
end Go.S

end
section
namespace Go.S
def anp(l:List (List UInt8))(m:Int)(p:Bool):List (List UInt8):=
 if(l.length:Int)=m then(if p then [root l] else [])
 else if h:l.length<2 then []
 else if m<=((sp l.length:Nat):Int) then anp (l.take (sp l.length)) m p++ [root (l.drop (sp l.length))]
 else anp (l.drop (sp l.length)) (m-((sp l.length:Nat):Int)) true++ [root (l.take (sp l.length))]
termination_by l.length
decreasing_by
 . have :=jF (n:=l.length) (by omega);rw [X!];omega
 . have :=jF (n:=l.length) (by omega);rw [V!];omega
def ag3(l:List (List UInt8))(m:Int):List (List UInt8):=if cR l=true/\0<=m/\m<=l.length then(if m=0 then [] else anp l m false) else []
def apE(l:List (List UInt8))(m:Int):Int:=if cR l=true/\0<=m/\m<=l.length then 0 else 1
def apy(l:List (List UInt8))(m:Int):Prop :=cO l/\1<=m/\m<=l.length
end Go.S

end
section
namespace Go.S
def HA(l:List (List UInt8)):List (List UInt8):=l.reverse
end Go.S

end
section
namespace Go.S
theorem ao0 {n:Nat}(h:2<=n):n<=2*sp n:=by
 have :=Nat.lt_log2_self (n:=n-1);grind[sp,Nat.pow_succ]
theorem Ru {n t:Nat}(h:2<=n)(h1:n<=2^(t+1)):sp n<=2^t/\n-sp n<=2^t:=by
 have h2:=jF h;have h3:=ao0 h
 have :sp n<=2^t:=by
  unfold sp at *;have :2^Nat.log2 (n-1)<2^(t+1):=by omega
  grind[Nat.pow_lt_pow_iff_right]
 omega
theorem C3:∀(t n:Nat) (i:Int),0<=i->i<n->n<=2^t->(ob i n).length<=t
 |0,n,i,h0,h1,h=>by grind[Hz]
 |t+1,n,i,h0,h1,h=>by
  by_cases h2:2<=n
  . have hs:=Ru h2 h;by_cases hi:i<((sp n:Nat):Int)
    . rw [Rr (by omega) (by exact hi),Q!];have :=C3 t (sp n) i h0 hi hs.1;simp;omega
    . rw [Rt (by omega) (by exact hi),Q!];have :=C3 t (n-sp n) (i-((sp n:Nat):Int)) (by omega) (by omega) hs.2;rw [Int.natCast_sub (by omega)] at this;simp;omega
  grind[Hz]
theorem xr {l:List (List UInt8)} {i:Int} {t:Nat}(h0:0<=i)(h1:i<l.length)(h:l.length<=2^t):(path l i).length<=t:=by
 rw [acZ _ l i rfl];simp_all[C3]
theorem ac0(n:Nat):∀(l:List (List UInt8)) (i:Int),l.length=n->(path l i).length<=n:=by
 refine Ai (C:=fun n=>∀(l:List (List UInt8)) (i:Int),l.length=n->(path l i).length<=n) ?_ ?_ n
 . simp_all[BW,J!]
 . intro n h h1 h2 l i e;have hb:=jF h;by_cases hi:i<((sp l.length:Nat):Int)
   . rw [BX (by omega) hi,C!,S!];have :=h1 (l.take (sp l.length)) i (by rw [X!,e];omega);omega
   . rw [BY (by omega) hi,C!,S!];have :=h2 (l.drop (sp l.length)) (i-((sp l.length:Nat):Int)) (by rw [V!,e]);omega
theorem oc {l:List (List UInt8)}(h:cR l=true)(k:Nat):cR (l.take k)=true :=(cb _).2 fun d hd=>(cb l).1 h d (List.mem_of_mem_take hd)
theorem od {l:List (List UInt8)}(h:cR l=true)(k:Nat):cR (l.drop k)=true :=(cb _).2 fun d hd=>(cb l).1 h d (List.mem_of_mem_drop hd)
theorem HB {l:List (List UInt8)} {d:List UInt8}(h:cR l=true)(h1:d.length=32):cR (l++ [d])=true :=
 (cb _).2 fun x hx=>by
   grind[cb,List.mem_singleton]
theorem Aj(n:Nat):∀(l:List (List UInt8)) (i:Int),l.length=n->cR l=true->cR (path l i)=true :=by
 refine Ai (C:=fun n=>∀(l:List (List UInt8)) (i:Int),l.length=n->cR l=true->cR (path l i)=true) ?_ ?_ n
 . intro n h l i e _;rw [BW (by omega)];rfl
 . intro n h h1 h2 l i e hd;have hb:=jF h;by_cases hi:i<((sp l.length:Nat):Int)
   . grind[BX,HB,oc,yf,od,List.length_take]
   grind[BY,HB,od,yf,oc,List.length_drop]
theorem aAo {l:List (List UInt8)} {m:Int} {p:Bool}(h:(l.length:Int)=m):anp l m p=if p then [root l] else []:=by rw [anp,W! h]
theorem aAy {l:List (List UInt8)} {m:Int} {p:Bool}(h:¬(l.length:Int)=m)(h2:2<=l.length)(h3:m<=((sp l.length:Nat):Int)):anp l m p=anp (l.take (sp l.length)) m p++ [root (l.drop (sp l.length))]:=by
 rw [anp,T! h,dif_neg (by omega),W! h3]
theorem aAz {l:List (List UInt8)} {m:Int} {p:Bool}(h:¬(l.length:Int)=m)(h2:2<=l.length)(h3:¬m<=((sp l.length:Nat):Int)):anp l m p=anp (l.drop (sp l.length)) (m-((sp l.length:Nat):Int)) true++ [root (l.take (sp l.length))]:=by
 rw [anp,T! h,dif_neg (by omega),T! h3]
theorem apw:∀(t:Nat) (l:List (List UInt8)) (m:Int) (p:Bool),cR l=true->l.length<=2^t->cR (anp l m p)=true/\(anp l m p).length<=t+1
 |t,l,m,p,hd,hl=>by
  by_cases h:(l.length:Int)=m
  . rw [aAo h];cases p
    . exact⟨rfl,J! _⟩
    . exact⟨HB (l:= []) rfl (yf hd),by simp⟩
  . by_cases h2:2<=l.length
    . cases t with
      |zero=>omega
      |succ t=>
       have hs:=Ru h2 hl;by_cases h3:m<=((sp l.length:Nat):Int)
       . rw [aAy h h2 h3];have ih:=apw t (l.take (sp l.length)) m p (oc hd _) (by grind);grind[HB,yf,od,List.length_append,List.length_singleton]
       . rw [aAz h h2 h3];have ih:=apw t (l.drop (sp l.length)) (m-((sp l.length:Nat):Int)) true (od hd _) (by grind);grind[HB,yf,oc,List.length_append,List.length_singleton]
    . rw [anp,T! h,dif_pos (by omega)];exact⟨rfl,J! _⟩
theorem yp {l:List (List UInt8)}(h:2<=l.length)(h1:l.length<=1099511627776):split l.length=((sp l.length:Nat):Int):=by
 grind[zX,Int.toNat_natCast]
theorem aHU {l:List (List UInt8)} {i:Int}(h:cR l=true)(h0:0<=i)(h1:i<l.length):fk l i (l,i,[]):=
 ⟨h,N! _,h0,h1,by simp,by simp⟩
theorem aHV {l m acc:List (List UInt8)} {i j:Int}(h:fk l i (m,j,acc))(h2:2<=m.length)(hj:j<((sp m.length:Nat):Int)):
  fk l i (m.take (sp m.length),j,acc++ [root (m.drop (sp m.length))]):=by
 obtain⟨a1,a2,a3,a4,a5,a6⟩:=h;have hb:=jF h2;refine⟨oc a1 _,?_,a3,?_,?_,?_⟩
 . grind
 . grind
 . grind[BX,List.reverse_append]
 grind
theorem aHW {l m acc:List (List UInt8)} {i j:Int}(h:fk l i (m,j,acc))(h2:2<=m.length)(hj:¬j<((sp m.length:Nat):Int)):
  fk l i (m.drop (sp m.length),j-((sp m.length:Nat):Int),acc++ [root (m.take (sp m.length))]):=by
 obtain⟨a1,a2,a3,a4,a5,a6⟩:=h;have hb:=jF h2;refine⟨od a1 _,?_,by grind,?_,?_,?_⟩
 . grind
 . grind
 . grind[BY,List.reverse_append]
 grind
theorem ao1 {l m acc:List (List UInt8)} {i j:Int}(h:fk l i (m,j,acc))(h2:¬1<(m.length:Int)):HA acc=path l i:=by
 have :=h.2.2.2.2.1;grind[HA,BW]
def jU(l:List (List UInt8))(i:Int):Prop :=cO l/\0<=i/\i<l.length
def aze(l:List (List UInt8))(m:Int):Prop :=cO l/\0<=m/\m<=l.length
theorem afy {l:List (List UInt8)} {i:Int}(h:cR l=false\/i<0\/(l.length:Int)<=i): []=j4 l i/\1=nm l i:=by
 grind[cR,j4,nm]
theorem Vq {l:List (List UInt8)} {i:Int}(h:cR l=true/\¬i<0/\¬(l.length:Int)<=i):j4 l i=path l i/\nm l i=0:=by
 grind[cR,j4,nm]
theorem zc {l:List (List UInt8)} {i:Int} {x:List (List UInt8)×Int×List (List UInt8)}(hp:l.length<=1099511627776)(h:fk l i x)(h2:1<(x.1.length:Int)):
  (0<=split x.1.length/\split x.1.length<=x.1.length/\ -9223372036854775808<=x.2.1-split x.1.length/\x.2.1-split x.1.length<=9223372036854775807)/\
  cO (x.1.take (split x.1.length).toNat)/\cO (x.1.drop (split x.1.length).toNat)/\(∀d:List UInt8,x.2.2.length+ [d].length<=8796093022208)/\
  len (x.1.take (split x.1.length).toNat)<len x.1/\len (x.1.drop (split x.1.length).toNat)<len x.1:=by
 obtain⟨a1,a2,a3,a4,a5,a6⟩:=h;have hb:=jF (n:=x.1.length) (by omega);rw [yp (by omega) (by omega),Int.toNat_natCast];refine⟨by omega,⟨oc a1 _,by grind⟩,⟨od a1 _,by grind⟩,fun d=>by grind,?_,?_⟩
 . grind[len,List.length_take]
 grind[len,List.length_drop]
theorem aAg {l:List (List UInt8)} {i:Int} {x:List (List UInt8)×Int×List (List UInt8)}(hp:l.length<=1099511627776)(h:fk l i x)(h2:1<(x.1.length:Int))(hj:x.2.1<split x.1.length):
  fk l i (x.1.take (split x.1.length).toNat,x.2.1,x.2.2++ [root (x.1.drop (split x.1.length).toNat)]):=by
 have :=h.2.1;grind[yp,Int.toNat_natCast,aHV]
theorem aAh {l:List (List UInt8)} {i:Int} {x:List (List UInt8)×Int×List (List UInt8)}(hp:l.length<=1099511627776)(h:fk l i x)(h2:1<(x.1.length:Int))(hj:¬x.2.1<split x.1.length):
  fk l i (x.1.drop (split x.1.length).toNat,x.2.1-split x.1.length,x.2.2++ [root (x.1.take (split x.1.length).toNat)]):=by
 have :=h.2.1;rw [yp (by omega) (by omega)] at hj |-;exact aHW h (by omega) hj
theorem aAi {l:List (List UInt8)} {i:Int} {x:List (List UInt8)×Int×List (List UInt8)}(hp:l.length<=1099511627776)(h:fk l i x):small x.2.2:=by
 have :=h.2.2.2.2.2;grind[small]
theorem Vr {l:List (List UInt8)} {i:Int} {x:List (List UInt8)×Int×List (List UInt8)}(h0:cR l=true/\¬i<0/\¬(l.length:Int)<=i)(h:fk l i x)(h2:¬1<(x.1.length:Int)):HA x.2.2=j4 l i/\0=nm l i:=by
 grind[Vq,ao1]
theorem ac1 {l:List (List UInt8)} {i:Int}(h:cR l=true/\¬i<0/\¬(l.length:Int)<=i):fk l i (l,i,[]):=aHU h.1 (by omega) (by omega)
theorem tC {l:List (List UInt8)} {i:Int}(hp:jU l i)(h:¬(l.length:Int)=1):
  (0<=split l.length/\split l.length<=l.length/\ -9223372036854775808<=i-split l.length/\i-split l.length<=9223372036854775807)/\
  cO (l.take (split l.length).toNat)/\cO (l.drop (split l.length).toNat)/\
  (∀d:List UInt8,(path (l.take (split l.length).toNat) i).length+ [d].length<=8796093022208)/\(∀(d:List UInt8),i-split l.length<(l.drop (split l.length).toNat).length->0<=i-split l.length->(path (l.drop (split l.length).toNat) (i-split l.length)).length+ [d].length<=8796093022208)/\
  len (l.take (split l.length).toNat)<len l/\len (l.drop (split l.length).toNat)<len l/\
  (i<split l.length->jU (l.take (split l.length).toNat) i/\path (l.take (split l.length).toNat) i++ [root (l.drop (split l.length).toNat)]=path l i)/\
  (¬i<split l.length->jU (l.drop (split l.length).toNat) (i-split l.length)/\path (l.drop (split l.length).toNat) (i-split l.length)++ [root (l.take (split l.length).toNat)]=path l i):=by
 obtain⟨⟨a1,a2⟩,a3,a4⟩:=hp;have hb:=jF (n:=l.length) (by omega);rw [yp (by omega) (by omega),Int.toNat_natCast];have l1:(l.take (sp l.length)).length=sp l.length:=by grind
 have l2:(l.drop (sp l.length)).length=l.length-sp l.length:=List.length_drop;refine⟨by omega,⟨oc a1 _,by omega⟩,⟨od a1 _,by omega⟩,fun d=> ?_,fun d h1 h2=> ?_,by grind[len],by grind[len],fun h1=> ?_,fun h1=> ?_⟩
 . by_cases hi:i<((sp l.length:Nat):Int)
   . have :=xr (l:=l.take (sp l.length)) (i:=i) (t:=40) a3 (by omega) (by omega);grind
   . have :(path (l.take (sp l.length)) i).length<=1099511627776:=by
      have :=ac0 (l.take (sp l.length)).length (l.take (sp l.length)) i rfl;omega
     grind
 . have :=xr (l:=l.drop (sp l.length)) (t:=40) h2 h1 (by omega);grind
 . exact⟨⟨⟨oc a1 _,by omega⟩,a3,by omega⟩,(BX (by omega) h1).symm⟩
 . exact⟨⟨⟨od a1 _,by omega⟩,by omega,by omega⟩,(BY (by omega) h1).symm⟩
theorem aSC {l:List (List UInt8)} {n:Int}(hp:apy l n)(h:¬n=(l.length:Int)):
  (0<=split l.length/\split l.length<=l.length/\ -9223372036854775808<=n-split l.length/\n-split l.length<=9223372036854775807)/\
  (cO (l.take (split l.length).toNat)/\cO (l.drop (split l.length).toNat)/\small (l.take (split l.length).toNat)/\small (l.drop (split l.length).toNat))/\
  (∀(p:Bool) (d:List UInt8),(anp (l.take (split l.length).toNat) n p).length+ [d].length<=8796093022208)/\(∀(p:Bool) (d:List UInt8),(anp (l.drop (split l.length).toNat) (n-split l.length) p).length+ [d].length<=8796093022208)/\
  (len (l.take (split l.length).toNat)<len l/\len (l.drop (split l.length).toNat)<len l)/\
  (n<=split l.length->apy (l.take (split l.length).toNat) n/\∀p,anp (l.take (split l.length).toNat) n p++ [root (l.drop (split l.length).toNat)]=anp l n p)/\
  (¬n<=split l.length->apy (l.drop (split l.length).toNat) (n-split l.length)/\∀p,anp (l.drop (split l.length).toNat) (n-split l.length) true++ [root (l.take (split l.length).toNat)]=anp l n p)/\
  (pn (l.take (split l.length).toNat)=root (l.take (split l.length).toNat)/\pn (l.drop (split l.length).toNat)=root (l.drop (split l.length).toNat)):=by
 obtain⟨⟨a1,a2⟩,a3,a4⟩:=hp;have hb:=jF (n:=l.length) (by omega);rw [yp (by omega) (by omega),Int.toNat_natCast];have l1:(l.take (sp l.length)).length=sp l.length:=by grind
 have l2:(l.drop (sp l.length)).length=l.length-sp l.length:=List.length_drop;have d1:=oc a1 (sp l.length);have d2:=od a1 (sp l.length);refine⟨by omega,⟨⟨d1,by omega⟩,⟨d2,by omega⟩,by grind[small],by grind[small]⟩,fun p d=> ?_,fun p d=> ?_,⟨by grind[len],by grind[len]⟩,fun h1=> ?_,fun h1=> ?_,by grind[pn]⟩
 . have :=(apw 40 (l.take (sp l.length)) n p d1 (by omega)).2;grind
 . have :=(apw 40 (l.drop (sp l.length)) (n-((sp l.length:Nat):Int)) p d2 (by omega)).2;grind
 . exact⟨⟨⟨d1,by omega⟩,by omega,by omega⟩,fun p=>(aAy (by omega) (by omega) h1).symm⟩
 . exact⟨⟨⟨d2,by omega⟩,by omega,by omega⟩,fun p=>(aAz (by omega) (by omega) h1).symm⟩
theorem aRs {l:List (List UInt8)} {m:Int}(h:¬nd l=0\/m<0\/(l.length:Int)<m): []=ag3 l m/\1=apE l m:=by
 grind[cR,nd,ag3,apE]
theorem aPR {l:List (List UInt8)} {m:Int}(hp:l.length<=1099511627776)(h:nd l=0/\¬m<0/\¬(l.length:Int)<m):apE l m=0/\(m=0->ag3 l m= [])/\(¬m=0->apy l m/\anp l m false=ag3 l m):=by
 have hd:cR l=true :=by
  grind[cR,nd]
 have q:cR l=true/\0<=m/\m<=l.length:=⟨hd,by omega,by omega⟩;unfold ag3 apE;rw [if_pos q,if_pos q];exact⟨rfl,fun h=>if_pos h,fun h=>⟨⟨⟨hd,hp⟩,by omega,by omega⟩,by grind⟩⟩
theorem rcp {l:List (List UInt8)} {m:Int}(hp:aze l m):(m=0-> []=ag3 l m)/\(¬m=0->apy l m/\anp l m false=ag3 l m):=by
 have q:cR l=true/\0<=m/\m<=l.length:=⟨hp.1.1,hp.2.1,hp.2.2⟩;unfold ag3;rw [if_pos q];exact⟨fun h=>(if_pos h).symm,fun h=>⟨⟨hp.1,by omega,hp.2.2⟩,by grind⟩⟩
def aO0(l:List (List UInt8))(m:Int)(w:Bool):List (List UInt8):=anp l m (!w)
end Go.S

end
section
namespace Go.S
abbrev Pf:=Int×List UInt8×List UInt8×List UInt8×List (List UInt8)×List UInt8
def hZ(d:List bL)(t:List UInt8):Pf:=
 (br d t+1,(bw (hY d (br d t+1).toNat)).1.1,(bw (hY d (br d t+1).toNat)).1.2.1,(bw (hY d (br d t+1).toNat)).1.2.2,path (leaves (eh d)) (br d t+1),if fx d t then mn (ji d t) else [])
def vu:Pf:=(0,[],[],[],[],[])
def oe(d:List bL)(t:List UInt8):Pf×Int:=if aY d&&isTerm t then(hZ d t,0) else(vu,1)
def aM8(d:List bL):Prop :=bf d/\aY d=true
theorem Vs {d:List bL} {t:List UInt8}(h:dE d≠0\/isTerm t=false):oe d t=(vu,1):=by
 grind[oe,dE,aY]
theorem pa {d:List bL} {t:List UInt8}(h:aY d=true)(h1:isTerm t=true):oe d t=(hZ d t,0):=by
 grind[oe]
theorem HC {d:List bL} {t:List UInt8}(h:aY d=true):0<=br d t+1/\br d t+1<=d.length/\(eh d).length=d.length+1:=by
 have :=BH (d:=d) (t:=t) d.length;unfold br;grind[eh,ez]
theorem ac2(d:List bL) {i:Int}(h0:0<=i)(h:i<=d.length):(eh d).getD i.toNat []=hY d i.toNat:=by
 grind[eh,ez]
end Go.S

end
section
namespace Go.S
theorem Vt {d:List bL}(hp:bf d)(hr:aY d=true)(t:List UInt8):
  (0<=br d t+1/\br d t+1<=1048576/\br d t+1<(b6 d).length/\(br d t+1).toNat<(b6 d).length)/\((b6 d).getD (br d t+1).toNat []).length<=140737488355328/\c8 (b6 d)/\rf (leaves (b6 d))/\jU (leaves (b6 d)) (br d t+1)/\
  (b6 d).getD (br d t+1).toNat []=hY d (br d t+1).toNat/\j4 (leaves (b6 d)) (br d t+1)=path (leaves (eh d)) (br d t+1)/\b6 d=eh d:=by
 obtain⟨f1,f2,f3⟩:=HC (t:=t) hr;have e:b6 d=eh d:=by grind[b6]
 have hl:=hp.1;have hlen:(leaves (eh d)).length=d.length+1:=by grind[leaves]
 have ha:=ac2 d f1 f2;rw [e];refine⟨by omega,?_,(jG hp hr).1,by grind[rf],⟨(jG hp hr).2,f1,by omega⟩,ha,?_,rfl⟩
 . rcases xd hr (k:=(br d t+1).toNat) with q|q
   . grind[nZ,hY]
   omega
 . have q:cR (leaves (eh d))=true/\0<=br d t+1/\br d t+1<(leaves (eh d)).length:=⟨(jG hp hr).2.1,f1,by omega⟩;simp_all[j4,W!]
theorem Ow {d:List bL}(hp:bf d)(hr:aY d=true)(t:List UInt8):
  hZ d t=(br d t+1,(bw ((b6 d).getD (br d t+1).toNat [])).1.1,(bw ((b6 d).getD (br d t+1).toNat [])).1.2.1,(bw ((b6 d).getD (br d t+1).toNat [])).1.2.2,j4 (leaves (b6 d)) (br d t+1),if fx d t then ni (ji d t) else []):=by
 have q:=Vt hp hr t;rw [q.2.2.2.2.2.1,q.2.2.2.2.2.2.1];unfold hZ;congr 5
 split
 . have :cc (ji d t)=true :=by
    unfold ji;rename_i h1;rw [if_pos h1];have hb:=apA h1;exact(qT hr (i:=(br d t).toNat) (by omega)).2
   unfold ni;rw [this];rfl
 . rfl
theorem aO1 {d:List bL}(hr:aY d=true) {t:List UInt8}(h1:fx d t=true):0<=br d t/\br d t<d.length/\(d.getD (br d t).toNat ([],[])).2=ji d t/\cc (ji d t)=true/\mn (ji d t)=ni (ji d t):=by
 have hb:=apA h1
 have :cc (ji d t)=true :=by
  simp_all[ji,W!,qT,br]
 grind[ni]
end Go.S

end
section
namespace Go.S
abbrev gb:=Int×List UInt8
def lV(l:List gb)(i:Nat):gb:=l.getD i (0,[])
def nW(l:List gb):Nat->Int
 |0=>0
 |k+1=>nW l k+if(lV l k).1=0 then 1 else 0
def jk(l:List gb)(k:Nat):Int:=2*nW l k-k
def tD(l:List gb)(i:Nat):Bool:=
 if(lV l i).1=0 then isTerm (lV l i).2 else(decide (1<=(lV l i).1)&&decide ((lV l i).1<=3))&&(decide ((lV l i).2= [])&&decide (2<=jk l i))
def de(l:List gb):Bool:=(List.range l.length).all (tD l)&&(decide (jk l l.length=1)&&decide (nW l l.length<=16))
def np(l:List gb)(k:Nat):Prop :=k<=l.length/\l.length<=1099511627776/\∀i,i<k->tD l i=true
def apC(l:List gb):Bool:=l.any (fun o=>decide ((200:Int)<o.2.length)) || decide ((60:Int)<l.length)
def aA1(l:List gb)(k:Nat):Prop :=k<=l.length/\∀o∈l.take k,¬(200:Int)<o.2.length
def bK(l:List gb)(k:Nat):List (List UInt8):=((l.take k).filter fun o=>decide (o.1=0)).map (·.2)
def uX(l:List gb):List (List UInt8):=bK l l.length
def b7(l:List gb):List (List UInt8):=sorted (uX l)
theorem sI(l:List gb):∀k,0<=nW l k/\nW l k<=k
 |0=>by simp [nW]
 |k+1=>by have :=sI l k;grind[nW]
theorem Ox {l:List gb} {k:Nat}(h:(lV l k).1=0):nW l (k+1)=nW l k+1:=by simp_all[nW,W!]
theorem HD {l:List gb} {k:Nat}(h:¬(lV l k).1=0):nW l (k+1)=nW l k:=by simp_all[nW,T!]
theorem afz {l:List gb} {k:Nat}(h:(lV l k).1=0):jk l (k+1)=jk l k+1:=by grind[jk,Ox]
theorem Oy {l:List gb} {k:Nat}(h:¬(lV l k).1=0):jk l (k+1)=jk l k-1:=by grind[jk,HD]
theorem aHX {l:List gb}(h:small l):np l 0:=⟨J! _,h,fun i hi=>by omega⟩
theorem Rv {l:List gb} {k:Nat}(h:np l k)(hk:(k:Int)<l.length)(h1:tD l k=true):np l (k+1):=by
 refine⟨by omega,h.2.1,fun i hi=> ?_⟩;by_cases he:i=k
 . grind
 . exact h.2.2 i (by omega)
theorem Vu {l:List gb} {k:Nat}(hk:(k:Int)<l.length)(h:tD l k=false):false=de l:=by
 grind[List.range,tD,de]
theorem ao2 {l:List gb} {k:Nat}(h:np l k)(hk:¬(k:Int)<l.length):(decide (jk l k=1)&&decide (nW l k<=16))=de l:=by
 have e:k=l.length:=by have :=h.1;omega
 subst e;have :(List.range l.length).all (tD l)=true :=List.all_eq_true.2 fun i hi=>h.2.2 i (List.mem_range.1 hi);grind[de]
theorem HE {l:List gb} {k:Nat}(h:(lV l k).1=0):tD l k=isTerm (lV l k).2:=by simp_all[tD,W!]
theorem afA {l:List gb} {k:Nat}(h:¬(lV l k).1=0)(h1:1<=(lV l k).1)(h2:(lV l k).1<=3)(h3:(lV l k).2= [])(h4:2<=jk l k):tD l k=true :=by
 simp_all[tD,T!]
theorem ao3 {l:List gb} {k:Nat}(h:¬(lV l k).1=0)(h1:¬1<=(lV l k).1\/¬(lV l k).1<=3\/¬(lV l k).2= []\/¬2<=jk l k):tD l k=false :=by
 grind[tD]
theorem aO2 {l:List gb} {k:Nat}(h:aA1 l k)(hk:(k:Int)<l.length)(h1:¬(200:Int)<(lV l k).2.length):aA1 l (k+1):=by
 refine⟨by omega,?_⟩;rw [au l k (0,[]) (by omega)];intro o ho;rcases F!.1 ho with q|q
 . exact h.2 o q
 . rw [m?.1 q];exact h1
theorem aPS {l:List gb} {k:Nat}(hk:(k:Int)<l.length)(h1:(200:Int)<(lV l k).2.length):true=apC l:=by
 have :l.any (fun o=>decide ((200:Int)<o.2.length))=true :=List.any_eq_true.2 ⟨_,bu l k _ (show k<l.length by omega),decide_eq_true h1⟩;grind[apC]
theorem aPT {l:List gb} {k:Nat}(h:aA1 l k)(hk:¬(k:Int)<l.length):decide ((60:Int)<l.length)=apC l:=by
 have :l.any (fun o=>decide ((200:Int)<o.2.length))=false :=by
  rw [<-Bool.not_eq_true,List.any_eq_true];rintro⟨o,ho,h1⟩;exact h.2 o (by grind[List.take_of_length_le]) (of_decide_eq_true h1)
 grind[apC]
theorem aJY {l:List gb}(h:apC l=false):l.length<=60/\∀o∈l,o.2.length<=200:=by
 grind[apC,Bool.or_eq_false_iff,of_decide_eq_false,decide,List.any_eq_true,decide_eq_true]
theorem aG8 {l:List gb}(h:apC l=false):small l:=by grind[aJY,small]
theorem Vv {l:List gb} {k:Nat}(hk:(k:Int)<l.length)(h:(lV l k).1=0):bK l k++ [(lV l k).2]=bK l (k+1):=by
 unfold bK;rw [au l k (0,[]) (by omega),List.filter_append,List.map_append];have :(List.filter (fun o:gb=>decide (o.1=0)) [l.getD k (0,[])])= [lV l k]:=by grind[lV]
 grind
theorem afB {l:List gb} {k:Nat}(hk:(k:Int)<l.length)(h:¬(lV l k).1=0):bK l k=bK l (k+1):=by
 unfold bK;rw [au l k (0,[]) (by omega),List.filter_append,List.map_append];have :(List.filter (fun o:gb=>decide (o.1=0)) [l.getD k (0,[])])= []:=by grind[lV]
 grind
theorem ao4 {l:List gb} {k:Nat}(h:k<=l.length)(hk:¬(k:Int)<l.length):bK l k=uX l:=by
 grind[uX]
theorem afC(l:List gb):∀k,k<=l.length->((bK l k).length:Int)=nW l k
 |0,_=>by rfl
 |k+1,hk=>by
  have ih:=afC l k (by omega);by_cases h:(lV l k).1=0
  . rw [<-Vv (by omega) h,Ox h,C!,<-ih];simp
  . rw [<-afB (by omega) h,HD h,ih]
theorem Vw {l:List gb}:de l=true↔(∀i,i<l.length->tD l i=true)/\jk l l.length=1/\nW l l.length<=16:=by
 simp_all[de,B!,E?,q?,I!]
theorem pb {l:List gb}(h:de l=true):(b7 l).length<=16:=by
 obtain⟨_,_,h3⟩:=Vw.1 h;have :=mq (uX l);have e:=afC l l.length (Nat.le_refl _);grind[b7,uX]
theorem Rw {l:List gb}(h:de l=true):∀t∈b7 l,isTerm t=true :=by
 obtain⟨h1,_,_⟩:=Vw.1 h;intro t ht;have :=(iA (uX l) t).1 ht;simp only [uX,bK,List.mem_map,List.mem_filter,decide_eq_true_eq,List.take_length] at this;obtain⟨o,⟨ho,h0⟩,rfl⟩:=this;obtain⟨i,hi,rfl⟩:=List.mem_iff_getElem.1 ho;grind[lV,HE]
theorem afD {l:List gb} {k:Nat}(h:np l k)(hk:(k:Int)<l.length)(h0:(l.getD k (0,[])).1=0)(ht:isTerm (l.getD (Int.toNat (k:Int)) (0,[])).2=true):np l (k+1):=
 Rv h hk (by rw [HE h0];rwa [Q!] at ht)
theorem afE {l:List gb} {k:Nat}(hk:(k:Int)<l.length)(h0:(l.getD k (0,[])).1=0)(ht:isTerm (l.getD (Int.toNat (k:Int)) (0,[])).2=false):false=de l:=
 Vu hk (by rw [HE h0];rwa [Q!] at ht)
theorem HF {l:List gb} {k:Nat}(h:np l k)(hk:(k:Int)<l.length)(h0:¬(l.getD k (0,[])).1=0)(h1:1<=(l.getD k (0,[])).1/\(l.getD k (0,[])).1<=3)(h2:(l.getD k (0,[])).2= []/\¬jk l k<2):np l (k+1):=
 Rv h hk (afA h0 h1.1 h1.2 h2.1 (by omega))
theorem BZ {l:List gb} {k:Nat}(hk:(k:Int)<l.length)(h0:¬(l.getD k (0,[])).1=0)(h:¬(1<=(l.getD k (0,[])).1/\(l.getD k (0,[])).1<=3)\/¬(l.getD k (0,[])).2= []\/jk l k<2):false=de l:=
 Vu hk (ao3 h0 (by
  grind[lV]))
theorem aNZ {l:List gb} {k:Nat}(h:np l k)(hk:(k:Int)<l.length)(h0:¬(l.getD k (0,[])).1=0)(h1:¬(l.getD k (0,[])).1<0/\¬3<(l.getD k (0,[])).1/\(l.getD k (0,[])).2= []/\¬nW l k<k-nW l k+2):np l (k+1):=
 HF h hk h0 (by omega) ⟨h1.2.2.1,by grind[jk]⟩
theorem aO3 {l:List gb} {k:Nat}(hk:(k:Int)<l.length)(h0:¬(l.getD k (0,[])).1=0)(h:(l.getD k (0,[])).1<0\/3<(l.getD k (0,[])).1\/¬(l.getD k (0,[])).2= []\/nW l k<k-nW l k+2):false=de l:=
 BZ hk h0 (by
  grind[jk])
theorem ao6 {l:List gb} {k:Nat}(h:np l k)(hk:¬(k:Int)<l.length):(bif decide (jk l k=1) then decide (nW l k<=16) else false)=de l:=by
 grind[ao2]
theorem aO4 {l:List gb} {k:Nat}(h:np l k)(hk:¬(k:Int)<l.length):(bif decide (nW l k=l.length-nW l k+1) then decide (nW l k<=16) else false)=de l:=by
 rw [<-ao6 h hk];have :=h.1;grind[jk]
theorem aHY(l:List gb): []=bK l 0:=rfl
theorem afF {l:List gb} {k:Nat}(hk:(k:Int)<l.length)(h:(l.getD k (0,[])).1=0):bK l k++ [(l.getD (Int.toNat (k:Int)) (0,[])).2]=bK l (k+1):=by exact Vv hk h
theorem afG {l:List gb} {k:Nat}(hp:l.length<=1099511627776)(h:ei l k)(s:List UInt8):(bK l k).length+ [s].length<=8796093022208/\small (bK l k)/\small (eo (bK l k))/\small (bJ (eo (bK l k))):=by
 grind[TG,bK,mq,G7,ei,List.length_singleton,small]
theorem ao7 {l:List gb} {k:Nat}(h:ei l k)(hk:¬(k:Int)<l.length):bJ (eo (bK l k))=b7 l/\sorted (bK l k)=b7 l:=by
 have :=ao4 h hk;rw [G7,this];exact⟨rfl,rfl⟩
def pc:List UInt8:= [104,97,121]
abbrev El:=Int×Int×List UInt8
def Oz:List El:= [(-1,0,pc)]
def kE:List El:= [(-1,0,pc),(-2,3,[])]
def eW:List gb:= [(0,pc)]
def hdT(l:List (List UInt8)):List UInt8:=l.getD 0 []
def pV(k:Nat):Int:=if k=0 then -1 else 0
def nB(l:List El)(n:Int):El:=l.getD n.toNat (0,0,[])
def sa(l:List gb):Prop :=small l/\∀o∈l,small o.2
theorem aRt {l:List gb}(h:apC l=false):sa l:=by
 refine⟨aG8 h,fun o ho=> ?_⟩;have :=(aJY h).2 o ho;grind[small]
theorem aAj {l:List gb}(h:sa l)(k:Nat):small (lV l k).2:=by
 by_cases hk:k<l.length
 . exact h.2 _ (bu l k _ hk)
 . unfold lV;rw [List.getD_eq_getElem?_getD,List.getElem?_eq_none (by omega)];exact Nat.zero_le _
theorem tE {x:Nat}(h:(x:Int)<(([104,97,121]:List Int).length:Int)):x=0\/x=1\/x=2:=by
 grind
theorem ge3 {x:Nat}(h2:bN x 3)(h:¬(x:Int)<(([104,97,121]:List Int).length:Int)):x=3:=by
 grind[bN]
theorem afH:decode pc= [104,97,121]:=by rfl
theorem Ud:aW pc= [pc]:=by rfl
end Go.S

end
section
namespace Go.S
abbrev Wp:=List UInt8×Bool
def gd(v:Int):Wp:=if c5 v then([],true) else(num v,false)
def eV(b:List UInt8)(cd:Int):Wp:=if cd<b.length then([],true) else(text b,false)
def gn(n:Int)(g:List UInt8)(l:List Sg):Wp:=if bM n g l then eV (hB n g l) 10000 else([],true)
def D5(d:List UInt8):Bool:=decide ((d.length:Int)=32)
def fw(p:List (List UInt8)):Wp:=if 64<(p.length:Int) then([],true) else(num p.length++(p.takeWhile D5).flatten,!cR p)
def gf(p:List (List UInt8))(k:Nat):List UInt8:=num p.length++(p.take k).flatten
def jV(p:List (List UInt8))(k:Nat):Prop :=p.length<=64/\k<=p.length/\∀d∈p.take k,(d.length:Int)=32
def cat(a b:Wp):Wp:=(a.1++b.1,a.2 || b.2)
def gH(p:Pf):Wp:=
 if eI p.2.1 p.2.2.1 p.2.2.2.1 then cat (cat (cat (gd p.1) (eV (fG p.2.1 p.2.2.1 p.2.2.2.1) 200)) (fw p.2.2.2.2.1)) (eV p.2.2.2.2.2 4000)
 else((gd p.1).1,true)
def pfD(l:List Pf)(i:Nat):Pf:=l.getD i vu
def zd(l:List Pf):Nat->Wp
 |0=>(num l.length,false)
 |k+1=>cat (zd l k) (gH (pfD l k))
def jl(l:List (List Pf))(i:Nat):List Pf:=l.getD i []
def eu(n:Int)(g:List UInt8)(s:List Sg)(l:List (List Pf)):Nat->Wp
 |0=>cat ([1],false) (gn n g s)
 |k+1=>cat (eu n g s l k) (zd (jl l k) (jl l k).length)
def sb(w:Wp):List UInt8:=if w.2 then [] else if 1048576<(w.1.length:Int) then [] else w.1
def rh(w:Wp):Int:=if w.2 then 1 else if 1048576<(w.1.length:Int) then 3 else 0
def EZ(l:List (List Pf)):Bool:=l.all fun x=>decide ((x.length:Int)<=16)
def nq(n:Int)(g:List UInt8)(s:List Sg)(l:List (List Pf)):List UInt8×Int:=
 if(l.length:Int)≠s.length\/EZ l=false then([],1) else(sb (eu n g s l l.length),rh (eu n g s l l.length))
def OA(n:Int)(g:List UInt8)(s:List Sg)(a:Int)(d:List UInt8)(p:List (List UInt8)):Wp:=
 cat (cat (cat (cat ([2],false) (gn n g s)) (gd a)) (eV d 2000)) (fw p)
def uY(n:Int)(g:List UInt8)(s:List Sg)(a:Int)(d:List UInt8)(p:List (List UInt8)):List UInt8×Int:=(sb (OA n g s a d p),rh (OA n g s a d p))
def aAG(n:Int)(g:List UInt8)(s:List Sg)(n':Int)(g':List UInt8)(s':List Sg)(p:List (List UInt8)):Wp:=
 cat (cat (cat ([3],false) (gn n g s)) (gn n' g' s')) (fw p)
def aAH(n:Int)(g:List UInt8)(s:List Sg)(n':Int)(g':List UInt8)(s':List Sg)(p:List (List UInt8)):List UInt8×Int:=(sb (aAG n g s n' g' s' p),rh (aAG n g s n' g' s' p))
def dS(p:List (List UInt8)):List UInt8:=num p.length++p.flatten
def hJ(p:List (List UInt8))(k:Nat):List UInt8:=num p.length++(p.take k).flatten
def dU(n:Int)(g:List UInt8)(s:List Sg):List UInt8:=text (hB n g s)
def ew(p:Pf):List UInt8:=num p.1++text (fG p.2.1 p.2.2.1 p.2.2.2.1)++dS p.2.2.2.2.1++text p.2.2.2.2.2
def jJ(l:List Pf)(k:Nat):List UInt8:=num l.length++(l.take k).flatMap ew
def yq(n:Int)(g:List UInt8)(s:List Sg)(l:List (List Pf))(k:Nat):List UInt8:= [1]++dU n g s++(l.take k).flatMap fun x=>jJ x x.length
def ze(n:Int)(g:List UInt8)(s:List Sg)(l:List (List Pf)):List UInt8:=yq n g s l l.length
def abG(n:Int)(g:List UInt8)(s:List Sg)(a:Int)(d:List UInt8)(p:List (List UInt8)):List UInt8:= [2]++dU n g s++num a++text d++dS p
def apz(n:Int)(g:List UInt8)(s:List Sg)(n':Int)(g':List UInt8)(s':List Sg)(p:List (List UInt8)):List UInt8:= [3]++dU n g s++dU n' g' s'++dS p
def tF(p:Pf):Bool:= !c5 p.1&&(eI p.2.1 p.2.2.1 p.2.2.2.1&&(decide ((p.2.2.2.2.1.length:Int)<=64)&&(cR p.2.2.2.2.1&&decide ((p.2.2.2.2.2.length:Int)<=4000))))
abbrev Rs:=Int×Int
def dL(b:List UInt8)(a e:Int):Rs×Hd:=
 if(ax b a e 10000).1.2.2≠0 then((ax b a e 10000).1.2,(0,[],[]))
 else(((ax b a e 10000).1.2.1,(hR (ax b a e 10000).2).2),(hR (ax b a e 10000).2).1)
def gp(b:List UInt8)(a e:Int):Rs×Lk:=
 if(ax b a e 200).1.2.2≠0 then((ax b a e 200).1.2,([],[],[]))
 else(((ax b a e 200).1.2.1,(bw (ax b a e 200).2).2),(bw (ax b a e 200).2).1)
def dC(b:List UInt8)(a e cd:Int):Rs×Int:=
 if cd<(an b a e).2 then(((an b a e).1.2.1,2),0) else((an b a e).1.2,(an b a e).2)
def ri(b:List UInt8)(a e:Int):Nat->Rs×List (List UInt8)
 |0=>((a,e),[])
 |k+1=>((aC b (ri b a e k).1.1 (ri b a e k).1.2).1.2,(ri b a e k).2++ [(aC b (ri b a e k).1.1 (ri b a e k).1.2).2])
def ko(b:List UInt8)(a e:Int):Nat:=(dC b a e 64).2.toNat
def fl(b:List UInt8)(a e:Int)(k:Nat):Rs×List (List UInt8):=ri b (dC b a e 64).1.1 (dC b a e 64).1.2 k
def pv(b:List UInt8)(a e:Int):Rs×List (List UInt8):=fl b a e (ko b a e)
def q1(b:List UInt8)(a e:Int):Rs×Int:=((an b a e).1.2,(an b a e).2)
def q2(b:List UInt8)(a e:Int):Rs×Lk:=gp b (q1 b a e).1.1 (q1 b a e).1.2
def q3(b:List UInt8)(a e:Int):Rs×List (List UInt8):=pv b (q2 b a e).1.1 (q2 b a e).1.2
def q4(b:List UInt8)(a e:Int):Rs×List UInt8:=((ax b (q3 b a e).1.1 (q3 b a e).1.2 4000).1.2,(ax b (q3 b a e).1.1 (q3 b a e).1.2 4000).2)
def fO(b:List UInt8)(a e:Int):Rs×Pf:=((q4 b a e).1,((q1 b a e).2,(q2 b a e).2.1,(q2 b a e).2.2.1,(q2 b a e).2.2.2,(q3 b a e).2,(q4 b a e).2))
def xt(b:List UInt8)(a e:Int):Nat->Rs×List Pf
 |0=>((a,e),[])
 |k+1=>((fO b (xt b a e k).1.1 (xt b a e k).1.2).1,(xt b a e k).2++ [(fO b (xt b a e k).1.1 (xt b a e k).1.2).2])
def OB(b:List UInt8)(a e:Int):Nat:=(dC b a e 16).2.toNat
def OC(b:List UInt8)(a e:Int)(k:Nat):Rs×List Pf:=xt b (dC b a e 16).1.1 (dC b a e 16).1.2 k
def Vx(b:List UInt8)(a e:Int):Rs×List Pf:=OC b a e (OB b a e)
def rj(b:List UInt8)(a e:Int):Nat->Rs×List (List Pf)
 |0=>((a,e),[])
 |k+1=>((Vx b (rj b a e k).1.1 (rj b a e k).1.2).1,(rj b a e k).2++ [(Vx b (rj b a e k).1.1 (rj b a e k).1.2).2])
def jm(b:List UInt8)(kind:UInt8):Int:=if 1048576<(b.length:Int) then 3 else if b.length=0 then 4 else if b.getD 0 0=kind then 0 else 2
abbrev An:=Hd×List (List Pf)
def aH(b:List UInt8):Rs×Hd:=dL b 1 0
def gQ(b:List UInt8)(k:Nat):Rs×List (List Pf):=rj b (aH b).1.1 (aH b).1.2 k
def aN(b:List UInt8):Nat:=(aH b).2.2.2.length
def eJ(b:List UInt8):(Int×List UInt8×List Sg×List (List Pf))×Int:=
 if jm b 1≠0 then((0,[],[],[]),jm b 1)
 else if done b (gQ b (aN b)).1.1 (gQ b (aN b)).1.2≠0 then((0,[],[],[]),done b (gQ b (aN b)).1.1 (gQ b (aN b)).1.2)
 else(((aH b).2.1,(aH b).2.2.1,(aH b).2.2.2,(gQ b (aN b)).2),0)
def Ue(b:List UInt8):Rs×Hd:=dL b 1 0
def Uf(b:List UInt8):Rs×Int:=q1 b (Ue b).1.1 (Ue b).1.2
def pg3(b:List UInt8):Rs×List UInt8:=((ax b (Uf b).1.1 (Uf b).1.2 2000).1.2,(ax b (Uf b).1.1 (Uf b).1.2 2000).2)
def Ug(b:List UInt8):Rs×List (List UInt8):=pv b (pg3 b).1.1 (pg3 b).1.2
def Uh(b:List UInt8):(Int×List UInt8×List Sg×Int×List UInt8×List (List UInt8))×Int:=
 if jm b 2≠0 then((0,[],[],0,[],[]),jm b 2)
 else if done b (Ug b).1.1 (Ug b).1.2≠0 then((0,[],[],0,[],[]),done b (Ug b).1.1 (Ug b).1.2)
 else(((Ue b).2.1,(Ue b).2.2.1,(Ue b).2.2.2,(Uf b).2,(pg3 b).2,(Ug b).2),0)
def st1(b:List UInt8):Rs×Hd:=dL b 1 0
def st2(b:List UInt8):Rs×Hd:=dL b (st1 b).1.1 (st1 b).1.2
def st3(b:List UInt8):Rs×List (List UInt8):=pv b (st2 b).1.1 (st2 b).1.2
def Sk(b:List UInt8):(Int×List UInt8×List Sg×Int×List UInt8×List Sg×List (List UInt8))×Int:=
 if jm b 3≠0 then((0,[],[],0,[],[],[]),jm b 3)
 else if done b (st3 b).1.1 (st3 b).1.2≠0 then((0,[],[],0,[],[],[]),done b (st3 b).1.1 (st3 b).1.2)
 else(((st1 b).2.1,(st1 b).2.2.1,(st1 b).2.2.2,(st2 b).2.1,(st2 b).2.2.1,(st2 b).2.2.2,(st3 b).2),0)
end Go.S

end
section
namespace Go.S
theorem OD {P R:List UInt8} {v:Int}(h:c5 v=false):an (P++(num v++R)) P.length 0=((P++(num v++R),(P.length:Int)+(num v).length,0),v):=by
 simp only [c5,R?,e?] at h;have hd:(P++(num v++R)).drop ((P.length:Nat):Int).toNat=num v++R:=by rw [Q!,k?]
 have hf:=qb (v:=v) (by omega) (by omega) R;rw [Ae (by omega) (by simp only [C!,Int.natCast_add];omega) (by rw [hd,hf]),hd,hf]
theorem E1 {P R d:List UInt8} {m:Int}(h:(d.length:Int)<=m)(hm:m<=1048576):ax (P++(text d++R)) P.length 0 m=((P++(text d++R),(P.length:Int)+(text d).length,0),d):=by
 have hd:(P++(text d++R)).drop ((P.length:Nat):Int).toNat=text d++R:=by rw [Q!,k?]
 have e:text d++R=num (d.length:Int)++(d++R):=by simp [text]
 have hf:=qb (v:=(d.length:Int)) (by omega) (by omega) (d++R)
 have hT:aU (text d++R) m=(d,((text d).length:Int),0):=by
  unfold aU;rw [e,hf,if_neg (by simp),if_neg (by simp only;omega),if_neg (by simp only [List.length_append,Int.natCast_add];omega)];simp [text]
 unfold ax;rw [uM (by omega) (by simp only [List.length_append,Int.natCast_add];omega),qW (by omega) (by simp only [List.length_append,Int.natCast_add];omega),hd,hT];simp
theorem ao8 {P R d:List UInt8}(h:(d.length:Int)=32):aC (P++(d++R)) P.length 0=((P++(d++R),(P.length:Int)+d.length,0),d):=by
 rw [T9 (by omega) (by simp only [C!,Int.natCast_add];omega),Q!,k?];have :(d++R).take 32=d:=by rw [show 32=d.length by omega,List.take_left]
 rw [this,h]
theorem Ls:∀(l:List Sg),(∀i,i<l.length->j3 (sg l i).1 (sg l i).2.1 (sg l i).2.2.1 (sg l i).2.2.2=true)->(fj l).length<=50*l.length
 | [],_=>by simp [fj]
 |s::l,h=>by
  have h0:=ym (h 0 (by simp));have ih:=Ls l fun i hi=>by have :=h (i+1) (by simp;omega);simpa [sg] using this
  have e:fj (s::l)=xo s++fj l:=rfl;rw [e,C!,D?];have hs:s.2.2.2.length=32:=h0.2.2.2.2.2;have n1:=bG s.2.1;have n2:=bG s.2.2.1;simp only [xo,C!];omega
theorem OE {n:Int} {g:List UInt8} {l:List Sg}(h:bM n g l=true):((hB n g l).length:Int)<=4000:=by
 obtain⟨h1,h2,h3,h4⟩:=ga.1 h;obtain⟨r1,r2,_⟩:=mK h4;have :=Ls l r2;have n1:=bG n;have n2:=bG (l.length:Int);simp only [hB,C!];omega
theorem yr {b:List UInt8} {m:Int}(h:(b.length:Int)<=m):eV b m=(text b,false):=by unfold eV;rw [if_neg (by omega)]
theorem Rx {v:Int}(h:c5 v=false):gd v=(num v,false):=by unfold gd;rw [h];rfl
theorem Lt {n:Int} {g:List UInt8} {l:List Sg}(h:bM n g l=true):gn n g l=(dU n g l,false):=by
 have :=OE h;unfold gn dU;rw [if_pos h,yr (by omega)]
theorem Vy {p:List (List UInt8)}(h:cR p=true):p.takeWhile D5=p:=by
 induction p with
 |nil=>rfl
 |cons a l ih=>
  simp only [cR,List.all_cons,B!] at h;rw [List.takeWhile_cons_of_pos (by simpa [D5] using h.1),ih (by simpa [cR] using h.2)]
theorem C4 {p:List (List UInt8)}(h:(p.length:Int)<=64)(h1:cR p=true):fw p=(dS p,false):=by
 unfold fw dS;rw [if_neg (by omega),Vy h1,h1];rfl
theorem yu {p:Pf}:tF p=true↔c5 p.1=false/\eI p.2.1 p.2.2.1 p.2.2.2.1=true/\(p.2.2.2.2.1.length:Int)<=64/\cR p.2.2.2.2.1=true/\(p.2.2.2.2.2.length:Int)<=4000:=by
 simp only [tF,B!,L?,I!]
theorem Ui {p:Pf}(h:tF p=true):gH p=(ew p,false):=by
 obtain⟨h1,h2,h3,h4,h5⟩:=yu.1 h;have hl:=nZ h2;unfold gH ew;rw [if_pos h2,Rx h1,yr (by omega),C4 h3 h4,yr (by omega)];rfl
theorem Ry {l:List Pf}(h:∀p∈l,tF p=true):∀k,k<=l.length->zd l k=(jJ l k,false)
 |0,_=>by simp [zd,jJ]
 |k+1,hk=>by
  have hm:=h _ (bu l k vu (by omega));simp only [zd];rw [Ry h k (by omega),show pfD l k=l.getD k vu from rfl,Ui hm];simp only [cat,jJ,Bool.or_self];rw [au l k vu (by omega),w?];simp
theorem Rz {n:Int} {g:List UInt8} {s:List Sg} {l:List (List Pf)}(hr:bM n g s=true)(h:∀x∈l,∀p∈x,tF p=true):∀k,k<=l.length->eu n g s l k=(yq n g s l k,false)
 |0,_=>by simp [eu,yq,Lt hr,cat]
 |k+1,hk=>by
  have hm:=h _ (bu l k [] (by omega));simp only [eu];rw [Rz hr h k (by omega),show jl l k=l.getD k [] from rfl,Ry hm _ (N! _)];simp only [cat,yq,Bool.or_self];rw [au l k [] (by omega),w?];simp
theorem Lu {P R:List UInt8} {n:Int} {g:List UInt8} {s:List Sg}(h:bM n g s=true):
  dL (P++(dU n g s++R)) P.length 0=(((P.length:Int)+(dU n g s).length,0),(n,g,s)):=by
 have :=OE h;unfold dL dU;rw [E1 (by omega) (by decide),if_neg (by simp),Ad h]
theorem ac4 {P R a b c:List UInt8}(h:eI a b c=true):
  gp (P++(text (fG a b c)++R)) P.length 0=(((P.length:Int)+(text (fG a b c)).length,0),(a,b,c)):=by
 have :=nZ h;unfold gp;rw [E1 (by omega) (by decide),if_neg (by simp),Q1 h]
theorem HG {P R:List UInt8} {v m:Int}(h:0<=v)(h1:v<=m)(hm:m<=64):
  dC (P++(num v++R)) P.length 0 m=(((P.length:Int)+(num v).length,0),v):=by
 unfold dC;rw [OD (by simp [c5];omega),if_neg (by simp only;omega)]
theorem Lv {P R:List UInt8} {p:List (List UInt8)}(h:cR p=true):∀k,k<=p.length->
  ri (P++(p.flatten++R)) P.length 0 k=(((P.length:Int)+((p.take k).flatten).length,0),p.take k)
 |0,_=>by simp [ri]
 |k+1,hk=>by
  have hd:((p.getD k []).length:Int)=32:=by have :=(cb p).1 h _ (bu p k [] (by omega));omega
  have e:P++(p.flatten++R)=(P++(p.take k).flatten)++(p.getD k []++((p.drop (k+1)).flatten++R)):=by
   have :p.flatten=(p.take k).flatten++(p.getD k []++(p.drop (k+1)).flatten):=by
    conv=>lhs;rw [<-O? (k+1) p,au p k [] (by omega)]
    simp
   rw [this];simp
  simp only [ri];rw [Lv h k (by omega)];simp only;have :=ao8 (P:=P++(p.take k).flatten) (R:=(p.drop (k+1)).flatten++R) hd;rw [<-e,C!,Int.natCast_add] at this;rw [this,au p k [] (by omega)];simp [Int.add_assoc]
theorem Lw {P R:List UInt8} {p:List (List UInt8)}(h:(p.length:Int)<=64)(h1:cR p=true):
  pv (P++(dS p++R)) P.length 0=(((P.length:Int)+(dS p).length,0),p):=by
 have e:P++(dS p++R)=P++(num p.length++(p.flatten++R)):=by simp [dS]
 have hc:=HG (P:=P) (R:=p.flatten++R) (v:=(p.length:Int)) (m:=64) (by omega) h (by decide);rw [<-e] at hc;unfold pv fl ko;rw [hc];simp only [Int.toNat_natCast];have hd:=Lv (P:=P++num p.length) (R:=R) h1 p.length (Nat.le_refl _);rw [show P++num p.length++(p.flatten++R)=P++(dS p++R) by simp [dS],List.length_append,Int.natCast_add] at hd;rw [hd,List.take_length];simp [dS,Int.add_assoc]
theorem Uj {P R:List UInt8} {p:Pf}(h:tF p=true):
  fO (P++(ew p++R)) P.length 0=(((P.length:Int)+(ew p).length,0),p):=by
 obtain⟨h1,h2,h3,h4,h5⟩:=yu.1 h;obtain⟨a,t,u,v,w,d⟩:=p;simp only at h1 h2 h3 h4 h5;generalize hb:P++(ew (a,t,u,v,w,d)++R)=b;have e1:b=P++(num a++(text (fG t u v)++(dS w++(text d++R)))):=by rw [<-hb];simp [ew]
 have r1:q1 b P.length 0=(((P.length:Int)+(num a).length,0),a):=by unfold q1;rw [e1,OD h1]
 have r2:q2 b P.length 0=(((P.length:Int)+(num a).length+(text (fG t u v)).length,0),(t,u,v)):=by
  unfold q2;rw [r1];have :=ac4 (P:=P++num a) (R:=dS w++(text d++R)) h2;rw [show P++num a++(text (fG t u v)++(dS w++(text d++R)))=b by rw [e1];simp,List.length_append,Int.natCast_add] at this;exact this
 have r3:q3 b P.length 0=(((P.length:Int)+(num a).length+(text (fG t u v)).length+(dS w).length,0),w):=by
  unfold q3;rw [r2];have :=Lw (P:=P++num a++text (fG t u v)) (R:=text d++R) h3 h4;rw [show P++num a++text (fG t u v)++(dS w++(text d++R))=b by rw [e1];simp,List.length_append,List.length_append,Int.natCast_add,Int.natCast_add] at this;exact this
 have r4:q4 b P.length 0=(((P.length:Int)+(num a).length+(text (fG t u v)).length+(dS w).length+(text d).length,0),d):=by
  unfold q4;rw [r3];have :=E1 (P:=P++num a++text (fG t u v)++dS w) (R:=R) (d:=d) (m:=4000) h5 (by decide);rw [show P++num a++text (fG t u v)++dS w++(text d++R)=b by rw [e1];simp,List.length_append,List.length_append,List.length_append,Int.natCast_add,Int.natCast_add,Int.natCast_add] at this;simp only [this]
 unfold fO;rw [r1,r2,r3,r4];simp [ew,Int.add_assoc]
end Go.S

end
section
namespace Go.S
theorem Ak(l:List Pf):jJ l l.length=num l.length++l.flatMap ew:=by simp [jJ]
theorem RA {P R:List UInt8} {l:List Pf}(h:∀p∈l,tF p=true):∀k,k<=l.length->
  xt (P++(l.flatMap ew++R)) P.length 0 k=(((P.length:Int)+((l.take k).flatMap ew).length,0),l.take k)
 |0,_=>by simp [xt]
 |k+1,hk=>by
  have hm:=h _ (bu l k vu (by omega))
  have e:P++(l.flatMap ew++R)=(P++(l.take k).flatMap ew)++(ew (l.getD k vu)++((l.drop (k+1)).flatMap ew++R)):=by
   have :l.flatMap ew=(l.take k).flatMap ew++(ew (l.getD k vu)++(l.drop (k+1)).flatMap ew):=by
    conv=>lhs;rw [<-O? (k+1) l,au l k vu (by omega)]
    simp
   rw [this];simp
  simp only [xt];rw [RA h k (by omega)];simp only;have :=Uj (P:=P++(l.take k).flatMap ew) (R:=(l.drop (k+1)).flatMap ew++R) hm;rw [<-e,C!,Int.natCast_add] at this;rw [this,au l k vu (by omega),w?];simp [Int.add_assoc]
theorem afL {P R:List UInt8} {l:List Pf}(h:∀p∈l,tF p=true)(hl:(l.length:Int)<=16):
  Vx (P++(jJ l l.length++R)) P.length 0=(((P.length:Int)+(jJ l l.length).length,0),l):=by
 have e:P++(jJ l l.length++R)=P++(num l.length++(l.flatMap ew++R)):=by rw [Ak];simp
 have hc:=HG (P:=P) (R:=l.flatMap ew++R) (v:=(l.length:Int)) (m:=16) (by omega) hl (by decide);rw [<-e] at hc;unfold Vx OC OB;rw [hc];simp only [Int.toNat_natCast];have hd:=RA (P:=P++num l.length) (R:=R) h l.length (Nat.le_refl _);rw [show P++num l.length++(l.flatMap ew++R)=P++(jJ l l.length++R) by rw [e];simp,List.length_append,Int.natCast_add] at hd;rw [hd,List.take_length,Ak];simp [Int.add_assoc]
def jK(l:List (List Pf)):List UInt8:=l.flatMap fun x=>jJ x x.length
theorem Lx {P R:List UInt8} {l:List (List Pf)}(h:∀x∈l,(x.length:Int)<=16/\∀p∈x,tF p=true):∀k,k<=l.length->
  rj (P++(jK l++R)) P.length 0 k=(((P.length:Int)+(jK (l.take k)).length,0),l.take k)
 |0,_=>by simp [rj,jK]
 |k+1,hk=>by
  have hm:=h _ (bu l k [] (by omega))
  have e:P++(jK l++R)=(P++jK (l.take k))++(jJ (l.getD k []) (l.getD k []).length++(jK (l.drop (k+1))++R)):=by
   have :jK l=jK (l.take k)++(jJ (l.getD k []) (l.getD k []).length++jK (l.drop (k+1))):=by
    unfold jK;conv=>lhs;rw [<-List.take_append_drop (k+1) l,au l k [] (by omega)]
    simp
   rw [this];simp
  simp only [rj];rw [Lx h k (by omega)];simp only;have :=afL (P:=P++jK (l.take k)) (R:=jK (l.drop (k+1))++R) hm.2 hm.1;rw [<-e,C!,Int.natCast_add] at this;rw [this,au l k [] (by omega)];simp [jK,Int.add_assoc]
theorem RB {b:List UInt8} {a:Int}(h:a=b.length):done b a 0=0:=by
 rw [QS (by omega) (by omega),T! (by omega)]
theorem afM {n:Int} {g:List UInt8} {s:List Sg} {l:List (List Pf)}(hr:bM n g s=true)(hl:l.length=s.length)(h:∀x∈l,(x.length:Int)<=16/\∀p∈x,tF p=true)(hb:((ze n g s l).length:Int)<=1048576):
  eJ (ze n g s l)=((n,g,s,l),0):=by
 have e:ze n g s l= [1]++(dU n g s++(jK l++ [])):=by simp [ze,yq,jK]
 generalize ze n g s l=b at *;have hg:jm b 1=0:=by unfold jm;rw [if_neg (by omega),if_neg (by rw [e];simp),if_pos (by rw [e];rfl)]
 have h1:aH b=((1+((dU n g s).length:Int),0),(n,g,s)):=by
  unfold aH;rw [e];exact Lu (P:= [1]) (R:=jK l++ []) hr
 have hN:aN b=l.length:=by unfold aN;rw [h1];exact hl.symm
 have h2:gQ b (aN b)=((1+((dU n g s).length:Int)+(jK l).length,0),l):=by
  unfold gQ;rw [h1,hN];have :=Lx (P:= [1]++dU n g s) (R:= []) h l.length (Nat.le_refl _);rw [show [1]++dU n g s++(jK l++ [])=b by rw [e];simp,List.length_append,Int.natCast_add,List.take_length] at this;exact this
 have hlen:(b.length:Int)=1+((dU n g s).length:Int)+(jK l).length:=by rw [e];simp;omega
 unfold eJ;rw [if_neg (by omega),h2,RB hlen.symm,if_neg (by decide),h1]
theorem ac5 {n:Int} {g:List UInt8} {s:List Sg} {a:Int} {d:List UInt8} {p:List (List UInt8)}(hr:bM n g s=true)(ha:c5 a=false)(hd:(d.length:Int)<=2000)(h3:(p.length:Int)<=64)(h4:cR p=true)(hb:((abG n g s a d p).length:Int)<=1048576):
  Uh (abG n g s a d p)=((n,g,s,a,d,p),0):=by
 have e:abG n g s a d p= [2]++(dU n g s++(num a++(text d++(dS p++ [])))):=by simp [abG]
 generalize abG n g s a d p=b at *;have hg:jm b 2=0:=by unfold jm;rw [if_neg (by omega),if_neg (by rw [e];simp),if_pos (by rw [e];rfl)]
 have h1:Ue b=((1+((dU n g s).length:Int),0),(n,g,s)):=by
  unfold Ue;rw [e];exact Lu (P:= [2]) hr
 have h2:Uf b=((1+((dU n g s).length:Int)+(num a).length,0),a):=by
  unfold Uf q1;rw [h1];have :=OD (P:= [2]++dU n g s) (R:=text d++(dS p++ [])) ha;rw [show [2]++dU n g s++(num a++(text d++(dS p++ [])))=b by rw [e];simp,List.length_append,Int.natCast_add] at this;simp only [List.length_singleton,Int.natCast_one] at this;simp only [this]
 have h3':pg3 b=((1+((dU n g s).length:Int)+(num a).length+(text d).length,0),d):=by
  unfold pg3;rw [h2];have :=E1 (P:= [2]++dU n g s++num a) (R:=dS p++ []) hd (by decide);rw [show [2]++dU n g s++num a++(text d++(dS p++ []))=b by rw [e];simp,List.length_append,List.length_append,Int.natCast_add,Int.natCast_add] at this;simp only [List.length_singleton,Int.natCast_one] at this;simp only [this]
 have h4':Ug b=((1+((dU n g s).length:Int)+(num a).length+(text d).length+(dS p).length,0),p):=by
  unfold Ug;rw [h3'];have :=Lw (P:= [2]++dU n g s++num a++text d) (R:= []) h3 h4;rw [show [2]++dU n g s++num a++text d++(dS p++ [])=b by rw [e];simp,List.length_append,List.length_append,List.length_append,Int.natCast_add,Int.natCast_add,Int.natCast_add] at this;simp only [List.length_singleton,Int.natCast_one] at this;exact this
 have hlen:(b.length:Int)=1+((dU n g s).length:Int)+(num a).length+(text d).length+(dS p).length:=by rw [e];simp;omega
 unfold Uh;rw [if_neg (by omega),h4',RB hlen.symm,if_neg (by decide),h1,h2,h3']
theorem aHb {n n':Int} {g g':List UInt8} {s s':List Sg} {p:List (List UInt8)}(hr:bM n g s=true)(nz:bM n' g' s'=true)(h3:(p.length:Int)<=64)(h4:cR p=true)(hb:((apz n g s n' g' s' p).length:Int)<=1048576):
  Sk (apz n g s n' g' s' p)=((n,g,s,n',g',s',p),0):=by
 have e:apz n g s n' g' s' p= [3]++(dU n g s++(dU n' g' s'++(dS p++ []))):=by simp [apz]
 generalize apz n g s n' g' s' p=b at *;have hg:jm b 3=0:=by unfold jm;rw [if_neg (by omega),if_neg (by rw [e];simp),if_pos (by rw [e];rfl)]
 have h1:st1 b=((1+((dU n g s).length:Int),0),(n,g,s)):=by
  unfold st1;rw [e];exact Lu (P:= [3]) hr
 have h2:st2 b=((1+((dU n g s).length:Int)+(dU n' g' s').length,0),(n',g',s')):=by
  unfold st2;rw [h1];have :=Lu (P:= [3]++dU n g s) (R:=dS p++ []) nz;rw [show [3]++dU n g s++(dU n' g' s'++(dS p++ []))=b by rw [e];simp,List.length_append,Int.natCast_add] at this;simp only [List.length_singleton,Int.natCast_one] at this;exact this
 have h3':st3 b=((1+((dU n g s).length:Int)+(dU n' g' s').length+(dS p).length,0),p):=by
  unfold st3;rw [h2];have :=Lw (P:= [3]++dU n g s++dU n' g' s') (R:= []) h3 h4;rw [show [3]++dU n g s++dU n' g' s'++(dS p++ [])=b by rw [e];simp,List.length_append,List.length_append,Int.natCast_add,Int.natCast_add] at this;simp only [List.length_singleton,Int.natCast_one] at this;exact this
 have hlen:(b.length:Int)=1+((dU n g s).length:Int)+(dU n' g' s').length+(dS p).length:=by rw [e];simp;omega
 unfold Sk;rw [if_neg (by omega),h3',RB hlen.symm,if_neg (by decide),h1,h2]
end Go.S

end
section
namespace Go.S
def j5(d:Bool)(w:Wp):Bool:=d || w.2
def bytesOf(w:Wp):List UInt8:=w.1
def kp(w:Wp):Bool:=w.2
def tG(l:List (List Pf)):Prop :=l.length<=1000/\∀x∈l,∀p∈x,p.2.2.2.2.2.length<=1099511627776
def fm(n:Int)(g:List UInt8)(s:List Sg)(l:List (List Pf))(k j:Nat):Wp:=cat (eu n g s l k) (zd (jl l k) j)
def lW(s:List Sg)(l:List (List Pf))(k:Nat):Prop :=k<=l.length/\l.length=s.length/\tG l/\∀i,i<k->(jl l i).length<=16
def jW(s:List Sg)(l:List (List Pf))(k j:Nat):Prop :=lW s l k/\k<l.length/\(jl l k).length<=16/\j<=(jl l k).length
def nG(b:List UInt8)(k j:Nat):Rs×List Pf:=OC b (gQ b k).1.1 (gQ b k).1.2 j
def nr(b:List UInt8)(k:Nat):Nat:=OB b (gQ b k).1.1 (gQ b k).1.2
def qc(p:List (List UInt8)):Prop :=p.length<=64/\cR p=true
def azi(n:Int)(g:List UInt8)(s:List Sg)(l:List (List Pf)):Prop :=bM n g s=true/\l.length<=1000/\∀x∈l,x.length<=16/\∀p∈x,tF p=true
def apu(n:Int)(g:List UInt8)(s:List Sg)(l:List (List Pf))(k j:Nat):List UInt8:=yq n g s l k++jJ (jl l k) j
def B0(n:Int)(g:List UInt8)(s:List Sg)(a:Int)(d:List UInt8)(p:List (List UInt8)):Prop :=bM n g s=true/\c5 a=false/\d.length<=2000/\qc p
theorem xu(s:List UInt8):(text s).length<=s.length+9:=by
 have :=bG (s.length:Int);simp only [text,C!];omega
theorem tH(b:List UInt8) {m:Int}(hm:0<=m):((eV b m).1.length:Int)<=m+9:=by
 unfold eV;split
 . simp;omega
 . have :=xu b;simp only;omega
theorem HH(v:Int):(gd v).1.length<=9:=by
 unfold gd;split
 . exact J! _
 . exact bG v
theorem Ly(n:Int)(g:List UInt8)(s:List Sg):(gn n g s).1.length<=10009:=by
 unfold gn;split
 . have :=tH (hB n g s) (m:=10000) (by decide);omega
 . exact J! _
theorem Vz:∀(p:List (List UInt8)),(p.takeWhile D5).flatten.length<=32*p.length
 | []=>by simp
 |a::p=>by
  have :=Vz p;by_cases h:D5 a=true
  . rw [List.takeWhile_cons_of_pos h,List.flatten_cons,C!,D?];have :(a.length:Int)=32:=of_decide_eq_true h;omega
  . rw [List.takeWhile_cons_of_neg h];simp
theorem Al(p:List (List UInt8)):(fw p).1.length<=2057:=by
 unfold fw;split
 . exact J! _
 . have :=bG (p.length:Int);have :=Vz p;simp only [C!];omega
theorem RC(p:Pf):(gH p).1.length<=7000:=by
 have h1:=HH p.1;have h2:=tH (fG p.2.1 p.2.2.1 p.2.2.2.1) (m:=200) (by decide);have h3:=Al p.2.2.2.2.1;have h4:=tH p.2.2.2.2.2 (m:=4000) (by decide);unfold gH;split
 . simp only [cat,C!];omega
 . simp only;omega
theorem C5(l:List Pf):∀k,(zd l k).1.length<=7000*k+9
 |0=>by simp only [zd];exact bG _
 |k+1=>by
  have :=C5 l k;have :=RC (pfD l k);simp only [zd,cat,C!];omega
theorem Lz(n:Int)(g:List UInt8)(s:List Sg)(l:List (List Pf)):∀k,(∀i,i<k->(jl l i).length<=16)->(eu n g s l k).1.length<=120000*k+20000
 |0,_=>by
  have :=Ly n g s;simp only [eu,cat,C!,S!];omega
 |k+1,h=>by
  have :=Lz n g s l k fun i hi=>h i (by omega);have :=C5 (jl l k) (jl l k).length;have :=h k (by omega);simp only [eu,cat,C!];omega
theorem aH1 {p:List (List UInt8)}(h:¬(64:Int)<p.length):jV p 0:=⟨by omega,J! _,by simp⟩
theorem ao9 {p:List (List UInt8)} {k:Nat}(h:jV p k):(gf p k).length<=2057:=by
 obtain⟨h1,h2,h3⟩:=h
 have q:∀(l:List (List UInt8)),(∀d∈l,(d.length:Int)=32)->l.flatten.length=32*l.length:=by
  intro l;induction l with
  |nil=>intro _;rfl
  |cons a l ih=>
   intro h;have :=h a (R! ..);rw [List.flatten_cons,C!,D?,ih fun d hd=>h d (G! _ hd)];omega
 have :=q _ h3;have :=bG (p.length:Int);rw [X!] at *;simp only [gf,C!];omega
theorem RD {p:List (List UInt8)} {k:Nat}(h:jV p k)(hk:(k:Int)<p.length)(hd:((p.getD k []).length:Int)=32):jV p (k+1)/\gf p k++p.getD k []=gf p (k+1):=by
 have e:=au p k [] (by omega);refine⟨⟨h.1,by omega,?_⟩,?_⟩
 . rw [e];intro d hm;rcases F!.1 hm with q|q
   . exact h.2.2 d q
   . rw [m?.1 q];exact hd
 . unfold gf;rw [e];simp
theorem apa {p:List (List UInt8)}:∀ {k:Nat},(∀d∈p.take k,(d.length:Int)=32)->k<p.length->¬((p.getD k []).length:Int)=32->p.takeWhile D5=p.take k:=by
 induction p with
 |nil=>intro k _ h;simp at h
 |cons a p ih=>
  intro k h hk hd;cases k with
  |zero=>rw [List.takeWhile_cons_of_neg (by simp only [D5,I!];exact hd)];rfl
  |succ k=>
   have ha:=h a (by simp);rw [List.takeWhile_cons_of_pos (show D5 a=true from P? ha),List.take_succ_cons,ih (k:=k) (fun d hd=>h d (by rw [List.take_succ_cons];exact G! _ hd)) (by simpa using hk) hd]
theorem VA {p:List (List UInt8)} {k:Nat}(h:jV p k)(hk:(k:Int)<p.length)(hd:¬((p.getD k []).length:Int)=32):fw p=(gf p k,true):=by
 have hD:cR p=false :=by
  cases q:cR p with
  |false=>rfl
  |true=>exact absurd (by have :=(cb p).1 q _ (bu p k [] (by omega));omega) hd
 unfold fw gf;rw [if_neg (by have :=h.1;omega),hD,apa h.2.2 (by omega) hd];rfl
theorem VB {p:List (List UInt8)} {k:Nat}(h:jV p k)(hk:¬(k:Int)<p.length):fw p=(gf p k,false):=by
 have e:k=p.length:=by have :=h.2.1;omega
 have hD:cR p=true :=(cb p).2 fun d hd=>by have :=h.2.2 d (by rw [e,List.take_length];exact hd);omega
 unfold fw gf;rw [if_neg (by have :=h.1;omega),hD,Vy hD,e,List.take_length];rfl
theorem afN {p:List (List UInt8)}(h:(64:Int)<p.length):fw p=([],true):=by unfold fw;rw [if_pos h]
theorem aH2 {s:List Sg} {l:List (List Pf)}(hp:tG l)(h:(l.length:Int)=s.length):lW s l 0:=⟨J! _,by omega,hp,fun i hi=>by omega⟩
theorem aAk {s:List Sg} {l:List (List Pf)} {k:Nat}(h:lW s l k)(hk:(k:Int)<l.length)(h1:¬(16:Int)<(jl l k).length):jW s l k 0:=⟨h,by omega,by omega,J! _⟩
theorem afO {s:List Sg} {l:List (List Pf)} {k j:Nat}(h:jW s l k j)(hj:(j:Int)<(jl l k).length):jW s l k (j+1):=⟨h.1,h.2.1,h.2.2.1,by omega⟩
theorem VC {n:Int} {g:List UInt8} {s:List Sg} {l:List (List Pf)} {k j:Nat}(h:jW s l k j)(hj:¬(j:Int)<(jl l k).length):lW s l (k+1)/\fm n g s l k j=eu n g s l (k+1):=by
 have e:j=(jl l k).length:=by have :=h.2.2.2;omega
 refine⟨⟨by have :=h.2.1;omega,h.1.2.1,h.1.2.2.1,fun i hi=> ?_⟩,by subst e;rfl⟩;by_cases q:i=k
 . subst q;exact h.2.2.1
 . exact h.1.2.2.2 i (by omega)
theorem afP {n:Int} {g:List UInt8} {s:List Sg} {l:List (List Pf)}(h:¬(l.length:Int)=s.length):nq n g s l=([],1):=by unfold nq;rw [if_pos (.inl h)]
theorem VD {n:Int} {g:List UInt8} {s:List Sg} {l:List (List Pf)} {k:Nat}(hk:(k:Int)<l.length)(h:(16:Int)<(jl l k).length):nq n g s l=([],1):=by
 have :EZ l=false :=by
  rw [<-Bool.not_eq_true];intro q;have :=of_decide_eq_true (List.all_eq_true.1 q _ (bu l k [] (by omega)));unfold jl at h;omega
 unfold nq;rw [if_pos (.inr this)]
theorem VE {n:Int} {g:List UInt8} {s:List Sg} {l:List (List Pf)} {k:Nat}(h:lW s l k)(hk:¬(k:Int)<l.length):nq n g s l=(sb (eu n g s l k),rh (eu n g s l k)):=by
 have e:k=l.length:=by have :=h.1;omega
 subst e
 have :EZ l=true :=E?.2 fun x hx=>by
  obtain⟨i,hi,rfl⟩:=List.mem_iff_getElem.1 hx;have :=h.2.2.2 i hi;have e:jl l i=l[i]:=by simp [jl,H!,hi]
  rw [e] at this;exact P? (by omega)
 unfold nq;rw [if_neg (by rw [this,h.2.1];simp)]
theorem afQ {s:List Sg} {l:List (List Pf)} {k j:Nat}(h:jW s l k j)(hj:(j:Int)<(jl l k).length):(pfD (jl l k) j).2.2.2.2.2.length<=1099511627776:=
 h.1.2.2.1.2 _ (bu l k [] h.2.1) _ (bu (jl l k) j vu (by omega))
theorem VF {n:Int} {g:List UInt8} {s:List Sg} {l:List (List Pf)} {k:Nat}(h:lW s l k):(eu n g s l k).1.length<=130000000:=by
 have :=Lz n g s l k h.2.2.2;have :=h.1;have :=h.2.2.1.1;omega
theorem afR {n:Int} {g:List UInt8} {s:List Sg} {l:List (List Pf)} {k j:Nat}(h:jW s l k j):(fm n g s l k j).1.length<=140000000:=by
 have :=VF (n:=n) (g:=g) h.1;have :=C5 (jl l k) j;have :=h.2.2.1;have :=h.2.2.2
 simp only [fm,cat,C!];omega
end Go.S

end
section
namespace Go.S
theorem apb(v:Int):(jd [] v).length<=9:=by
 unfold jd;split
 . exact J! _
 . exact bG v
theorem aH3(v:Int):jd [] v=(gd v).1:=by unfold jd gd;split<;>rfl
theorem aH4(v:Int)(d:Bool):(bif !decide (rS v=0) then true else d)=j5 d (gd v):=by
 unfold rS gd j5;cases c5 v<;>cases d<;>rfl
theorem OF {n:Nat}(h:n<=1000):gd (n:Int)=(num (n:Int),false):=by
 unfold gd;rw [xq (by omega) (by omega)];rfl
theorem VG {b:List UInt8} {m:Int}(h:m<b.length):eV b m=([],true):=by unfold eV;rw [if_pos h]
theorem afS {b:List UInt8} {m:Int}(h:¬m<b.length):eV b m=(text b,false):=by unfold eV;rw [if_neg h]
theorem afT {n:Int} {g:List UInt8} {s:List Sg}(h:¬(hW n g s).2=0):gn n g s=([],true):=by
 cases hr:bM n g s with
 |true=>rw [EY hr] at h;exact absurd rfl h
 |false=>unfold gn;rw [hr];rfl
theorem OG {n:Int} {g:List UInt8} {s:List Sg}(h:(hW n g s).2=0):gn n g s=eV (hW n g s).1 10000/\(hW n g s).1.length<=100000:=by
 obtain⟨h1,h2⟩:=afv h;rw [h2];exact⟨by unfold gn;rw [if_pos h1],Vp h1⟩
theorem apc(a b c:List UInt8):(ig a b c).length<=200:=by
 unfold ig;split
 . rename_i h;exact nZ h
 . exact J! _
theorem aAl {a b c:List UInt8}(h:¬mo a b c=0):eI a b c=false :=by
 cases q:eI a b c with
 |false=>rfl
 |true=>unfold mo at h;rw [q] at h;exact absurd rfl h
theorem VH {a b c:List UInt8}(h:mo a b c=0):eI a b c=true/\ig a b c=fG a b c:=by
 cases q:eI a b c with
 |true=>exact⟨rfl,by unfold ig;rw [q];rfl⟩
 |false=>unfold mo at h;rw [q] at h;cases h
theorem VI {p1:Int} {p2 p3 p4:List UInt8} {p5:List (List UInt8)} {p6:List UInt8}(h:¬mo p2 p3 p4=0):gH (p1,p2,p3,p4,p5,p6)=((gd p1).1,true):=by
 unfold gH;simp only;rw [aAl h];rfl
theorem RE {p1:Int} {p2 p3 p4:List UInt8} {p5:List (List UInt8)} {p6:List UInt8}(h:mo p2 p3 p4=0):gH (p1,p2,p3,p4,p5,p6)=cat (cat (cat (gd p1) (eV (ig p2 p3 p4) 200)) (fw p5)) (eV p6 4000):=by
 unfold gH;simp only;rw [(VH h).1,(VH h).2];rfl
theorem ayb {n:Int} {g:List UInt8} {s:List Sg} {l:List (List Pf)} {k j:Nat}(p:Pf)(hp:p=pfD (jl l k) j)(d:Bool)(b:List UInt8)(hd:d=kp (fm n g s l k j))(hb:b=bytesOf (fm n g s l k j)):
  j5 d (gH p)=kp (fm n g s l k (j+1))/\b++bytesOf (gH p)=bytesOf (fm n g s l k (j+1)):=by
 subst hp;subst hd;subst hb;simp only [j5,kp,bytesOf,fm,zd,cat,Bool.or_assoc,U!,and_self]
theorem VJ {b:List UInt8} {c:UInt8}(h:(1048576:Int)<b.length):jm b c=3:=by unfold jm;rw [if_pos h]
theorem VK {b:List UInt8} {c:UInt8}(h:¬(1048576:Int)<b.length)(h1:(b.length:Int)=0):jm b c=4:=by unfold jm;rw [if_neg h,if_pos (by omega)]
theorem afU {b:List UInt8} {c:UInt8}(h:¬(1048576:Int)<b.length)(h1:¬(b.length:Int)=0)(h2:¬((b.getD (Int.toNat 0) 0).toNat:Int)=c.toNat):jm b c=2:=by
 unfold jm;rw [if_neg h,if_neg (by omega),if_neg];intro q;apply h2;show(((b.getD 0 0).toNat:Nat):Int)=c.toNat;rw [q]
theorem afV {b:List UInt8} {c:UInt8}(h:¬(1048576:Int)<b.length)(h1:¬(b.length:Int)=0)(h2:((b.getD (Int.toNat 0) 0).toNat:Int)=c.toNat):jm b c=0:=by
 unfold jm;rw [if_neg h,if_neg (by omega),if_pos];apply UInt8.toNat_inj.1;have :((b.getD 0 0).toNat:Int)=c.toNat:=h2;omega
theorem VL(b:List UInt8)(a e m:Int):(ax b a e m).2.length<=b.length:=by
 unfold ax;split
 . exact J! _
 . split
   . exact J! _
   . unfold cz;split
     . exact J! _
     . split
       . exact J! _
       . split
         . exact J! _
         . simp only [V!,X!];omega
theorem afW(b:List UInt8)(a e:Int) {m:Int}(hm:0<=m):(dC b a e m).2<=m:=by
 unfold dC;split
 . exact hm
 . simp only;omega
theorem OH {b:List UInt8} {a e m:Int}(h:m<(an b a e).2):dC b a e m=(((an b a e).1.2.1,2),0):=by unfold dC;rw [if_pos h]
theorem Uk {b:List UInt8} {a e m:Int}(h:¬m<(an b a e).2):dC b a e m=((an b a e).1.2,(an b a e).2):=by unfold dC;rw [if_neg h]
theorem Ul {b:List UInt8} {a e:Int}(h:¬(ax b a e 10000).1.2.2=0):dL b a e=((ax b a e 10000).1.2,(0,[],[])):=by unfold dL;rw [if_pos h]
theorem OI {b:List UInt8} {a e:Int}(h:(ax b a e 10000).1.2.2=0):dL b a e=(((ax b a e 10000).1.2.1,(hR (ax b a e 10000).2).2),(hR (ax b a e 10000).2).1):=by unfold dL;rw [if_neg (fun q=>q h)]
theorem Um {b:List UInt8} {a e:Int}(h:¬(ax b a e 200).1.2.2=0):gp b a e=((ax b a e 200).1.2,([],[],[])):=by unfold gp;rw [if_pos h]
theorem OJ {b:List UInt8} {a e:Int}(h:(ax b a e 200).1.2.2=0):gp b a e=(((ax b a e 200).1.2.1,(bw (ax b a e 200).2).2),(bw (ax b a e 200).2).1):=by unfold gp;rw [if_neg (fun q=>q h)]
theorem VM(b:List UInt8)(a e:Int):∀k,(ri b a e k).2.length=k
 |0=>rfl
 |k+1=>by simp only [ri];rw [C!,VM b a e k];rfl
theorem apd(b:List UInt8)(a e:Int)(k:Nat):(fl b a e k).2.length=k:=VM ..
theorem VN(b:List UInt8)(a e:Int):∀k,(xt b a e k).2.length=k
 |0=>rfl
 |k+1=>by simp only [xt];rw [C!,VN b a e k];rfl
theorem ape(b:List UInt8)(k j:Nat):(nG b k j).2.length=j:=VN ..
theorem VO(b:List UInt8)(a e:Int):∀k,(rj b a e k).2.length=k
 |0=>rfl
 |k+1=>by simp only [rj];rw [C!,VO b a e k];rfl
theorem apf(b:List UInt8)(k:Nat):(gQ b k).2.length=k:=VO ..
theorem afX(b:List UInt8)(a e:Int):ko b a e<=64:=by have :=afW b a e (m:=64) (by decide);unfold ko;omega
theorem afY(b:List UInt8)(k:Nat):nr b k<=16:=by have :=afW b (gQ b k).1.1 (gQ b k).1.2 (m:=16) (by decide);unfold nr OB;omega
theorem OK {x:Nat} {v:Int}(h:(x:Int)<v):x+1<=v.toNat:=by omega
theorem HI {x:Nat} {v:Int}(h:bN x v.toNat)(h1:¬(x:Int)<v):x=v.toNat:=by unfold bN at h;omega
theorem apg(b:List UInt8):(hR b).1.2.2.length<=64:=by
 by_cases h:(hR b).2=0
 . exact(mK (ga.1 (T7 h).1).2.2.2).1
 . rw [afp h];exact J! _
theorem afZ(b:List UInt8):aN b<=64:=by
 unfold aN aH dL;split
 . exact J! _
 . exact apg _
theorem OL {b:List UInt8} {x:Nat}(h:(x:Int)<((dL b 1 0).2.2.2.length:Int)):x+1<=aN b:=by
 have :aN b=(dL b 1 0).2.2.2.length:=rfl;omega
theorem OM {b:List UInt8} {x:Nat}(h:bN x (aN b))(h1:¬(x:Int)<((dL b 1 0).2.2.2.length:Int)):x=aN b:=by
 have :aN b=(dL b 1 0).2.2.2.length:=rfl;unfold bN at h;omega
theorem ayc {b:List UInt8}(h:¬jm b 1=0):eJ b=((0,[],[],[]),jm b 1):=by unfold eJ;rw [if_pos h]
theorem ayd {b:List UInt8} {k:Nat}(h:jm b 1=0)(hk:k=aN b)(h1:¬done b (gQ b k).1.1 (gQ b k).1.2=0):eJ b=((0,[],[],[]),done b (gQ b k).1.1 (gQ b k).1.2):=by subst hk;unfold eJ;rw [if_neg (fun q=>q h),if_pos h1]
theorem aye {b:List UInt8} {k:Nat}(h:jm b 1=0)(hk:k=aN b)(h1:done b (gQ b k).1.1 (gQ b k).1.2=0):eJ b=(((aH b).2.1,(aH b).2.2.1,(aH b).2.2.2,(gQ b k).2),0):=by subst hk;unfold eJ;rw [if_neg (fun q=>q h),if_neg (fun q=>q h1)]
theorem aRv {b:List UInt8}(h:¬jm b 2=0):Uh b=((0,[],[],0,[],[]),jm b 2):=by unfold Uh;rw [if_pos h]
theorem aRw {b:List UInt8}(h:jm b 2=0)(h1:¬done b (Ug b).1.1 (Ug b).1.2=0):Uh b=((0,[],[],0,[],[]),done b (Ug b).1.1 (Ug b).1.2):=by unfold Uh;rw [if_neg (fun q=>q h),if_pos h1]
theorem aRx {b:List UInt8}(h:jm b 2=0)(h1:done b (Ug b).1.1 (Ug b).1.2=0):Uh b=(((Ue b).2.1,(Ue b).2.2.1,(Ue b).2.2.2,(Uf b).2,(pg3 b).2,(Ug b).2),0):=by unfold Uh;rw [if_neg (fun q=>q h),if_neg (fun q=>q h1)]
theorem aRy {b:List UInt8}(h:¬jm b 3=0):Sk b=((0,[],[],0,[],[],[]),jm b 3):=by unfold Sk;rw [if_pos h]
theorem str_1 {b:List UInt8}(h:jm b 3=0)(h1:¬done b (st3 b).1.1 (st3 b).1.2=0):Sk b=((0,[],[],0,[],[],[]),done b (st3 b).1.1 (st3 b).1.2):=by unfold Sk;rw [if_neg (fun q=>q h),if_pos h1]
theorem aRz {b:List UInt8}(h:jm b 3=0)(h1:done b (st3 b).1.1 (st3 b).1.2=0):Sk b=(((st1 b).2.1,(st1 b).2.2.1,(st1 b).2.2.2,(st2 b).2.1,(st2 b).2.2.1,(st2 b).2.2.2,(st3 b).2),0):=by unfold Sk;rw [if_neg (fun q=>q h),if_neg (fun q=>q h1)]
end Go.S

end
