import Derived.Test.YtfaedenbhlgnpaaGreatDoorPhC
import Derived.Lib.LaidTab
import Derived.Test.YtfaedenbhlgnpaaGreatDoorProg
set_option linter.unusedVariables false
set_option linter.unusedSimpArgs false
section
namespace Go.S
abbrev Bs:=List (List UInt8)
abbrev Ws:=List (Int×List UInt8)
def aP(bl:Bs)(wt:Ws):Bool:=decide (bl.length≤4096)&&decide (wt.length≤1000)&&bl.all (fun b=>b.length==64)&&wt.all (fun x=>decide (0≤x.1)&&decide (x.1<bl.length)&&x.2.length==64)
def vB(bl:Bs)(wt:Ws):Bs:=if aP bl wt then bl else []
def vW(bl:Bs)(wt:Ws):Ws:=if aP bl wt then wt else []
def copied(b:List UInt8):List UInt8:=b.take 64++List.replicate (64-b.length) 0
def pY(n:Int):List UInt8:=List.replicate (n.toNat*64) 0
def r6(n:Int):Prop :=0≤n∧n≤4096
def pZ(bl:Bs):Prop :=bl.length≤4096∧∀b∈bl,b.length=64
def flat(bl:Bs):List UInt8:=bl.flatten
def vg(c:Bs)(x:Int×List UInt8):Bs:=c.set x.1.toNat x.2
def nV(wt:Ws)(bl:Bs):Bs:=wt.foldl vg bl
def kept(keep:List Int)(i:Nat):Nat:=match keep[i]? with
 |some k=>(min (max k 0) 64).toNat
 |none=>0
def sZ(keep:List Int)(c:Bs)(x:Nat×Int×List UInt8):Bs:=c.set x.2.1.toNat (x.2.2.take (kept keep x.1)++(c.getD x.2.1.toNat []).drop (kept keep x.1))
def rm(keep:List Int)(wt:Ws)(bl:Bs):Bs:=((List.range wt.length).zip wt).foldl (sZ keep) bl
def cont(wt:Ws)(i:Int)(c:List UInt8):List UInt8:=wt.foldl (fun c x=>if x.1=i then x.2 else c) c
def M3(bl:Bs)(n:Nat):Prop :=n≤bl.length∧∀b∈bl.take n,b.length=64
def M4(bl:Bs)(wt:Ws)(n:Nat):Prop :=n≤wt.length∧∀x∈wt.take n,0≤x.1∧x.1<bl.length∧x.2.length=64
def vj(a b:Nat):Prop :=a≤b
def gb(bl:Bs)(n:Nat):List UInt8:=(bl.take n).flatten++List.replicate ((bl.length-n)*64) 0
def l6(bl:Bs)(wt:Ws)(n:Nat):List UInt8:=(nV (wt.take n) bl).flatten
def jT(keep:List Int)(bl:Bs)(wt:Ws)(n:Nat):List UInt8:=(rm keep (wt.take n) bl).flatten
def kX(wt:Ws)(n:Nat):Ws:=(wt.take n).map fun x=>(x.1,copied x.2)
def qI(wt:Ws)(i:Int)(c:List UInt8)(n:Nat):List UInt8:=cont (wt.take n) i c
def bX(bl:Bs)(i:Int):List UInt8:=bl.getD i.toNat []
def kY(bl:Bs)(wt:Ws)(i:Int)(b:List UInt8):Int:=if i<0∨(vB bl wt).length≤i∨b.length≠64 then 1 else if 1000≤(vW bl wt).length then 3 else 0
def wB(bl:Bs)(wt:Ws):Bs:=vB bl wt
def wW(bl:Bs)(wt:Ws)(i:Int)(b:List UInt8):Ws:=if kY bl wt i b=0 then vW bl wt++ [(i,b)] else vW bl wt
def gv(bl:Bs)(wt:Ws)(i:Int):Int:=if i<0∨(vB bl wt).length≤i then 1 else 0
def dQ(bl:Bs)(wt:Ws)(i:Int):List UInt8:=if gv bl wt i=0 then cont (vW bl wt) i (bX (vB bl wt) i) else []
def sync(bl:Bs)(wt:Ws):Bs:=nV (vW bl wt) (vB bl wt)
def l7(bl:Bs)(wt:Ws)(keep:List Int):Bs:=rm keep (vW bl wt) (vB bl wt)
def M5(n:Int):Int:=if n<0∨4096<n then 1 else 0
def xa(n:Int):Bs:=if n<0∨4096<n then [] else List.replicate n.toNat (List.replicate 64 0)
theorem lv {b c:Bool}(h:(bif b then true else c)=false):b=false∧c=false :=by cases b<;>simp_all
theorem mO {b c:Bool}(h:(bif b then true else c)=true):b=true∨c=true :=by cases b<;>simp_all
theorem cA {bl:Bs} {wt:Ws}:aP bl wt=true↔bl.length≤4096∧wt.length≤1000∧(∀b∈bl,b.length=64)∧(∀x∈wt,0≤x.1∧x.1<bl.length∧x.2.length=64):=by
 simp [aP,and_assoc]
theorem s5 {bl:Bs} {wt:Ws}(h:¬(bl.length≤4096∧wt.length≤1000∧(∀b∈bl,b.length=64)∧(∀x∈wt,0≤x.1∧x.1<bl.length∧x.2.length=64))):false=aP bl wt:=by
 cases hr:aP bl wt with
 |false=>rfl
 |true=>exact absurd (cA.1 hr) h
theorem we(bl:Bs)(wt:Ws):aP (vB bl wt) (vW bl wt)=true :=by
 unfold vB vW;cases h:aP bl wt<;>simp [h];rfl
theorem l8(bl:Bs)(wt:Ws):(vB bl wt).length≤4096:=(cA.1 (we bl wt)).1
theorem CN(bl:Bs)(wt:Ws):(vW bl wt).length≤1000:=(cA.1 (we bl wt)).2.1
theorem lb(bl:Bs)(wt:Ws):∀b∈vB bl wt,b.length=64:=(cA.1 (we bl wt)).2.2.1
theorem l9(bl:Bs)(wt:Ws):∀x∈vW bl wt,0≤x.1∧x.1<(vB bl wt).length∧x.2.length=64:=(cA.1 (we bl wt)).2.2.2
theorem xV {b:List UInt8}(h:b.length=64):copied b=b:=by
 simp [copied,h,List.take_of_length_le]
theorem gC:∀(l:Bs),(∀b∈l,b.length=64)→l.flatten.length=l.length*64
 | [],_=>rfl
 |b::l,h=>by
  have h1:=h b (List.mem_cons_self ..);have h2:=gC l fun c hc=>h c (List.mem_cons_of_mem _ hc);simp [h1,h2];omega
theorem xb:∀(l:Bs) (n:Nat),(∀b∈l,b.length=64)→(l.flatten).take (n*64)=(l.take n).flatten
 | [],_,_=>by simp
 |b::l,0,_=>by simp
 |b::l,n+1,h=>by
  have h1:=h b (List.mem_cons_self ..);have h2:=xb l n fun c hc=>h c (List.mem_cons_of_mem _ hc);simp only [List.flatten_cons,List.take_succ_cons,List.take_append,h1];rw [show(n+1)*64-64=n*64 by omega,h2,List.take_of_length_le (by omega)]
theorem np:∀(l:Bs) (n:Nat),(∀b∈l,b.length=64)→(l.flatten).drop (n*64)=(l.drop n).flatten
 | [],_,_=>by simp
 |b::l,0,_=>by simp
 |b::l,n+1,h=>by
  have h1:=h b (List.mem_cons_self ..);have h2:=np l n fun c hc=>h c (List.mem_cons_of_mem _ hc);simp only [List.flatten_cons,List.drop_succ_cons,List.drop_append,h1];rw [show(n+1)*64-64=n*64 by omega,h2,List.drop_of_length_le (by omega),List.nil_append]
theorem nq(l:Bs)(h:∀b∈l,b.length=64):Vg.ib 64 l.length l.flatten=l:=by
 refine List.ext_getElem (by simp [Vg.ib]) fun i h1 h2=> ?_;simp only [Vg.ib,List.getElem_map,List.getElem_range];rw [np l i h,List.drop_eq_getElem_cons h2,List.flatten_cons,List.take_append,h _ (List.getElem_mem h2)];simp [h _ (List.getElem_mem h2),List.take_of_length_le]
theorem M6(n:Nat):Vg.ib 64 n (List.replicate (n*64) (0:UInt8))=List.replicate n (List.replicate 64 0):=by
 have :=nq (List.replicate n (List.replicate 64 0)) (by intro b hb;rw [(List.mem_replicate.1 hb).2,List.length_replicate]);rwa [List.length_replicate,List.flatten_replicate_replicate] at this
theorem oM(l:Bs)(i:Nat)(p:List UInt8)(h:∀b∈l,b.length=64)(hi:i<l.length)(hp:p.length≤64):
  l.flatten.take (i*64)++p++l.flatten.drop (i*64+p.length)=(l.set i (p++(l.getD i []).drop p.length)).flatten:=by
 have oN:=h _ (List.getElem_mem hi)
 rw [xb l i h,←List.drop_drop,np l i h,List.drop_eq_getElem_cons hi,List.flatten_cons,List.drop_append,oN,show p.length-64=0 by omega,List.drop_zero,
  List.set_eq_take_append_cons_drop,if_pos hi,List.getD,List.getElem?_eq_getElem hi,Option.getD_some,List.flatten_append,List.flatten_cons]
 simp only [List.append_assoc]
theorem AN:∀(wt:Ws) {bl:Bs},(∀x∈wt,0≤x.1∧x.1<bl.length∧x.2.length=64)→∀(i:Int) (c:List UInt8),c.length=64→(cont wt i c).length=64
 | [],_,_,i,c,hc=>hc
 |x::wt,bl,h,i,c,hc=>by
  have :=AN wt (bl:=bl) (fun y hy=>h y (List.mem_cons_of_mem _ hy)) i (if x.1=i then x.2 else c) (by split;exact(h x (List.mem_cons_self ..)).2.2;exact hc);simpa only [cont,List.foldl_cons] using this
theorem wg:∀(wt:Ws) (bl:Bs),(nV wt bl).length=bl.length
 | [],_=>rfl
 |x::wt,bl=>by
  have :=wg wt (vg bl x);simpa only [nV,List.foldl_cons,vg,List.length_set] using this
theorem wh:∀(wt:Ws),(∀x∈wt,x.2.length=64)→∀(bl:Bs),(∀b∈bl,b.length=64)→∀b∈nV wt bl,b.length=64
 | [],_,_,h=>h
 |x::wt,hw,bl,h=>by
  have :=wh wt (fun y hy=>hw y (List.mem_cons_of_mem _ hy)) (vg bl x) (fun b hb=>by
   rcases mem_set hb with rfl|hb
   · exact hw x (List.mem_cons_self ..)
   · exact h b hb)
  simpa only [nV,List.foldl_cons] using this
theorem vk(keep:List Int)(i:Nat):kept keep i≤64:=by
 unfold kept;split<;>omega
theorem Cq(wt:Ws)(n:Nat)(h:n<wt.length):(List.range (wt.take (n+1)).length).zip (wt.take (n+1))=(List.range (wt.take n).length).zip (wt.take n)++ [(n,wt.getD n (0,[]))]:=by
 rw [aw wt n (0,[]) h,List.length_append,List.length_take,Nat.min_eq_left (by omega),List.length_singleton,List.range_succ,List.zip_append (by simp;omega)];rfl
theorem M7(keep:List Int)(wt:Ws)(bl:Bs)(n:Nat)(h:n<wt.length):rm keep (wt.take (n+1)) bl=sZ keep (rm keep (wt.take n) bl) (n,wt.getD n (0,[])):=by
 simp only [rm,Cq wt n h,List.foldl_append,List.foldl_cons,List.foldl_nil]
theorem s6(keep:List Int)(c:Bs)(x:Nat×Int×List UInt8):(sZ keep c x).length=c.length:=by simp [sZ]
theorem xW(keep:List Int)(wt:Ws)(bl:Bs):(rm keep wt bl).length=bl.length:=
 Av (P:=fun c:Bs=>c.length=bl.length) _ _ rfl fun a x _ h=>by rw [s6];exact h
theorem xX(keep:List Int) {n:Nat}(wt:Ws)(hw:∀x∈wt,0≤x.1∧x.1<(n:Int)∧x.2.length=64)(bl:Bs)(h:∀b∈bl,b.length=64):∀b∈rm keep wt bl,b.length=64:=by
 refine Av (P:=fun c:Bs=>∀b∈c,b.length=64) _ _ h fun c x hx hc b hb=> ?_;by_cases hi:x.2.1.toNat<c.length
 · rcases mem_set hb with rfl|hb
   · have h1:=(hw x.2 (List.of_mem_zip hx).2).2.2;have h2:=vk keep x.1;have :=hc _ (bo c x.2.1.toNat [] hi);simp only [List.length_append,List.length_take,List.length_drop];omega
   · exact hc b hb
 · simp only [sZ,List.set_eq_of_length_le (Nat.not_lt.1 hi)] at hb;exact hc b hb
end Go.S
namespace Go.S
def same(a1:Bs)(a2:Ws)(b1:Bs)(b2:Ws):Bool:=decide (a1=b1)&&decide (a2=b2)
end Go.S
namespace Go.S
theorem kD {bl:Bs} {wt:Ws}(h:aP bl wt=true):vB bl wt=bl:=by simp [vB,h]
theorem rn {bl:Bs} {wt:Ws}(h:aP bl wt=true):vW bl wt=wt:=by simp [vW,h]
theorem s7 {bl:Bs}(h1:bl.length≤4096)(h2:∀b∈bl,b.length=64):aP bl []=true :=cA.2 ⟨h1,by simp,h2,by simp⟩
theorem AO(bl:Bs)(wt:Ws):(sync bl wt).length=(vB bl wt).length:=wg _ _
theorem Fe(bl:Bs)(wt:Ws)(keep:List Int):(l7 bl wt keep).length=(vB bl wt).length:=xW _ _ _
theorem BV(bl:Bs)(wt:Ws):aP (sync bl wt) []=true :=
 s7 (by rw [AO];exact l8 bl wt) (wh _ (fun x hx=>(l9 bl wt x hx).2.2) _ (lb bl wt))
theorem zB(bl:Bs)(wt:Ws)(keep:List Int):aP (l7 bl wt keep) []=true :=
 s7 (by rw [Fe];exact l8 bl wt) (xX keep _ (fun x hx=>l9 bl wt x hx) _ (lb bl wt))
theorem HR {bl:Bs}(h:aP bl []=true)(keep:List Int):l7 bl [] keep=bl:=by simp [l7,kD h,rn h,rm]
theorem AP {bl:Bs}(h:aP bl []=true)(i:Int):gv bl [] i=if i<0∨bl.length≤i then 1 else 0:=by simp only [gv,kD h]
theorem AQ {bl:Bs}(h:aP bl []=true)(i:Int):dQ bl [] i=if i<0∨bl.length≤i then [] else bX bl i:=by
 simp only [dQ,AP h,kD h,rn h,cont,List.foldl_nil];split<;>simp
theorem p0(bl:Bs)(j i:Int)(b:List UInt8)(hj:0≤j∧j<bl.length)(hi:0≤i∧i<bl.length):bX (bl.set j.toNat b) i=if j=i then b else bX bl i:=by
 simp only [bX,List.getD,List.getElem?_set];by_cases h:j=i
 · subst h;simp [show j.toNat<bl.length by omega]
 · have :j.toNat≠i.toNat:=by omega
   simp [h,this]
theorem zC {bl:Bs} {wt:Ws}(h:aP bl wt=true)(j:Int)(b:List UInt8):aP bl (wW bl wt j b)=true :=by
 simp only [wW,rn h];by_cases he:kY bl wt j b=0
 · rw [if_pos he];simp only [kY,kD h,rn h] at he;split at he
   · cases he
   · split at he
     · cases he
     · have hr:=cA.1 h;refine cA.2 ⟨hr.1,by simp;omega,hr.2.2.1,fun x hx=> ?_⟩;rcases List.mem_append.1 hx with hx|hx
       · exact hr.2.2.2 x hx
       · simp only [List.mem_singleton] at hx;subst hx;simp only;omega
 · rw [if_neg he];exact h
end Go.S

end
section
namespace Go.S
def bH(docs:List (List UInt8))(l:List ax)(a b c:Int)(d:List UInt8):fA×Int:=
 if a=0 then aU docs l d else if a=1 then aN docs l else if a=2 then bt docs l b c else if a=3 then(cq docs l,0) else(ak docs l,1)
def c8(x:fA)(e:dH):fA×Int:=bH x.1 x.2 e.1 e.2.1 e.2.2.1 e.2.2.2
def dR(a b c:Int)(d:List UInt8):Bool:=if a=0 then decide ((d.length:Int)≤2000) else if a=2 then !du b&& !du c else decide (a=1) || decide (a=3)
def kB(a b c:Int)(d:List UInt8):List UInt8:=num a++(if a=0 then text d else if a=2 then num b++num c else [])
def cg(e:dH):List UInt8:=kB e.1 e.2.1 e.2.2.1 e.2.2.2
def aQ(a b c:Int)(d:List UInt8):List UInt8×Int:=if dR a b c d then(kB a b c d,0) else([],1)
def gS(e:dH):Bool:=dR e.1 e.2.1 e.2.2.1 e.2.2.2
def cr(b:List UInt8)(a e:Int):(Int×Int)×dH:=
 if(al b a e).2=0 then
  (((bm b (al b a e).1.2.1 (al b a e).1.2.2 2000).1.2.1,(bm b (al b a e).1.2.1 (al b a e).1.2.2 2000).1.2.2),(0,0,0,(bm b (al b a e).1.2.1 (al b a e).1.2.2 2000).2))
 else if(al b a e).2=2 then
  (((al b (al b (al b a e).1.2.1 (al b a e).1.2.2).1.2.1 (al b (al b a e).1.2.1 (al b a e).1.2.2).1.2.2).1.2.1,
    (al b (al b (al b a e).1.2.1 (al b a e).1.2.2).1.2.1 (al b (al b a e).1.2.1 (al b a e).1.2.2).1.2.2).1.2.2),
   (2,(al b (al b a e).1.2.1 (al b a e).1.2.2).2,(al b (al b (al b a e).1.2.1 (al b a e).1.2.2).1.2.1 (al b (al b a e).1.2.1 (al b a e).1.2.2).1.2.2).2,[]))
 else(((al b a e).1.2.1,(al b a e).1.2.2),((al b a e).2,0,0,[]))
def xY(b:List UInt8):Nat→Int→fA→fA×Int
 |0,_,x=>(x,0)
 |f+1,a,x=>if a<b.length then
   (if(cr b a 0).1.2≠0 then(([],[]),2)
   else if(c8 x (cr b a 0).2).2≠0 then(([],[]),2)
   else xY b f (cr b a 0).1.1 (c8 x (cr b a 0).2).1)
  else(x,0)
def xZ(b:List UInt8):fA×Int:=xY b b.length 0 ([],[])
def tp:fA→List dH→Option fA
 |x,[]=>some x
 |x,e::r=>if gS e=true∧(c8 x e).2=0 then tp (c8 x e).1 r else none
theorem Ff:∀(l:List dH) (x:fA) (e:dH),tp x (l++ [e])=match tp x l with
  |some y=>if gS e=true∧(c8 y e).2=0 then some (c8 y e).1 else none
  |none=>none
 | [],x,e=>rfl
 |f::r,x,e=>by
  simp only [List.cons_append,tp];split
  · exact Ff r _ e
  · rfl
theorem vo {P R:List UInt8} {v:Int}(h:0≤v)(h1:v≤4611686018427387904):al (P++(num v++R)) P.length 0=((P++(num v++R),(P.length:Int)+(num v).length,0),v):=by
 have e:(P++(num v++R)).drop ((P.length:Nat):Int).toNat=num v++R:=by rw [Int.toNat_natCast,List.drop_left]
 have hf:=oX h h1 R;have :=Yo (b:=P++(num v++R)) (a:=P.length) (Int.natCast_nonneg _) (by simp only [List.length_append];omega) (by rw [e,hf]);rw [e,hf] at this;exact this
theorem Ys {P R d:List UInt8}(h:(d.length:Int)≤2000):bm (P++(text d++R)) P.length 0 2000=((P++(text d++R),(P.length:Int)+(text d).length,0),d):=by
 have e0:P++(text d++R)=P++(num d.length++(d++R)):=by simp [text]
 have e:(P++(num d.length++(d++R))).drop ((P.length:Nat):Int).toNat=num d.length++(d++R):=by rw [Int.toNat_natCast,List.drop_left]
 have hf:=oX (v:=(d.length:Int)) (by omega) (by omega) (d++R)
 have hg:aK (P++(num d.length++(d++R))) P.length=((d.length:Int),(P.length:Int)+(num d.length).length,0):=by
  unfold aK BB;rw [e,hf];simp
 have hs:=zA (b:=P++(num d.length++(d++R))) (a:=P.length) (Int.natCast_nonneg _) (by simp only [List.length_append];omega)
 have ht:bW (P++(num d.length++(d++R))) P.length 2000=(d,(P.length:Int)+(num d.length).length+d.length,0):=by
  unfold bW;rw [hg,if_neg (by simp),if_neg (by simp only;omega),if_neg (by simp only [List.length_append];omega)];have e1:((P.length:Int)+(num d.length).length+d.length).toNat=(P++(num d.length++d)).length:=by simp only [List.length_append];omega
  have e2:((P.length:Int)+(num d.length).length).toNat=(P++num d.length).length:=by simp only [List.length_append];omega
  simp only [e1,e2];have e3:P++(num d.length++(d++R))=(P++(num d.length++d))++R:=by simp
  rw [e3,List.take_left,←List.append_assoc,List.drop_left]
 rw [e0];unfold bm;rw [hs,if_neg (fun q=>q rfl),ht,if_neg (fun q=>q rfl)];simp only [text,List.length_append];congr 3
 omega
def Yt(e:dH):dH:=if e.1=0 then(0,0,0,e.2.2.2) else if e.1=2 then(2,e.2.1,e.2.2.1,[]) else(e.1,0,0,[])
theorem ad2(x:fA)(e:dH):c8 x (Yt e)=c8 x e:=by
 unfold Yt;split
 · rename_i h;simp only [c8,bH,h,if_true]
 · split
   · rename_i h;simp only [c8,bH,h];rfl
   · rename_i h1 h2;simp only [c8,bH,if_neg h1,if_neg h2]
theorem akz {e:dH}(h:gS e=true)(P R:List UInt8):cr (P++(cg e++R)) P.length 0=(((P.length:Int)+(cg e).length,0),Yt e):=by
 obtain⟨a,b,c,d⟩:=e;simp only [gS,dR] at h;simp only [cg,kB,Yt];by_cases h0:a=0
 · subst h0;simp only [if_true] at h ⊢;have e1:P++(num 0++text d++R)=P++(num 0++(text d++R)):=by simp
   have r1:=vo (P:=P) (R:=text d++R) (v:=0) (by omega) (by omega);have e2:P++(num 0++(text d++R))=(P++num 0)++(text d++R):=by simp
   have r2:=Ys (P:=P++num 0) (R:=R) (of_decide_eq_true h);rw [←e2] at r2;have e3:((P++num 0).length:Int)=(P.length:Int)+(num 0).length:=by simp
   rw [e3] at r2;unfold cr;rw [e1];simp only [r1,r2,if_true,List.length_append];congr 2
   omega
 · by_cases h2:a=2
   · subst h2;simp only [if_neg h0,if_true,Bool.and_eq_true,Bool.not_eq_true',du,Bool.or_eq_false_iff,decide_eq_false_iff_not] at h ⊢;have e1:P++(num 2++(num b++num c)++R)=P++(num 2++(num b++(num c++R))):=by simp
     have r1:=vo (P:=P) (R:=num b++(num c++R)) (v:=2) (by omega) (by omega);have e2:P++(num 2++(num b++(num c++R)))=(P++num 2)++(num b++(num c++R)):=by simp
     have r2:=vo (P:=P++num 2) (R:=num c++R) (v:=b) (by omega) (by omega);rw [←e2] at r2;have e3:P++(num 2++(num b++(num c++R)))=(P++num 2++num b)++(num c++R):=by simp
     have r3:=vo (P:=P++num 2++num b) (R:=R) (v:=c) (by omega) (by omega);rw [←e3] at r3;have l1:((P++num 2).length:Int)=(P.length:Int)+(num 2).length:=by simp
     have l2:((P++num 2++num b).length:Int)=(P.length:Int)+(num 2).length+(num b).length:=by rw [List.length_append,List.length_append];omega
     rw [l1] at r2;rw [l2] at r3;unfold cr;rw [e1];simp only [r1,r2,r3];rw [if_neg (by decide)];simp only [List.length_append];rw [if_pos trivial];congr 2
     omega
   · simp only [if_neg h0,if_neg h2,Bool.or_eq_true,decide_eq_true_eq,List.append_nil] at h ⊢;have r1:=vo (P:=P) (R:=R) (v:=a) (by omega) (by omega);unfold cr;simp only [r1,if_neg h0,if_neg h2]
theorem QZ(e:dH):1≤(cg e).length:=by
 have :=zh e.1;simp only [cg,kB,List.length_append];omega
theorem Yu:∀(es:List dH) (P:List UInt8) (x y:fA) (f:Nat),tp x es=some y→es.length≤f→xY (P++es.flatMap cg) f P.length x=(y,0)
 | [],P,x,y,f,h,hf=>by
   simp only [tp,Option.some.injEq] at h;subst h;cases f with
   |zero=>rfl
   |succ f=>simp only [xY,List.flatMap_nil,List.append_nil];rw [if_neg (by omega)]
 |e::es,P,x,y,f,h,hf=>by
  simp only [tp] at h;split at h
  · rename_i hc;cases f with
    |zero=>simp at hf
    |succ f=>
     have hp:=QZ e;have he:cr (P++(e::es).flatMap cg) P.length 0=(((P.length:Int)+(cg e).length,0),Yt e):=by rw [List.flatMap_cons];exact akz hc.1 P _
     have hN:=ad2 x e;simp only [xY];rw [if_pos (by simp only [List.length_append,List.flatMap_cons];omega),he];simp only [hN];rw [if_neg (fun q=>q rfl),if_neg (fun q=>q hc.2)];have :=Yu es (P++cg e) (c8 x e).1 y f h (by simpa using hf);rw [List.append_assoc,←List.flatMap_cons] at this;have el:((P++cg e).length:Int)=(P.length:Int)+(cg e).length:=by simp
     rw [el] at this;exact this
  · cases h
theorem VS(es:List dH):es.length≤(es.flatMap cg).length:=by
 induction es with
 |nil=>exact Nat.le_refl _
 |cons e es ih=>have :=QZ e;simp only [List.length_cons,List.flatMap_cons,List.length_append];omega
theorem ad3 {es:List dH} {y:fA}(h:tp ([],[]) es=some y):xZ (es.flatMap cg)=(y,0):=by
 have :=Yu es [] ([],[]) y (es.flatMap cg).length h (VS es);simpa [xZ] using this
theorem BW:∀(es:List dH) (x y:fA),aX x.1 x.2=true→tp x es=some y→aX y.1 y.2=true
 | [],x,y,hx,h=>by simp only [tp,Option.some.injEq] at h;rw [←h];exact hx
 |e::es,x,y,hx,h=>by
  simp only [tp] at h;split at h
  · refine BW es _ y ?_ h;simp only [c8,bH];split
    · exact append_right _ _ _
    · split
      · exact oK _ _
      · split
        · exact merge_right _ _ _ _
        · split
          · exact rh _ _
          · exact gQ _ _
  · cases h
def vq(b:List UInt8):Nat:=(b.take 8).foldl (fun v x=>v*256+x.toNat) 0
def r7(n:Int)(i:Nat):UInt8:=UInt8.ofNat (n.toNat/256^(7-i)%256)
def lC(n:Int):List UInt8:=(List.range 8).map (r7 n)
def zD(s u:Int):List UInt8:=lC s++lC u++List.replicate 16 0
def dX(s u:Int):List UInt8:=zD s u++zD s u
def e8(b:List UInt8):Int×Bool:=if 4611686018427387904<vq b then(0,false) else((vq b:Int),true)
def cG(b:List UInt8)(m:Int):(Int×Int)×Bool:=
 if(b.length:Int)=64∧(e8 b).2=true∧(e8 (b.drop 8)).2=true∧(e8 (b.drop 8)).1≤m∧b=dX (e8 b).1 (e8 (b.drop 8)).1 then(((e8 b).1,(e8 (b.drop 8)).1),true) else((0,0),false)
theorem lD(n:Int):(lC n).length=8:=by simp [lC]
theorem Fg(s u:Int):(zD s u).length=32:=by simp [zD,lD]
theorem Fh(s u:Int):(dX s u).length=64:=by simp [dX,Fg]
theorem HS {n:Int}(h:0≤n)(h1:n≤4611686018427387904)(r:List UInt8):(vq (lC n++r):Int)=n:=by
 unfold vq;rw [List.take_append_of_le_length (by rw [lD];exact Nat.le_refl _),List.take_of_length_le (by rw [lD];exact Nat.le_refl _)];have e:lC n= [r7 n 0,r7 n 1,r7 n 2,r7 n 3,r7 n 4,r7 n 5,r7 n 6,r7 n 7]:=rfl
 have hb:∀i,(r7 n i).toNat=n.toNat/256^(7-i)%256:=fun i=>by
  simp only [r7,UInt8.toNat_ofNat'];exact Nat.mod_eq_of_lt (Nat.mod_lt _ (by decide))
 rw [e];simp only [List.foldl_cons,List.foldl_nil,hb];simp only [show 7-0=7 from rfl,show 7-1=6 from rfl,show 7-2=5 from rfl,show 7-3=4 from rfl,show 7-4=3 from rfl,show 7-5=2 from rfl,show 7-6=1 from rfl,show 7-7=0 from rfl];omega
theorem VT {s u m:Int}(h:0≤s)(h1:s≤4611686018427387904)(h2:0≤u)(h3:u≤4611686018427387904)(h4:u≤m):cG (dX s u) m=((s,u),true):=by
 have e1:dX s u=lC s++(lC u++(List.replicate 16 0++zD s u)):=by simp [dX,zD]
 have e2:(dX s u).drop 8=lC u++(List.replicate 16 0++zD s u):=by rw [e1,List.drop_left' (lD s)]
 have v1:=HS h h1 (lC u++(List.replicate 16 0++zD s u));have v2:=HS h2 h3 (List.replicate 16 0++zD s u)
 have n1:e8 (dX s u)=(s,true):=by
  unfold e8;rw [e1,if_neg (by omega),v1]
 have n2:e8 ((dX s u).drop 8)=(u,true):=by
  unfold e8;rw [e2,if_neg (by omega),v2]
 unfold cG;rw [n1,n2,if_pos ⟨by rw [Fh];rfl,rfl,rfl,h4,rfl⟩]
theorem PH {b:List UInt8} {m:Int}(h:b.getD 0 0=255)(hl:8≤b.length):(cG b m).2=false :=by
 have :¬(e8 b).2=true :=by
  unfold e8;rw [if_pos]
  · simp
  · match b,hl with
    |b0::b1::b2::b3::b4::b5::b6::b7::r,_=>
     have :b0=255:=h;subst this;simp only [vq,List.take_succ_cons,List.take_zero,List.foldl_cons,List.foldl_nil];have :(255:UInt8).toNat=255:=rfl;omega
 unfold cG;rw [if_neg (fun q=>this q.2.1)]
theorem PI {b:List UInt8} {m:Int}(h:b.getD 63 0=255):(cG b m).2=false :=by
 unfold cG;rw [if_neg];rintro⟨_,_,_,_,q⟩;rw [q] at h
 have :∀s u,(dX s u).getD 63 0=0:=fun s u=>by
  have e1:dX s u=(zD s u++lC s++lC u++List.replicate 15 0)++ [0]:=by simp [dX,zD,List.replicate_succ']
  have hl:(zD s u++lC s++lC u++List.replicate 15 (0:UInt8)).length=63:=by simp [Fg,lD]
  rw [e1,List.getD_eq_getElem?_getD,List.getElem?_append_right (by omega),hl];rfl
 rw [this] at h;exact absurd h (by decide)
end Go.S

end
section
namespace Go.S
abbrev tz:=Bool×Int×List UInt8
def dI(bl:Bs)(wt:Ws):Int:=((vB bl wt).length-2)*64
def vr(bl:Bs)(wt:Ws)(i:Int)(m:(Int×Int)×Bool):(Int×Int)×Bool:=
 if gv bl wt i≠0 then m
 else if(cG (dQ bl wt i) (dI bl wt)).2=true∧(m.2=false∨m.1.1<(cG (dQ bl wt i) (dI bl wt)).1.1) then cG (dQ bl wt i) (dI bl wt) else m
def fH(bl:Bs)(wt:Ws):(Int×Int)×Bool:=vr bl wt 1 (vr bl wt 0 ((0,0),false))
def vt(bl:Bs)(wt:Ws):List UInt8:=((List.range ((vB bl wt).length-2)).map fun k:Nat=>dQ bl wt ((k:Int)+2)).flatten
def bg(bl:Bs)(wt:Ws):((Int×Int)×fA)×Int:=
 if aP bl wt=false∨bl.length≤2 then(((0,0),([],[])),1)
 else if(fH bl wt).2=false then(((0,0),([],[])),7)
 else if(xZ ((vt bl wt).take (fH bl wt).1.2.toNat)).2≠0 then(((0,0),([],[])),2)
 else(((fH bl wt).1,(xZ ((vt bl wt).take (fH bl wt).1.2.toNat)).1),0)
def mP(c:List UInt8)(a:Int)(b:List UInt8):List UInt8:=c.take (a%64).toNat++b.take (64-(a%64).toNat)++c.drop ((a%64).toNat+b.length)
def rp(bl:Bs)(wt:Ws):Nat→Int→List UInt8→Ws
 |0,_,_=> []
 |f+1,a,b=>if b= [] then [] else if gv bl wt (2+a/64)≠0 then [] else
   (2+a/64,mP (dQ bl wt (2+a/64)) a b)::rp bl wt f (a+(min (64-(a%64).toNat) b.length:Nat)) (b.drop (64-(a%64).toNat))
def en(bl:Bs)(wt:Ws)(a:Int)(b:List UInt8):Ws:=rp bl wt b.length a b
def wr(x:Int×List UInt8):tz:=(false,x.1,x.2)
def clean:List UInt8:=List.replicate 64 255
def fI(bl:Bs)(wt:Ws)(s u:Int)(b:List UInt8):List tz:=
 wr ((s+1)%2,clean)::((en bl wt u b).map wr++ [(true,0,[]),wr ((s+1)%2,dX (s+1) (u+b.length)),(true,0,[])])
def cv(bl:Bs)(wt:Ws)(s u:Int)(x:fA)(e:dH):(List tz×((Int×Int)×fA))×Int:=
 if s=4611686018427387904 then(([],((0,0),([],[]))),1)
 else if(bg bl wt).2≠0∨(bg bl wt).1.1.1≠s∨(bg bl wt).1.1.2≠u then(([],((0,0),([],[]))),1)
 else if gS e=false then(([],((0,0),([],[]))),1)
 else if(c8 x e).2≠0 then(([],((0,0),([],[]))),(c8 x e).2)
 else if dI bl wt-u<(cg e).length then(([],((0,0),([],[]))),3)
 else((fI bl wt s u (cg e),((s+1,u+(cg e).length),(c8 x e).1)),0)
def fX:List tz→Nat→Bs→Ws→Nat→(Bs×Ws)×Nat
 | [],_,bl,wt,d=>((bl,wt),d)
 |c::r,f,bl,wt,d=>if f≤d then((bl,wt),d)
   else if c.1=true then fX r f (sync bl wt) [] (d+1)
   else if kY bl wt c.2.1 c.2.2≠0 then((bl,wt),d)
   else fX r f (wB bl wt) (wW bl wt c.2.1 c.2.2) (d+1)
def GR(bl:Bs)(wt:Ws)(l:List tz)(f:Int):(Bs×Ws)×Nat:=fX l f.toNat bl wt 0
theorem HT {keep:List Int} {Q:Int→List UInt8→Prop}:∀(l:List (Nat×Int×List UInt8)) (bl:Bs),
  (∀x∈l,0≤x.2.1∧x.2.1<bl.length)→(∀x∈l,∀c,∀j,j≤64→Q x.2.1 c→Q x.2.1 (x.2.2.take j++c.drop j))→
  (∀i:Int,0≤i→i<bl.length→Q i (bX bl i))→∀i:Int,0≤i→i<bl.length→Q i (bX (l.foldl (sZ keep) bl) i)
 | [],bl,_,_,h=>h
 |x::l,bl,hx,hq,h=>by
  have hx0:=hx x (List.mem_cons_self ..)
  have :=HT (keep:=keep) l (sZ keep bl x) (fun y hy=>by rw [s6];exact hx y (List.mem_cons_of_mem _ hy)) (fun y hy=>hq y (List.mem_cons_of_mem _ hy)) (fun i h0 h1=>by
   rw [s6] at h1;simp only [sZ];rw [p0 bl x.2.1 i _ hx0 ⟨h0,h1⟩];split
   · rename_i e;subst e;exact hq x (List.mem_cons_self ..) _ _ (vk _ _) (h _ h0 h1)
   · exact h i h0 h1)
  rw [s6] at this;exact this
theorem PJ {bl:Bs} {wt:Ws}(hr:aP bl wt=true) {Q:Int→List UInt8→Prop}(keep:List Int)
  (hq:∀x∈wt,∀c,∀j,j≤64→Q x.1 c→Q x.1 (x.2.take j++c.drop j)) (h:∀i:Int,0≤i→i<bl.length→Q i (bX bl i)):
  ∀i:Int,0≤i→i<bl.length→Q i (bX (l7 bl wt keep) i):=by
 simp only [l7,kD hr,rn hr,rm];refine HT _ bl (fun x hx=> ?_) (fun x hx=>hq x.2 (List.of_mem_zip hx).2) h;have :=(cA.1 hr).2.2.2 _ (List.of_mem_zip hx).2;exact⟨this.1,this.2.1⟩
theorem M8 {Q:Int→List UInt8→Prop}:∀(l:Ws) (bl:Bs),
  (∀x∈l,0≤x.1∧x.1<bl.length)→(∀x∈l,Q x.1 x.2)→
  (∀i:Int,0≤i→i<bl.length→Q i (bX bl i))→∀i:Int,0≤i→i<bl.length→Q i (bX (nV l bl) i)
 | [],bl,_,_,h=>h
 |x::l,bl,hx,hq,h=>by
  have hx0:=hx x (List.mem_cons_self ..);have e:(vg bl x).length=bl.length:=by simp [vg]
  have :=M8 l (vg bl x) (fun y hy=>by rw [e];exact hx y (List.mem_cons_of_mem _ hy)) (fun y hy=>hq y (List.mem_cons_of_mem _ hy)) (fun i h0 h1=>by
   rw [e] at h1;simp only [vg];rw [p0 bl x.1 i _ hx0 ⟨h0,h1⟩];split
   · rename_i e;subst e;exact hq x (List.mem_cons_self ..)
   · exact h i h0 h1)
  rw [e] at this;simpa only [nV,List.foldl_cons] using this
def eI(bl:Bs):Int:=((bl.length:Int)-2)*64
structure K (bl:Bs) (s u:Int) (x:fA):Prop where
 right :aP bl []=true
 three:3≤bl.length
 s0:0≤s
 u0:0≤u
 um:u≤eI bl
 L0:cG (bX bl (s%2)) (eI bl)=((s,u),true)
 other:(cG (bX bl ((s+1)%2)) (eI bl)).2=false∨(cG (bX bl ((s+1)%2)) (eI bl)).1.1<s∨s=0∧(cG (bX bl ((s+1)%2)) (eI bl)).1.1=0
 log:∃es,(bl.drop 2).flatten.take u.toNat=es.flatMap cg∧tp ([],[]) es=some x
theorem Fi {bl:Bs}(h:aP bl []=true):dI bl []=eI bl:=by simp only [dI,eI,kD h]
theorem VU {bl:Bs}(h:aP bl []=true):vt bl []=(bl.drop 2).flatten:=by
 unfold vt;rw [kD h];congr 1
 refine List.ext_getElem (by simp) fun i h1 h2=> ?_;simp only [List.length_map,List.length_range] at h1;simp only [List.getElem_map,List.getElem_range,List.getElem_drop];rw [AQ h,if_neg (by omega),bX,List.getD_eq_getElem?_getD,List.getElem?_eq_getElem (by omega)];simp only [Option.getD_some,show((i:Int)+2).toNat=2+i by omega]
theorem K.cur {bl:Bs} {s u:Int} {x:fA}(k:K bl s u x):fH bl []=((s,u),true):=by
 have h3:=k.three
 have e:∀i:Int,0≤i→i<2→∀m,vr bl [] i m=if(cG (bX bl i) (eI bl)).2=true∧(m.2=false∨m.1.1<(cG (bX bl i) (eI bl)).1.1) then cG (bX bl i) (eI bl) else m:=fun i h0 h1 m=>by
  have r:dQ bl [] i=bX bl i:=by rw [AQ k.right,if_neg (by omega)]
  have q:gv bl [] i=0:=by rw [AP k.right,if_neg (by omega)]
  unfold vr;rw [q,r,Fi k.right,if_neg (fun w=>w rfl)]
 unfold fH;rw [e 1 (by omega) (by omega),e 0 (by omega) (by omega)];have hg:=k.L0;have ho:=k.other;have hs:=k.s0;rcases(by omega :s%2=0∨s%2=1) with h|h
 · have h':(s+1)%2=1:=by omega
   rw [h] at hg;rw [h'] at ho;rw [hg];simp only [true_and,true_or,if_true];rw [if_neg];rintro⟨q1,q2⟩;rcases ho with ho|ho|ho
   · rw [ho] at q1;cases q1
   · rcases q2 with q2|q2
     · cases q2
     · omega
   · rcases q2 with q2|q2
     · cases q2
     · omega
 · have h':(s+1)%2=0:=by omega
   rw [h] at hg;rw [h'] at ho;rw [hg];rw [if_pos];refine⟨rfl,?_⟩;split
   · rename_i q;rcases ho with ho|ho|ho
     · rw [ho] at q;exact absurd q.1 (by decide)
     · exact .inr ho
     · omega
   · exact .inl rfl
theorem K.opens {bl:Bs} {s u:Int} {x:fA}(k:K bl s u x):bg bl []=(((s,u),x),0):=by
 obtain⟨es,h1,h2⟩:=k.log;have h3:=k.three;unfold bg;rw [k.cur,VU k.right,if_neg (by rw [k.right];simp;omega),if_neg (by simp)];simp only;rw [h1,ad3 h2,if_neg (by simp)]
theorem K.ad4 {bl:Bs} {s u:Int} {x:fA}(k:K bl s u x):aX x.1 x.2=true :=by
 obtain⟨es,h1,h2⟩:=k.log;exact BW es _ _ rfl h2
theorem K.aO {bl:Bs} {s u:Int} {x:fA}(k:K bl s u x):(0≤s%2∧s%2<bl.length)∧(0≤(s+1)%2∧(s+1)%2<bl.length)∧s%2≠(s+1)%2∧s%2<2∧(s+1)%2<2:=by
 have :=k.three;omega
theorem K.Yv {bl gz:Bs} {s u:Int} {x:fA}(k:K bl s u x)(hr:aP gz []=true)(hl:gz.length=bl.length)(h1:bX gz (s%2)=bX bl (s%2))
  (h2:bX gz ((s+1)%2)=bX bl ((s+1)%2)∨(bX gz ((s+1)%2)).getD 0 0=255∨(bX gz ((s+1)%2)).getD 63 0=255)
  (h3:(gz.drop 2).flatten.take u.toNat=(bl.drop 2).flatten.take u.toNat):K gz s u x:=by
 have er:eI gz=eI bl:=by unfold eI;rw [hl]
 have oN:8≤(bX gz ((s+1)%2)).length:=by
  have :=(cA.1 hr).2.2.1 _ (bo gz ((s+1)%2).toNat [] (by have :=k.aO;omega));unfold bX;omega
 refine⟨hr,by rw [hl];exact k.three,k.s0,k.u0,by rw [er];exact k.um,by rw [er,h1];exact k.L0,?_,?_⟩
 · rw [er];rcases h2 with h2|h2|h2
   · rw [h2];exact k.other
   · exact .inl (PH h2 oN)
   · exact .inl (PI h2)
 · obtain⟨es,e1,e2⟩:=k.log;exact⟨es,by rw [h3];exact e1,e2⟩
theorem K.next {bl gz:Bs} {s u:Int} {x:fA}(k:K bl s u x) {e:dH}(he:gS e=true)(hh:(c8 x e).2=0)(hs:s<4611686018427387904)(hr:aP gz []=true)(hl:gz.length=bl.length)
  (h1:bX gz (s%2)=bX bl (s%2)) (h2:bX gz ((s+1)%2)=dX (s+1) (u+(cg e).length)) (hm:u+(cg e).length≤eI bl)
  (h3:(gz.drop 2).flatten.take (u.toNat+(cg e).length)=(bl.drop 2).flatten.take u.toNat++cg e):K gz (s+1) (u+(cg e).length) (c8 x e).1:=by
 have er:eI gz=eI bl:=by unfold eI;rw [hl]
 have UA:=k.s0;have hu0:=k.u0
 have tR:eI bl≤4094*64:=by
  have :=(cA.1 k.right).1;unfold eI;omega
 refine⟨hr,by rw [hl];exact k.three,by omega,by omega,by rw [er];exact hm,?_,?_,?_⟩
 · rw [er,h2];exact VT (by omega) (by omega) (by omega) (by omega) hm
 · have e2:(s+1+1)%2=s%2:=by omega
   rw [er,e2,h1,k.L0];exact .inr (.inl (by simp only;omega))
 · obtain⟨es,e1,e2⟩:=k.log;refine⟨es++ [e],?_,?_⟩
   · have :(u+((cg e).length:Int)).toNat=u.toNat+(cg e).length:=by omega
     rw [this,h3,e1];simp
   · rw [Ff,e2];simp only;rw [if_pos ⟨he,hh⟩]
end Go.S

end
section
namespace Go.S
theorem zE {l:List tz} {f d:Nat}(h:f≤d)(bl:Bs)(wt:Ws):fX l f bl wt d=((bl,wt),d):=by
 cases l with
 |nil=>rfl
 |cons c r=>rw [fX,if_pos h]
theorem Yw {bl:Bs} {wt:Ws}(hr:aP bl wt=true) {x:Int×List UInt8}(h:0≤x.1∧x.1<bl.length∧x.2.length=64)(hl:wt.length<1000):
  kY bl wt x.1 x.2=0∧wB bl wt=bl∧wW bl wt x.1 x.2=wt++ [x]∧aP bl (wt++ [x])=true :=by
 have e:kY bl wt x.1 x.2=0:=by
  unfold kY;rw [kD hr,rn hr,if_neg (by omega),if_neg (by omega)]
 have w:wW bl wt x.1 x.2=wt++ [x]:=by unfold wW;rw [if_pos e,rn hr]
 exact⟨e,kD hr,w,by rw [←w];exact zC hr _ _⟩
theorem Yx:∀(ws:Ws) (r:List tz) (f:Nat) (bl:Bs) (wt:Ws) (d:Nat),aP bl wt=true→(∀x∈ws,0≤x.1∧x.1<bl.length∧x.2.length=64)→wt.length+ws.length≤1000→
  fX (ws.map wr++r) f bl wt d=(if f<d+ws.length then((bl,wt++ws.take (f-d)),max f d) else fX r f bl (wt++ws) (d+ws.length))∧aP bl (wt++ws)=true
 | [],r,f,bl,wt,d,hr,_,_=>by
   refine⟨?_,by rw [List.append_nil];exact hr⟩;simp only [List.map_nil,List.nil_append,List.length_nil,Nat.add_zero,List.take_nil,List.append_nil];split
   · rw [zE (by omega),Nat.max_eq_right (by omega)]
   · rfl
 |x::ws,r,f,bl,wt,d,hr,hw,hl=>by
  simp only [List.length_cons] at hl;have h:=Yw hr (hw x (List.mem_cons_self ..)) (by omega);have ih:=Yx ws r f bl (wt++ [x]) (d+1) h.2.2.2 (fun y hy=>hw y (List.mem_cons_of_mem _ hy)) (by simp;omega);rw [List.append_assoc,List.singleton_append] at ih;refine⟨?_,by rw [List.append_assoc,List.singleton_append] at ih;exact ih.2⟩;simp only [List.map_cons,List.cons_append,fX,wr,Bool.false_eq_true,if_false,h.1,h.2.1,h.2.2.1,ne_eq,not_true_eq_false,List.length_cons];split
  · rename_i hf;rw [if_pos (by omega),show f-d=0 by omega,List.take_zero,List.append_nil,Nat.max_eq_right hf]
  · rename_i hf;have e:f-d=(f-(d+1))+1:=by omega
    rw [ih.1,e,List.take_succ_cons,List.append_assoc,List.singleton_append];by_cases q:f<d+1+ws.length
    · rw [if_pos q,if_pos (by omega),Nat.max_eq_left (by omega),Nat.max_eq_left (by omega)]
    · rw [if_neg q,if_neg (by omega),show d+1+ws.length=d+(ws.length+1) by omega]
theorem rR {bl:Bs}(hr:aP bl []=true) {i:Int}(h0:0≤i)(h1:i<bl.length):dQ bl [] i=bX bl i∧gv bl [] i=0∧(bX bl i).length=64:=
 ⟨by rw [AQ hr,if_neg (by omega)],by rw [AP hr,if_neg (by omega)],(cA.1 hr).2.2.1 _ (bo bl i.toNat [] (by omega))⟩
theorem Fj {c:List UInt8}(hc:c.length=64)(a:Int)(b:List UInt8):(mP c a b).length=64:=by
 unfold mP;simp only [List.length_append,List.length_take,List.length_drop,hc];omega
theorem HU {bl:Bs}(hr:aP bl []=true)(u:Nat):∀(f a:Nat) (b:List UInt8),b.length≤f→u≤a→a+b.length≤(bl.length-2)*64→
  (∀x∈rp bl [] f a b,2≤x.1∧x.1<bl.length∧x.2.length=64∧x.2.take ((u:Int)-64*(x.1-2)).toNat=(bX bl x.1).take ((u:Int)-64*(x.1-2)).toNat)∧
  (rp bl [] f a b).length*64≤a%64+b.length+63∧(b= []→rp bl [] f a b= [])
 |0,a,b,hf,hu,hb=>⟨(fun x hx=>by cases hx),by simp [rp],fun _=>rfl⟩
 |f+1,a,b,hf,hu,hb=>by
  rw [rp];by_cases h:b= []
  · rw [if_pos h];exact⟨(fun x hx=>by cases hx),by simp,fun _=>rfl⟩
  · have hp:1≤b.length:=by cases b with|nil=>exact absurd rfl h|cons=>simp
    have hR:=rR hr (i:=2+(a:Int)/64) (by omega) (by omega);have eo:((a:Int)%64).toNat=a%64:=by omega
    rw [if_neg h,hR.2.1,hR.1,if_neg (fun w=>w rfl),eo,show(a:Int)+((min (64-a%64) b.length:Nat):Int)=((a+min (64-a%64) b.length:Nat):Int) by omega];have ih:=HU hr u f (a+min (64-a%64) b.length) (b.drop (64-a%64)) (by rw [List.length_drop];omega) (by omega) (by rw [List.length_drop];omega);refine⟨fun x hx=> ?_,?_,fun q=>absurd q h⟩
    · rcases List.mem_cons.1 hx with rfl|hx
      · refine⟨by simp only;omega,by simp only;omega,Fj hR.2.2 _ _,?_⟩;simp only;have hm:((u:Int)-64*(2+(a:Int)/64-2)).toNat≤a%64:=by omega
        unfold mP;rw [eo,List.append_assoc,List.take_append_of_le_length (by rw [List.length_take,hR.2.2];omega),List.take_take,Nat.min_eq_left hm]
      · exact ih.1 x hx
    · rw [List.length_cons];have i2:=ih.2.1;rw [List.length_drop] at i2;by_cases q:b.length≤64-a%64
      · rw [ih.2.2 (by rw [List.drop_of_length_le q])];simp;omega
      · omega
theorem M9 {L:Bs}(h:∀c∈L,c.length=64) {a:Nat}(hi:a/64<L.length):L.flatten.take a=L.flatten.take (a/64*64)++(L.getD (a/64) []).take (a%64):=by
 have e:a=a/64*64+a%64:=by omega
 conv=>lhs;rw [e,List.take_add]
 rw [np L _ h,List.drop_eq_getElem_cons hi,List.flatten_cons,List.take_append_of_le_length (by rw [h _ (List.getElem_mem hi)];omega),List.getD_eq_getElem?_getD,List.getElem?_eq_getElem hi];rfl
theorem Q0 {bl:Bs}(hr:aP bl []=true):∀(f a:Nat) (b:List UInt8) (gz:Bs),b.length≤f→gz.length=bl.length→(∀c∈gz,c.length=64)→a+b.length≤(bl.length-2)*64→
  (b≠ []→∀i,2+a/64≤i→gz.getD i []=bl.getD i [])→
  ((nV (rp bl [] f a b) gz).drop 2).flatten=(gz.drop 2).flatten.take a++b++(gz.drop 2).flatten.drop (a+b.length)
 |0,a,b,gz,hf,hl,oN,hb,hi=>by
  have :b= []:=List.length_eq_zero_iff.1 (by omega);subst this;simp [rp,nV]
 |f+1,a,b,gz,hf,hl,oN,hb,hi=>by
  rw [rp];by_cases h:b= []
  · subst h;simp [nV]
  · have hp:1≤b.length:=by cases b with|nil=>exact absurd rfl h|cons=>simp
    have hR:=rR hr (i:=2+(a:Int)/64) (by omega) (by omega);have eo:((a:Int)%64).toNat=a%64:=by omega
    have ei:(2+(a:Int)/64).toNat=2+a/64:=by omega
    have hn:b.length≤64-a%64∨64-a%64<b.length:=by omega
    rw [if_neg h,hR.2.1,hR.1,if_neg (fun w=>w rfl),eo,show(a:Int)+((min (64-a%64) b.length:Nat):Int)=((a+min (64-a%64) b.length:Nat):Int) by omega];have hw:=Fj hR.2.2 a b;have hc:gz.getD (2+a/64) []=bX bl (2+(a:Int)/64):=by rw [hi h _ (Nat.le_refl _),bX,ei]
    have ih:=Q0 hr f (a+min (64-a%64) b.length) (b.drop (64-a%64)) (gz.set (2+a/64) (mP (bX bl (2+(a:Int)/64)) a b)) (by rw [List.length_drop];omega) (by rw [List.length_set];exact hl)
     (fun c hc=>by
       rcases mem_set hc with rfl|hc
       · exact hw
       · exact oN c hc) (by rw [List.length_drop];omega) (fun q i hX=>by
       have :64-a%64<b.length:=by
        rcases hn with hn|hn
        · exact absurd (List.drop_of_length_le hn) q
        · exact hn
       have dD:2+a/64≠i:=by omega
       rw [List.getD_eq_getElem?_getD,List.getElem?_set,if_neg dD,←List.getD_eq_getElem?_getD];exact hi h i (by omega))
    simp only [nV,List.foldl_cons,vg,ei] at ih ⊢;rw [ih];have hL:∀c∈gz.drop 2,c.length=64:=fun c hc=>oN c (List.mem_of_mem_drop hc);have hq:a/64<(gz.drop 2).length:=by rw [List.length_drop];omega
    have hg:(gz.drop 2).getD (a/64) []=bX bl (2+(a:Int)/64):=by rw [←hc,List.getD_eq_getElem?_getD,List.getD_eq_getElem?_getD,List.getElem?_drop]
    have Al:=gC _ hL;have hfp:=oM (gz.drop 2) (a/64) ((bX bl (2+(a:Int)/64)).take (a%64)++b.take (64-a%64)) hL hq (by simp only [List.length_append,List.length_take];omega);have hpl:((bX bl (2+(a:Int)/64)).take (a%64)++b.take (64-a%64)).length=a%64+min (64-a%64) b.length:=by simp only [List.length_append,List.length_take,hR.2.2];omega
    rw [hpl,hg] at hfp
    have hwe:mP (bX bl (2+(a:Int)/64)) a b=(bX bl (2+(a:Int)/64)).take (a%64)++b.take (64-a%64)++(bX bl (2+(a:Int)/64)).drop (a%64+min (64-a%64) b.length):=by
     unfold mP;rw [eo];congr 1
     rcases hn with hn|hn
     · rw [Nat.min_eq_right hn]
     · rw [List.drop_of_length_le (by rw [hR.2.2];omega),List.drop_of_length_le (by rw [hR.2.2];omega)]
    have tf:(gz.set (2+a/64) (mP (bX bl (2+(a:Int)/64)) a b)).drop 2=(gz.drop 2).set (a/64) (mP (bX bl (2+(a:Int)/64)) a b):=by
     rw [List.drop_set,if_neg (by omega),show 2+a/64-2=a/64 by omega]
    rw [tf,hwe,←hfp];have hs:=M9 hL hq;rw [hg] at hs;have e1:(gz.drop 2).flatten.take (a/64*64)++((bX bl (2+(a:Int)/64)).take (a%64)++b.take (64-a%64))=(gz.drop 2).flatten.take a++b.take (64-a%64):=by rw [hs,List.append_assoc]
    rw [e1,show a/64*64+(a%64+min (64-a%64) b.length)=a+min (64-a%64) b.length by omega]
    have hla:((gz.drop 2).flatten.take a++b.take (64-a%64)).length=a+min (64-a%64) b.length:=by
     rw [List.length_append,List.length_take,List.length_take,Al,List.length_drop];omega
    rw [List.take_left' hla,List.drop_append,hla,List.drop_of_length_le (l:=(gz.drop 2).flatten.take a++b.take (64-a%64)) (by rw [hla];omega),List.nil_append,List.drop_drop,List.length_drop];have e2:a+min (64-a%64) b.length+(a+min (64-a%64) b.length+(b.length-(64-a%64))-(a+min (64-a%64) b.length))=a+b.length:=by omega
    rw [e2,List.append_assoc,List.append_assoc,←List.append_assoc (b.take _),List.take_append_drop,List.append_assoc]
end Go.S

end
section
namespace Go.S
theorem Fk:∀(L L':Bs) (u:Nat),L'.length=L.length→(∀c∈L,c.length=64)→(∀c∈L',c.length=64)→
  (∀i,i<L.length→(L'.getD i []).take (u-64*i)=(L.getD i []).take (u-64*i))→L'.flatten.take u=L.flatten.take u
 | [],L',u,hl,_,_,_=>by rw [List.length_eq_zero_iff.1 hl]
 |c::L,[],u,hl,_,_,_=>by simp at hl
 |c::L,c'::L',u,hl,h,h',hi=>by
  have ih:=Fk L L' (u-64) (by simpa using hl) (fun y hy=>h y (List.mem_cons_of_mem _ hy)) (fun y hy=>h' y (List.mem_cons_of_mem _ hy)) (fun i hX=>by
   have :=hi (i+1) (by simpa using hX);rw [List.getD_cons_succ,List.getD_cons_succ] at this;rw [show u-64-64*i=u-64*(i+1) by omega];exact this)
  have h0:=hi 0 (by simp);simp only [List.getD_cons_zero,Nat.mul_zero,Nat.sub_zero] at h0;simp only [List.flatten_cons,List.take_append];rw [h c (List.mem_cons_self ..),h' c' (List.mem_cons_self ..),ih,h0]
theorem Yy {c x o:List UInt8} {m j:Nat}(hx:x.take m=o.take m)(hc:c.take m=o.take m)(h1:x.length=64)(hj:j≤64):(x.take j++c.drop j).take m=o.take m:=by
 have hl:(x.take j).length=j:=by rw [List.length_take,h1];omega
 rw [List.take_append,hl,List.take_take];by_cases h:m≤j
 · rw [Nat.min_eq_left h,show m-j=0 by omega,List.take_zero,List.append_nil,hx]
 · rw [Nat.min_eq_right (by omega),List.take_drop,show j+(m-j)=m by omega,hc,←hx];have :x.take j=(x.take m).take j:=by rw [List.take_take,Nat.min_eq_left (by omega)]
   rw [this,List.take_append_drop]
theorem Na(c:List UInt8)(j:Nat)(hj:j≤64):clean.take j++c.drop j=c∨(clean.take j++c.drop j).getD 0 0=255:=by
 cases j with
 |zero=>left;simp
 |succ j=>right;simp [clean,List.replicate_succ]
theorem PK {m:List UInt8}(hm:m.length=64)(j:Nat)(hj:j≤64):m.take j++clean.drop j=m∨(m.take j++clean.drop j).getD 63 0=255:=by
 by_cases h:j=64
 · subst h;left;rw [List.take_of_length_le (by omega),List.drop_of_length_le (by simp [clean]),List.append_nil]
 · right;have hl:(m.take j).length=j:=by rw [List.length_take];omega
   rw [List.getD_eq_getElem?_getD,List.getElem?_append_right (by omega),hl,List.getElem?_drop,show j+(63-j)=63 by omega];rfl
theorem PL {bl gz:Bs}(hr:aP bl []=true)(lE:aP gz []=true)(hl:gz.length=bl.length)(u:Nat)
  (h:∀i:Int,2≤i→i<bl.length→(bX gz i).take ((u:Int)-64*(i-2)).toNat=(bX bl i).take ((u:Int)-64*(i-2)).toNat):(gz.drop 2).flatten.take u=(bl.drop 2).flatten.take u:=by
 refine Fk _ _ u (by simp [hl]) (fun c hc=>(cA.1 hr).2.2.1 c (List.mem_of_mem_drop hc)) (fun c hc=>(cA.1 lE).2.2.1 c (List.mem_of_mem_drop hc)) fun i hi=> ?_;rw [List.length_drop] at hi;have :=h ((i:Int)+2) (by omega) (by omega);have e:((u:Int)-64*((i:Int)+2-2)).toNat=u-64*i:=by omega
 have e2:((i:Int)+2).toNat=2+i:=by omega
 rw [e,bX,bX,e2] at this;have ed:∀l:Bs,(l.drop 2).getD i []=l.getD (2+i) []:=fun l=>by rw [List.getD_eq_getElem?_getD,List.getD_eq_getElem?_getD,List.getElem?_drop]
 rw [ed,ed];exact this
def ahead(bl:Bs)(s u:Int)(b:List UInt8):Ws:=((s+1)%2,clean)::en bl [] u b
theorem AR {bl:Bs} {s u:Int} {x:fA}(k:K bl s u x) {b:List UInt8}(hb:u+b.length≤eI bl):
  (∀x∈en bl [] u b,2≤x.1∧x.1<bl.length∧x.2.length=64∧x.2.take ((u.toNat:Int)-64*(x.1-2)).toNat=(bX bl x.1).take ((u.toNat:Int)-64*(x.1-2)).toNat)∧
  (∀x∈ahead bl s u b,0≤x.1∧x.1<bl.length∧x.2.length=64)∧(ahead bl s u b).length*64≤b.length+190:=by
 have h0:=k.u0;have h3:=k.three;have hs:=k.aO;unfold eI at hb;have e:u=((u.toNat:Nat):Int):=by omega
 have w:=HU k.right u.toNat b.length u.toNat b (Nat.le_refl _) (Nat.le_refl _) (by omega);rw [←e] at w;refine⟨by rw [←e];exact w.1,fun x hx=> ?_,?_⟩
 · rcases List.mem_cons.1 hx with rfl|hx
   · exact⟨hs.2.1.1,hs.2.1.2,by simp [clean]⟩
   · have :=w.1 x hx;exact⟨by omega,this.2.1,this.2.2.1⟩
 · have :=w.2.1;simp only [ahead,List.length_cons,en];omega
theorem K.Yz {bl:Bs} {s u:Int} {x:fA}(k:K bl s u x) {b:List UInt8}(hb:u+b.length≤eI bl) {wt:Ws}(hw:∀y∈wt,y∈ahead bl s u b)(hr:aP bl wt=true)(keep:List Int):
  K (l7 bl wt keep) s u x:=by
 have ha:=AR k hb;have hs:=k.aO;have cl:(l7 bl wt keep).length=bl.length:=by rw [Fe,kD hr]
 have q:=PJ hr (Q:=fun i c=>(i=s%2→c=bX bl i)∧(i=(s+1)%2→c=bX bl i∨c.getD 0 0=255)∧(2≤i→c.take ((u.toNat:Int)-64*(i-2)).toNat=(bX bl i).take ((u.toNat:Int)-64*(i-2)).toNat)) keep
  (fun y hy c j hj hc=>by
    rcases List.mem_cons.1 (hw y hy) with rfl|hy'
    · refine⟨fun h=>absurd h (by simp only;omega),fun h=> ?_,fun h=>absurd h (by simp only;omega)⟩;rcases Na c j hj with e|e
      · simp only;rw [e];exact hc.2.1 h
      · exact .inr e
    · have hh:=ha.1 y hy';exact⟨fun h=>by omega,fun h=>by omega,fun h=>Yy hh.2.2.2 (hc.2.2 h) hh.2.2.1 hj⟩)
  (fun i _ _=>⟨fun _=>rfl,fun _=> .inl rfl,fun _=>rfl⟩)
 refine k.Yv (zB bl wt keep) cl ((q _ hs.1.1 hs.1.2).1 rfl) ?_ (PL k.right (zB bl wt keep) cl u.toNat fun i h0 h1=>(q i (by omega) h1).2.2 h0);rcases(q _ hs.2.1.1 hs.2.1.2).2.1 rfl with e|e
 · exact .inl e
 · exact .inr (.inl e)
theorem synced {bl:Bs} {s u:Int} {x:fA}(k:K bl s u x) {b:List UInt8}(hb:u+b.length≤eI bl)(hr:aP bl (ahead bl s u b)=true):
  aP (sync bl (ahead bl s u b)) []=true∧(sync bl (ahead bl s u b)).length=bl.length∧bX (sync bl (ahead bl s u b)) (s%2)=bX bl (s%2)∧bX (sync bl (ahead bl s u b)) ((s+1)%2)=clean∧
  ((sync bl (ahead bl s u b)).drop 2).flatten=(bl.drop 2).flatten.take u.toNat++b++(bl.drop 2).flatten.drop (u.toNat+b.length):=by
 have ha:=AR k hb;have hs:=k.aO;have h0:=k.u0;have h3:=k.three
 have es:sync bl (ahead bl s u b)=nV (en bl [] u b) (bl.set ((s+1)%2).toNat clean):=by
  unfold sync;rw [kD hr,rn hr];simp only [ahead,nV,List.foldl_cons,vg]
 have q:=M8 (Q:=fun i c=>(i=s%2→c=bX bl i)∧(i=(s+1)%2→c=clean)) (en bl [] u b) (bl.set ((s+1)%2).toNat clean)
  (fun y hy=>by have :=ha.1 y hy;rw [List.length_set];omega) (fun y hy=>by have :=ha.1 y hy;exact⟨fun h=>by omega,fun h=>by omega⟩)
  (fun i i0 i1=>by
    rw [List.length_set] at i1;rw [p0 bl _ i _ hs.2.1 ⟨i0,i1⟩];split
    · rename_i e;exact⟨fun h=>by omega,fun _=>rfl⟩
    · rename_i e;exact⟨fun _=>rfl,fun h=>absurd h.symm e⟩)
 rw [List.length_set] at q;refine⟨BV _ _,by rw [AO,kD hr],?_,?_,?_⟩
 · rw [es];exact(q _ hs.1.1 hs.1.2).1 rfl
 · rw [es];exact(q _ hs.2.1.1 hs.2.1.2).2 rfl
 · unfold eI at hb;have e:u=((u.toNat:Nat):Int):=by omega
   have Mf:((s+1)%2).toNat<2:=by omega
   have w:=Q0 k.right b.length u.toNat b (bl.set ((s+1)%2).toNat clean) (Nat.le_refl _) (by rw [List.length_set]) (fun c hc=>by
    rcases mem_set hc with rfl|hc
    · simp [clean]
    · exact(cA.1 k.right).2.2.1 c hc) (by omega) (fun _ i hi=>by
    rw [List.getD_eq_getElem?_getD,List.getElem?_set,if_neg (by omega),←List.getD_eq_getElem?_getD])
   rw [←e] at w;rw [es];unfold en;rw [w,List.drop_set,if_pos Mf]
theorem ad5 {A b C:List UInt8} {n:Nat}(h:A.length=n):(A++b++C).take n=A∧(A++b++C).take (n+b.length)=A++b:=by
 constructor
 · rw [List.append_assoc,List.take_left' h]
 · rw [List.take_left' (by rw [List.length_append,h])]
theorem K.cut {bl:Bs} {s u:Int} {x:fA}(k:K bl s u x) {e:dH}(he:gS e=true)(hh:(c8 x e).2=0)(hs:s<4611686018427387904)(hb:u+(cg e).length≤eI bl)(hl:(cg e).length≤60000)(f:Nat):
  aP (fX (fI bl [] s u (cg e)) f bl [] 0).1.1 (fX (fI bl [] s u (cg e)) f bl [] 0).1.2=true∧
  (∀keep,((fX (fI bl [] s u (cg e)) f bl [] 0).2<(fI bl [] s u (cg e)).length∧K (l7 (fX (fI bl [] s u (cg e)) f bl [] 0).1.1 (fX (fI bl [] s u (cg e)) f bl [] 0).1.2 keep) s u x)∨
    ((fI bl [] s u (cg e)).length≤(fX (fI bl [] s u (cg e)) f bl [] 0).2+1∧K (l7 (fX (fI bl [] s u (cg e)) f bl [] 0).1.1 (fX (fI bl [] s u (cg e)) f bl [] 0).1.2 keep) (s+1) (u+(cg e).length) (c8 x e).1))∧
  ((fI bl [] s u (cg e)).length≤f→(fX (fI bl [] s u (cg e)) f bl [] 0).2=(fI bl [] s u (cg e)).length∧(fX (fI bl [] s u (cg e)) f bl [] 0).1.2= []∧K (fX (fI bl [] s u (cg e)) f bl [] 0).1.1 (s+1) (u+(cg e).length) (c8 x e).1):=by
 have ha:=AR k hb;have nD:=k.aO;have h0:=k.u0;have ec:fI bl [] s u (cg e)=(ahead bl s u (cg e)).map wr++ [(true,0,[]),wr ((s+1)%2,dX (s+1) (u+(cg e).length)),(true,0,[])]:=rfl;have el:(fI bl [] s u (cg e)).length=(ahead bl s u (cg e)).length+3:=by rw [ec];simp
 have d:=Yx (ahead bl s u (cg e)) [(true,0,[]),wr ((s+1)%2,dX (s+1) (u+(cg e).length)),(true,0,[])] f bl [] 0 k.right ha.2.1 (by simp;omega);rw [←ec] at d;simp only [List.nil_append,Nat.zero_add,Nat.sub_zero,Nat.max_eq_left (Nat.zero_le f)] at d;have hr:=d.2;rw [el,d.1]
 have wP:∀n,aP bl ((ahead bl s u (cg e)).take n)=true :=fun n=>by
  have r:=cA.1 hr;exact cA.2 ⟨r.1,by rw [List.length_take];omega,r.2.2.1,fun y hy=>r.2.2.2 y (List.mem_of_mem_take hy)⟩
 by_cases c1:f<(ahead bl s u (cg e)).length
 · rw [if_pos c1];refine⟨wP f,fun keep=> .inl ⟨by simp only;omega,k.Yz hb (fun y hy=>List.mem_of_mem_take hy) (wP f) keep⟩,fun h=>by omega⟩
 · rw [if_neg c1];by_cases c2:f≤(ahead bl s u (cg e)).length
   · rw [zE c2];exact⟨hr,fun keep=> .inl ⟨by simp only;omega,k.Yz hb (fun y hy=>hy) hr keep⟩,fun h=>by omega⟩
   · rw [fX,if_neg c2,if_pos rfl];obtain⟨y1,y2,y3,y4,y5⟩:=synced k hb hr;generalize sync bl (ahead bl s u (cg e))=GS at y1 y2 y3 y4 y5 ⊢
     have hA:((bl.drop 2).flatten.take u.toNat).length=u.toNat:=by
      have :=gC (bl.drop 2) (fun c hc=>(cA.1 k.right).2.2.1 c (List.mem_of_mem_drop hc));have hum:=k.um;unfold eI at hum;rw [List.length_drop] at this;rw [List.length_take];omega
     have L:=ad5 (b:=cg e) (C:=(bl.drop 2).flatten.drop (u.toNat+(cg e).length)) hA;rw [←y5] at L;have k1:K GS s u x:=k.Yv y1 y2 y3 (.inr (.inl (by rw [y4];rfl))) L.1;by_cases c3:f≤(ahead bl s u (cg e)).length+1
     · rw [zE c3];exact⟨y1,fun keep=> .inl ⟨by simp only;omega,by simp only;rw [HR y1];exact k1⟩,fun h=>by omega⟩
     · have hm:(dX (s+1) (u+(cg e).length)).length=64:=Fh _ _;have ok:=Yw (x:=((s+1)%2,dX (s+1) (u+(cg e).length))) y1 ⟨nD.2.1.1,by rw [y2];exact nD.2.1.2,hm⟩ (by simp)
       have nx:∀bl2:Bs,bl2=GS.set ((s+1)%2).toNat (dX (s+1) (u+(cg e).length))→K bl2 (s+1) (u+(cg e).length) (c8 x e).1:=by
        rintro _ rfl;refine k.next he hh hs ?_ (by rw [List.length_set];exact y2) ?_ ?_ hb ?_
        · have r:=cA.1 y1;refine s7 (by rw [List.length_set];exact r.1) fun c hc=> ?_;rcases mem_set hc with rfl|hc
          · exact hm
          · exact r.2.2.1 c hc
        · rw [p0 GS _ _ _ (by rw [y2];exact nD.2.1) (by rw [y2];exact nD.1),if_neg (by omega)];exact y3
        · rw [p0 GS _ _ _ (by rw [y2];exact nD.2.1) (by rw [y2];exact nD.2.1),if_pos rfl]
        · rw [List.drop_set,if_pos (by omega)];exact L.2
       rw [fX,if_neg c3,if_neg (by simp [wr])];simp only [wr,ok.1,ok.2.1,ok.2.2.1,ne_eq,not_true_eq_false,if_false,List.nil_append];by_cases c4:f≤(ahead bl s u (cg e)).length+1+1
       · rw [zE c4];refine⟨ok.2.2.2,fun keep=> ?_,fun h=>by omega⟩
         have ecr:l7 GS [((s+1)%2,dX (s+1) (u+(cg e).length))] keep=GS.set ((s+1)%2).toNat ((dX (s+1) (u+(cg e).length)).take (kept keep 0)++clean.drop (kept keep 0)):=by
          have v:=ok.2.2.2;rw [List.nil_append] at v;simp only [l7,kD v,rn v];rw [←y4];rfl
         simp only [ecr];rcases PK hm (kept keep 0) (vk keep 0) with g|g
         · exact .inr ⟨by omega,nx _ (by rw [g])⟩
         · refine .inl ⟨by omega,?_⟩
           have hlen:((dX (s+1) (u+(cg e).length)).take (kept keep 0)++clean.drop (kept keep 0)).length=64:=by
            have :=vk keep 0;simp [clean,hm];omega
           refine k.Yv ?_ (by rw [List.length_set];exact y2) ?_ (.inr (.inr ?_)) ?_
           · have r:=cA.1 y1;refine s7 (by rw [List.length_set];exact r.1) fun c hc=> ?_;rcases mem_set hc with rfl|hc
             · exact hlen
             · exact r.2.2.1 c hc
           · rw [p0 GS _ _ _ (by rw [y2];exact nD.2.1) (by rw [y2];exact nD.1),if_neg (by omega)];exact y3
           · rw [p0 GS _ _ _ (by rw [y2];exact nD.2.1) (by rw [y2];exact nD.2.1),if_pos rfl];exact g
           · rw [List.drop_set,if_pos (by omega)];exact L.1
       · rw [fX,if_neg c4,if_pos rfl];have v:=ok.2.2.2;rw [List.nil_append] at v
         have es:sync GS [((s+1)%2,dX (s+1) (u+(cg e).length))]=GS.set ((s+1)%2).toNat (dX (s+1) (u+(cg e).length)):=by
          simp only [sync,kD v,rn v];rfl
         have N:=nx _ es;simp only [fX];exact⟨N.right,fun keep=> .inr ⟨by omega,by rw [HR N.right];exact N⟩,fun _=>⟨by first|omega|trivial,by first|trivial|rfl,N⟩⟩
end Go.S

end
section
namespace Go.S
theorem Nb {e:dH}(h:gS e=true):(cg e).length≤60000:=by
 obtain⟨a,b,c,d⟩:=e;have h1:=eR a;have h2:=eR b;have h3:=eR c;have h4:= @HG d;simp only [gS,dR] at h;simp only [cg,kB,List.length_append];split at h
 · have :=of_decide_eq_true h;rename_i q;rw [if_pos q];omega
 · rename_i q;rw [if_neg q];split
   · rw [List.length_append];omega
   · simp;omega
theorem KI:∀(l:List tz) (f:Nat) (bl:Bs) (wt:Ws) (d:Nat),aP bl wt=true→(fX l f bl wt d).1.1.length=bl.length
 | [],_,_,_,_,_=>rfl
 |c::r,f,bl,wt,d,h=>by
  rw [fX];split
  · rfl
  · split
    · rw [KI r f _ _ _ (BV bl wt),AO,kD h]
    · split
      · rfl
      · have e:wB bl wt=bl:=kD h;rw [e,KI r f _ _ _ (zC h _ _)]
theorem K.changes {bl:Bs} {s u:Int} {x:fA}(k:K bl s u x)(hs:s<4611686018427387904)(y:fA)(e:dH):cv bl [] s u y e=
  if gS e=false then(([],((0,0),([],[]))),1)
  else if(c8 y e).2≠0 then(([],((0,0),([],[]))),(c8 y e).2)
  else if eI bl-u<(cg e).length then(([],((0,0),([],[]))),3)
  else((fI bl [] s u (cg e),((s+1,u+(cg e).length),(c8 y e).1)),0):=by
 unfold cv;rw [k.opens,if_neg (by omega),if_neg (by simp),Fi k.right]
theorem K.may {bl:Bs} {s u:Int} {x:fA}(k:K bl s u x)(hs:s<4611686018427387904)(e:dH):
  ((cv bl [] s u x e).2≠0∧(cv bl [] s u x e).1.1= [])∨
  (cv bl [] s u x e=((fI bl [] s u (cg e),((s+1,u+(cg e).length),(c8 x e).1)),0)∧gS e=true∧(c8 x e).2=0∧u+(cg e).length≤eI bl):=by
 rw [k.changes hs];by_cases h1:gS e=false
 · rw [if_pos h1];exact .inl ⟨by simp,rfl⟩
 · rw [if_neg h1];by_cases h2:(c8 x e).2≠0
   · rw [if_pos h2];exact .inl ⟨h2,rfl⟩
   · rw [if_neg h2];by_cases h3:eI bl-u<(cg e).length
     · rw [if_pos h3];exact .inl ⟨by simp,rfl⟩
     · rw [if_neg h3];exact .inr ⟨rfl,by simpa using h1,by simpa using h2,by omega⟩
def Fl(bl:Bs)(e:dH):Bs:=
 if 2500<(e.2.2.2.length:Int) then bl
 else if(cv bl [] (bg bl []).1.1.1 (bg bl []).1.1.2 (bg bl []).1.2 e).2≠0 then bl
 else(GR bl [] (cv bl [] (bg bl []).1.1.1 (bg bl []).1.1.2 (bg bl []).1.2 e).1.1 ((cv bl [] (bg bl []).1.1.1 (bg bl []).1.1.2 (bg bl []).1.2 e).1.1.length:Nat)).1.1
theorem K.step {bl:Bs} {s u:Int} {x:fA}(k:K bl s u x)(hs:s<4611686018427387904)(e:dH):
  (Fl bl e=bl∧(2500<(e.2.2.2.length:Int)∨(cv bl [] s u x e).2≠0))∨
  (¬2500<(e.2.2.2.length:Int)∧(cv bl [] s u x e)=((fI bl [] s u (cg e),((s+1,u+(cg e).length),(c8 x e).1)),0)∧gS e=true∧(c8 x e).2=0∧
    GR bl [] (fI bl [] s u (cg e)) ((fI bl [] s u (cg e)).length:Nat)=((Fl bl e,[]),(fI bl [] s u (cg e)).length)∧(Fl bl e).length=bl.length∧K (Fl bl e) (s+1) (u+(cg e).length) (c8 x e).1):=by
 unfold Fl;rw [k.opens];simp only;by_cases h:2500<(e.2.2.2.length:Int)
 · rw [if_pos h];exact .inl ⟨rfl, .inl h⟩
 · rw [if_neg h];rcases k.may hs e with⟨h1,h2⟩|⟨h1,h2,h3,h4⟩
   · rw [if_pos h1];exact .inl ⟨rfl, .inr h1⟩
   · have c:=k.cut h2 h3 hs h4 (Nb h2) (fI bl [] s u (cg e)).length;have c3:=c.2.2 (Nat.le_refl _);rw [h1];simp only [ne_eq,not_true_eq_false,if_false];have ed:GR bl [] (fI bl [] s u (cg e)) ((fI bl [] s u (cg e)).length:Nat)=fX (fI bl [] s u (cg e)) (fI bl [] s u (cg e)).length bl [] 0:=rfl;rw [ed];refine .inr ⟨h,trivial,h2,h3,?_,?_,c3.2.2⟩
     · generalize fX (fI bl [] s u (cg e)) (fI bl [] s u (cg e)).length bl [] 0=r at c3 ⊢;obtain⟨⟨r1,r2⟩,r3⟩:=r;simp only at c3 ⊢;rw [c3.1,c3.2.1]
     · have :=KI (fI bl [] s u (cg e)) (fI bl [] s u (cg e)).length bl [] 0 k.right;exact this
end Go.S

end
section
namespace Go.S
abbrev Stt:=(Int×Int)×fA
def isK(bl:Bs):Prop :=∃s u x,K bl s u x∧s≤50
end Go.S

end
section
namespace Go.S
def KJ(a b:List UInt8):Bool:=decide (a=b)
def KK(b:List UInt8)(n:Int):Prop :=b= [255]∧n=64
def dS(b:List UInt8)(k:Nat):Nat:=(b.take k).foldl (fun v x=>v*256+x.toNat) 0
def e6(b:List UInt8):Prop :=8≤b.length
def ma(s u:Int):Prop :=0≤s∧0≤u
def ep(s u:Int)(k:Nat):List UInt8:=(lC s).take k++List.replicate (8-k) 0++(lC u).take k++List.replicate (8-k) 0++List.replicate 48 0
def c9(bl:Bs)(wt:Ws)(k:Nat):(Int×Int)×Bool:=(List.range k).foldl (fun m (i:Nat)=>vr bl wt i m) ((0,0),false)
def dU(bl:Bs)(wt:Ws)(k:Nat):List UInt8:=((List.range k).map fun i:Nat=>dQ bl wt ((i:Int)+2)).flatten
def qJ(bl:Bs)(wt:Ws)(n:Int):Prop :=n≤dI bl wt∧0≤n
def nr(bl:Bs)(wt:Ws)(n:Int)(k:Nat):Prop :=k+2≤(vB bl wt).length∧((k:Int)-1)*64<n∨k=0
def KL(b:List UInt8):Prop :=b.length≤140737488355328
def jU(a b c:Int)(k:Nat):List UInt8×Int:=match k with
 |0=>(num a,0)
 |1=>(jg (num a) b,iz b)
 |_=>if iz b=0 then(jg (num a++num b) c,iz c) else([],1)
def p6(b:List UInt8)(k:Int×fA):Prop :=0≤k.1∧k.1≤b.length∧xY b (b.length-k.1.toNat) k.1 k.2=xZ b
def kZ(x:Stt):Int×Int×fA:=(x.1.1,x.1.2,x.2)
def ba(bl:Bs)(wt:Ws):List UInt8:=(vt bl wt).take (fH bl wt).1.2.toNat
def s8(bl:Bs)(wt:Ws)(a:Int)(b:List UInt8)(k:Int×List UInt8×Ws):Prop :=0≤k.1∧k.1+k.2.1.length=a+b.length∧k.2.2++rp bl wt k.2.1.length k.1 k.2.1=en bl wt a b
def mj(w:Ws):List tz:=w.map wr
def KM(a:Int)(b:List UInt8):Prop :=0≤a∧a≤1000000∧b.length≤1000000
def mQ(bl:Bs)(wt:Ws)(l:List tz)(f:Int)(k:Nat×Bs×Ws):Prop :=k.1≤l.length∧fX (l.drop k.1) f.toNat k.2.1 k.2.2 k.1=GR bl wt l f
end Go.S

end
section
namespace Go.S
theorem Fm(b:List UInt8):∀k,k≤b.length→dS b k<256^k
 |0,_=>by simp [dS]
 |k+1,h=>by
  have ih:=Fm b k (by omega);have hb:=(b.getD k 0).toNat_lt;unfold dS at ih ⊢;rw [aw b k 0 (by omega),List.foldl_append,List.foldl_cons,List.foldl_nil,Nat.pow_succ];omega
theorem VV {b:List UInt8} {k:Nat}(h:k<b.length):dS b (k+1)=dS b k*256+(b.getD k 0).toNat:=by
 unfold dS;rw [aw b k 0 h,List.foldl_append,List.foldl_cons,List.foldl_nil]
theorem PM {b:List UInt8} {k:Nat}(h8:8≤b.length)(hk:k<8):
  Vg.cI ((dS b k:Int)*(2:Int)^Int.toNat 8%18446744073709551616) ((UInt8.toNat (List.getD (List.take (Int.toNat 8) b) (Int.toNat (k:Int)) 0):Nat):Int)=(dS b (k+1):Int):=by
 have eM:=Fm b k (by omega);have h7:dS b k<72057594037927936:=Nat.lt_of_lt_of_le eM (Nat.le_trans (Nat.pow_le_pow_right (by omega) (show k≤7 by omega)) (by decide))
 have hg:List.getD (List.take (Int.toNat 8) b) (Int.toNat (k:Int)) 0=b.getD k 0:=by
  rw [Int.toNat_natCast,List.getD_eq_getElem?_getD,List.getElem?_take_of_lt (by show k<8;omega),←List.getD_eq_getElem?_getD]
 have hb:=(b.getD k 0).toNat_lt;rw [hg,VV (by omega)]
 have e:(dS b k:Int)*(2:Int)^Int.toNat 8%18446744073709551616=(dS b k:Int)*2^8:=by
  rw [show Int.toNat 8=8 from rfl];omega
 rw [e,iY _ _ 8 (by omega) (by omega) (by omega)];omega
theorem wi(b:List UInt8):0≤(e8 b).1:=by
 unfold e8;split
 · exact Int.le_refl _
 · exact Int.natCast_nonneg _
theorem ad6 {b:List UInt8} {k:Nat}(h:(k:Int)<((List.take (Int.toNat 8) b).length:Nat)):k<8:=by
 rw [List.length_take,show Int.toNat 8=8 from rfl] at h;omega
theorem Q1(a m:Bool)(p:Prop) [Decidable p] {α:Type}(x y:α):(bif (bif a then(bif !m then true else decide p) else false) then x else y)=if a=true∧(m=false∨p) then x else y:=by
 cases a<;>cases m<;>simp [Bool.cond_eq_ite]
theorem vu(s u:Int)(k:Nat)(h:k≤8):(ep s u k).length=64:=by
 simp [ep,lD];omega
theorem VW(s u:Int):ep s u 8=zD s u++List.replicate 32 0:=by
 have e1:(lC s).take 8=lC s:=List.take_of_length_le (by rw [lD];exact Nat.le_refl _);have e2:(lC u).take 8=lC u:=List.take_of_length_le (by rw [lD];exact Nat.le_refl _);have e3:List.replicate 48 (0:UInt8)=List.replicate 16 0++List.replicate 32 0:=by rw [List.replicate_append_replicate]
 simp [ep,zD,e1,e2,e3]
theorem AS(bl:Bs)(wt:Ws)(k:Nat):c9 bl wt (k+1)=vr bl wt k (c9 bl wt k):=by
 simp only [c9,List.range_succ,List.foldl_append,List.foldl_cons,List.foldl_nil]
theorem AT(bl:Bs)(wt:Ws)(k:Nat):dU bl wt (k+1)=dU bl wt k++dQ bl wt ((k:Int)+2):=by
 simp [dU,List.range_succ]
theorem Nc {n:Int} {k:Nat}(h:0≤n)(h1:n≤9223372036854775807)(hk:k<8):UInt8.ofNat (n%18446744073709551616/2^(8*(7-(k:Int))).toNat%256).toNat=r7 n k:=by
 unfold r7;congr 1
 have e:n%18446744073709551616=n:=by omega
 rw [e];rcases(by omega :k=0∨k=1∨k=2∨k=3∨k=4∨k=5∨k=6∨k=7) with q|q|q|q|q|q|q|q<;>subst q
 · have :(2:Int)^(8*(7-((0:Nat):Int))).toNat=72057594037927936:=by decide
   rw [this];omega
 · have :(2:Int)^(8*(7-((1:Nat):Int))).toNat=281474976710656:=by decide
   rw [this];omega
 · have :(2:Int)^(8*(7-((2:Nat):Int))).toNat=1099511627776:=by decide
   rw [this];omega
 · have :(2:Int)^(8*(7-((3:Nat):Int))).toNat=4294967296:=by decide
   rw [this];omega
 · have :(2:Int)^(8*(7-((4:Nat):Int))).toNat=16777216:=by decide
   rw [this];omega
 · have :(2:Int)^(8*(7-((5:Nat):Int))).toNat=65536:=by decide
   rw [this];omega
 · have :(2:Int)^(8*(7-((6:Nat):Int))).toNat=256:=by decide
   rw [this];omega
 · have :(2:Int)^(8*(7-((7:Nat):Int))).toNat=1:=by decide
   rw [this];omega
theorem Nd {s u:Int} {k:Nat}(hs:0≤s)(NV:s≤9223372036854775807)(hu:0≤u)(hu1:u≤9223372036854775807)(hk:k<8):
  ((ep s u k).set (k:Int).toNat (UInt8.ofNat (s%18446744073709551616/2^(8*(7-(k:Int))).toNat%256).toNat)).set (8+(k:Int)).toNat (UInt8.ofNat (u%18446744073709551616/2^(8*(7-(k:Int))).toNat%256).toNat)=ep s u (k+1):=by
 rw [Nc hs NV hk,Nc hu hu1 hk,Int.toNat_natCast,show(8+(k:Int)).toNat=8+k by omega];rcases(by omega :k=0∨k=1∨k=2∨k=3∨k=4∨k=5∨k=6∨k=7) with q|q|q|q|q|q|q|q<;>subst q<;>rfl
theorem VX {s u:Int} {k:Nat}(h:¬(k:Int)<8)(h2:k≤8):
  List.take ((Int.toNat 32:Nat):Int).toNat (ep s u k)++List.take ((ep s u k).length-((Int.toNat 32:Nat):Int).toNat) (List.take (Int.toNat 32) (ep s u k))++List.drop (((Int.toNat 32:Nat):Int).toNat+min (List.take (Int.toNat 32) (ep s u k)).length ((ep s u k).length-((Int.toNat 32:Nat):Int).toNat)) (ep s u k)=dX s u:=by
 have :k=8:=by omega
 subst this;rw [VW];have e:((Int.toNat 32:Nat):Int).toNat=32:=rfl;have e':Int.toNat 32=32:=rfl;have hl:=Fg s u;rw [e,e'];simp only [List.length_append,List.length_replicate,hl];rw [show 32+32-32=32 from rfl];rw [List.take_left' hl,List.take_of_length_le (by omega),List.drop_of_length_le (by simp;omega),List.append_nil];rfl
end Go.S

end
section
namespace Go.S
theorem Q2 {bl:Bs} {wt:Ws} {i:Int}(h:0≤i)(h1:i<(vB bl wt).length):gv bl wt i=0:=by unfold gv;rw [if_neg (by omega)]
theorem YA {bl:Bs} {wt:Ws} {i:Int}(h:gv bl wt i=0):0≤i∧i<(vB bl wt).length:=by
 unfold gv at h;split at h
 · cases h
 · omega
theorem zF {bl:Bs} {wt:Ws} {i:Int}(h:gv bl wt i=0):(dQ bl wt i).length=64:=by
 have h1:=YA h;unfold dQ;rw [if_pos h];refine AN _ (l9 bl wt) _ _ ?_;exact lb bl wt _ (bo _ i.toNat [] (by omega))
theorem vv {bl:Bs} {wt:Ws}:∀k:Nat,k+2≤(vB bl wt).length→(dU bl wt k).length=64*k
 |0,_=>rfl
 |k+1,h=>by
  rw [AT,List.length_append,vv k (by omega),zF (Q2 (by omega) (by omega))];omega
theorem BX(bl:Bs)(wt:Ws):dU bl wt ((vB bl wt).length-2)=vt bl wt:=rfl
theorem BY {bl:Bs} {wt:Ws}(k:Nat):∀j,k≤j→∃r,dU bl wt j=dU bl wt k++r
 |0,h=>by obtain rfl :k=0:=(by omega);exact⟨[],by simp⟩
 |j+1,h=>by
  by_cases e:k=j+1
  · subst e;exact⟨[],by simp⟩
  · obtain⟨r,hr⟩:=BY (bl:=bl) (wt:=wt) k j (by omega);exact⟨r++dQ bl wt ((j:Int)+2),by rw [AT,hr,List.append_assoc]⟩
theorem zG {bl:Bs} {wt:Ws} {n:Int} {k:Nat}(h:nr bl wt n k):(dU bl wt k).length=64*k:=by
 rcases h with h|h
 · exact vv k h.1
 · subst h;rfl
theorem r8 {bl:Bs} {wt:Ws} {n:Int} {k:Nat}(hp:qJ bl wt n)(h:nr bl wt n k)(h3:((dU bl wt k).length:Int)<n):k+3≤(vB bl wt).length∧k≤4096:=by
 have h1:=zG h;have h2:=hp.1;have h4:=l8 bl wt;simp only [dI] at h2;omega
theorem ad7 {bl:Bs} {wt:Ws} {n:Int} {k:Nat}(hp:qJ bl wt n)(h:nr bl wt n k)(h3:((dU bl wt k).length:Int)<n):gv bl wt ((k:Int)+2)=0:=by
 have :=r8 hp h h3;exact Q2 (by omega) (by omega)
theorem akC {bl:Bs} {wt:Ws} {n:Int} {k:Nat}(hp:qJ bl wt n)(h:nr bl wt n k)(h3:((dU bl wt k).length:Int)<n):nr bl wt n (k+1):=by
 have h1:=zG h;have :=r8 hp h h3;exact .inl ⟨by omega,by omega⟩
theorem YB {bl:Bs} {wt:Ws} {n:Int} {k:Nat}(hp:qJ bl wt n)(h:nr bl wt n k)(h3:¬((dU bl wt k).length:Int)<n):List.take n.toNat (dU bl wt k)=List.take n.toNat (vt bl wt):=by
 have h1:=zG h;have h0:=hp.2;rcases h with h|h
 · obtain⟨r,hr⟩:=BY (bl:=bl) (wt:=wt) k ((vB bl wt).length-2) (by omega);rw [←BX,hr,List.take_append_of_le_length (by omega)]
 · subst h;have :n.toNat=0:=by simp only [dU,List.range_zero,List.map_nil,List.flatten_nil,List.length_nil] at h3;omega
   rw [this];simp
theorem ad8(b:List UInt8)(a e m:Int):(bm b a e m).1.1=b:=by
 unfold bm;split
 · rfl
 · split<;>rfl
theorem HV(b:List UInt8)(a e:Int) {α:Type}(x y z:α):(bif decide ((al b a e).2=0) then x else bif decide ((al b a e).2=2) then y else z)=if(al b a e).2=0 then x else if(al b a e).2=2 then y else z:=by
 simp only [Bool.cond_decide]
theorem asV(b:List UInt8)(a e:Int):(bif decide ((al b a e).2=0) then(bm (al b a e).1.1 (al b a e).1.2.1 (al b a e).1.2.2 2000).1.1 else bif decide ((al b a e).2=2) then(al (al (al b a e).1.1 (al b a e).1.2.1 (al b a e).1.2.2).1.1 (al (al b a e).1.1 (al b a e).1.2.1 (al b a e).1.2.2).1.2.1 (al (al b a e).1.1 (al b a e).1.2.1 (al b a e).1.2.2).1.2.2).1.1 else(al b a e).1.1)=b:=by
 rw [HV];split
 · rw [ad8,(nm b a e).1]
 · split
   · rw [(nm _ _ _).1,(nm _ _ _).1,(nm b a e).1]
   · exact(nm b a e).1
theorem wj(b:List UInt8)(a e:Int):
  (((bif decide ((al b a e).2=0) then(bm (al b a e).1.1 (al b a e).1.2.1 (al b a e).1.2.2 2000).1.2.1 else bif decide ((al b a e).2=2) then(al (al (al b a e).1.1 (al b a e).1.2.1 (al b a e).1.2.2).1.1 (al (al b a e).1.1 (al b a e).1.2.1 (al b a e).1.2.2).1.2.1 (al (al b a e).1.1 (al b a e).1.2.1 (al b a e).1.2.2).1.2.2).1.2.1 else(al b a e).1.2.1,
    bif decide ((al b a e).2=0) then(bm (al b a e).1.1 (al b a e).1.2.1 (al b a e).1.2.2 2000).1.2.2 else bif decide ((al b a e).2=2) then(al (al (al b a e).1.1 (al b a e).1.2.1 (al b a e).1.2.2).1.1 (al (al b a e).1.1 (al b a e).1.2.1 (al b a e).1.2.2).1.2.1 (al (al b a e).1.1 (al b a e).1.2.1 (al b a e).1.2.2).1.2.2).1.2.2 else(al b a e).1.2.2),
   (bif decide ((al b a e).2=0) then(al b a e).2 else bif decide ((al b a e).2=2) then(al b a e).2 else(al b a e).2,
    bif decide ((al b a e).2=0) then 0 else bif decide ((al b a e).2=2) then(al (al b a e).1.1 (al b a e).1.2.1 (al b a e).1.2.2).2 else 0,
    bif decide ((al b a e).2=0) then 0 else bif decide ((al b a e).2=2) then(al (al (al b a e).1.1 (al b a e).1.2.1 (al b a e).1.2.2).1.1 (al (al b a e).1.1 (al b a e).1.2.1 (al b a e).1.2.2).1.2.1 (al (al b a e).1.1 (al b a e).1.2.1 (al b a e).1.2.2).1.2.2).2 else 0,
    bif decide ((al b a e).2=0) then(bm (al b a e).1.1 (al b a e).1.2.1 (al b a e).1.2.2 2000).2 else [])):(Int×Int)×dH)=cr b a e:=by
 unfold cr;simp only [HV,(nm _ _ _).1,Bool.cond_decide];split
 · rename_i h;rw [h]
 · split
   · rename_i h;rw [h]
   · rfl
theorem zH {a:Int}(h:¬a<0∧¬3<a):iz a=0:=by
 unfold iz;rw [if_neg];simp [du];omega
theorem CO {a:Int}(h:¬a<0∧¬3<a):jg (Vg.fu UInt8) a=num a:=Vp (by omega) (by omega)
theorem Fo {a b c:Int} {d:List UInt8}(h:a<0∨3<a):aQ a b c d=([],1):=by
 unfold aQ dR;rw [if_neg];rw [if_neg (by omega),if_neg (by omega)];simp;omega
theorem BZ {a b c:Int} {d:List UInt8}(h0:a=0)(h:2000<(d.length:Int)):aQ a b c d=([],1):=by
 unfold aQ dR;rw [if_neg];rw [if_pos h0];simp;omega
theorem Fp {a b c:Int} {d:List UInt8}(h0:a=0)(h:¬2000<(d.length:Int)):aQ a b c d=(num a++text d,0):=by
 unfold aQ dR;rw [if_pos]
 · unfold kB;rw [if_pos h0]
 · rw [if_pos h0];simp;omega
theorem B2 {a b c:Int} {d:List UInt8}(h:¬a<0∧¬3<a)(h0:¬a=0)(h2:¬a=2):aQ a b c d=(num a,0):=by
 unfold aQ dR;rw [if_pos]
 · unfold kB;rw [if_neg h0,if_neg h2,List.append_nil]
 · rw [if_neg h0,if_neg h2];simp;omega
theorem PN {a:Int} {d:List UInt8}(h:¬a<0∧¬3<a)(h1:¬2000<(d.length:Int)):lT (jg (Vg.fu UInt8) a) d:=by
 rw [CO h];have :=eR a;unfold lT;omega
theorem HW(l:List UInt8)(v:Int):(jg l v).length≤l.length+9:=by
 have :=eR v;unfold jg;split
 · simp
 · rw [List.length_append];omega
theorem YC(a b c:Int)(k:Nat):(jU a b c k).1.length≤100:=by
 have h1:=eR a;have h2:=eR b;match k with
 |0=>simp only [jU];omega
 |1=>simp only [jU];have :=HW (num a) b;omega
 |k+2=>
  simp only [jU];split
  · have :=HW (num a++num b) c;rw [List.length_append] at this;simp only;omega
  · simp
theorem YD {a b c:Int} {k:Nat}(h:(k:Int)<(([b,c]:List Int).length:Int))(h0:(jU a b c k).2=0):iz ([b,c].getD (k:Int).toNat 0)=(jU a b c (k+1)).2∧jg (jU a b c k).1 ([b,c].getD (k:Int).toNat 0)=(jU a b c (k+1)).1:=by
 have hk:k=0∨k=1:=by simp at h;omega
 rcases hk with hk|hk
 · subst hk;exact⟨rfl,rfl⟩
 · subst hk;have h1:iz b=0:=h0
   have h2:du b=false :=by
    unfold iz at h1;split at h1
    · cases h1
    · rename_i q;simpa using q
   simp only [jU];rw [h1,if_pos rfl];have :jg (num a) b=num a++num b:=by unfold jg;rw [h2];rfl
   rw [this];exact⟨rfl,rfl⟩
theorem YE {a b c:Int} {k:Nat}(h:(k:Int)<(([b,c]:List Int).length:Int))(h0:¬(jU a b c k).2=0):jU a b c k=jU a b c (k+1):=by
 have hk:k=0∨k=1:=by simp at h;omega
 rcases hk with hk|hk
 · subst hk;exact absurd rfl h0
 · subst hk;have h1:¬iz b=0:=h0
   have h2:du b=true :=by
    unfold iz at h1;split at h1
    · rename_i q;exact q
    · exact absurd rfl h1
   simp only [jU];rw [if_neg h1];unfold jg iz;rw [h2];rfl
theorem zI {a b c:Int} {d:List UInt8} {k:Nat}(h:a=2)(hk:k≤2)(J8:¬(k:Int)<(([b,c]:List Int).length:Int)):aQ a b c d=if(jU a b c k).2=0 then((jU a b c k).1,0) else([],(jU a b c k).2):=by
 have :k=2:=by simp at J8;omega
 subst this;simp only [jU];unfold aQ dR kB iz jg;rw [if_neg (show ¬a=0 by omega),if_pos h,if_neg (show ¬a=0 by omega),if_pos h];cases du b<;>cases du c<;>simp
end Go.S

end
section
namespace Go.S
abbrev St4:=Int×Int×fA
def ya(d:Bs×Ws):Bs:=sync d.1 d.2
def wk(d:Bs×Ws)(keep:List Int):Bs:=l7 d.1 d.2 keep
def bV(d:Bs×Ws):St4×Int:=(kZ (bg d.1 d.2).1,(bg d.1 d.2).2)
def gZ(d:Bs×Ws)(s:St4)(e:dH):List tz×St4×Int:=((cv d.1 d.2 s.1 s.2.1 s.2.2 e).1.1,kZ (cv d.1 d.2 s.1 s.2.1 s.2.2 e).1.2,(cv d.1 d.2 s.1 s.2.1 s.2.2 e).2)
def r9(d:Bs×Ws)(l:List tz)(f:Int):(Bs×Ws)×Int:=((GR d.1 d.2 l f).1,(((GR d.1 d.2 l f).2:Nat):Int))
theorem KN {b:List UInt8} {a:Int}(h0:0≤a)(h1:a≤b.length)(h:(al b a 0).1.2.2=0):a<(al b a 0).1.2.1∧(al b a 0).1.2.1≤b.length:=by
 by_cases hf:(first (b.drop a.toNat)).2.2=0
 · have hb:=BU hf;have hd:=vX (b.drop a.toNat);have hp:=zh (first (b.drop a.toNat)).1;rw [Yo h0 h1 hf];simp only;rw [List.length_drop] at hd;omega
 · rw [akw h0 h1 hf] at h;exact absurd h hf
theorem asW {b:List UInt8} {a e m:Int}(h:e≠0):bm b a e m=((b,a,e),[]):=by
 unfold bm;rw [MZ h,if_pos h]
theorem ad9 {b:List UInt8} {a m:Int}(h0:0≤a)(h1:a≤b.length)(h:(bm b a 0 m).1.2.2=0):a<(bm b a 0 m).1.2.1∧(bm b a 0 m).1.2.1≤b.length:=by
 unfold bm at h ⊢;rw [zA h0 h1,if_neg (fun q=>q rfl)] at h ⊢;by_cases hg:(bW b a m).2.2=0
 · rw [if_neg (fun q=>q hg)];simp only;unfold bW at hg ⊢;by_cases g1:(aK b a).2.2=0
   · rw [if_neg (fun q=>q g1)] at hg ⊢;have hf:(first (b.drop a.toNat)).2.2=0:=g1;have hb:=BU hf;have hd:=vX (b.drop a.toNat);have hp:=zh (first (b.drop a.toNat)).1;have e:(aK b a).2.1=a+(first (b.drop a.toNat)).2.1:=by simp only [aK,BB,hf,if_true]
     have e1:(aK b a).1=(first (b.drop a.toNat)).1:=rfl;rw [List.length_drop] at hd;split at hg
     · cases hg
     · rename_i q1;rw [if_neg q1];split at hg
       · cases hg
       · rename_i q2;rw [if_neg q2];simp only;rw [e,e1] at *;omega
   · rw [if_pos g1] at hg;exact absurd hg g1
 · rw [if_pos hg] at h;exact absurd h hg
theorem CP {b:List UInt8} {a:Int}(h0:0≤a)(h1:a≤b.length)(h:(cr b a 0).1.2=0):a<(cr b a 0).1.1∧(cr b a 0).1.1≤b.length:=by
 by_cases e0:(al b a 0).1.2.2=0
 · have r1:=KN h0 h1 e0;unfold cr at h ⊢;split at h
   · rename_i q;rw [if_pos q];simp only at h ⊢;rw [e0] at h ⊢;have :=ad9 (m:=2000) (by omega) r1.2 h;omega
   · rename_i q;rw [if_neg q];split at h
     · rename_i q2;rw [if_pos q2];simp only at h ⊢;rw [e0] at h ⊢;by_cases e1:(al b (al b a 0).1.2.1 0).1.2.2=0
       · have r2:=KN (by omega) r1.2 e1;rw [e1] at h ⊢;have :=KN (by omega) r2.2 h;omega
       · rw [Yn e1] at h;exact absurd h e1
     · rename_i q2;rw [if_neg q2];exact r1
 · exfalso;unfold cr at h;split at h
   · simp only at h;rw [asW e0] at h;exact e0 h
   · split at h
     · simp only at h;rw [Yn e0] at h;simp only at h;rw [Yn e0] at h;exact e0 h
     · exact e0 h
theorem HX(b:List UInt8):∀(f g:Nat) (a:Int) (x:fA),0≤a→a≤b.length→b.length-a.toNat≤f→b.length-a.toNat≤g→xY b f a x=xY b g a x
 |0,0,_,_,_,_,_,_=>rfl
 |0,g+1,a,x,h0,h1,hf,_=>by simp only [xY];rw [if_neg (by omega)]
 |f+1,0,a,x,h0,h1,_,hg=>by simp only [xY];rw [if_neg (by omega)]
 |f+1,g+1,a,x,h0,h1,hf,hg=>by
  simp only [xY];by_cases ha:a<b.length
  · rw [if_pos ha,if_pos ha];by_cases he:(cr b a 0).1.2=0
    · have :=CP h0 h1 he;rw [HX b f g _ _ (by omega) (by omega) (by omega) (by omega)]
    · rw [if_pos he,if_pos he]
  · rw [if_neg ha,if_neg ha]
theorem Fq {b:List UInt8} {a:Int} {x:fA}(h0:0≤a)(h1:a<b.length):xY b (b.length-a.toNat) a x=
  if(cr b a 0).1.2≠0 then(([],[]),2) else if(c8 x (cr b a 0).2).2≠0 then(([],[]),2) else xY b (b.length-(cr b a 0).1.1.toNat) (cr b a 0).1.1 (c8 x (cr b a 0).2).1:=by
 obtain⟨f,hf⟩:∃f,b.length-a.toNat=f+1:=⟨b.length-a.toNat-1,by omega⟩;rw [hf];simp only [xY];rw [if_pos h1];by_cases he:(cr b a 0).1.2=0
 · have :=CP h0 (by omega) he;rw [HX b f (b.length-(cr b a 0).1.1.toNat) _ _ (by omega) (by omega) (by omega) (Nat.le_refl _)]
 · rw [if_pos he,if_pos he]
def okM(bl:Bs)(wt:Ws)(m:(Int×Int)×Bool):Prop :=m.2=true→0≤m.1.1∧m.1.1≤4611686018427387904∧0≤m.1.2∧m.1.2≤dI bl wt
theorem YF {b:List UInt8}:(e8 b).1≤4611686018427387904:=by
 unfold e8;split
 · exact Int.natCast_nonneg 4611686018427387904
 · simp only;omega
theorem Nf {bl:Bs} {wt:Ws} {i:Int} {m:(Int×Int)×Bool}(h:okM bl wt m):okM bl wt (vr bl wt i m):=by
 unfold vr;split
 · exact h
 · split
   · intro hs;unfold cG at hs ⊢;split at hs
     · rename_i q;rw [if_pos q];exact⟨wi _,YF,wi _,q.2.2.2.1⟩
     · cases hs
   · exact h
theorem Ng {bl:Bs} {wt:Ws}(h:(fH bl wt).2=true):0≤(fH bl wt).1.1∧(fH bl wt).1.1≤4611686018427387904∧0≤(fH bl wt).1.2∧(fH bl wt).1.2≤dI bl wt:=
 Nf (Nf (fun q=>by cases q)) h
theorem aif {bl:Bs} {wt:Ws}(h:aP bl wt=false∨kP (vB bl wt)≤2):bg bl wt=(((0,0),([],[])),1):=by
 unfold bg;rw [if_pos];by_cases hr:aP bl wt=true
 · rcases h with h|h
   · exact .inl h
   · right;simp only [kP,vB,hr,if_true] at h;omega
 · exact .inl (by simpa using hr)
theorem Q3 {bl:Bs} {wt:Ws}(h:aP bl wt=true∧¬kP (vB bl wt)≤2):¬(aP bl wt=false∨bl.length≤2):=by
 rintro(q|q)
 · rw [h.1] at q;cases q
 · have :=h.2;simp only [kP,vB,h.1,if_true] at this;omega
theorem aih {bl:Bs} {wt:Ws}(h:aP bl wt=true∧¬kP (vB bl wt)≤2)(h1:(fH bl wt).2=false):bg bl wt=(((0,0),([],[])),7):=by
 unfold bg;rw [if_neg (Q3 h),if_pos h1]
theorem PO(bl:Bs)(wt:Ws):(ba bl wt).length≤300000:=by
 have h4:=l8 bl wt;unfold ba;rw [List.length_take,←BX];by_cases h:2≤(vB bl wt).length
 · rw [vv _ (by omega)];omega
 · have :(vB bl wt).length-2=0:=by omega
   rw [this];simp [dU]
theorem aea {bl:Bs} {wt:Ws}(h1:(fH bl wt).2=true):qJ bl wt (fH bl wt).1.2:=by
 have :=Ng h1;exact⟨this.2.2.2,this.2.2.1⟩
theorem YG(b:List UInt8):p6 b (0,[],[]):=⟨Int.le_refl _,Int.natCast_nonneg _,rfl⟩
theorem YH {bl:Bs} {wt:Ws}(h:aP bl wt=true∧¬kP (vB bl wt)≤2)(h1:(fH bl wt).2=true):bg bl wt=if(xZ (ba bl wt)).2≠0 then(((0,0),([],[])),2) else(((fH bl wt).1,(xZ (ba bl wt)).1),0):=by
 unfold bg;rw [if_neg (Q3 h),if_neg (by rw [h1];simp)];rfl
theorem Q4 {bl:Bs} {wt:Ws}(h:aP bl wt=true∧¬kP (vB bl wt)≤2)(h1:(fH bl wt).2=true) {k:Int×fA}(hi:p6 (ba bl wt) k)(hk:k.1<((ba bl wt).length:Int))(he:¬(cr (ba bl wt) k.1 0).1.2=0):bg bl wt=(((0,0),([],[])),2):=by
 obtain⟨i0,i1,i2⟩:=hi;rw [Fq i0 hk,if_pos he] at i2;rw [YH h h1,←i2];rfl
theorem Nh {bl:Bs} {wt:Ws}(h:aP bl wt=true∧¬kP (vB bl wt)≤2)(h1:(fH bl wt).2=true) {k:Int×fA}(hi:p6 (ba bl wt) k)(hk:k.1<((ba bl wt).length:Int))(he:(cr (ba bl wt) k.1 0).1.2=0)
  (hh:¬(bH k.2.1 k.2.2 (cr (ba bl wt) k.1 0).2.1 (cr (ba bl wt) k.1 0).2.2.1 (cr (ba bl wt) k.1 0).2.2.2.1 (cr (ba bl wt) k.1 0).2.2.2.2).2=0):bg bl wt=(((0,0),([],[])),2):=by
 obtain⟨i0,i1,i2⟩:=hi;have Gw:(c8 k.2 (cr (ba bl wt) k.1 0).2).2≠0:=hh;rw [Fq i0 hk,if_neg (fun q=>q he),if_pos Gw] at i2;rw [YH h h1,←i2];rfl
theorem asY {bl:Bs} {wt:Ws} {k:Int×fA}(hi:p6 (ba bl wt) k)(hk:k.1<((ba bl wt).length:Int))(he:(cr (ba bl wt) k.1 0).1.2=0)
  (hh:(bH k.2.1 k.2.2 (cr (ba bl wt) k.1 0).2.1 (cr (ba bl wt) k.1 0).2.2.1 (cr (ba bl wt) k.1 0).2.2.2.1 (cr (ba bl wt) k.1 0).2.2.2.2).2=0):
  p6 (ba bl wt) ((cr (ba bl wt) k.1 0).1.1,(bH k.2.1 k.2.2 (cr (ba bl wt) k.1 0).2.1 (cr (ba bl wt) k.1 0).2.2.1 (cr (ba bl wt) k.1 0).2.2.2.1 (cr (ba bl wt) k.1 0).2.2.2.2).1.1,(bH k.2.1 k.2.2 (cr (ba bl wt) k.1 0).2.1 (cr (ba bl wt) k.1 0).2.2.1 (cr (ba bl wt) k.1 0).2.2.2.1 (cr (ba bl wt) k.1 0).2.2.2.2).1.2):=by
 obtain⟨i0,i1,i2⟩:=hi;have Gw:¬(c8 k.2 (cr (ba bl wt) k.1 0).2).2≠0:=fun q=>q hh;have ha:=CP i0 i1 he;rw [Fq i0 hk,if_neg (fun q=>q he),if_neg Gw] at i2;exact⟨by omega,ha.2,i2⟩
theorem YI {bl:Bs} {wt:Ws} {k:Int×fA}(hi:p6 (ba bl wt) k)(hk:k.1<((ba bl wt).length:Int))(he:(cr (ba bl wt) k.1 0).1.2=0):(ba bl wt).length-(cr (ba bl wt) k.1 0).1.1.toNat<(ba bl wt).length-k.1.toNat:=by
 have ha:=CP hi.1 hi.2.1 he;have :=hi.1;omega
theorem Q5 {bl:Bs} {wt:Ws}(h:aP bl wt=true∧¬kP (vB bl wt)≤2)(h1:(fH bl wt).2=true) {k:Int×fA}(hi:p6 (ba bl wt) k)(hk:¬k.1<((ba bl wt).length:Int)):bg bl wt=(((fH bl wt).1,k.2),0):=by
 obtain⟨i0,i1,i2⟩:=hi;have e:(ba bl wt).length-k.1.toNat=0:=by omega
 rw [e] at i2;simp only [xY] at i2;rw [YH h h1,←i2];rfl
theorem HY {docs:List (List UInt8)} {l:List ax} {a b c:Int} {d:List UInt8}(h:(a=0→False)∧(a=1→False)∧(a=2→False)∧(a=3→False)∧True):
  bH docs l a b c d=((bif !aX docs l then [] else docs,bif !aX docs l then [] else l),1):=by
 unfold bH;rw [if_neg h.1,if_neg h.2.1,if_neg h.2.2.1,if_neg h.2.2.2.1];unfold ak;cases aX docs l<;>rfl
theorem aeb {bl:Bs} {wt:Ws} {a:Int} {b:List UInt8} {k:Int×List UInt8×Ws}(h:s8 bl wt a b k)(hk:k.1<a+(b.length:Int))(he:¬gv bl wt (2+k.1/64)=0):k.2.2=en bl wt a b:=by
 obtain⟨h0,h1,h2⟩:=h;have hl:k.2.1≠ []:=fun q=>by rw [q] at h1;simp at h1;omega
 obtain⟨f,hf⟩:∃f,k.2.1.length=f+1:=⟨k.2.1.length-1,by have :=List.length_pos_iff.2 hl;omega⟩;rw [hf] at h2;simp only [rp] at h2;rw [if_neg hl,if_pos he,List.append_nil] at h2;exact h2
theorem YJ {bl:Bs} {wt:Ws} {a:Int} {b:List UInt8} {k:Int×List UInt8×Ws}(h:s8 bl wt a b k)(hk:¬k.1<a+(b.length:Int)):k.2.2=en bl wt a b:=by
 obtain⟨h0,h1,h2⟩:=h;have :k.2.1.length=0:=by omega
 rw [this] at h2;simp only [rp,List.append_nil] at h2;exact h2
theorem HZ(bl:Bs)(wt:Ws):∀(f g:Nat) (a:Int) (b:List UInt8),b.length≤f→b.length≤g→rp bl wt f a b=rp bl wt g a b
 |0,0,_,_,_,_=>rfl
 |0,g+1,a,b,h,_=>by
  have :b= []:=List.length_eq_zero_iff.1 (by omega);simp only [rp];rw [if_pos this]
 |f+1,0,a,b,_,h=>by
  have :b= []:=List.length_eq_zero_iff.1 (by omega);simp only [rp];rw [if_pos this]
 |f+1,g+1,a,b,h1,h2=>by
  simp only [rp];by_cases hb:b= []
  · rw [if_pos hb,if_pos hb]
  · have :=List.length_pos_iff.2 hb;have hp:(a%64).toNat<64:=by omega
    rw [HZ bl wt f g _ _ (by rw [List.length_drop];omega) (by rw [List.length_drop];omega)]
theorem AU {bl:Bs} {wt:Ws} {a:Int} {b:List UInt8} {k:Int×List UInt8×Ws}(h:s8 bl wt a b k)(hk:k.1<a+(b.length:Int))(he:gv bl wt (2+k.1/64)=0):
  (min k.2.1.length ((dQ bl wt (2+k.1/64)).length-(k.1%64).toNat))=min (64-(k.1%64).toNat) k.2.1.length∧1≤min (64-(k.1%64).toNat) k.2.1.length∧
  k.2.1.drop (64-(k.1%64).toNat)=k.2.1.drop (min (64-(k.1%64).toNat) k.2.1.length)∧
  mP (dQ bl wt (2+k.1/64)) k.1 k.2.1=List.take (k.1%64).toNat (dQ bl wt (2+k.1/64))++List.take ((dQ bl wt (2+k.1/64)).length-(k.1%64).toNat) k.2.1++List.drop ((k.1%64).toNat+min k.2.1.length ((dQ bl wt (2+k.1/64)).length-(k.1%64).toNat)) (dQ bl wt (2+k.1/64))∧
  s8 bl wt a b (k.1+(min (64-(k.1%64).toNat) k.2.1.length:Nat),k.2.1.drop (64-(k.1%64).toNat),k.2.2++ [(2+k.1/64,mP (dQ bl wt (2+k.1/64)) k.1 k.2.1)]):=by
 obtain⟨h0,h1,h2⟩:=h;have hl:k.2.1≠ []:=fun q=>by rw [q] at h1;simp at h1;omega
 have hp:=List.length_pos_iff.2 hl;have oN:=zF he;have hm:(k.1%64).toNat<64:=by omega
 have ed:k.2.1.drop (64-(k.1%64).toNat)=k.2.1.drop (min (64-(k.1%64).toNat) k.2.1.length):=by
  by_cases q:64-(k.1%64).toNat≤k.2.1.length
  · rw [Nat.min_eq_left q]
  · rw [Nat.min_eq_right (by omega),List.drop_of_length_le (by omega),List.drop_of_length_le (by omega)]
 refine⟨by rw [oN];omega,by omega,ed,?_,?_⟩
 · unfold mP;rw [oN];congr 1
   by_cases q:k.2.1.length≤64-(k.1%64).toNat
   · rw [Nat.min_eq_left q]
   · rw [Nat.min_eq_right (by omega),List.drop_of_length_le (by omega),List.drop_of_length_le (by omega)]
 · refine⟨by simp only;omega,?_,?_⟩
   · simp only [List.length_drop];omega
   · obtain⟨f,hf⟩:∃f,k.2.1.length=f+1:=⟨k.2.1.length-1,by omega⟩;rw [←h2,hf];simp only [rp];rw [if_neg hl,if_neg (fun q=>q he),List.append_assoc,List.singleton_append,hf];rw [HZ bl wt _ f _ _ (Nat.le_refl _) (by rw [List.length_drop];omega)]
theorem Fu(bl:Bs)(wt:Ws):∀(f:Nat) (a:Int) (b:List UInt8),(rp bl wt f a b).length≤f
 |0,_,_=>Nat.le_refl _
 |f+1,a,b=>by
  simp only [rp];split
  · simp
  · split
    · simp
    · have :=Fu bl wt f (a+(min (64-(a%64).toNat) b.length:Nat)) (b.drop (64-(a%64).toNat));simp only [List.length_cons];omega
theorem KO {bl:Bs} {wt:Ws} {a:Int} {b:List UInt8} {k:Int×List UInt8×Ws}(hp:KM a b)(h:s8 bl wt a b k):k.2.2.length≤1000000∧k.2.1.length≤2000000∧k.1≤2000000:=by
 obtain⟨h0,h1,h2⟩:=h;obtain⟨p1,p2,p3⟩:=hp;have e:=congrArg List.length h2;have :=Fu bl wt b.length a b;rw [List.length_append] at e;unfold en at e;refine⟨by omega,by omega,by omega⟩
theorem asZ {bl:Bs} {wt:Ws} {s u:Int} {x:fA} {e:dH}(h:s=4611686018427387904):cv bl wt s u x e=(([],((0,0),([],[]))),1):=by
 unfold cv;rw [if_pos h]
theorem as0 {bl:Bs} {wt:Ws} {s u:Int} {x:fA} {e:dH}(h:¬s=4611686018427387904)(h1:¬(bg bl wt).2=0∨¬(kZ (bg bl wt).1).1=s∨¬(kZ (bg bl wt).1).2.1=u):cv bl wt s u x e=(([],((0,0),([],[]))),1):=by
 have Uz:(bg bl wt).2≠0∨(bg bl wt).1.1.1≠s∨(bg bl wt).1.1.2≠u:=h1;unfold cv;rw [if_neg h,if_pos Uz]
theorem Q6 {bl:Bs} {wt:Ws} {s u:Int}(h1:(bg bl wt).2=0∧(kZ (bg bl wt).1).1=s∧(kZ (bg bl wt).1).2.1=u):¬((bg bl wt).2≠0∨(bg bl wt).1.1.1≠s∨(bg bl wt).1.1.2≠u):=by
 rintro(q|q|q)
 · exact q h1.1
 · exact q h1.2.1
 · exact q h1.2.2
theorem AW {a b c:Int} {d:List UInt8}:(aQ a b c d).2=if dR a b c d=true then 0 else 1:=by
 unfold aQ;cases dR a b c d<;>rfl
theorem as1 {bl:Bs} {wt:Ws} {s u:Int} {x:fA} {a b c:Int} {d:List UInt8}(h:¬s=4611686018427387904)(h1:(bg bl wt).2=0∧(kZ (bg bl wt).1).1=s∧(kZ (bg bl wt).1).2.1=u)(h2:¬(aQ a b c d).2=0):
  cv bl wt s u x (a,b,c,d)=(([],((0,0),([],[]))),(aQ a b c d).2):=by
 have hf:gS (a,b,c,d)=false :=by
  rw [AW] at h2;cases q:dR a b c d
  · exact q
  · rw [q] at h2;exact absurd rfl h2
 have e:(aQ a b c d).2=1:=by
  rw [AW];rw [show dR a b c d=false from hf];rfl
 unfold cv;rw [if_neg h,if_neg (Q6 h1),if_pos hf,e]
theorem YK {a b c:Int} {d:List UInt8}(h2:(aQ a b c d).2=0):dR a b c d=true∧(aQ a b c d).1=cg (a,b,c,d):=by
 rw [AW] at h2;cases q:dR a b c d
 · rw [q] at h2;cases h2
 · refine⟨rfl,?_⟩;unfold aQ;rw [q];rfl
theorem as2 {bl:Bs} {wt:Ws} {s u:Int} {y:List (List UInt8)} {z:List ax} {a b c:Int} {d:List UInt8}(h:¬s=4611686018427387904)(h1:(bg bl wt).2=0∧(kZ (bg bl wt).1).1=s∧(kZ (bg bl wt).1).2.1=u)(h2:(aQ a b c d).2=0)(h3:¬(bH y z a b c d).2=0):
  cv bl wt s u (y,z) (a,b,c,d)=(([],((0,0),([],[]))),(bH y z a b c d).2):=by
 have hf:=YK h2;have YL:(c8 (y,z) (a,b,c,d)).2≠0:=h3;unfold cv;rw [if_neg h,if_neg (Q6 h1),if_neg (by rw [show gS (a,b,c,d)=true from hf.1];simp),if_pos YL];rfl
theorem as3 {bl:Bs} {wt:Ws} {s u:Int} {y:List (List UInt8)} {z:List ax} {a b c:Int} {d:List UInt8}(h:¬s=4611686018427387904)(h1:(bg bl wt).2=0∧(kZ (bg bl wt).1).1=s∧(kZ (bg bl wt).1).2.1=u)(h2:(aQ a b c d).2=0)(h3:(bH y z a b c d).2=0)
  (h4:dI bl wt-(kZ (bg bl wt).1).2.1<((aQ a b c d).1.length:Int)):cv bl wt s u (y,z) (a,b,c,d)=(([],((0,0),([],[]))),3):=by
 have hf:=YK h2;have YL:¬(c8 (y,z) (a,b,c,d)).2≠0:=fun q=>q h3;rw [h1.2.2,hf.2] at h4;unfold cv;rw [if_neg h,if_neg (Q6 h1),if_neg (by rw [show gS (a,b,c,d)=true from hf.1];simp),if_neg YL,if_pos h4]
theorem as4 {bl:Bs} {wt:Ws} {s u:Int} {y:List (List UInt8)} {z:List ax} {a b c:Int} {d:List UInt8}(h:¬s=4611686018427387904)(h1:(bg bl wt).2=0∧(kZ (bg bl wt).1).1=s∧(kZ (bg bl wt).1).2.1=u)(h2:(aQ a b c d).2=0)(h3:(bH y z a b c d).2=0)
  (h4:¬dI bl wt-(kZ (bg bl wt).1).2.1<((aQ a b c d).1.length:Int)):cv bl wt s u (y,z) (a,b,c,d)=
    ((wr (((kZ (bg bl wt).1).1+1)%2,clean)::(mj (en bl wt (kZ (bg bl wt).1).2.1 (aQ a b c d).1)++ [(true,0,[]),(false,((kZ (bg bl wt).1).1+1)%2,dX ((kZ (bg bl wt).1).1+1) ((kZ (bg bl wt).1).2.1+((aQ a b c d).1.length:Int))),(true,0,[])]),(((kZ (bg bl wt).1).1+1,(kZ (bg bl wt).1).2.1+((aQ a b c d).1.length:Int)),(bH y z a b c d).1)),0):=by
 have hf:=YK h2;have YL:¬(c8 (y,z) (a,b,c,d)).2≠0:=fun q=>q h3;rw [h1.2.2,hf.2] at h4;unfold cv;rw [if_neg h,if_neg (Q6 h1),if_neg (by rw [show gS (a,b,c,d)=true from hf.1];simp),if_neg YL,if_neg h4,h1.2.2,h1.2.1,hf.2];rfl
theorem KP {bl:Bs} {wt:Ws}(h1:(bg bl wt).2=0):0≤(kZ (bg bl wt).1).1∧(kZ (bg bl wt).1).1≤4611686018427387904∧0≤(kZ (bg bl wt).1).2.1∧(kZ (bg bl wt).1).2.1≤300000∧(kZ (bg bl wt).1).2.1≤dI bl wt:=by
 have h4:=l8 bl wt;unfold bg at h1 ⊢;split at h1
 · cases h1
 · rename_i q1;rw [if_neg q1];split at h1
   · cases h1
   · rename_i q2;rw [if_neg q2];have hc:=Ng (bl:=bl) (wt:=wt) (by simpa using q2);split at h1
     · cases h1
     · rename_i q3;rw [if_neg q3];simp only [kZ];simp only [dI] at hc ⊢;omega
theorem AX(bl:Bs)(wt:Ws):dI bl wt≤300000∧ -200≤dI bl wt:=by
 have h4:=l8 bl wt;simp only [dI];omega
theorem qK {a b c:Int} {d:List UInt8}:(aQ a b c d).1.length≤60000:=by
 unfold aQ;cases q:dR a b c d
 · simp
 · exact Nb (e:=(a,b,c,d)) q
theorem H2(bl:Bs)(wt:Ws)(a:Int)(b:List UInt8):(mj (en bl wt a b)).length≤b.length:=by
 unfold mj en;rw [List.length_map];exact Fu _ _ _ _ _
theorem as5(bl:Bs)(wt:Ws)(l:List tz)(f:Int):mQ bl wt l f (0,bl,wt):=⟨Nat.zero_le _,by simp [GR]⟩
theorem drop_cons {α:Type}(l:List α)(k:Nat)(d:α)(h:k<l.length):l.drop k=l.getD k d::l.drop (k+1):=by
 rw [List.drop_eq_getElem_cons h,List.getD_eq_getElem?_getD,List.getElem?_eq_getElem h];rfl
theorem aii {bl:Bs} {wt:Ws} {l:List tz} {f:Int} {k:Nat×Bs×Ws}(h:mQ bl wt l f k)(hk:(k.1:Int)<l.length)(hf:f≤(k.1:Int)):GR bl wt l f=((k.2.1,k.2.2),k.1):=by
 obtain⟨h0,h1⟩:=h;rw [drop_cons l k.1 (false,0,[]) (by omega)] at h1;simp only [fX] at h1;rw [if_pos (by omega)] at h1;exact h1.symm
theorem YM {bl:Bs} {wt:Ws} {l:List tz} {f:Int} {k:Nat×Bs×Ws}(h:mQ bl wt l f k)(hk:(k.1:Int)<l.length)(hf:¬f≤(k.1:Int))(hs:(l.getD ((k.1:Int)).toNat (false,0,[])).1=true):mQ bl wt l f (k.1+1,sync k.2.1 k.2.2,[]):=by
 obtain⟨h0,h1⟩:=h;rw [Int.toNat_natCast] at hs;rw [drop_cons l k.1 (false,0,[]) (by omega)] at h1;simp only [fX] at h1;rw [if_neg (by omega),if_pos hs] at h1;exact⟨by simp only;omega,h1⟩
theorem Q7 {bl:Bs} {wt:Ws} {l:List tz} {f:Int} {k:Nat×Bs×Ws}(h:mQ bl wt l f k)(hk:(k.1:Int)<l.length)(hf:¬f≤(k.1:Int))(hs:(l.getD ((k.1:Int)).toNat (false,0,[])).1=false)(he:¬kY k.2.1 k.2.2 (l.getD k.1 (false,0,[])).2.1 (l.getD k.1 (false,0,[])).2.2=0):GR bl wt l f=((k.2.1,k.2.2),k.1):=by
 obtain⟨h0,h1⟩:=h;rw [Int.toNat_natCast] at hs;rw [drop_cons l k.1 (false,0,[]) (by omega)] at h1;simp only [fX] at h1;rw [if_neg (by omega),if_neg (by rw [hs];simp),if_pos he] at h1;exact h1.symm
theorem VY {bl:Bs} {wt:Ws} {l:List tz} {f:Int} {k:Nat×Bs×Ws}(h:mQ bl wt l f k)(hk:(k.1:Int)<l.length)(hf:¬f≤(k.1:Int))(hs:(l.getD ((k.1:Int)).toNat (false,0,[])).1=false)(he:kY k.2.1 k.2.2 (l.getD k.1 (false,0,[])).2.1 (l.getD k.1 (false,0,[])).2.2=0):
  mQ bl wt l f (k.1+1,wB k.2.1 k.2.2,wW k.2.1 k.2.2 (l.getD ((k.1:Int)).toNat (false,0,[])).2.1 (l.getD ((k.1:Int)).toNat (false,0,[])).2.2):=by
 obtain⟨h0,h1⟩:=h;rw [Int.toNat_natCast] at hs ⊢;rw [drop_cons l k.1 (false,0,[]) (by omega)] at h1;simp only [fX] at h1;rw [if_neg (by omega),if_neg (by rw [hs];simp),if_neg (fun q=>q he)] at h1;exact⟨by simp only;omega,h1⟩
theorem Q8 {bl:Bs} {wt:Ws} {l:List tz} {f:Int} {k:Nat×Bs×Ws}(h:mQ bl wt l f k)(hk:¬(k.1:Int)<l.length):GR bl wt l f=((k.2.1,k.2.2),l.length):=by
 obtain⟨h0,h1⟩:=h;have e:k.1=l.length:=by omega
 rw [e,List.drop_length] at h1;exact h1.symm
end Go.S

end
section
namespace Go.S
def zJ(a b c:Int)(d:List UInt8):Prop :=dR a b c d=true
theorem PQ(docs:List (List UInt8))(l:List ax)(a b c:Int)(d:List UInt8):aX (bH docs l a b c d).1.1 (bH docs l a b c d).1.2=true :=by
 unfold bH;split
 · exact append_right _ _ _
 · split
   · exact oK _ _
   · split
     · exact merge_right _ _ _ _
     · split
       · exact rh _ _
       · exact gQ _ _
theorem xc {docs:List (List UInt8)} {l:List ax}(h:aX docs l=true):small l:=by
 have h:=RI.of h;have hb:=h.bd;have hle:=h.le;unfold small;omega
theorem PR(docs:List (List UInt8))(l:List ax)(a b c:Int)(d:List UInt8):small (bH docs l a b c d).1.2:=xc (PQ docs l a b c d)
end Go.S

end
section
namespace Go.S
theorem aec(bl:Bs)(wt:Ws):bV (bl,wt)=(kZ (bg bl wt).1,(bg bl wt).2):=rfl
theorem K.small {bl:Bs} {s u:Int} {x:fA}(k:K bl s u x):Go.S.small (bV (bl,[])).1.2.2.2:=by
 rw [aec,k.opens];exact xc k.ad4
theorem isK.small {bl:Bs}(h:∃s u x,K bl s u x∧s≤51):Go.S.small (bV (bl,[])).1.2.2.2:=by
 obtain⟨s,u,x,k,_⟩:=h;exact k.small
end Go.S

end
section
namespace Go.S
theorem aed(n:Int):(bif decide (0≤n) then decide (n≤4611686018427387904) else false)=Bool.rec true false (du n):=by
 unfold du;by_cases h:n<0
 · simp [h]<;>omega
 · by_cases h1:4611686018427387904<n
   · simp [h1]<;>omega
   · simp [h,h1]<;>omega
theorem YN {a b c:Int} {d:List UInt8}(h:a=0):decide ((d.length:Int)≤2000)=dR a b c d:=by unfold dR;rw [if_pos h]
theorem YO {a b c:Int} {d:List UInt8}(h0:¬a=0)(h:a=2):(bif Bool.rec true false (du b) then Bool.rec true false (du c) else false)=dR a b c d:=by
 unfold dR;rw [if_neg h0,if_pos h];cases du b<;>cases du c<;>rfl
theorem YP {a b c:Int} {d:List UInt8}(h0:¬a=0)(h:¬a=2):(bif decide (a=1) then true else decide (a=3))=dR a b c d:=by
 unfold dR;rw [if_neg h0,if_neg h];cases decide (a=1)<;>rfl
theorem zK {a b c:Int} {d:List UInt8}(h:zJ a b c d):0≤a∧(a=0→d.length≤2000)∧(¬a=0→a=2→0≤b∧0≤c):=by
 unfold zJ dR at h;split at h
 · rename_i q;refine⟨by omega,fun _=> ?_,fun w=>absurd q w⟩;have :=of_decide_eq_true h;omega
 · rename_i q;split at h
   · rename_i q2;refine⟨by omega,fun w=>absurd w q,fun _ _=> ?_⟩;simp [du] at h;omega
   · rename_i q2;refine⟨?_,fun w=>absurd w q,fun _ w=>absurd w q2⟩;simp at h;omega
theorem as6 {a b c:Int} {d:List UInt8}(h:a=0):kB a b c d=num a++text d:=by unfold kB;rw [if_pos h]
theorem as7 {a b c:Int} {d:List UInt8}(h0:¬a=0)(h:a=2):kB a b c d=num a++num b++num c:=by unfold kB;rw [if_neg h0,if_pos h,List.append_assoc]
theorem as8 {a b c:Int} {d:List UInt8}(h0:¬a=0)(h:¬a=2):kB a b c d=num a:=by unfold kB;rw [if_neg h0,if_neg h,List.append_nil]
theorem as9 {a b c:Int} {d:List UInt8}(h:dR a b c d=false):aQ a b c d=([],1):=by unfold aQ;rw [h];rfl
theorem ata {a b c:Int} {d:List UInt8}(h:dR a b c d=true):aQ a b c d=(kB a b c d,0):=by unfold aQ;rw [h];rfl
theorem Fv {docs:List (List UInt8)} {l:List ax} {a b c:Int} {d:List UInt8}(h0:¬a=0)(h1:¬a=1)(h2:¬a=2)(h3:¬a=3):bH docs l a b c d=(ak docs l,1):=by
 unfold bH;rw [if_neg h0,if_neg h1,if_neg h2,if_neg h3]
end Go.S

end
section
namespace Go.S
end Go.S

end
section
namespace Go.S
end Go.S

end
section
namespace Go.Vg
open Go
theorem Ni {P:Program} {W:World}:∀ {laid:List (String×DataW Unit)} {ps:List MemPlace} {name:String} {d:DataW Unit},DataW.LaidVars P W laid ps→(name,d)∈laid→
  ∃(g:Nat) (t:TypeId) (cs:Array Value) (fuel:Nat) (p:List MemPlace),P.globalNamed name=some g∧(P.globals[g]?).map (·.type)=some t∧W.var? P name=some cs∧DataW.trod (fun _=>()) P W 0 (fun _=>true) false fuel t cs.toList=some (d,p)
 | [],_,_,_,_,hm=>by cases hm
 |x::rest,ps,name,d,h,hm=>by
  obtain⟨g',t',cs,fuel,p,q,wx,ht',atb,hd,hr,hps⟩:=h;rcases List.mem_cons.1 hm with rfl|hm
  · exact⟨g',t',cs,fuel,p,wx,ht',atb,hd⟩
  · exact Ni hr hm
theorem Fw {H:Type} {enc:TypeId×Value→H} {P:Program} {w:World} {base:Nat} {sp:Nat→Bool} {held:Bool} {fuel:Nat} {t e:TypeId} {n m:Nat} {k:IntKind} {cs:List Value} {zss:List (List Int)} {p:List MemPlace} {fs:Array Field}
  (ht:P.underlying t=some (.array n e)) (he:P.underlying e=some (.struct fs)) (OC:P.cellsOf e=m) (hct:P.cellsOf t=n*m) (hfs:fs.size=m) (hf:∀(i:Nat) (f:Field),fs[i]? =some f→f.offset=i∧P.underlying f.type=some (.int k)∧P.cellsOf f.type=1)
  (hz:∀r∈zss,r.length=m) (h:DataW.trod enc P w base sp held fuel t cs=some (.agg (zss.map fun r=> .agg (r.map fun z=> .lit (.int k z))),p)):cs.length=n*m∧zss.length=n∧
    ∀i j,i<n→j<m→cs[i*m+j]? =some (.int k ((zss.getD i []).getD j 0)):=by
 cases fuel with
 |zero=>simp [DataW.trod] at h
 |succ fuel=>
  simp only [DataW.trod,ht,OC,hct] at h;split at h
  · rename_i hl;obtain⟨xs,hm,hx⟩:=Option.map_eq_some_iff.1 h
    have XV:xs.map (·.1)=zss.map fun r=>(DataW.agg (r.map fun z=> .lit (.int k z)):DataW H):=by
     have :=congrArg Prod.fst hx;simpa using this
    have LY:xs.length=n:=by simpa using Lib.mapM_length hm
    have N6:zss.length=n:=by
     have :=congrArg List.length XV;simp at this;omega
    refine⟨hl,N6,fun i j hi hj=> ?_⟩;obtain⟨b,hb,hfb⟩:=Lib.mapM_at hm i i (by simp [hi])
    have fY:b.1=DataW.agg ((zss.getD i []).map fun z=> .lit (.int k z)):=by
     have h2:(xs.map (·.1))[i]? =some b.1:=by simp [hb]
     rw [XV] at h2;rw [List.getElem?_map,List.getElem?_eq_getElem (by omega)] at h2;simp only [Option.map_some,Option.some.injEq] at h2;rw [←h2,List.getD_eq_getElem?_getD,List.getElem?_eq_getElem (by omega)];rfl
    obtain⟨ys,n',_,hy,_,hyl,hyf⟩:=DataW.trod_struct he hfb
    have WH:ys.map (·.1)=(zss.getD i []).map fun z=>(DataW.lit (.int k z):DataW H):=by
     rw [hy] at fY;simpa using fY
    have hrl:(zss.getD i []).length=m:=hz _ (by rw [List.getD_eq_getElem?_getD,List.getElem?_eq_getElem (by omega)];exact List.getElem_mem _);have hjf:j<fs.size:=by omega
    have hfj:=hyf j fs[j] (Array.getElem?_eq_getElem hjf);obtain⟨f1,f2,f3⟩:=hf j fs[j] (Array.getElem?_eq_getElem hjf);rw [f1,f3] at hfj;have hyj:j<ys.length:=by omega
    rw [List.getElem?_eq_getElem hyj] at hfj;obtain⟨z,hc,hzv,_⟩:=DataW.trod_int f2 hfj
    have h1:cs[i*m+j]? =some (.int k z):=by
     have :=congrArg (·[0]?) hc;simp only [List.getElem?_take,List.getElem?_drop] at this;simpa [hj,Nat.add_comm] using this
    have h3:(ys.map (·.1))[j]? =some (DataW.lit (.int k z)):=by rw [List.getElem?_map,List.getElem?_eq_getElem hyj,hzv];rfl
    rw [WH,List.getElem?_map,List.getElem?_eq_getElem (by omega)] at h3;simp only [Option.map_some,Option.some.injEq,DataW.lit.injEq,Lit.int.injEq,true_and] at h3;rw [h1,List.getD_eq_getElem?_getD,List.getElem?_eq_getElem (by omega)];simp only [Option.getD_some,h3]
  · cases h
theorem aee {P:Program} {W:World} {name:String} {g:Nat} {cs:Array Value}(hg:P.globalNamed name=some g)(h:W.var? P name=some cs)(hn:0<cs.size):g<W.heap.size:=by
 have h1:=World.var?_cell hg h 0;rw [Array.getElem?_eq_getElem hn] at h1;unfold World.cell? at h1;split at h1
 · rename_i h2;exact(Array.getElem?_eq_some_iff.1 h2).1
 · cases h1
def mc(k:IntKind):(ts:List Ty)→List Int→Row ts→Prop
 | [],[],_=>True
 | .int k'::ts,z::zs,x=>k'=k∧DI.toInt k' (Row.hd (t:= .int k') (ts:=ts) x)=z∧lo k≤z∧z≤hi k∧mc k ts zs (Row.tl x)
 |_,_,_=>False
theorem Fx {w:World} {A:Nat→Prop} {k:IntKind}:∀(ts:List Ty) (zs:List Int) (x:Row ts),mc k ts zs x→bk w A ts (zs.map (Value.int k)) x
 | [],[],x,_=>by simp [bk]
 | .int k'::ts,z::zs,x,h=>by
   simp only [mc] at h;obtain⟨rfl,h2,h3,h4,h5⟩:=h;simp only [bk,List.map_cons];refine⟨_,_,rfl,?_,Fx ts zs _ h5⟩;simp only [Rd];rw [h2];exact⟨rfl,h3,h4⟩
 | .bool::_,_,_,h=>by simp [mc] at h
 | .str::_,_,_,h=>by simp [mc] at h
 | .slice _::_,_,_,h=>by simp [mc] at h
 | [],_::_,_,h=>by simp [mc] at h
 | .int _::_,[],_,h=>by simp [mc] at h
def vw(k:IntKind)(ts:List Ty):List (List Int)→List (Row ts)→Prop
 | [],[]=>True
 |zs::r,x::l=>mc k ts zs x∧vw k ts r l
 |_,_=>False
theorem H3 {w:World} {A:Nat→Prop} {k:IntKind} {ts:List Ty}:∀(zss:List (List Int)) (l:List (Row ts)),vw k ts zss l→b9 (bk w A ts) (zss.flatten.map (Value.int k)) l
 | [],[],_=>by simp [b9]
 |zs::r,x::l,h=>by
  simp only [vw] at h;exact⟨zs.map (Value.int k),r.flatten.map (Value.int k),by simp,Fx ts zs x h.1,H3 r l h.2⟩
 | [],_::_,h=>by simp [vw] at h
 |_::_,[],h=>by simp [vw] at h
theorem B4 {m:Nat}:∀(zss:List (List Int)),(∀r∈zss,r.length=m)→∀q (z:Int),zss.flatten[q]? =some z→∃i j,i<zss.length∧j<m∧q=i*m+j∧(zss.getD i []).getD j 0=z
 | [],_,q,z,h=>by simp at h
 |r::rs,hz,q,z,h=>by
  have hr:r.length=m:=hz r (by simp);by_cases hq:q<m
  · refine⟨0,q,by simp,hq,by simp,?_⟩;rw [List.flatten_cons,List.getElem?_append_left (by omega)] at h;simp [List.getD,h]
  · rw [List.flatten_cons,List.getElem?_append_right (by omega),hr] at h;obtain⟨i,j,h1,h2,h3,h4⟩:=B4 rs (fun r lE=>hz r (by simp [lE])) (q-m) z h;refine⟨i+1,j,by simp;omega,h2,?_,by simpa using h4⟩;rw [Nat.add_mul];omega
theorem Fy {P:Program} {W:World} {name:String} {g:Nat} {t e:TypeId} {n m:Nat} {k:IntKind} {fs:Array Field} {zss:List (List Int)} {row:List Ty} {l:List (Row row)} {laid:List (String×DataW Unit)}
  (hm:laidMet P laid W) (aG:(name,DataW.agg (zss.map fun r=> .agg (r.map fun z=> .lit (.int k z))))∈laid) (hg:P.globalNamed name=some g) (hgt:(P.globals[g]?).map (·.type)=some t)
  (ht:P.underlying t=some (.array n e)) (he:P.underlying e=some (.struct fs)) (OC:P.cellsOf e=m) (hct:P.cellsOf t=n*m) (hfs:fs.size=m) (hf:∀(i:Nat) (f:Field),fs[i]? =some f→f.offset=i∧P.underlying f.type=some (.int k)∧P.cellsOf f.type=1)
  (hz:∀r∈zss,r.length=m) (iJ:0<n*m) (hl:vw k row zss l):o0 W (fun b=>b<W.heap.size) g ⟨row,l⟩:=by
 obtain⟨ps,LC,_⟩:=hm;obtain⟨g',t',cs,fuel,p,h1,h2,h3,h4⟩:=Ni LC aG;obtain rfl :=Option.some.inj (hg.symm.trans h1);obtain rfl :=Option.some.inj (hgt.symm.trans h2);obtain⟨q1,q2,q3⟩:=Fw ht he OC hct hfs hf hz h4;have atf:cs.size=n*m:=by simpa using q1
 refine⟨aee hg h3 (by rw [atf];exact iJ),zss.flatten.map (Value.int k),fun q v hq=> ?_,H3 zss l hl⟩;rw [List.getElem?_map] at hq;obtain⟨z,hz1,rfl⟩:=Option.map_eq_some_iff.1 hq;obtain⟨i,j,hi,hj,rfl,hv⟩:=B4 zss hz q z hz1;rw [Nat.zero_add,World.var?_cell hg h3,←Array.getElem?_toList,q3 i j (by omega) hj,hv]
end Go.Vg

end
section
namespace Go.Vg
open Go.Proofs
open Go
def fK:Vg.bY:=(.node (.node (.node (.node (.node (.node .leaf 3 ⟨.int .i64,1,8, .int .i64 (0)⟩ .leaf) 4 ⟨.bool,1,1, .bool false⟩ (.node .leaf 5 ⟨.int .u8,1,1, .int .u8 (0)⟩ .leaf)) 9 ⟨.string,1,16, .string ⟨#[]⟩⟩ (.node (.node .leaf 22 ⟨.slice 26,1,24, .slice none 0 0⟩ .leaf) 23 ⟨.slice 91,1,24, .slice none 0 0⟩ .leaf)) 25 ⟨.struct #[⟨ "Docs",22,0,false,"","",0⟩,⟨ "Segs",23,1,false,"","",24⟩],2,48, .agg #[.slice none 0 0, .slice none 0 0]⟩ (.node (.node (.node .leaf 26 ⟨.slice 5,1,24, .slice none 0 0⟩ .leaf) 28 ⟨.struct #[⟨ "Kind",3,0,false,"","",0⟩,⟨ "I",3,1,false,"","",8⟩,⟨ "Many",3,2,false,"","",16⟩,⟨ "Doc",26,3,false,"","",24⟩],4,48, .agg #[.int .i64 (0), .int .i64 (0), .int .i64 (0), .slice none 0 0]⟩ (.node .leaf 32 ⟨.int .i64,1,8, .int .i64 (0)⟩ .leaf)) 34 ⟨.func #[25,28] #[25,32] false,1,8, .nilFunc⟩ (.node (.node .leaf 35 ⟨.slice 104,1,24, .slice none 0 0⟩ .leaf) 37 ⟨.struct #[⟨ "Docs",22,0,false,"","",0⟩,⟨ "Segs",35,1,false,"","",24⟩],2,48, .agg #[.slice none 0 0, .slice none 0 0]⟩ .leaf))) 41 ⟨.struct #[⟨ "Kind",3,0,false,"","",0⟩,⟨ "I",3,1,false,"","",8⟩,⟨ "Many",3,2,false,"","",16⟩,⟨ "Doc",26,3,false,"","",24⟩],4,48, .agg #[.int .i64 (0), .int .i64 (0), .int .i64 (0), .slice none 0 0]⟩ (.node (.node (.node (.node .leaf 49 ⟨.slice 28,1,24, .slice none 0 0⟩ .leaf) 50 ⟨.slice 3,1,24, .slice none 0 0⟩ (.node .leaf 51 ⟨.slice 129,1,24, .slice none 0 0⟩ .leaf)) 53 ⟨.struct #[⟨ "Blocks",22,0,false,"","",0⟩,⟨ "Waits",51,1,false,"","",24⟩],2,48, .agg #[.slice none 0 0, .slice none 0 0]⟩ (.node (.node .leaf 57 ⟨.struct #[⟨ "Seq",3,0,false,"","",0⟩,⟨ "Len",3,1,false,"","",8⟩,⟨ "X",25,2,false,"","",16⟩],4,64, .agg #[.int .i64 (0), .int .i64 (0), .slice none 0 0, .slice none 0 0]⟩ .leaf) 60 ⟨.slice 96,1,24, .slice none 0 0⟩ .leaf)) 68 ⟨.struct #[⟨ "Seq",3,0,false,"","",0⟩,⟨ "Len",3,1,false,"","",8⟩,⟨ "X",37,2,false,"","",16⟩],4,64, .agg #[.int .i64 (0), .int .i64 (0), .slice none 0 0, .slice none 0 0]⟩ (.node (.node (.node .leaf 73 ⟨.slice 80,1,24, .slice none 0 0⟩ .leaf) 75 ⟨.struct #[⟨ "D",53,0,false,"","",0⟩,⟨ "S",57,2,false,"","",48⟩,⟨ "Up",4,6,false,"","",112⟩,⟨ "Fuse",3,7,false,"","",120⟩],8,128, .agg #[.slice none 0 0, .slice none 0 0, .int .i64 (0), .int .i64 (0), .slice none 0 0, .slice none 0 0, .bool false, .int .i64 (0)]⟩ (.node .leaf 80 ⟨.struct #[⟨ "Kind",3,0,false,"","",0⟩,⟨ "N",3,1,false,"","",8⟩,⟨ "E",28,2,false,"","",16⟩,⟨ "Some",50,6,false,"","",64⟩],7,88, .agg #[.int .i64 (0), .int .i64 (0), .int .i64 (0), .int .i64 (0), .int .i64 (0), .slice none 0 0, .slice none 0 0]⟩ .leaf)) 88 ⟨.struct #[⟨ "From",3,0,false,"","",0⟩,⟨ "To",3,1,false,"","",8⟩],2,16, .agg #[.int .i64 (0), .int .i64 (0)]⟩ (.node (.node .leaf 89 ⟨.slice 136,1,24, .slice none 0 0⟩ .leaf) 91 ⟨.struct #[⟨ "Span",88,0,false,"","",0⟩,⟨ "Dict",89,2,false,"","",16⟩],3,40, .agg #[.int .i64 (0), .int .i64 (0), .slice none 0 0]⟩ .leaf)))) 96 ⟨.struct #[⟨ "Sync",4,0,false,"","",0⟩,⟨ "At",3,1,false,"","",8⟩,⟨ "B",26,2,false,"","",16⟩],3,40, .agg #[.bool false, .int .i64 (0), .slice none 0 0]⟩ (.node (.node (.node (.node (.node .leaf 98 ⟨.map 3 34,1,8, .map none⟩ .leaf) 104 ⟨.struct #[⟨ "Span",88,0,false,"","",0⟩,⟨ "Dict",89,2,false,"","",16⟩],3,40, .agg #[.int .i64 (0), .int .i64 (0), .slice none 0 0]⟩ (.node .leaf 115 ⟨.struct #[⟨ "seq",3,0,false,"","rubrick/keep",0⟩,⟨ "used",3,1,false,"","rubrick/keep",8⟩],2,16, .agg #[.int .i64 (0), .int .i64 (0)]⟩ .leaf)) 120 ⟨.struct #[⟨ "B",26,0,false,"","",0⟩,⟨ "At",3,1,false,"","",24⟩,⟨ "E",32,2,false,"","",32⟩],3,40, .agg #[.slice none 0 0, .int .i64 (0), .int .i64 (0)]⟩ (.node (.node .leaf 129 ⟨.struct #[⟨ "At",3,0,false,"","",0⟩,⟨ "B",26,1,false,"","",8⟩],2,32, .agg #[.int .i64 (0), .slice none 0 0]⟩ .leaf) 131 ⟨.pointer 134,1,8, .pointer none⟩ .leaf)) 134 ⟨.struct #[⟨ "Ledger",75,0,true,"","",0⟩],8,128, .agg #[.slice none 0 0, .slice none 0 0, .int .i64 (0), .int .i64 (0), .slice none 0 0, .slice none 0 0, .bool false, .int .i64 (0)]⟩ (.node (.node (.node .leaf 136 ⟨.struct #[⟨ "Term",9,0,false,"","",0⟩,⟨ "Docs",50,1,false,"","",16⟩],2,40, .agg #[.string ⟨#[]⟩, .slice none 0 0]⟩ .leaf) 147 ⟨.slice 88,1,24, .slice none 0 0⟩ (.node .leaf 158 ⟨.int .u64,1,8, .int .u64 (0)⟩ .leaf)) 161 ⟨.int .u64,1,8, .int .u64 (0)⟩ (.node (.node .leaf 178 ⟨.func #[136,136] #[4] false,1,8, .nilFunc⟩ .leaf) 188 ⟨.int .u32,1,4, .int .u32 (0)⟩ .leaf))) 196 ⟨.map 9 50,1,8, .map none⟩ (.node (.node (.node (.node .leaf 197 ⟨.slice 9,1,24, .slice none 0 0⟩ .leaf) 201 ⟨.func #[210] #[] false,1,8, .nilFunc⟩ (.node .leaf 208 ⟨.func #[9,9] #[3] false,1,8, .nilFunc⟩ .leaf)) 216 ⟨.func #[3,4,4] #[4] false,1,8, .nilFunc⟩ (.node (.node .leaf 219 ⟨.func #[9,9] #[4] false,1,8, .nilFunc⟩ .leaf) 231 ⟨.struct #[⟨ "from",3,0,false,"","rubrick/utf",0⟩,⟨ "to",3,1,false,"","rubrick/utf",8⟩],2,16, .agg #[.int .i64 (0), .int .i64 (0)]⟩ .leaf)) 232 ⟨.array 9 231,18,144, .agg #[.int .i64 (0), .int .i64 (0), .int .i64 (0), .int .i64 (0), .int .i64 (0), .int .i64 (0), .int .i64 (0), .int .i64 (0), .int .i64 (0), .int .i64 (0), .int .i64 (0), .int .i64 (0), .int .i64 (0), .int .i64 (0), .int .i64 (0), .int .i64 (0), .int .i64 (0), .int .i64 (0)]⟩ (.node (.node (.node .leaf 235 ⟨.int .i64,1,8, .int .i64 (0)⟩ .leaf) 250 ⟨.struct #[⟨ "from",3,0,false,"","rubrick/utf",0⟩,⟨ "to",3,1,false,"","rubrick/utf",8⟩,⟨ "add",3,2,false,"","rubrick/utf",16⟩],3,24, .agg #[.int .i64 (0), .int .i64 (0), .int .i64 (0)]⟩ .leaf) 251 ⟨.array 7 250,21,168, .agg #[.int .i64 (0), .int .i64 (0), .int .i64 (0), .int .i64 (0), .int .i64 (0), .int .i64 (0), .int .i64 (0), .int .i64 (0), .int .i64 (0), .int .i64 (0), .int .i64 (0), .int .i64 (0), .int .i64 (0), .int .i64 (0), .int .i64 (0), .int .i64 (0), .int .i64 (0), .int .i64 (0), .int .i64 (0), .int .i64 (0), .int .i64 (0)]⟩ (.node (.node .leaf 252 ⟨.int .u64,1,8, .int .u64 (0)⟩ .leaf) 256 ⟨.pointer 3,1,8, .pointer none⟩ .leaf)))))
set_option maxRecDepth 100000 in
theorem Q9:fK.Ok Tryz.prog:=⟨⟨⟨⟨⟨⟨trivial,trivial,Tryz.underlying3,trivial,Tryz.t3,rfl,rfl,rfl,rfl⟩,⟨trivial,trivial,Tryz.underlying5,trivial,Tryz.t5,rfl,rfl,rfl,rfl⟩,Tryz.underlying4,trivial,Tryz.t4,rfl,rfl,rfl,rfl⟩,⟨⟨trivial,trivial,Tryz.underlying22,trivial,Tryz.t22,rfl,rfl,rfl,rfl⟩,trivial,Tryz.underlying23,trivial,Tryz.t23,rfl,rfl,rfl,rfl⟩,Tryz.underlying9,trivial,Tryz.t9,rfl,rfl,rfl,rfl⟩,⟨⟨⟨trivial,trivial,Tryz.underlying26,trivial,Tryz.t26,rfl,rfl,rfl,rfl⟩,⟨trivial,trivial,Tryz.underlying32,trivial,Tryz.t32,rfl,rfl,rfl,rfl⟩,Tryz.underlying28,⟨by kernel_rfl,by kernel_rfl,by kernel_rfl⟩,Tryz.t28,rfl,rfl,rfl,rfl⟩,⟨⟨trivial,trivial,Tryz.underlying35,trivial,Tryz.t35,rfl,rfl,rfl,rfl⟩,trivial,Tryz.underlying37,⟨by kernel_rfl,by kernel_rfl,by kernel_rfl⟩,Tryz.t37,rfl,rfl,rfl,rfl⟩,Tryz.underlying34,trivial,Tryz.t34,rfl,rfl,rfl,rfl⟩,Tryz.underlying25,⟨by kernel_rfl,by kernel_rfl,by kernel_rfl⟩,Tryz.t25,rfl,rfl,rfl,rfl⟩,⟨⟨⟨⟨trivial,trivial,Tryz.underlying49,trivial,Tryz.t49,rfl,rfl,rfl,rfl⟩,⟨trivial,trivial,Tryz.underlying51,trivial,Tryz.t51,rfl,rfl,rfl,rfl⟩,Tryz.underlying50,trivial,Tryz.t50,rfl,rfl,rfl,rfl⟩,⟨⟨trivial,trivial,Tryz.underlying57,⟨by kernel_rfl,by kernel_rfl,by kernel_rfl⟩,Tryz.t57,rfl,rfl,rfl,rfl⟩,trivial,Tryz.underlying60,trivial,Tryz.t60,rfl,rfl,rfl,rfl⟩,Tryz.underlying53,⟨by kernel_rfl,by kernel_rfl,by kernel_rfl⟩,Tryz.t53,rfl,rfl,rfl,rfl⟩,⟨⟨⟨trivial,trivial,Tryz.underlying73,trivial,Tryz.t73,rfl,rfl,rfl,rfl⟩,⟨trivial,trivial,Tryz.underlying80,⟨by kernel_rfl,by kernel_rfl,by kernel_rfl⟩,Tryz.t80,rfl,rfl,rfl,rfl⟩,Tryz.underlying75,⟨by kernel_rfl,by kernel_rfl,by kernel_rfl⟩,Tryz.t75,rfl,rfl,rfl,rfl⟩,⟨⟨trivial,trivial,Tryz.underlying89,trivial,Tryz.t89,rfl,rfl,rfl,rfl⟩,trivial,Tryz.underlying91,⟨by kernel_rfl,by kernel_rfl,by kernel_rfl⟩,Tryz.t91,rfl,rfl,rfl,rfl⟩,Tryz.underlying88,⟨by kernel_rfl,by kernel_rfl,by kernel_rfl⟩,Tryz.t88,rfl,rfl,rfl,rfl⟩,Tryz.underlying68,⟨by kernel_rfl,by kernel_rfl,by kernel_rfl⟩,Tryz.t68,rfl,rfl,rfl,rfl⟩,Tryz.underlying41,⟨by kernel_rfl,by kernel_rfl,by kernel_rfl⟩,Tryz.t41,rfl,rfl,rfl,rfl⟩,⟨⟨⟨⟨⟨trivial,trivial,Tryz.underlying98,trivial,Tryz.t98,rfl,rfl,rfl,rfl⟩,⟨trivial,trivial,Tryz.underlying115,⟨by kernel_rfl,by kernel_rfl,by kernel_rfl⟩,Tryz.t115,rfl,rfl,rfl,rfl⟩,Tryz.underlying104,⟨by kernel_rfl,by kernel_rfl,by kernel_rfl⟩,Tryz.t104,rfl,rfl,rfl,rfl⟩,⟨⟨trivial,trivial,Tryz.underlying129,⟨by kernel_rfl,by kernel_rfl,by kernel_rfl⟩,Tryz.t129,rfl,rfl,rfl,rfl⟩,trivial,Tryz.underlying131,trivial,Tryz.t131,rfl,rfl,rfl,rfl⟩,Tryz.underlying120,⟨by kernel_rfl,by kernel_rfl,by kernel_rfl⟩,Tryz.t120,rfl,rfl,rfl,rfl⟩,⟨⟨⟨trivial,trivial,Tryz.underlying136,⟨by kernel_rfl,by kernel_rfl,by kernel_rfl⟩,Tryz.t136,rfl,rfl,rfl,rfl⟩,⟨trivial,trivial,Tryz.underlying158,trivial,Tryz.t158,rfl,rfl,rfl,rfl⟩,Tryz.underlying147,trivial,Tryz.t147,rfl,rfl,rfl,rfl⟩,⟨⟨trivial,trivial,Tryz.underlying178,trivial,Tryz.t178,rfl,rfl,rfl,rfl⟩,trivial,Tryz.underlying188,trivial,Tryz.t188,rfl,rfl,rfl,rfl⟩,Tryz.underlying161,trivial,Tryz.t161,rfl,rfl,rfl,rfl⟩,Tryz.underlying134,⟨by kernel_rfl,by kernel_rfl,by kernel_rfl⟩,Tryz.t134,rfl,rfl,rfl,rfl⟩,⟨⟨⟨⟨trivial,trivial,Tryz.underlying197,trivial,Tryz.t197,rfl,rfl,rfl,rfl⟩,⟨trivial,trivial,Tryz.underlying208,trivial,Tryz.t208,rfl,rfl,rfl,rfl⟩,Tryz.underlying201,trivial,Tryz.t201,rfl,rfl,rfl,rfl⟩,⟨⟨trivial,trivial,Tryz.underlying219,trivial,Tryz.t219,rfl,rfl,rfl,rfl⟩,trivial,Tryz.underlying231,⟨by kernel_rfl,by kernel_rfl,by kernel_rfl⟩,Tryz.t231,rfl,rfl,rfl,rfl⟩,Tryz.underlying216,trivial,Tryz.t216,rfl,rfl,rfl,rfl⟩,⟨⟨⟨trivial,trivial,Tryz.underlying235,trivial,Tryz.t235,rfl,rfl,rfl,rfl⟩,trivial,Tryz.underlying250,⟨by kernel_rfl,by kernel_rfl,by kernel_rfl⟩,Tryz.t250,rfl,rfl,rfl,rfl⟩,⟨⟨trivial,trivial,Tryz.underlying252,trivial,Tryz.t252,rfl,rfl,rfl,rfl⟩,trivial,Tryz.underlying256,trivial,Tryz.t256,rfl,rfl,rfl,rfl⟩,Tryz.underlying251,trivial,Tryz.t251,rfl,rfl,rfl,rfl⟩,Tryz.underlying232,trivial,Tryz.t232,rfl,rfl,rfl,rfl⟩,Tryz.underlying196,trivial,Tryz.t196,rfl,rfl,rfl,rfl⟩,Tryz.underlying96,⟨by kernel_rfl,by kernel_rfl,by kernel_rfl⟩,Tryz.t96,rfl,rfl,rfl,rfl⟩
end Go.Vg
namespace Go.J
open Go.Proofs
def G0:Nat→Option Go.Vg.GD:=fun i=>match i with
 |1=>some ⟨[.int .i64, .int .i64],[(65,90),(97,122),(192,214),(216,246),(248,255),(913,929),(931,937),(945,969),(1024,1119)]⟩
 |2=>some ⟨[.int .i64, .int .i64, .int .i64],[(65,90,32),(192,214,32),(216,222,32),(913,929,32),(931,937,32),(1024,1039,80),(1040,1071,32)]⟩
 |_=>none
end Go.J

end
section
set_option linter.unusedVariables false
namespace Go
def aE(x:Int):Prop :=(-9223372036854775808:Int)≤x∧x≤(9223372036854775807:Int)
def jz:Nat:=140737488355328
def Cr:Int:=140737488355328
def z0:Int:=0
def z1:Int:=1
def ao {α:Type}(x:List α):Int:=(x.length:Int)
def q0(v:Int):=UInt8.ofNat (Int.toNat ((v%(128:Int)+(128:Int))%(256:Int)))
def aij(m:Nat)(v:Int):Prop :=
 (decide (v<(128:Int))=true→ [UInt8.ofNat (Int.toNat (v%(256:Int)))]=S.num v)∧(decide (v<(128:Int))=false→z0≤v∧z0<(128:Int)∧(aE (v%(128:Int)+(128:Int)))∧z0≤v∧z0<(128:Int)∧(Int.toNat (v/(128:Int))<m∧z0≤v/(128:Int))∧List.length [q0 v]+List.length (S.num (v/(128:Int)))≤jz∧ [q0 v]++S.num (v/(128:Int))=S.num v)
def aik(s:List UInt8):Prop :=
 z0≤(ao s)∧List.length (S.num (ao s))+s.length≤jz∧S.num (ao s)++s=S.text s
def ail(b:List UInt8):Prop :=
 b.length≤jz∧b=b
def q1(x:List UInt8×Int):=UInt8.ofNat (Int.toNat (Vg.cI (Vg.bh x.2 (127:Int)%(256:Int)) (128:Int)))
def aim(v:Int)(l:List UInt8):Prop :=
 (∃(x:List UInt8×Int),(v=x.2∧l=x.1)∧S.oF l v x.1 x.2)∧∀(x:List UInt8×Int),S.oF l v x.1 x.2→(decide ((127:Int)<x.2)=true→z0≤x.2∧z0≤(127:Int)∧List.length x.1+List.length [q1 x]≤jz∧(z0≤(7:Int)∧(7:Int)≤(64:Int))∧∃(ae:List UInt8×Int),(x.2/(2:Int)^(7:Int).toNat=ae.2∧x.1++ [q1 x]=ae.1)∧S.oF l v ae.1 ae.2∧Int.toNat ae.2<Int.toNat x.2)∧(decide ((127:Int)<x.2)=false→List.length x.1+List.length [UInt8.ofNat (Int.toNat (x.2%(256:Int)))]≤jz∧x.1++ [UInt8.ofNat (Int.toNat (x.2%(256:Int)))]=l++S.num v)
def ain(s:List UInt8)(l:List UInt8):Prop :=
 S.zf l (ao s)∧List.length (l++S.num (ao s))+s.length≤jz∧l++S.num (ao s)++s=l++S.text s
def q2(v:Int):=bif decide (v<z0) then true else decide ((4611686018427387904:Int)<v)
def aio(b:List UInt8)(v:Int):Prop :=
 ((q2 v)=true→z1=S.iz v∧ []=S.jg b v)∧((q2 v)=false→b.length≤jz∧S.zf b v∧z0=S.iz v∧b++S.num v=S.jg b v)
def aip(b:List UInt8)(s:List UInt8):Prop :=
 b.length≤jz∧S.lT b s∧b++S.text s=b++S.text s
def aiq(r1:List UInt8)(r2:Int)(r3:Int):Prop :=
 (bif decide (z0≤r2) then decide (r2≤(ao r1)) else false)=S.inside r1 r2
def air(r1:List UInt8)(r2:Int)(r3:Int):Prop :=
 r1.length≤jz∧((decide (r3=z0)=true→True)∧(decide (r3=z0)=false→True))∧r1=r1∧(bif bif decide (r3=z0) then !S.inside r1 r2 else false then r2 else r2)=r2∧(bif bif decide (r3=z0) then !S.inside r1 r2 else false then z1 else r3)=S.cW r1 r2 r3
def q3(b:List UInt8)(p:Int)(x:Nat):=Vg.bh (↑(UInt8.toNat (List.getD b (Int.toNat (p+(x:Int))) (0:UInt8))):Int) (127:Int)*(2:Int)^Int.toNat ((7:Int)*(x:Int))
def q4(x:Nat)(b:List UInt8)(p:Int):=bif decide (z1<(x:Int)+z1) then bif decide ((↑(UInt8.toNat (List.getD b (Int.toNat (p+((x:Int)+z1)-z1)) (0:UInt8))):Int)=z0) then true else decide ((4611686018427387904:Int)<Vg.cI (S.eF b p x) (q3 b p x)) else decide ((4611686018427387904:Int)<Vg.cI (S.eF b p x) (q3 b p x))
def q5(b:List UInt8)(p:Int)(x:Nat):=UInt8.toNat (List.getD b (Int.toNat (p+(x:Int))) (0:UInt8))
def ais(b:List UInt8)(p:Int):Prop :=
 (∃(x:Nat),(z0=S.eF b p x∧z0=(x:Int))∧S.gN b p x)∧∀(x:Nat),S.gN b p x→(decide ((x:Int)=(9:Int))=true→z0=(S.aK b p).1∧z0=((S.aK b p).2).1∧(2:Int)=((S.aK b p).2).2)∧(decide ((x:Int)=(9:Int))=false→(aE ((ao b)-p))∧(decide ((x:Int)=(ao b)-p)=true→z0=(S.aK b p).1∧z0=((S.aK b p).2).1∧(4:Int)=((S.aK b p).2).2)∧(decide ((x:Int)=(ao b)-p)=false→(aE (p+(x:Int)))∧(z0≤p+(x:Int)∧p+(x:Int)<(ao b))∧(aE ((7:Int)*(x:Int)))∧(z0≤(7:Int)*(x:Int)∧(7:Int)*(x:Int)≤(64:Int))∧(aE (q3 b p x))∧z0≤S.eF b p x∧z0≤Vg.bh (↑(q5 b p x):Int) (127:Int)*(2:Int)^Int.toNat ((7:Int)*(x:Int))∧(aE ((x:Int)+z1))∧(decide ((↑(q5 b p x):Int)<(128:Int))=true→((decide (z1<(x:Int)+z1)=true→(aE (p+((x:Int)+z1)))∧(aE (p+((x:Int)+z1)-z1))∧z0≤p+((x:Int)+z1)-z1∧p+((x:Int)+z1)-z1<(ao b))∧(decide (z1<(x:Int)+z1)=false→True))∧((q4 x b p)=true→z0=(S.aK b p).1∧z0=((S.aK b p).2).1∧(2:Int)=((S.aK b p).2).2)∧((q4 x b p)=false→(aE (p+((x:Int)+z1)))∧Vg.cI (S.eF b p x) (q3 b p x)=(S.aK b p).1∧p+((x:Int)+z1)=((S.aK b p).2).1∧z0=((S.aK b p).2).2))∧(decide ((↑(q5 b p x):Int)<(128:Int))=false→∃(ae:Nat),(Vg.cI (S.eF b p x) (q3 b p x)=S.eF b p ae∧(x:Int)+z1=(ae:Int))∧S.gN b p ae∧S.ah (9:Nat) ae<S.ah (9:Nat) x)))
def q6(b:List UInt8)(p:Int):=(S.aK b p).2
def YQ(b:List UInt8)(p:Int)(cb:Int):Prop :=
 S.dE b p∧((!decide ((q6 b p).2=z0))=true→ []=(S.bW b p cb).1∧z0=((S.bW b p cb).2).1∧(q6 b p).2=((S.bW b p cb).2).2)∧((!decide ((q6 b p).2=z0))=false→(decide (cb<(S.aK b p).1)=true→ []=(S.bW b p cb).1∧z0=((S.bW b p cb).2).1∧(2:Int)=((S.bW b p cb).2).2)∧(decide (cb<(S.aK b p).1)=false→(aE ((ao b)-(q6 b p).1))∧(decide ((ao b)-(q6 b p).1<(S.aK b p).1)=true→ []=(S.bW b p cb).1∧z0=((S.bW b p cb).2).1∧(4:Int)=((S.bW b p cb).2).2)∧(decide ((ao b)-(q6 b p).1<(S.aK b p).1)=false→(aE ((q6 b p).1+(S.aK b p).1))∧(z0≤(q6 b p).1∧(q6 b p).1≤(q6 b p).1+(S.aK b p).1∧(q6 b p).1+(S.aK b p).1≤(ao b))∧(aE ((q6 b p).1+(S.aK b p).1))∧List.drop (Int.toNat ((q6 b p).1)) (List.take (Int.toNat ((q6 b p).1+(S.aK b p).1)) b)=(S.bW b p cb).1∧(q6 b p).1+(S.aK b p).1=((S.bW b p cb).2).1∧z0=((S.bW b p cb).2).2)))
def YR(r1:List UInt8)(r2:Int)(r3:Int)(cb:Int):Prop :=
 r1.length≤jz∧((!decide (S.cW r1 r2 r3=z0))=true→r1=((S.bm r1 r2 r3 cb).1).1∧r2=(((S.bm r1 r2 r3 cb).1).2).1∧S.cW r1 r2 r3=(((S.bm r1 r2 r3 cb).1).2).2∧ []=(S.bm r1 r2 r3 cb).2)∧((!decide (S.cW r1 r2 r3=z0))=false→S.dE r1 r2∧((!decide (((S.bW r1 r2 cb).2).2=z0))=true→r1=((S.bm r1 r2 r3 cb).1).1∧r2=(((S.bm r1 r2 r3 cb).1).2).1∧((S.bW r1 r2 cb).2).2=(((S.bm r1 r2 r3 cb).1).2).2∧ []=(S.bm r1 r2 r3 cb).2)∧((!decide (((S.bW r1 r2 cb).2).2=z0))=false→r1=((S.bm r1 r2 r3 cb).1).1∧((S.bW r1 r2 cb).2).1=(((S.bm r1 r2 r3 cb).1).2).1∧S.cW r1 r2 r3=(((S.bm r1 r2 r3 cb).1).2).2∧(S.bW r1 r2 cb).1=(S.bm r1 r2 r3 cb).2))
def YS(r1:List UInt8)(r2:Int)(r3:Int):Prop :=
 r1.length≤jz∧((!decide (S.cW r1 r2 r3=z0))=true→r1=((S.al r1 r2 r3).1).1∧r2=(((S.al r1 r2 r3).1).2).1∧S.cW r1 r2 r3=(((S.al r1 r2 r3).1).2).2∧z0=(S.al r1 r2 r3).2)∧((!decide (S.cW r1 r2 r3=z0))=false→S.dE r1 r2∧((!decide (((S.aK r1 r2).2).2=z0))=true→r1=((S.al r1 r2 r3).1).1∧r2=(((S.al r1 r2 r3).1).2).1∧((S.aK r1 r2).2).2=(((S.al r1 r2 r3).1).2).2∧z0=(S.al r1 r2 r3).2)∧((!decide (((S.aK r1 r2).2).2=z0))=false→r1=((S.al r1 r2 r3).1).1∧((S.aK r1 r2).2).1=(((S.al r1 r2 r3).1).2).1∧S.cW r1 r2 r3=(((S.al r1 r2 r3).1).2).2∧(S.aK r1 r2).1=(S.al r1 r2 r3).2))
def YT(c:Int):Prop :=
 (bif decide (z0≤c) then bif decide (c≤(1114111:Int)) then bif decide (c<(55296:Int)) then true else decide ((57343:Int)<c) else false else false)=S.bp c
def YU(c:Int):Prop :=
 (decide (c<(128:Int))=true→z1=S.c7 c)∧(decide (c<(128:Int))=false→(decide (c<(2048:Int))=true→(2:Int)=S.c7 c)∧(decide (c<(2048:Int))=false→(decide (c<(65536:Int))=true→(3:Int)=S.c7 c)∧(decide (c<(65536:Int))=false→(4:Int)=S.c7 c)))
def YV(c:Int):Prop :=
 z0≤c∧z0≤(63:Int)∧Vg.cI (128:Int) (Vg.bh c (63:Int)%(256:Int))=(↑(UInt8.toNat (S.more c)):Int)
def q7(c:Int):=UInt8.ofNat (Int.toNat (↑(UInt8.toNat (S.more c)):Int))
def q8:=z0≤(6:Int)∧(6:Int)≤(64:Int)
def q9(c:Int):=UInt8.ofNat (Int.toNat (↑(UInt8.toNat (S.more (c/(2:Int)^(6:Int).toNat))):Int))
def q10:=z0≤(12:Int)∧(12:Int)≤(64:Int)
def YW(c:Int):Prop :=
 True∧((!S.bp c)=true→z1=S.tm c∧ []=S.eS c)∧((!S.bp c)=false→True∧(decide (S.c7 c=z1)=true→z0=S.tm c∧ [UInt8.ofNat (Int.toNat (c%(256:Int)))]=S.eS c)∧(decide (S.c7 c=z1)=false→(decide (S.c7 c=(2:Int))=true→q8∧z0≤c∧z0=S.tm c∧ [UInt8.ofNat (Int.toNat (Vg.cI (192:Int) (c/(2:Int)^(6:Int).toNat%(256:Int)))),q7 c]=S.eS c)∧(decide (S.c7 c=(2:Int))=false→(decide (S.c7 c=(3:Int))=true→q10∧q8∧z0≤c/(2:Int)^(6:Int).toNat∧z0≤c∧z0=S.tm c∧ [UInt8.ofNat (Int.toNat (Vg.cI (224:Int) (c/(2:Int)^(12:Int).toNat%(256:Int)))),q9 c,q7 c]=S.eS c)∧(decide (S.c7 c=(3:Int))=false→(z0≤(18:Int)∧(18:Int)≤(64:Int))∧q10∧z0≤c/(2:Int)^(12:Int).toNat∧q8∧z0≤c/(2:Int)^(6:Int).toNat∧z0≤c∧z0=S.tm c∧ [UInt8.ofNat (Int.toNat (Vg.cI (240:Int) (c/(2:Int)^(18:Int).toNat%(256:Int)))),UInt8.ofNat (Int.toNat (↑(UInt8.toNat (S.more (c/(2:Int)^(12:Int).toNat))):Int)),q9 c,q7 c]=S.eS c))))
def wA(b:List UInt8):=UInt8.toNat (List.getD b (z0.toNat) (0:UInt8))
def YX(b:List UInt8)(x:Nat):=UInt8.toNat (List.getD (List.drop (z1.toNat) (List.take ((2:Int).toNat) b)) ((x:Int).toNat) (0:UInt8))
def YY(b:List UInt8)(x:Nat):=UInt8.toNat (List.getD (List.drop (z1.toNat) (List.take ((3:Int).toNat) b)) ((x:Int).toNat) (0:UInt8))
def YZ(b:List UInt8)(x:Nat):=UInt8.toNat (List.getD (List.drop (z1.toNat) (List.take ((4:Int).toNat) b)) ((x:Int).toNat) (0:UInt8))
def q15(b:List UInt8)(x:Nat):=((!S.bp (S.bC b x))=true→True)∧((!S.bp (S.bC b x))=false→True)
def PT(b:List UInt8)(x:Nat):=S.bC b x*(2:Int)^(6:Int).toNat
def q17(b:List UInt8):=List.length (List.drop (z1.toNat) (List.take ((2:Int).toNat) b))
def q18(b:List UInt8):=List.length (List.drop (z1.toNat) (List.take ((3:Int).toNat) b))
def q19(b:List UInt8):=List.length (List.drop (z1.toNat) (List.take ((4:Int).toNat) b))
def q20:=z0≤(6:Int)∧(6:Int)≤(64:Int)
def q21:=z0≤(6:Int)∧(6:Int)≤(8:Int)
def q22(b:List UInt8)(x:Nat):=bif !S.bp (S.bC b x) then true else !decide (S.c7 (S.bC b x)=(2:Int))
def q23(b:List UInt8)(x:Nat):=bif !S.bp (S.bC b x) then true else !decide (S.c7 (S.bC b x)=(3:Int))
def q24(b:List UInt8)(x:Nat):=bif !S.bp (S.bC b x) then true else !decide (S.c7 (S.bC b x)=(4:Int))
def Y0(b:List UInt8):Prop :=
 (z0≤z0∧z0<(ao b))∧(decide ((↑(wA b):Int)<(128:Int))=true→(↑(wA b):Int)=(S.aL b).1∧z1=(S.aL b).2)∧(decide ((↑(wA b):Int)<(128:Int))=false→(z0≤(5:Int)∧(5:Int)≤(64:Int))∧(decide ((↑(wA b):Int)/(2:Int)^(5:Int).toNat=(6:Int))=true→z0≤(↑(wA b):Int)∧z0≤(31:Int)∧(decide ((ao b)<(2:Int))=true→(65533:Int)=(S.aL b).1∧z1=(S.aL b).2)∧(decide ((ao b)<(2:Int))=false→(z0≤z1∧z1≤(2:Int)∧(2:Int)≤(ao b))∧(∃(x:Nat),(z0=(x:Int)∧Vg.bh (↑(wA b):Int) (31:Int)=S.bC b x)∧S.lB b x)∧∀(x:Nat),S.lB b x→(decide ((x:Int)<(↑(q17 b):Int))=true→(z0≤(x:Int)∧(x:Int)<(↑(q17 b):Int))∧q21∧((!decide ((↑(YX b x):Int)/(2:Int)^(6:Int).toNat=(2:Int)))=true→(65533:Int)=(S.aL b).1∧z1=(S.aL b).2)∧((!decide ((↑(YX b x):Int)/(2:Int)^(6:Int).toNat=(2:Int)))=false→q20∧(aE (PT b x))∧z0≤S.bC b x*(2:Int)^(6:Int).toNat∧z0≤Vg.bh (↑(YX b x):Int) (63:Int)∧(aE ((x:Int)+z1))∧∃(ae:Nat),((x:Int)+z1=(ae:Int)∧Vg.cI (PT b x) (Vg.bh (↑(YX b x):Int) (63:Int))=S.bC b ae)∧S.lB b ae∧S.ah (4:Nat) ae<S.ah (4:Nat) x))∧(decide ((x:Int)<(↑(q17 b):Int))=false→True∧(q15 b x)∧((q22 b x)=true→(65533:Int)=(S.aL b).1∧z1=(S.aL b).2)∧((q22 b x)=false→S.bC b x=(S.aL b).1∧(2:Int)=(S.aL b).2))))∧(decide ((↑(wA b):Int)/(2:Int)^(5:Int).toNat=(6:Int))=false→(z0≤(4:Int)∧(4:Int)≤(64:Int))∧(decide ((↑(wA b):Int)/(2:Int)^(4:Int).toNat=(14:Int))=true→z0≤(↑(wA b):Int)∧z0≤(15:Int)∧(decide ((ao b)<(3:Int))=true→(65533:Int)=(S.aL b).1∧z1=(S.aL b).2)∧(decide ((ao b)<(3:Int))=false→(z0≤z1∧z1≤(3:Int)∧(3:Int)≤(ao b))∧(∃(x:Nat),(z0=(x:Int)∧Vg.bh (↑(wA b):Int) (15:Int)=S.bC b x)∧S.lB b x)∧∀(x:Nat),S.lB b x→(decide ((x:Int)<(↑(q18 b):Int))=true→(z0≤(x:Int)∧(x:Int)<(↑(q18 b):Int))∧q21∧((!decide ((↑(YY b x):Int)/(2:Int)^(6:Int).toNat=(2:Int)))=true→(65533:Int)=(S.aL b).1∧z1=(S.aL b).2)∧((!decide ((↑(YY b x):Int)/(2:Int)^(6:Int).toNat=(2:Int)))=false→q20∧(aE (PT b x))∧z0≤S.bC b x*(2:Int)^(6:Int).toNat∧z0≤Vg.bh (↑(YY b x):Int) (63:Int)∧(aE ((x:Int)+z1))∧∃(ae:Nat),((x:Int)+z1=(ae:Int)∧Vg.cI (PT b x) (Vg.bh (↑(YY b x):Int) (63:Int))=S.bC b ae)∧S.lB b ae∧S.ah (4:Nat) ae<S.ah (4:Nat) x))∧(decide ((x:Int)<(↑(q18 b):Int))=false→True∧(q15 b x)∧((q23 b x)=true→(65533:Int)=(S.aL b).1∧z1=(S.aL b).2)∧((q23 b x)=false→S.bC b x=(S.aL b).1∧(3:Int)=(S.aL b).2))))∧(decide ((↑(wA b):Int)/(2:Int)^(4:Int).toNat=(14:Int))=false→(z0≤(3:Int)∧(3:Int)≤(64:Int))∧(decide ((↑(wA b):Int)/(2:Int)^(3:Int).toNat=(30:Int))=true→z0≤(↑(wA b):Int)∧z0≤(7:Int)∧(decide ((ao b)<(4:Int))=true→(65533:Int)=(S.aL b).1∧z1=(S.aL b).2)∧(decide ((ao b)<(4:Int))=false→(z0≤z1∧z1≤(4:Int)∧(4:Int)≤(ao b))∧(∃(x:Nat),(z0=(x:Int)∧Vg.bh (↑(wA b):Int) (7:Int)=S.bC b x)∧S.lB b x)∧∀(x:Nat),S.lB b x→(decide ((x:Int)<(↑(q19 b):Int))=true→(z0≤(x:Int)∧(x:Int)<(↑(q19 b):Int))∧q21∧((!decide ((↑(YZ b x):Int)/(2:Int)^(6:Int).toNat=(2:Int)))=true→(65533:Int)=(S.aL b).1∧z1=(S.aL b).2)∧((!decide ((↑(YZ b x):Int)/(2:Int)^(6:Int).toNat=(2:Int)))=false→q20∧(aE (PT b x))∧z0≤S.bC b x*(2:Int)^(6:Int).toNat∧z0≤Vg.bh (↑(YZ b x):Int) (63:Int)∧(aE ((x:Int)+z1))∧∃(ae:Nat),((x:Int)+z1=(ae:Int)∧Vg.cI (PT b x) (Vg.bh (↑(YZ b x):Int) (63:Int))=S.bC b ae)∧S.lB b ae∧S.ah (4:Nat) ae<S.ah (4:Nat) x))∧(decide ((x:Int)<(↑(q19 b):Int))=false→True∧(q15 b x)∧((q24 b x)=true→(65533:Int)=(S.aL b).1∧z1=(S.aL b).2)∧((q24 b x)=false→S.bC b x=(S.aL b).1∧(4:Int)=(S.aL b).2))))∧(decide ((↑(wA b):Int)/(2:Int)^(3:Int).toNat=(30:Int))=false→(65533:Int)=(S.aL b).1∧z1=(S.aL b).2))))
def Y1(b:List UInt8):Prop :=
 (∃(x:List UInt8×List Int),(b=x.1∧ []=x.2)∧S.ic b x.1 x.2)∧∀(x:List UInt8×List Int),S.ic b x.1 x.2→(decide (z0<(↑(List.length x.1):Int))=true→(0:Nat)<List.length x.1∧List.length x.2+List.length [(S.aL x.1).1]≤(17592186044416:Nat)∧(z0≤(S.aL x.1).2∧(S.aL x.1).2≤(↑(List.length x.1):Int))∧∃(ae:List UInt8×List Int),(List.drop (Int.toNat ((S.aL x.1).2)) x.1=ae.1∧x.2++ [(S.aL x.1).1]=ae.2)∧S.ic b ae.1 ae.2∧S.len ae.1<S.len x.1)∧(decide (z0<(↑(List.length x.1):Int))=false→x.2=S.decode b)
def q25(x:Nat)(c:Int):=bif decide (List.getD [(65:Int),(97:Int),(192:Int),(216:Int),(248:Int),(913:Int),(931:Int),(945:Int),(1024:Int)] ((x:Int).toNat) z0≤c) then decide (c≤List.getD [(90:Int),(122:Int),(214:Int),(246:Int),(255:Int),(929:Int),(937:Int),(969:Int),(1119:Int)] ((x:Int).toNat) z0) else false
def Y2(c:Int):Prop :=
 (∃(x:Nat),z0=(x:Int)∧S.lA c x)∧∀(x:Nat),S.lA c x→(decide ((x:Int)<(9:Int))=true→(z0≤(x:Int)∧(x:Int)<(↑(9:Nat):Int))∧((q25 x c)=true→true=S.letter c)∧((q25 x c)=false→(aE ((x:Int)+z1))∧∃(ae:Nat),(x:Int)+z1=(ae:Int)∧S.lA c ae∧S.ah (9:Nat) ae<S.ah (9:Nat) x))∧(decide ((x:Int)<(9:Int))=false→false=S.letter c)
def Y3(c:Int):Prop :=
 (bif decide ((48:Int)≤c) then decide (c≤(57:Int)) else false)=S.digit c
def q26(x:Nat)(c:Int):=bif decide (List.getD [(65:Int),(192:Int),(216:Int),(913:Int),(931:Int),(1024:Int),(1040:Int)] ((x:Int).toNat) z0≤c) then decide (c≤List.getD [(90:Int),(214:Int),(222:Int),(929:Int),(937:Int),(1039:Int),(1071:Int)] ((x:Int).toNat) z0) else false
def Y4(c:Int):Prop :=
 (∃(x:Nat),z0=(x:Int)∧S.lU c x)∧∀(x:Nat),S.lU c x→(decide ((x:Int)<(7:Int))=true→(z0≤(x:Int)∧(x:Int)<(↑(7:Nat):Int))∧((q26 x c)=true→(aE (c+List.getD [(32:Int),(32:Int),(32:Int),(32:Int),(32:Int),(80:Int),(32:Int)] ((x:Int).toNat) z0))∧c+List.getD [(32:Int),(32:Int),(32:Int),(32:Int),(32:Int),(80:Int),(32:Int)] ((x:Int).toNat) z0=S.aT c)∧((q26 x c)=false→(aE ((x:Int)+z1))∧∃(ae:Nat),(x:Int)+z1=(ae:Int)∧S.lU c ae∧S.ah (7:Nat) ae<S.ah (7:Nat) x))∧(decide ((x:Int)<(7:Int))=false→c=S.aT c)
def Y5(c:Int)(a:Int)(b:Int):Prop :=
 (bif decide (a≤c) then decide (c≤b) else false)=S.bJ c a b
def Y6(c:Int):Prop :=
 (bif decide (z0≤c) then bif decide (c<(55296:Int)) then true else bif decide ((57343:Int)<c) then decide (c<(1114112:Int)) else false else bif decide ((57343:Int)<c) then decide (c<(1114112:Int)) else false)=S.iZ c
def q27(c:Int):=UInt8.ofNat (Int.toNat (((128:Int)+c%(64:Int))%(256:Int)))
def Y7(c:Int):=(128:Int)+c/(64:Int)%(64:Int)
def q29(c:Int):=aE ((128:Int)+c%(64:Int))
def Y8(c:Int):Prop :=
 (decide (c<(128:Int))=true→ [UInt8.ofNat (Int.toNat (c%(256:Int)))]=S.enc c)∧(decide (c<(128:Int))=false→(decide (c<(2048:Int))=true→z0≤c∧z0<(64:Int)∧(aE ((192:Int)+c/(64:Int)))∧z0≤c∧z0<(64:Int)∧(q29 c)∧ [UInt8.ofNat (Int.toNat (((192:Int)+c/(64:Int))%(256:Int))),q27 c]=S.enc c)∧(decide (c<(2048:Int))=false→(decide (c<(65536:Int))=true→z0≤c∧z0<(4096:Int)∧(aE ((224:Int)+c/(4096:Int)))∧z0≤c∧z0<(64:Int)∧z0≤c/(64:Int)∧z0<(64:Int)∧(aE (Y7 c))∧z0≤c∧z0<(64:Int)∧(q29 c)∧ [UInt8.ofNat (Int.toNat (((224:Int)+c/(4096:Int))%(256:Int))),UInt8.ofNat (Int.toNat ((Y7 c)%(256:Int))),q27 c]=S.enc c)∧(decide (c<(65536:Int))=false→z0≤c∧z0<(262144:Int)∧(aE ((240:Int)+c/(262144:Int)))∧z0≤c∧z0<(4096:Int)∧z0≤c/(4096:Int)∧z0<(64:Int)∧(aE ((128:Int)+c/(4096:Int)%(64:Int)))∧z0≤c∧z0<(64:Int)∧z0≤c/(64:Int)∧z0<(64:Int)∧(aE (Y7 c))∧z0≤c∧z0<(64:Int)∧(q29 c)∧ [UInt8.ofNat (Int.toNat (((240:Int)+c/(262144:Int))%(256:Int))),UInt8.ofNat (Int.toNat (((128:Int)+c/(4096:Int)%(64:Int))%(256:Int))),UInt8.ofNat (Int.toNat ((Y7 c)%(256:Int))),q27 c]=S.enc c)))
def Y9(a:Int)(b:Int):Prop :=
 (decide (a<b)=true→a=S.ju a b)∧(decide (a<b)=false→b=S.ju a b)
def Za(c:Int):Prop :=
 True∧((S.bJ c (65:Int) (90:Int)=true→True)∧(S.bJ c (65:Int) (90:Int)=false→True∧(S.bJ c (97:Int) (122:Int)=true→True)∧(S.bJ c (97:Int) (122:Int)=false→True∧(S.bJ c (192:Int) (214:Int)=true→True)∧(S.bJ c (192:Int) (214:Int)=false→True∧(S.bJ c (216:Int) (246:Int)=true→True)∧(S.bJ c (216:Int) (246:Int)=false→True∧(S.bJ c (248:Int) (255:Int)=true→True)∧(S.bJ c (248:Int) (255:Int)=false→True∧(S.bJ c (913:Int) (929:Int)=true→True)∧(S.bJ c (913:Int) (929:Int)=false→True∧(S.bJ c (931:Int) (937:Int)=true→True)∧(S.bJ c (931:Int) (937:Int)=false→True∧(S.bJ c (945:Int) (969:Int)=true→True)∧(S.bJ c (945:Int) (969:Int)=false→True)))))))))∧(bif S.bJ c (65:Int) (90:Int) then true else bif S.bJ c (97:Int) (122:Int) then true else bif S.bJ c (192:Int) (214:Int) then true else bif S.bJ c (216:Int) (246:Int) then true else bif S.bJ c (248:Int) (255:Int) then true else bif S.bJ c (913:Int) (929:Int) then true else bif S.bJ c (931:Int) (937:Int) then true else bif S.bJ c (945:Int) (969:Int) then true else S.bJ c (1024:Int) (1119:Int))=S.letter c
def q30(c:Int):=bif S.bJ c (65:Int) (90:Int) then true else bif S.bJ c (192:Int) (214:Int) then true else bif S.bJ c (216:Int) (222:Int) then true else bif S.bJ c (913:Int) (929:Int) then true else bif S.bJ c (931:Int) (937:Int) then true else S.bJ c (1040:Int) (1071:Int)
def Zb(c:Int):Prop :=
 True∧(S.bJ c (1024:Int) (1039:Int)=true→(aE (c+(80:Int)))∧c+(80:Int)=S.aT c)∧(S.bJ c (1024:Int) (1039:Int)=false→True∧((S.bJ c (65:Int) (90:Int)=true→True)∧(S.bJ c (65:Int) (90:Int)=false→True∧(S.bJ c (192:Int) (214:Int)=true→True)∧(S.bJ c (192:Int) (214:Int)=false→True∧(S.bJ c (216:Int) (222:Int)=true→True)∧(S.bJ c (216:Int) (222:Int)=false→True∧(S.bJ c (913:Int) (929:Int)=true→True)∧(S.bJ c (913:Int) (929:Int)=false→True∧(S.bJ c (931:Int) (937:Int)=true→True)∧(S.bJ c (931:Int) (937:Int)=false→True))))))∧((q30 c)=true→(aE (c+(32:Int)))∧c+(32:Int)=S.aT c)∧((q30 c)=false→c=S.aT c))
def q31(b:List UInt8)(x:Nat):=UInt8.toNat (List.getD b ((x:Int).toNat) (0:UInt8))
def Zc(b:List UInt8)(n:Int):Prop :=
 (decide ((ao b)<n)=true→(-1:Int)=S.aZ b n)∧(decide ((ao b)<n)=false→(z0≤z0∧z0<(ao b))∧(z0≤n∧n<(↑(List.length [z0,z0,(192:Int),(224:Int),(240:Int)]):Int))∧Int.toNat n<List.length [z0,z0,(192:Int),(224:Int),(240:Int)]∧(aE ((↑(UInt8.toNat (List.getD b (z0.toNat) (0:UInt8))):Int)-List.getD [z0,z0,(192:Int),(224:Int),(240:Int)] (Int.toNat n) z0))∧(∃(x:Nat),(z1=(x:Int)∧(↑(UInt8.toNat (List.getD b (z0.toNat) (0:UInt8))):Int)-List.getD [z0,z0,(192:Int),(224:Int),(240:Int)] (Int.toNat n) z0=S.kR b n (x-(1:Nat)))∧S.nc b n x)∧∀(x:Nat),S.nc b n x→(decide ((x:Int)<n)=true→(aE (S.kR b n (x-(1:Nat))*(64:Int)))∧(z0≤(x:Int)∧(x:Int)<(ao b))∧(aE (S.kR b n (x-(1:Nat))*(64:Int)+(↑(q31 b x):Int)))∧(aE (S.kR b n (x-(1:Nat))*(64:Int)+(↑(q31 b x):Int)-(128:Int)))∧(aE ((x:Int)+z1))∧∃(ae:Nat),((x:Int)+z1=(ae:Int)∧S.kR b n (x-(1:Nat))*(64:Int)+(↑(q31 b x):Int)-(128:Int)=S.kR b n (ae-(1:Nat)))∧S.nc b n ae∧S.ah (Int.toNat n) ae<S.ah (Int.toNat n) x)∧(decide ((x:Int)<n)=false→S.kR b n (x-(1:Nat))=S.aZ b n))
def PU(x:Nat×List Int)(b:List UInt8)(ae:Nat×Nat):=S.aZ (List.drop ((x.1:Int).toNat) b) (↑(ae.1+(1:Nat)):Int)
def KQ(ae:Nat×Nat)(b:List UInt8):=S.fm (List.drop ae.2 b) ae.1
def Cs(ae:Nat×Nat):=ae.1+(1:Nat)
def VZ(x:Nat×List Int)(ae:Nat×Nat):=(x.1:Int)+(↑(Cs ae):Int)
def Zd(b:List UInt8):Prop :=
 (∃(x:Nat×List Int),(z0=(x.1:Int)∧ []=x.2)∧S.ic b (List.drop x.1 b) x.2∧x.1≤b.length)∧∀(x:Nat×List Int),S.ic b (List.drop x.1 b) x.2∧x.1≤b.length→(decide ((x.1:Int)<(ao b))=true→(∃(ae:Nat×Nat),(z1=(↑(Cs ae):Int)∧(65533:Int)=(KQ ae b).1∧z1=(KQ ae b).2)∧ae.1≤(4:Nat)∧(x.1:Int)=(ae.2:Int))∧∀(ae:Nat×Nat),ae.1≤(4:Nat)∧(x.1:Int)=(ae.2:Int)→(decide ((↑(Cs ae):Int)≤(4:Int))=true→(z0≤(x.1:Int)∧(x.1:Int)≤(ao b))∧S.v7 (List.drop ((x.1:Int).toNat) b) (↑(Cs ae):Int)∧True∧((S.iZ (PU x b ae)=true→(z0≤S.aZ (List.drop ((x.1:Int).toNat) b) (↑(Cs ae):Int)∧S.aZ (List.drop ((x.1:Int).toNat) b) (↑(Cs ae):Int)≤(1114111:Int))∧(aE (VZ x ae))∧True∧z0≤(x.1:Int)∧(x.1:Int)≤S.ju (VZ x ae) (ao b)∧S.ju (VZ x ae) (ao b)≤(ao b))∧(S.iZ (PU x b ae)=false→True))∧(aE ((↑(Cs ae):Int)+z1))∧∃(az:Nat×Nat),((↑(Cs ae):Int)+z1=(↑(az.1+(1:Nat)):Int)∧(bif bif S.iZ (PU x b ae) then decide (S.enc (PU x b ae)=List.drop ((x.1:Int).toNat) (List.take (Int.toNat (S.ju (VZ x ae) (ao b))) b)) else false then S.aZ (List.drop ((x.1:Int).toNat) b) (↑(Cs ae):Int) else(KQ ae b).1)=(S.fm (List.drop az.2 b) az.1).1∧(bif bif S.iZ (PU x b ae) then decide (S.enc (PU x b ae)=List.drop ((x.1:Int).toNat) (List.take (Int.toNat (S.ju (VZ x ae) (ao b))) b)) else false then(↑(Cs ae):Int) else(KQ ae b).2)=(S.fm (List.drop az.2 b) az.1).2)∧(az.1≤(4:Nat)∧(x.1:Int)=(az.2:Int))∧S.ah (4:Nat) az.1<S.ah (4:Nat) ae.1)∧(decide ((↑(Cs ae):Int)≤(4:Int))=false→List.length x.2+List.length [(KQ ae b).1]≤(17592186044416:Nat)∧(aE ((x.1:Int)+(KQ ae b).2))∧∃(az:Nat×List Int),((x.1:Int)+(KQ ae b).2=(az.1:Int)∧x.2++ [(KQ ae b).1]=az.2)∧(S.ic b (List.drop az.1 b) az.2∧az.1≤b.length)∧S.ah (S.len b) az.1<S.ah (S.len b) x.1))∧(decide ((x.1:Int)<(ao b))=false→x.2=S.decode b)
def V0(u:List Int)(x:Nat×List UInt8):=S.aT (List.getD u ((x.1:Int).toNat) z0)
def Ze(u:List Int):Prop :=
 (∃(x:Nat×List UInt8),(z0=(x.1:Int)∧ []=x.2)∧S.iC u x.1 x.2)∧∀(x:Nat×List UInt8),S.iC u x.1 x.2→(decide ((x.1:Int)<(ao u))=true→(z0≤(x.1:Int)∧(x.1:Int)<(ao u))∧True∧True∧(aE ((↑(List.length x.2):Int)+(↑(List.length (S.eS (V0 u x))):Int)))∧(decide ((64:Int)<(↑(List.length x.2):Int)+(↑(List.length (S.eS (V0 u x))):Int))=true→x.2=S.dF u)∧(decide ((64:Int)<(↑(List.length x.2):Int)+(↑(List.length (S.eS (V0 u x))):Int))=false→List.length x.2+List.length (S.eS (V0 u x))≤jz∧(aE ((x.1:Int)+z1))∧∃(ae:Nat×List UInt8),((x.1:Int)+z1=(ae.1:Int)∧x.2++S.eS (V0 u x)=ae.2)∧S.iC u ae.1 ae.2∧S.ah (S.len u) ae.1<S.ah (S.len u) x.1))∧(decide ((x.1:Int)<(ao u))=false→x.2=S.dF u)
def KR(b:List UInt8)(x:Nat×List (List UInt8)×List Int):=List.getD (S.decode b) ((x.1:Int).toNat) z0
def PV(b:List UInt8):=S.len (S.decode b)
def Zf(b:List UInt8):Prop :=
 S.small b∧(∃(x:Nat×List (List UInt8)×List Int),(z0=(x.1:Int)∧ []=x.2.1∧ []=x.2.2)∧S.ie (S.decode b) x.1 x.2.1 x.2.2)∧∀(x:Nat×List (List UInt8)×List Int),S.ie (S.decode b) x.1 x.2.1 x.2.2→(decide ((x.1:Int)<(ao (S.decode b)))=true→(z0≤(x.1:Int)∧(x.1:Int)<(ao (S.decode b)))∧(x.1:Int).toNat<List.length (S.decode b)∧True∧((S.letter (KR b x)=true→True)∧(S.letter (KR b x)=false→True))∧((bif S.letter (KR b x) then true else S.digit (KR b x))=true→List.length x.2.2+List.length [KR b x]≤(17592186044416:Nat)∧(aE ((x.1:Int)+z1))∧∃(ae:Nat×List (List UInt8)×List Int),((x.1:Int)+z1=(ae.1:Int)∧x.2.1=ae.2.1∧x.2.2++ [KR b x]=ae.2.2)∧S.ie (S.decode b) ae.1 ae.2.1 ae.2.2∧S.ah (PV b) ae.1<S.ah (PV b) x.1)∧((bif S.letter (KR b x) then true else S.digit (KR b x))=false→(decide (z0<(↑(List.length x.2.2):Int))=true→S.GP x.2.2∧List.length x.2.1+List.length [S.dF x.2.2]≤(8796093022208:Nat)∧(aE ((x.1:Int)+z1))∧∃(ae:Nat×List (List UInt8)×List Int),((x.1:Int)+z1=(ae.1:Int)∧x.2.1++ [S.dF x.2.2]=ae.2.1∧ []=ae.2.2)∧S.ie (S.decode b) ae.1 ae.2.1 ae.2.2∧S.ah (PV b) ae.1<S.ah (PV b) x.1)∧(decide (z0<(↑(List.length x.2.2):Int))=false→(aE ((x.1:Int)+z1))∧∃(ae:Nat×List (List UInt8)×List Int),((x.1:Int)+z1=(ae.1:Int)∧x.2.1=ae.2.1∧x.2.2=ae.2.2)∧S.ie (S.decode b) ae.1 ae.2.1 ae.2.2∧S.ah (PV b) ae.1<S.ah (PV b) x.1)))∧(decide ((x.1:Int)<(ao (S.decode b)))=false→(decide (z0<(↑(List.length x.2.2):Int))=true→S.GP x.2.2∧List.length x.2.1+List.length [S.dF x.2.2]≤(8796093022208:Nat)∧x.2.1++ [S.dF x.2.2]=S.aW b)∧(decide (z0<(↑(List.length x.2.2):Int))=false→x.2.1=S.aW b))
def Zg(s:List UInt8):Prop :=
 S.small s∧((decide ((ao (S.aW s))=z1)=true→(z0≤z0∧z0<(ao (S.aW s)))∧z0.toNat<List.length (S.aW s))∧(decide ((ao (S.aW s))=z1)=false→True))∧(bif decide ((ao (S.aW s))=z1) then decide (List.getD (S.aW s) (z0.toNat) []=s) else false)=S.isTerm s
def Zh(c:Int):Prop :=
 True∧(bif S.letter c then true else bif decide ((48:Int)≤c) then decide (c≤(57:Int)) else false)=S.eQ c
def Nj(u:List Int)(x:Nat×List UInt8):=List.getD u ((x.1:Int).toNat) z0
def Zi(u:List Int):Prop :=
 (∃(x:Nat×List UInt8),(z0=(x.1:Int)∧ []=x.2)∧S.iC u x.1 x.2)∧∀(x:Nat×List UInt8),S.iC u x.1 x.2→(decide ((x.1:Int)<(ao u))=true→(z0≤(x.1:Int)∧(x.1:Int)<(ao u))∧True∧(z0≤S.aT (Nj u x)∧S.aT (Nj u x)≤(1114111:Int))∧(aE ((↑(List.length x.2):Int)+(↑(List.length (S.enc (S.aT (Nj u x)))):Int)))∧(decide ((64:Int)<(↑(List.length x.2):Int)+(↑(List.length (S.enc (S.aT (Nj u x)))):Int))=true→x.2=S.dF u)∧(decide ((64:Int)<(↑(List.length x.2):Int)+(↑(List.length (S.enc (S.aT (Nj u x)))):Int))=false→(↑(List.length x.2+List.length (S.enc (S.aT (Nj u x)))):Int)≤(9223372036854775807:Int)∧(aE ((x.1:Int)+z1))∧∃(ae:Nat×List UInt8),((x.1:Int)+z1=(ae.1:Int)∧x.2++S.enc (S.aT (Nj u x))=ae.2)∧S.iC u ae.1 ae.2∧S.ah (S.len u) ae.1<S.ah (S.len u) x.1))∧(decide ((x.1:Int)<(ao u))=false→x.2=S.dF u)
def q40(ae:Nat×Nat)(x:Nat×List (List UInt8))(b:List UInt8):=List.take ((ae.1:Int).toNat-(x.1:Int).toNat) (List.drop ((x.1:Int).toNat) (S.decode b))
def q41(ae:Nat×Nat)(b:List UInt8):=bif decide ((ae.1:Int)<(ao (S.decode b))) then S.eQ (List.getD (S.decode b) ((ae.1:Int).toNat) z0) else false
def Zj(b:List UInt8):=S.len (S.decode b)+(1:Nat)
def Zk(b:List UInt8):Prop :=
 S.small b∧(∃(x:Nat×List (List UInt8)),(z0=(x.1:Int)∧ []=x.2)∧S.jL (S.decode b) x.1 x.2)∧∀(x:Nat×List (List UInt8)),S.jL (S.decode b) x.1 x.2→(decide ((x.1:Int)<(ao (S.decode b)))=true→(∃(ae:Nat×Nat),(x.1:Int)=(ae.1:Int)∧S.oG (S.decode b) ae.2 ae.1∧(x.1:Int)=(ae.2:Int))∧∀(ae:Nat×Nat),S.oG (S.decode b) ae.2 ae.1∧(x.1:Int)=(ae.2:Int)→((decide ((ae.1:Int)<(ao (S.decode b)))=true→(z0≤(ae.1:Int)∧(ae.1:Int)<(ao (S.decode b)))∧(ae.1:Int).toNat<List.length (S.decode b)∧True)∧(decide ((ae.1:Int)<(ao (S.decode b)))=false→True))∧((q41 ae b)=true→(aE ((ae.1:Int)+z1))∧∃(az:Nat×Nat),(ae.1:Int)+z1=(az.1:Int)∧(S.oG (S.decode b) az.2 az.1∧(x.1:Int)=(az.2:Int))∧S.ah (S.len (S.decode b)) az.1<S.ah (S.len (S.decode b)) ae.1)∧((q41 ae b)=false→(decide ((x.1:Int)<(ae.1:Int))=true→(z0≤(x.1:Int)∧(x.1:Int)≤(ae.1:Int)∧(ae.1:Int)≤(ao (S.decode b)))∧S.GP (q40 ae x b)∧List.length x.2+List.length [S.dF (q40 ae x b)]≤(8796093022208:Nat)∧(aE ((ae.1:Int)+z1))∧∃(az:Nat×List (List UInt8)),((ae.1:Int)+z1=(az.1:Int)∧x.2++ [S.dF (q40 ae x b)]=az.2)∧S.jL (S.decode b) az.1 az.2∧S.ah (Zj b) az.1<S.ah (Zj b) x.1)∧(decide ((x.1:Int)<(ae.1:Int))=false→(aE ((ae.1:Int)+z1))∧∃(az:Nat×List (List UInt8)),((ae.1:Int)+z1=(az.1:Int)∧x.2=az.2)∧S.jL (S.decode b) az.1 az.2∧S.ah (Zj b) az.1<S.ah (Zj b) x.1)))∧(decide ((x.1:Int)<(ao (S.decode b)))=false→x.2=S.aW b)
def Zl(l:List (List UInt8)):Prop :=
 (∃(x:Nat),(z1=(x:Int)∧z0=(↑(S.cL l x):Int))∧S.oU l x)∧∀(x:Nat),S.oU l x→(decide ((x:Int)<(ao l))=true→(z0≤(x:Int)∧(x:Int)<(ao l))∧(z0≤(↑(S.cL l x):Int)∧(↑(S.cL l x):Int)<(ao l))∧(aE ((x:Int)+z1))∧∃(ae:Nat),((x:Int)+z1=(ae:Int)∧(bif Op.bytesLess (List.getD l ((x:Int).toNat) []) (List.getD l (Int.toNat (↑(S.cL l x):Int)) []) then(x:Int) else(↑(S.cL l x):Int))=(↑(S.cL l ae):Int))∧S.oU l ae∧S.ah (S.len l) ae<S.ah (S.len l) x)∧(decide ((x:Int)<(ao l))=false→(↑(S.cL l x):Int)=(↑(S.cE l):Int))
def KT(x:List (List UInt8)×List (List UInt8)):=Int.toNat (↑(S.cE x.1):Int)
def Zm(l:List (List UInt8)):Prop :=
 (∃(x:List (List UInt8)×List (List UInt8)),(l=x.1∧ []=x.2)∧S.nO l x.1 x.2)∧∀(x:List (List UInt8)×List (List UInt8)),S.nO l x.1 x.2→(decide (z0<(↑(List.length x.1):Int))=true→True∧(z0≤(↑(S.cE x.1):Int)∧(↑(S.cE x.1):Int)<(↑(List.length x.1):Int))∧Int.toNat (↑(S.cE x.1):Int)<List.length x.1∧List.length x.2+List.length [List.getD x.1 (KT x) []]≤(8796093022208:Nat)∧(∃(ae:Nat×List (List UInt8)×List (List UInt8)×List UInt8),(z0=(ae.1:Int)∧ []=ae.2.1)∧S.gO ae.2.2.1 ae.2.2.2 ae.1 ae.2.1∧x.1=ae.2.2.1∧List.getD x.1 (KT x) []=ae.2.2.2)∧∀(ae:Nat×List (List UInt8)×List (List UInt8)×List UInt8),S.gO ae.2.2.1 ae.2.2.2 ae.1 ae.2.1∧x.1=ae.2.2.1∧List.getD x.1 (KT x) []=ae.2.2.2→(decide ((ae.1:Int)<(↑(List.length x.1):Int))=true→(z0≤(ae.1:Int)∧(ae.1:Int)<(↑(List.length x.1):Int))∧(ae.1:Int).toNat<List.length x.1∧((!decide (List.getD x.1 ((ae.1:Int).toNat) []=List.getD x.1 (KT x) []))=true→(z0≤(ae.1:Int)∧(ae.1:Int)<(↑(List.length x.1):Int))∧(ae.1:Int).toNat<List.length x.1∧List.length ae.2.1+List.length [List.getD x.1 ((ae.1:Int).toNat) []]≤(8796093022208:Nat)∧(aE ((ae.1:Int)+z1))∧∃(az:Nat×List (List UInt8)×List (List UInt8)×List UInt8),((ae.1:Int)+z1=(az.1:Int)∧ae.2.1++ [List.getD x.1 ((ae.1:Int).toNat) []]=az.2.1)∧(S.gO az.2.2.1 az.2.2.2 az.1 az.2.1∧x.1=az.2.2.1∧List.getD x.1 (KT x) []=az.2.2.2)∧S.ah (S.len az.2.2.1) az.1<S.ah (S.len ae.2.2.1) ae.1)∧((!decide (List.getD x.1 ((ae.1:Int).toNat) []=List.getD x.1 (KT x) []))=false→(aE ((ae.1:Int)+z1))∧∃(az:Nat×List (List UInt8)×List (List UInt8)×List UInt8),((ae.1:Int)+z1=(az.1:Int)∧ae.2.1=az.2.1)∧(S.gO az.2.2.1 az.2.2.2 az.1 az.2.1∧x.1=az.2.2.1∧List.getD x.1 (KT x) []=az.2.2.2)∧S.ah (S.len az.2.2.1) az.1<S.ah (S.len ae.2.2.1) ae.1))∧(decide ((ae.1:Int)<(↑(List.length x.1):Int))=false→∃(az:List (List UInt8)×List (List UInt8)),(ae.2.1=az.1∧x.2++ [List.getD x.1 (KT x) []]=az.2)∧S.nO l az.1 az.2∧S.len az.1<S.len x.1))∧(decide (z0<(↑(List.length x.1):Int))=false→x.2=S.sorted l)
def Zn(b:List UInt8):Prop :=
 S.small b∧S.small (S.aW b)∧S.sorted (S.aW b)=S.sorted (S.aW b)
def Zo(b:List UInt8)(t:List UInt8):Prop :=
 S.small b∧(∃(x:Nat×List Int),(z0=(x.1:Int)∧ []=x.2)∧S.iD (S.aW b) t x.1 x.2)∧∀(x:Nat×List Int),S.iD (S.aW b) t x.1 x.2→(decide ((x.1:Int)<(ao (S.aW b)))=true→(z0≤(x.1:Int)∧(x.1:Int)<(ao (S.aW b)))∧(x.1:Int).toNat<List.length (S.aW b)∧(decide (List.getD (S.aW b) ((x.1:Int).toNat) []=t)=true→List.length x.2+List.length [(x.1:Int)]≤(17592186044416:Nat)∧(aE ((x.1:Int)+z1))∧∃(ae:Nat×List Int),((x.1:Int)+z1=(ae.1:Int)∧x.2++ [(x.1:Int)]=ae.2)∧S.iD (S.aW b) t ae.1 ae.2∧S.ah (S.len (S.aW b)) ae.1<S.ah (S.len (S.aW b)) x.1)∧(decide (List.getD (S.aW b) ((x.1:Int).toNat) []=t)=false→(aE ((x.1:Int)+z1))∧∃(ae:Nat×List Int),((x.1:Int)+z1=(ae.1:Int)∧x.2=ae.2)∧S.iD (S.aW b) t ae.1 ae.2∧S.ah (S.len (S.aW b)) ae.1<S.ah (S.len (S.aW b)) x.1))∧(decide ((x.1:Int)<(ao (S.aW b)))=false→x.2=S.places b t)
def Zp(s:List UInt8):Prop :=
 (!decide (s=s))=false
def Zq(a:List UInt8)(b:List UInt8):Prop :=
 True∧True∧(false=true→(false=true→z0=S.gn a b)∧(false=false→(-1:Int)=S.gn a b))∧(false=false→(false=true→z1=S.gn a b)∧(false=false→(Op.bytesLess a b=true→(-1:Int)=S.gn a b)∧(Op.bytesLess a b=false→((!(Op.bytesLess a b || decide (a=b)))=true→z1=S.gn a b)∧((!(Op.bytesLess a b || decide (a=b)))=false→z0=S.gn a b))))
def Zr(a:List UInt8)(b:List UInt8):Prop :=
 True∧decide (S.gn a b=z0)=decide (a=b)
def Zs(l:List (List UInt8)):Prop :=
 (decide ((ao l)<(2:Int))=true→l=S.bO l)∧(decide ((ao l)<(2:Int))=false→(∃(x:Nat),z1=(x:Int)∧S.oJ l x)∧∀(x:Nat),S.oJ l x→(decide ((x:Int)<(ao l))=true→(z0≤(x:Int)∧(x:Int)<(ao l))∧(x:Int).toNat<l.length∧(aE ((x:Int)-z1))∧(z0≤(x:Int)-z1∧(x:Int)-z1<(ao l))∧Int.toNat ((x:Int)-z1)<l.length∧True∧(decide (List.getD l ((x:Int).toNat) []=List.getD l (Int.toNat ((x:Int)-z1)) [])=true→(z0≤(x:Int)∧(x:Int)≤(ao l))∧(∃(ae:Nat×Nat×List (List UInt8)×Nat),((x:Int)=(ae.1:Int)∧z1=(ae.2.1:Int)∧l=ae.2.2.1)∧S.jM l ae.2.2.2 ae.1 ae.2.1 ae.2.2.1∧(x:Int)=(ae.2.2.2:Int))∧∀(ae:Nat×Nat×List (List UInt8)×Nat),S.jM l ae.2.2.2 ae.1 ae.2.1 ae.2.2.1∧(x:Int)=(ae.2.2.2:Int)→(decide ((ae.2.1:Int)<(↑(l.length-(x:Int).toNat):Int))=true→(z0≤(ae.2.1:Int)∧(ae.2.1:Int)<(↑(l.length-(x:Int).toNat):Int))∧(x:Int).toNat+(ae.2.1:Int).toNat<List.length ae.2.2.1∧(aE ((ae.2.1:Int)-z1))∧(z0≤(ae.2.1:Int)-z1∧(ae.2.1:Int)-z1<(↑(l.length-(x:Int).toNat):Int))∧(x:Int).toNat+Int.toNat ((ae.2.1:Int)-z1)<List.length ae.2.2.1∧True∧(((!decide (List.getD ae.2.2.1 ((x:Int).toNat+(ae.2.1:Int).toNat) []=List.getD ae.2.2.1 ((x:Int).toNat+Int.toNat ((ae.2.1:Int)-z1)) []))=true→(z0≤(ae.2.1:Int)∧(ae.2.1:Int)<(↑(l.length-(x:Int).toNat):Int))∧(x:Int).toNat+(ae.2.1:Int).toNat<List.length ae.2.2.1∧(z0≤(ae.1:Int)∧(ae.1:Int)<(↑(List.length ae.2.2.1):Int))∧(ae.1:Int).toNat<List.length ae.2.2.1∧aE ((ae.1:Int)+z1))∧((!decide (List.getD ae.2.2.1 ((x:Int).toNat+(ae.2.1:Int).toNat) []=List.getD ae.2.2.1 ((x:Int).toNat+Int.toNat ((ae.2.1:Int)-z1)) []))=false→True))∧(aE ((ae.2.1:Int)+z1))∧∃(az:Nat×Nat×List (List UInt8)×Nat),((bif !decide (List.getD ae.2.2.1 ((x:Int).toNat+(ae.2.1:Int).toNat) []=List.getD ae.2.2.1 ((x:Int).toNat+Int.toNat ((ae.2.1:Int)-z1)) []) then(ae.1:Int)+z1 else(ae.1:Int))=(az.1:Int)∧(ae.2.1:Int)+z1=(az.2.1:Int)∧(bif !decide (List.getD ae.2.2.1 ((x:Int).toNat+(ae.2.1:Int).toNat) []=List.getD ae.2.2.1 ((x:Int).toNat+Int.toNat ((ae.2.1:Int)-z1)) []) then List.set ae.2.2.1 ((ae.1:Int).toNat) (List.getD ae.2.2.1 ((x:Int).toNat+(ae.2.1:Int).toNat) []) else ae.2.2.1)=az.2.2.1)∧(S.jM l az.2.2.2 az.1 az.2.1 az.2.2.1∧(x:Int)=(az.2.2.2:Int))∧S.ah (S.len l) az.2.1<S.ah (S.len l) ae.2.1)∧(decide ((ae.2.1:Int)<(↑(l.length-(x:Int).toNat):Int))=false→(z0≤(ae.1:Int)∧(ae.1:Int)≤(↑(List.length ae.2.2.1):Int))∧(((ae.1:Int).toNat)+(List.length ae.2.2.1-(ae.1:Int).toNat))≤List.length ae.2.2.1∧(z0≤(ae.1:Int)∧(ae.1:Int)≤(↑(List.length (List.take ((ae.1:Int).toNat) ae.2.2.1++List.replicate (List.length ae.2.2.1-(ae.1:Int).toNat) (Vg.fu UInt8)++List.drop ((((ae.1:Int).toNat)+(List.length ae.2.2.1-(ae.1:Int).toNat))) ae.2.2.1)):Int))∧List.take ((ae.1:Int).toNat) (List.take ((ae.1:Int).toNat) ae.2.2.1++List.replicate (List.length ae.2.2.1-(ae.1:Int).toNat) (Vg.fu UInt8)++List.drop ((((ae.1:Int).toNat)+(List.length ae.2.2.1-(ae.1:Int).toNat))) ae.2.2.1)=S.bO l))∧(decide (List.getD l ((x:Int).toNat) []=List.getD l (Int.toNat ((x:Int)-z1)) [])=false→(aE ((x:Int)+z1))∧∃(ae:Nat),(x:Int)+z1=(ae:Int)∧S.oJ l ae∧S.ah (S.len l) ae<S.ah (S.len l) x))∧(decide ((x:Int)<(ao l))=false→l=S.bO l))
def Zt(l:List (List UInt8)):Prop :=
 S.small l∧S.small l∧S.small (S.gp l)∧S.bO (S.gp l)=S.bO (S.gp l)
def Zu(b:List UInt8):Prop :=
 S.small b∧S.small (S.aW b)∧S.bO (S.gp (S.aW b))=S.sorted (S.aW b)
def q44(l:List Int)(x:Nat):=bif decide (List.getD l ((x:Int).toNat) z0≤S.mG l x) then true else decide ((1000:Int)≤List.getD l ((x:Int).toNat) z0)
def Zv(l:List Int):Prop :=
 (∃(x:Nat),(z0=(x:Int)∧(-1:Int)=S.mG l x)∧S.kT l x)∧∀(x:Nat),S.kT l x→(decide ((x:Int)<(ao l))=true→(z0≤(x:Int)∧(x:Int)<(ao l))∧((q44 l x)=true→false=S.fN l)∧((q44 l x)=false→(aE ((x:Int)+z1))∧∃(ae:Nat),((x:Int)+z1=(ae:Int)∧List.getD l ((x:Int).toNat) z0=S.mG l ae)∧S.kT l ae∧S.ah (S.len l) ae<S.ah (S.len l) x))∧(decide ((x:Int)<(ao l))=false→true=S.fN l)
def Zw(n:Int)(p:Bool)(q:Bool)(s1:Int)(s2:Int):Prop :=
 (bif decide (s1≤n) then decide (n<s2) else false)=S.pR n s1 s2∧s1=s1∧s2=s2
def Zx(x:List Int×List Int):=bif bif decide (z0<(↑(List.length S.fO):Int)) then bif decide ((↑(List.length x.1):Int)=z0) then true else decide (List.getD S.fO (z0.toNat) z0≤List.getD x.1 (z0.toNat) z0) else false then List.getD S.fO (z0.toNat) z0 else bif bif decide (z0<(↑(List.length x.1):Int)) then bif decide ((↑(List.length S.fO):Int)=z0) then true else decide (List.getD x.1 (z0.toNat) z0≤List.getD S.fO (z0.toNat) z0) else false then List.getD x.1 (z0.toNat) z0 else z0
def zL:=List.length S.fO
def q47(x:List Int×List Int):=bif bif decide (z0<(zL:Int)) then bif decide ((↑(List.length x.1):Int)=z0) then true else decide (List.getD S.fO (z0.toNat) z0≤List.getD x.1 (z0.toNat) z0) else false then List.drop (z1.toNat) S.fO else S.fO
def q48(x:List Int×List Int):=bif bif decide (z0<(↑(List.length x.1):Int)) then bif decide ((zL:Int)=z0) then true else decide (List.getD x.1 (z0.toNat) z0≤List.getD S.fO (z0.toNat) z0) else false then List.drop (z1.toNat) x.1 else x.1
def q49(x:List Int×List Int):=bif decide (z0<(↑(List.length x.1):Int)) then bif decide ((zL:Int)=z0) then true else decide (List.getD x.1 (z0.toNat) z0≤List.getD S.fO (z0.toNat) z0) else false
def q50(x:List Int×List Int):=bif decide (z0<(zL:Int)) then bif decide ((↑(List.length x.1):Int)=z0) then true else decide (List.getD S.fO (z0.toNat) z0≤List.getD x.1 (z0.toNat) z0) else false
def q51(x:List Int×List Int):=bif decide (z0<(↑(List.length x.1):Int)) then true else decide (z0<(zL:Int))
def Zy(a:List Int)(b:List Int)(s1:Int)(s2:Int):Prop :=
 True∧True∧(∃(x:List Int×List Int),((bif !S.fN a then [] else a)=x.1∧(bif !S.fN b then [] else b)=S.fO∧ []=x.2∧s1=s1∧s2=s2)∧S.jN a s1 s2 x.1 x.2)∧∀(x:List Int×List Int),S.jN a s1 s2 x.1 x.2→((q51 x)=true→((decide (z0<(↑(List.length x.1):Int))=true→(decide ((zL:Int)=z0)=true→True)∧(decide ((zL:Int)=z0)=false→(z0≤z0∧z0<(↑(List.length x.1):Int))∧z0≤z0∧z0<(zL:Int)))∧(decide (z0<(↑(List.length x.1):Int))=false→True))∧((decide (z0<(zL:Int))=true→(decide ((↑(List.length x.1):Int)=z0)=true→True)∧(decide ((↑(List.length x.1):Int)=z0)=false→(z0≤z0∧z0<(zL:Int))∧z0≤z0∧z0<(↑(List.length x.1):Int)))∧(decide (z0<(zL:Int))=false→True))∧(((q49 x)=true→(z0≤z0∧z0<(↑(List.length x.1):Int))∧z0≤z1∧z1≤(↑(List.length x.1):Int))∧((q49 x)=false→True))∧(((q50 x)=true→(z0≤z0∧z0<(zL:Int))∧z0≤z1∧z1≤(zL:Int))∧((q50 x)=false→True))∧True∧(S.pR (Zx x) s1 s2=true→List.length x.2+List.length [Zx x]≤(17592186044416:Nat)∧∃(ae:List Int×List Int),((q48 x)=ae.1∧(q47 x)=S.fO∧x.2++ [Zx x]=ae.2∧s1=s1∧s2=s2)∧S.jN a s1 s2 ae.1 ae.2∧S.len ae.1<S.len x.1)∧(S.pR (Zx x) s1 s2=false→∃(ae:List Int×List Int),((q48 x)=ae.1∧(q47 x)=S.fO∧x.2=ae.2∧s1=s1∧s2=s2)∧S.jN a s1 s2 ae.1 ae.2∧S.len ae.1<S.len x.1))∧((q51 x)=false→s1=s1∧s2=s2∧x.2=S.EJ a s1 s2)
def Zz(l:List Int)(s1:Int)(s2:Int):Prop :=
 List.length (Vg.fu Int)=(0:Nat)∧S.EJ l s1 s2=S.EJ l s1 s2
def ZA(a:List Int)(b:List Int):Prop :=
 ((!decide ((ao a)=(ao b)))=true→false=S.mH a b)∧((!decide ((ao a)=(ao b)))=false→(∃(x:Nat),z0=(x:Int)∧S.qw a b x)∧∀(x:Nat),S.qw a b x→(decide ((x:Int)<(ao a))=true→(z0≤(x:Int)∧(x:Int)<(ao a))∧(z0≤(x:Int)∧(x:Int)<(ao b))∧((!decide (List.getD a ((x:Int).toNat) z0=List.getD b ((x:Int).toNat) z0))=true→false=S.mH a b)∧((!decide (List.getD a ((x:Int).toNat) z0=List.getD b ((x:Int).toNat) z0))=false→(aE ((x:Int)+z1))∧∃(ae:Nat),(x:Int)+z1=(ae:Int)∧S.qw a b ae∧S.ah (S.len a) ae<S.ah (S.len a) x))∧(decide ((x:Int)<(ao a))=false→true=S.mH a b))
def Fz(d:List (List UInt8×List Int))(x:Nat):=List.getD d ((x:Int).toNat) ([],[])
def q53(x:Nat)(d:List (List UInt8×List Int)):=bif decide (z0<(x:Int)) then Op.bytesLess ((Fz d x).1) ((List.getD d (Int.toNat ((x:Int)-z1)) ([],[])).1) || decide ((Fz d x).1=(List.getD d (Int.toNat ((x:Int)-z1)) ([],[])).1) else false
def q54(d:List (List UInt8×List Int))(x:Nat):=bif decide ((↑(List.length ((Fz d x).2)):Int)=z0) then true else bif !S.fN ((Fz d x).2) then true else !S.isTerm ((Fz d x).1)
def ZB(d:List (List UInt8×List Int)):Prop :=
 (∃(x:Nat),z0=(x:Int)∧S.BG d x)∧∀(x:Nat),S.BG d x→(decide ((x:Int)<(ao d))=true→(z0≤(x:Int)∧(x:Int)<(ao d))∧((decide (z0<(x:Int))=true→(aE ((x:Int)-z1))∧z0≤(x:Int)-z1∧(x:Int)-z1<(ao d))∧(decide (z0<(x:Int))=false→True))∧((q53 x d)=true→false=S.dJ d)∧((q53 x d)=false→((decide ((↑(List.length ((Fz d x).2)):Int)=z0)=true→True)∧(decide ((↑(List.length ((Fz d x).2)):Int)=z0)=false→True∧((!S.fN ((Fz d x).2))=true→True)∧((!S.fN ((Fz d x).2))=false→S.small ((Fz d x).1))))∧((q54 d x)=true→false=S.dJ d)∧((q54 d x)=false→(aE ((x:Int)+z1))∧∃(ae:Nat),(x:Int)+z1=(ae:Int)∧S.BG d ae∧S.ah (S.len d) ae<S.ah (S.len d) x)))∧(decide ((x:Int)<(ao d))=false→true=S.dJ d)
def ZC(docs:List (List UInt8))(s1:Int)(s2:Int):Prop :=
 (∃(x:Nat),z0=(x:Int)∧S.lW docs x)∧∀(x:Nat),S.lW docs x→(decide ((x:Int)<(ao docs))=true→(z0≤(x:Int)∧(x:Int)<(ao docs))∧(decide ((2000:Int)<(↑(List.length (List.getD docs ((x:Int).toNat) [])):Int))=true→false=S.cF docs s1 s2)∧(decide ((2000:Int)<(↑(List.length (List.getD docs ((x:Int).toNat) [])):Int))=false→(aE ((x:Int)+z1))∧∃(ae:Nat),(x:Int)+z1=(ae:Int)∧S.lW docs ae∧S.ah (S.len docs) ae<S.ah (S.len docs) x))∧(decide ((x:Int)<(ao docs))=false→(bif decide ((ao docs)≤(1000:Int)) then bif decide (z0≤s1) then bif decide (s1≤s2) then decide (s2≤(ao docs)) else false else false else false)=S.cF docs s1 s2)
def ZD(b:List UInt8)(t:List UInt8):Prop :=
 S.small b∧decide (z0<(ao (S.places b t)))=S.pT b t
def q55(a:List (List UInt8×List Int))(x:Nat)(b:List (List UInt8×List Int)):=bif !decide ((List.getD a ((x:Int).toNat) ([],[])).1=(List.getD b ((x:Int).toNat) ([],[])).1) then true else !S.mH ((List.getD a ((x:Int).toNat) ([],[])).2) ((List.getD b ((x:Int).toNat) ([],[])).2)
def ZE(a:List (List UInt8×List Int))(b:List (List UInt8×List Int)):Prop :=
 ((!decide ((ao a)=(ao b)))=true→false=S.fx a b)∧((!decide ((ao a)=(ao b)))=false→(∃(x:Nat),z0=(x:Int)∧S.jh a b x)∧∀(x:Nat),S.jh a b x→(decide ((x:Int)<(ao a))=true→(z0≤(x:Int)∧(x:Int)<(ao a))∧(z0≤(x:Int)∧(x:Int)<(ao b))∧(((!decide ((List.getD a ((x:Int).toNat) ([],[])).1=(List.getD b ((x:Int).toNat) ([],[])).1))=true→True)∧((!decide ((List.getD a ((x:Int).toNat) ([],[])).1=(List.getD b ((x:Int).toNat) ([],[])).1))=false→(z0≤(x:Int)∧(x:Int)<(ao a))∧(z0≤(x:Int)∧(x:Int)<(ao b))∧True))∧((q55 a x b)=true→false=S.fx a b)∧((q55 a x b)=false→(aE ((x:Int)+z1))∧∃(ae:Nat),(x:Int)+z1=(ae:Int)∧S.jh a b ae∧S.ah (S.len a) ae<S.ah (S.len a) x))∧(decide ((x:Int)<(ao a))=false→true=S.fx a b))
def ZF(a:List (List UInt8))(b:List (List UInt8)):Prop :=
 ((!decide ((ao a)=(ao b)))=true→false=S.lu a b)∧((!decide ((ao a)=(ao b)))=false→(∃(x:Nat),z0=(x:Int)∧S.nP a b x)∧∀(x:Nat),S.nP a b x→(decide ((x:Int)<(ao a))=true→(z0≤(x:Int)∧(x:Int)<(ao a))∧(z0≤(x:Int)∧(x:Int)<(ao b))∧((!decide (List.getD a ((x:Int).toNat) []=List.getD b ((x:Int).toNat) []))=true→false=S.lu a b)∧((!decide (List.getD a ((x:Int).toNat) []=List.getD b ((x:Int).toNat) []))=false→(aE ((x:Int)+z1))∧∃(ae:Nat),(x:Int)+z1=(ae:Int)∧S.nP a b ae∧S.ah (S.len a) ae<S.ah (S.len a) x))∧(decide ((x:Int)<(ao a))=false→true=S.lu a b))
def zM(docs:List (List UInt8))(s1:Int)(x:Nat):=S.sorted (S.fo docs s1 x)
def ZG(docs:List (List UInt8))(s1:Int)(s2:Int):Prop :=
 (∃(x:Nat),(s1=s1+(x:Int)∧ []=S.fo docs s1 x)∧S.eh s1 s2 x)∧∀(x:Nat),S.eh s1 s2 x→(decide (s1+(x:Int)<s2)=true→(z0≤s1+(x:Int)∧s1+(x:Int)<(ao docs))∧S.small (List.getD docs (Int.toNat (s1+(x:Int))) [])∧List.length (S.fo docs s1 x)+List.length (S.sorted (S.aW (List.getD docs (Int.toNat (s1+(x:Int))) [])))≤(8796093022208:Nat)∧(aE (s1+(x:Int)+z1))∧∃(ae:Nat),(s1+(x:Int)+z1=s1+(ae:Int)∧S.fo docs s1 x++S.sorted (S.aW (List.getD docs (Int.toNat (s1+(x:Int))) []))=S.fo docs s1 ae)∧S.eh s1 s2 ae∧S.ah (Int.toNat (s2-s1)) ae<S.ah (Int.toNat (s2-s1)) x)∧(decide (s1+(x:Int)<s2)=false→S.small (S.fo docs s1 x)∧(∃(x:Nat),(z0=(x:Int)∧ []=S.jv docs s1 s2 x)∧S.eb (S.bP docs s1 s2) x)∧∀(ae:Nat),S.eb (S.bP docs s1 s2) ae→(decide ((ae:Int)<(↑(List.length (zM docs s1 x)):Int))=true→(z0≤(ae:Int)∧(ae:Int)<(↑(List.length (zM docs s1 x)):Int))∧(ae:Int).toNat<List.length (zM docs s1 x)∧(∃(az:Nat×List UInt8),(s1=s1+(az.1:Int)∧List.getD (zM docs s1 x) ((ae:Int).toNat) []=az.2∧ []=S.bD docs s1 az.2 az.1)∧S.eh s1 s2 az.1∧List.getD (zM docs s1 x) ((ae:Int).toNat) []=az.2)∧∀(az:Nat×List UInt8),S.eh s1 s2 az.1∧List.getD (zM docs s1 x) ((ae:Int).toNat) []=az.2→(decide (s1+(az.1:Int)<s2)=true→(z0≤s1+(az.1:Int)∧s1+(az.1:Int)<(ao docs))∧(z0≤(ae:Int)∧(ae:Int)<(↑(List.length (zM docs s1 x)):Int))∧(ae:Int).toNat<List.length (zM docs s1 x)∧S.small (List.getD docs (Int.toNat (s1+(az.1:Int))) [])∧(S.pT (List.getD docs (Int.toNat (s1+(az.1:Int))) []) (List.getD (zM docs s1 x) ((ae:Int).toNat) [])=true→List.length (S.bD docs s1 az.2 az.1)+List.length [s1+(az.1:Int)]≤(17592186044416:Nat)∧(aE (s1+(az.1:Int)+z1))∧∃(hY:Nat×List UInt8),(s1+(az.1:Int)+z1=s1+(hY.1:Int)∧az.2=hY.2∧S.bD docs s1 az.2 az.1++ [s1+(az.1:Int)]=S.bD docs s1 hY.2 hY.1)∧(S.eh s1 s2 hY.1∧List.getD (zM docs s1 x) ((ae:Int).toNat) []=hY.2)∧S.ah (Int.toNat (s2-s1)) hY.1<S.ah (Int.toNat (s2-s1)) az.1)∧(S.pT (List.getD docs (Int.toNat (s1+(az.1:Int))) []) (List.getD (zM docs s1 x) ((ae:Int).toNat) [])=false→(aE (s1+(az.1:Int)+z1))∧∃(hY:Nat×List UInt8),(s1+(az.1:Int)+z1=s1+(hY.1:Int)∧az.2=hY.2∧S.bD docs s1 az.2 az.1=S.bD docs s1 hY.2 hY.1)∧(S.eh s1 s2 hY.1∧List.getD (zM docs s1 x) ((ae:Int).toNat) []=hY.2)∧S.ah (Int.toNat (s2-s1)) hY.1<S.ah (Int.toNat (s2-s1)) az.1))∧(decide (s1+(az.1:Int)<s2)=false→List.length (S.jv docs s1 s2 ae)+List.length [(az.2,S.bD docs s1 az.2 az.1)]≤(3518437208883:Nat)∧(aE ((ae:Int)+z1))∧∃(x:Nat),((ae:Int)+z1=(x:Int)∧S.jv docs s1 s2 ae++ [(az.2,S.bD docs s1 az.2 az.1)]=S.jv docs s1 s2 x)∧S.eb (S.bP docs s1 s2) x∧S.ah (S.len (S.bP docs s1 s2)) x<S.ah (S.len (S.bP docs s1 s2)) ae))∧(decide ((ae:Int)<(↑(List.length (zM docs s1 x)):Int))=false→S.jv docs s1 s2 ae=S.make docs s1 s2))
def ZH(s1:Int)(s2:Int):Prop :=
 (bif decide (z0≤s1) then bif decide (s1<s2) then decide (s2≤(1000:Int)) else false else false)=S.jb s1 s2
def q57(s3:List (List UInt8×List Int))(x:Nat)(s1 s2:Int):= !decide ((↑(List.length (S.EJ ((List.getD s3 ((x:Int).toNat) ([],[])).2) s1 s2)):Int)=(↑(List.length ((List.getD s3 ((x:Int).toNat) ([],[])).2)):Int))
def ZI(s1:Int)(s2:Int)(s3:List (List UInt8×List Int)):Prop :=
 True∧(((!S.jb s1 s2)=true→True)∧((!S.jb s1 s2)=false→S.jO s3))∧((bif !S.jb s1 s2 then true else !S.dJ s3)=true→false=S.ig s1 s2 s3)∧((bif !S.jb s1 s2 then true else !S.dJ s3)=false→(∃(x:Nat),z0=(x:Int)∧S.qz s1 s2 s3 x)∧∀(x:Nat),S.qz s1 s2 s3 x→(decide ((x:Int)<(ao s3))=true→(z0≤(x:Int)∧(x:Int)<(ao s3))∧True∧((q57 s3 x s1 s2)=true→false=S.ig s1 s2 s3)∧((q57 s3 x s1 s2)=false→(aE ((x:Int)+z1))∧∃(ae:Nat),(x:Int)+z1=(ae:Int)∧S.qz s1 s2 s3 ae∧S.ah (S.len s3) ae<S.ah (S.len s3) x))∧(decide ((x:Int)<(ao s3))=false→true=S.ig s1 s2 s3))
def ZJ(docs:List (List UInt8))(s1:Int)(s2:Int):Prop :=
 True∧((!decide ((S.gy docs s1 s2).2=z0))=true→z0=((S.cx docs s1 s2).1).1∧z0=(((S.cx docs s1 s2).1).2).1∧ []=(((S.cx docs s1 s2).1).2).2∧(S.gy docs s1 s2).2=(S.cx docs s1 s2).2)∧((!decide ((S.gy docs s1 s2).2=z0))=false→(decide (s1=s2)=true→z0=((S.cx docs s1 s2).1).1∧z0=(((S.cx docs s1 s2).1).2).1∧ []=(((S.cx docs s1 s2).1).2).2∧z1=(S.cx docs s1 s2).2)∧(decide (s1=s2)=false→s1=((S.cx docs s1 s2).1).1∧s2=(((S.cx docs s1 s2).1).2).1∧(S.gy docs s1 s2).1=(((S.cx docs s1 s2).1).2).2∧z0=(S.cx docs s1 s2).2))
def ZK(docs:List (List UInt8))(s1:Int)(s2:Int):Prop :=
 True∧(bif S.cF docs s1 s2 then decide (s1<s2) else false)=S.cM docs s1 s2
def ZL(docs:List (List UInt8))(s1:Int)(s2:Int):Prop :=
 S.eG docs s1 s2∧s1=s1∧s2=s2∧S.make docs s1 s2=S.make docs s1 s2
def ZM(a1:Int)(a2:Int)(a3:List (List UInt8×List Int))(b1:Int)(b2:Int)(b3:List (List UInt8×List Int)):Prop :=
 ((Bool.rec false (decide (a2=b2)) (decide (a1=b1))=true→True)∧(Bool.rec false (decide (a2=b2)) (decide (a1=b1))=false→True))∧(bif Bool.rec false (decide (a2=b2)) (decide (a1=b1)) then S.fx a3 b3 else false)=S.lY a1 a2 a3 b1 b2 b3
def q58(d:List (List UInt8×List Int))(x:Nat):=bif decide ((200:Int)<(↑(List.length ((List.getD d ((x:Int).toNat) ([],[])).1)):Int)) then true else decide ((200:Int)<(↑(List.length ((List.getD d ((x:Int).toNat) ([],[])).2)):Int))
def ZN(d:List (List UInt8×List Int)):Prop :=
 (∃(x:Nat),z0=(x:Int)∧S.uZ d x)∧∀(x:Nat),S.uZ d x→(decide ((x:Int)<(ao d))=true→(z0≤(x:Int)∧(x:Int)<(ao d))∧((decide ((200:Int)<(↑(List.length ((List.getD d ((x:Int).toNat) ([],[])).1)):Int))=true→True)∧(decide ((200:Int)<(↑(List.length ((List.getD d ((x:Int).toNat) ([],[])).1)):Int))=false→z0≤(x:Int)∧(x:Int)<(ao d)))∧((q58 d x)=true→true=S.gu d)∧((q58 d x)=false→(aE ((x:Int)+z1))∧∃(ae:Nat),(x:Int)+z1=(ae:Int)∧S.uZ d ae∧S.ah (S.len d) ae<S.ah (S.len d) x))∧(decide ((x:Int)<(ao d))=false→decide ((100:Int)<(ao d))=S.gu d)
def ZO(docs:List (List UInt8)):Prop :=
 (∃(x:Nat),z0=(x:Int)∧S.u3 docs x)∧∀(x:Nat),S.u3 docs x→(decide ((x:Int)<(ao docs))=true→(z0≤(x:Int)∧(x:Int)<(ao docs))∧(decide ((2500:Int)<(↑(List.length (List.getD docs ((x:Int).toNat) [])):Int))=true→true=S.la docs)∧(decide ((2500:Int)<(↑(List.length (List.getD docs ((x:Int).toNat) [])):Int))=false→(aE ((x:Int)+z1))∧∃(ae:Nat),(x:Int)+z1=(ae:Int)∧S.u3 docs ae∧S.ah (S.len docs) ae<S.ah (S.len docs) x))∧(decide ((x:Int)<(ao docs))=false→decide ((40:Int)<(ao docs))=S.la docs)
def ZP(s1:Int)(s2:Int)(s3:List (List UInt8×List Int)):Prop :=
 s1=s1∧s2=s2∧s3=s3
def ZQ(l:List (Int×Int×List (List UInt8×List Int)))(az:Nat×Nat):=List.getD (((List.getD l ((az.1:Int).toNat) (z0,z0,[])).2).2) (Int.toNat (List.getD (S.bc l az.2 az.1) ((az.1:Int).toNat) z0)) ([],[])
def FA(l:List (Int×Int×List (List UInt8×List Int)))(ae:Nat×Nat):=Int.toNat (S.cN l (S.aC l ae.2) ae.1)
def PW(l:List (Int×Int×List (List UInt8×List Int)))(az:Nat×Nat):=List.length (((List.getD l ((az.1:Int).toNat) (z0,z0,[])).2).2)
def V1(az:Nat×Nat)(l:List (Int×Int×List (List UInt8×List Int))):=z0≤(az.1:Int)∧(az.1:Int)<(ao (S.bc l az.2 az.1))
def vz(l:List (Int×Int×List (List UInt8×List Int)))(az:Nat×Nat):=S.bc l az.2 az.1
def Ct(az:Nat×Nat):=(az.1:Int).toNat
def GU(ae:Nat×Nat):=(ae.1:Int).toNat
def ZR(l:List (Int×Int×List (List UInt8×List Int))):Prop :=
 (z0≤(ao l)∧(ao l)≤(ao l)∧(ao l)≤Cr/(↑(8:Nat):Int))∧(∃(x:Nat),([]=S.cy l x∧List.replicate (Int.toNat (ao l)) z0=S.aC l x)∧x≤S.uL l)∧∀(x:Nat),x≤S.uL l→(∃(ae:Nat×Nat),(z0=(ae.1:Int)∧(-1:Int)=S.cN l (S.aC l ae.2) ae.1)∧(ae.1≤l.length∧ae.2≤S.uL l)∧S.aC l x=S.aC l ae.2)∧∀(ae:Nat×Nat),(ae.1≤l.length∧ae.2≤S.uL l)∧S.aC l x=S.aC l ae.2→(decide ((ae.1:Int)<(ao l))=true→(z0≤(ae.1:Int)∧(ae.1:Int)<(ao l))∧(z0≤(ae.1:Int)∧(ae.1:Int)<(ao (S.aC l x)))∧(ae.1:Int).toNat<List.length (S.aC l x)∧(decide (List.getD (S.aC l x) (GU ae) z0=(↑(List.length (((List.getD l (GU ae) (z0,z0,[])).2).2)):Int))=true→(aE ((ae.1:Int)+z1))∧∃(az:Nat×Nat),((ae.1:Int)+z1=(az.1:Int)∧S.cN l (S.aC l ae.2) ae.1=S.cN l (S.aC l az.2) az.1)∧((az.1≤l.length∧az.2≤S.uL l)∧S.aC l x=S.aC l az.2)∧S.ah (S.len l) az.1<S.ah (S.len l) ae.1)∧(decide (List.getD (S.aC l x) (GU ae) z0=(↑(List.length (((List.getD l (GU ae) (z0,z0,[])).2).2)):Int))=false→((decide (S.cN l (S.aC l ae.2) ae.1<z0)=true→True)∧(decide (S.cN l (S.aC l ae.2) ae.1<z0)=false→(z0≤(ae.1:Int)∧(ae.1:Int)<(ao (S.aC l x)))∧(ae.1:Int).toNat<List.length (S.aC l x)∧(z0≤List.getD (S.aC l x) (GU ae) z0∧List.getD (S.aC l x) (GU ae) z0<(↑(List.length (((List.getD l (GU ae) (z0,z0,[])).2).2)):Int))∧(z0≤S.cN l (S.aC l ae.2) ae.1∧S.cN l (S.aC l ae.2) ae.1<(ao l))∧(z0≤S.cN l (S.aC l ae.2) ae.1∧S.cN l (S.aC l ae.2) ae.1<(ao (S.aC l x)))∧Int.toNat (S.cN l (S.aC l ae.2) ae.1)<List.length (S.aC l x)∧z0≤List.getD (S.aC l x) (FA l ae) z0∧List.getD (S.aC l x) (FA l ae) z0<(↑(List.length (((List.getD l (FA l ae) (z0,z0,[])).2).2)):Int)))∧(aE ((ae.1:Int)+z1))∧∃(az:Nat×Nat),((ae.1:Int)+z1=(az.1:Int)∧(bif bif decide (S.cN l (S.aC l ae.2) ae.1<z0) then true else Op.bytesLess ((List.getD (((List.getD l (GU ae) (z0,z0,[])).2).2) (Int.toNat (List.getD (S.aC l x) (GU ae) z0)) ([],[])).1) ((List.getD (((List.getD l (FA l ae) (z0,z0,[])).2).2) (Int.toNat (List.getD (S.aC l x) (FA l ae) z0)) ([],[])).1) then(ae.1:Int) else S.cN l (S.aC l ae.2) ae.1)=S.cN l (S.aC l az.2) az.1)∧((az.1≤l.length∧az.2≤S.uL l)∧S.aC l x=S.aC l az.2)∧S.ah (S.len l) az.1<S.ah (S.len l) ae.1))∧(decide ((ae.1:Int)<(ao l))=false→(decide (S.cN l (S.aC l ae.2) ae.1<z0)=true→S.cy l x=S.ni l)∧(decide (S.cN l (S.aC l ae.2) ae.1<z0)=false→(z0≤S.cN l (S.aC l ae.2) ae.1∧S.cN l (S.aC l ae.2) ae.1<(ao l))∧(z0≤S.cN l (S.aC l ae.2) ae.1∧S.cN l (S.aC l ae.2) ae.1<(ao (S.aC l x)))∧Int.toNat (S.cN l (S.aC l ae.2) ae.1)<List.length (S.aC l x)∧(z0≤List.getD (S.aC l x) (FA l ae) z0∧List.getD (S.aC l x) (FA l ae) z0<(↑(List.length (((List.getD l (FA l ae) (z0,z0,[])).2).2)):Int))∧(∃(az:Nat×Nat),(z0=(az.1:Int)∧S.aC l x=S.bc l az.2 az.1∧(List.getD (((List.getD l (FA l ae) (z0,z0,[])).2).2) (Int.toNat (List.getD (S.aC l x) (FA l ae) z0)) ([],[])).1=S.lF l az.2∧ []=S.cR l (S.lF l az.2) az.1)∧(az.1≤l.length∧az.2<S.uL l)∧S.cy l x=S.cy l az.2)∧∀(az:Nat×Nat),(az.1≤l.length∧az.2<S.uL l)∧S.cy l x=S.cy l az.2→(decide ((az.1:Int)<(ao l))=true→(z0≤(az.1:Int)∧(az.1:Int)<(ao l))∧(V1 az l)∧(az.1:Int).toNat<List.length (vz l az)∧((decide (List.getD (vz l az) (Ct az) z0<(↑(PW l az):Int))=true→(V1 az l)∧(az.1:Int).toNat<List.length (vz l az)∧z0≤List.getD (vz l az) (Ct az) z0∧List.getD (vz l az) (Ct az) z0<(↑(PW l az):Int))∧(decide (List.getD (vz l az) (Ct az) z0<(↑(PW l az):Int))=false→True))∧((bif decide (List.getD (vz l az) (Ct az) z0<(↑(PW l az):Int)) then decide ((ZQ l az).1=S.lF l az.2) else false)=true→(V1 az l)∧(az.1:Int).toNat<List.length (vz l az)∧(z0≤List.getD (vz l az) (Ct az) z0∧List.getD (vz l az) (Ct az) z0<(↑(PW l az):Int))∧List.length (S.cR l (S.lF l az.2) az.1)+List.length ((ZQ l az).2)≤(17592186044416:Nat)∧(V1 az l)∧(az.1:Int).toNat<List.length (vz l az)∧(aE (List.getD (vz l az) (Ct az) z0+z1))∧(V1 az l)∧(az.1:Int).toNat<List.length (vz l az)∧(aE ((az.1:Int)+z1))∧∃(hY:Nat×Nat),((az.1:Int)+z1=(hY.1:Int)∧List.set (vz l az) (Ct az) (List.getD (vz l az) (Ct az) z0+z1)=S.bc l hY.2 hY.1∧S.lF l az.2=S.lF l hY.2∧S.cR l (S.lF l az.2) az.1++(ZQ l az).2=S.cR l (S.lF l hY.2) hY.1)∧((hY.1≤l.length∧hY.2<S.uL l)∧S.cy l x=S.cy l hY.2)∧S.ah (S.len l) hY.1<S.ah (S.len l) az.1)∧((bif decide (List.getD (vz l az) (Ct az) z0<(↑(PW l az):Int)) then decide ((ZQ l az).1=S.lF l az.2) else false)=false→(aE ((az.1:Int)+z1))∧∃(hY:Nat×Nat),((az.1:Int)+z1=(hY.1:Int)∧S.bc l az.2 az.1=S.bc l hY.2 hY.1∧S.lF l az.2=S.lF l hY.2∧S.cR l (S.lF l az.2) az.1=S.cR l (S.lF l hY.2) hY.1)∧((hY.1≤l.length∧hY.2<S.uL l)∧S.cy l x=S.cy l hY.2)∧S.ah (S.len l) hY.1<S.ah (S.len l) az.1))∧(decide ((az.1:Int)<(ao l))=false→List.length (S.cy l x)+List.length [(S.lF l az.2,S.cR l (S.lF l az.2) az.1)]≤(3518437208883:Nat)∧∃(hY:Nat),(S.cy l x++ [(S.lF l az.2,S.cR l (S.lF l az.2) az.1)]=S.cy l hY∧S.bc l az.2 az.1=S.aC l hY)∧hY≤S.uL l∧S.ah (S.uL l) hY<S.ah (S.uL l) x)))
def Nk(l:List (Int×Int×List (List UInt8×List Int)))(x:Nat):=List.getD l ((x:Int).toNat) (z0,z0,[])
def q67(l:List (Int×Int×List (List UInt8×List Int)))(x:Nat):= !decide ((List.getD l (Int.toNat ((x:Int)+z1)) (z0,z0,[])).1=((List.getD l (Int.toNat ((x:Int)+z1-z1)) (z0,z0,[])).2).1)
def ZS(l:List (Int×Int×List (List UInt8×List Int))):Prop :=
 (decide ((ao l)=z0)=true→z0=((S.dp l).1).1∧z0=(((S.dp l).1).2).1∧ []=(((S.dp l).1).2).2∧z1=(S.dp l).2)∧(decide ((ao l)=z0)=false→(∃(x:Nat),z0=(x:Int)∧S.oL l x)∧∀(x:Nat),S.oL l x→(decide ((x:Int)<(ao l))=true→(z0≤(x:Int)∧(x:Int)<(ao l))∧S.jO (((Nk l x).2).2)∧((!S.ig ((Nk l x).1) (((Nk l x).2).1) (((Nk l x).2).2))=true→z0=((S.dp l).1).1∧z0=(((S.dp l).1).2).1∧ []=(((S.dp l).1).2).2∧z1=(S.dp l).2)∧((!S.ig ((Nk l x).1) (((Nk l x).2).1) (((Nk l x).2).2))=false→(aE ((x:Int)+z1))∧∃(ae:Nat),(x:Int)+z1=(ae:Int)∧S.oL l ae∧S.ah (S.len l) ae<S.ah (S.len l) x))∧(decide ((x:Int)<(ao l))=false→(∃(x:Nat),z1=(x:Int)+z1∧S.ri l x)∧∀(x:Nat),S.ri l x→(decide ((x:Int)+z1<(ao l))=true→(z0≤(x:Int)+z1∧(x:Int)+z1<(ao l))∧(aE ((x:Int)+z1-z1))∧(z0≤(x:Int)+z1-z1∧(x:Int)+z1-z1<(ao l))∧((q67 l x)=true→z0=((S.dp l).1).1∧z0=(((S.dp l).1).2).1∧ []=(((S.dp l).1).2).2∧(7:Int)=(S.dp l).2)∧((q67 l x)=false→(aE ((x:Int)+z1+z1))∧∃(ae:Nat),(x:Int)+z1+z1=(ae:Int)+z1∧S.ri l ae∧S.ah (S.len l) ae<S.ah (S.len l) x))∧(decide ((x:Int)+z1<(ao l))=false→(z0≤z0∧z0<(ao l))∧(aE ((ao l)-z1))∧(z0≤(ao l)-z1∧(ao l)-z1<(ao l))∧S.nR l∧(List.getD l (z0.toNat) (z0,z0,[])).1=((S.dp l).1).1∧((List.getD l (Int.toNat ((ao l)-z1)) (z0,z0,[])).2).1=(((S.dp l).1).2).1∧S.ni l=(((S.dp l).1).2).2∧z0=(S.dp l).2)))
def q68(s1 s2:Int):=bif decide (s1<z0) then true else bif decide (s2<z0) then true else decide (s2≤s1)
def ZT(s1:Int)(s2:Int):Prop :=
 ((q68 s1 s2)=true→(-1:Int)=S.eH s1 s2)∧((q68 s1 s2)=false→(aE (s2-s1))∧(∃(x:Nat),(s2-s1=(x:Int)∧z0=S.lg (s2-s1)-S.lg (x:Int))∧S.lZ s1 s2 x)∧∀(x:Nat),S.lZ s1 s2 x→(decide (z1<(x:Int))=true→(aE (S.lg (s2-s1)-S.lg (x:Int)+z1))∧z0≤(x:Int)∧z0<(2:Int)∧∃(ae:Nat),((x:Int)/(2:Int)=(ae:Int)∧S.lg (s2-s1)-S.lg (x:Int)+z1=S.lg (s2-s1)-S.lg (ae:Int))∧S.lZ s1 s2 ae∧ae<x)∧(decide (z1<(x:Int))=false→S.lg (s2-s1)-S.lg (x:Int)=S.eH s1 s2))
def ZU(l:List (Int×Int))(x:Nat):=List.getD l (Int.toNat ((↑(S.len l):Int)-(2:Int)-(x:Int)+z1)) (z0,z0)
def ZV(l:List (Int×Int))(x:Nat):=List.getD l (Int.toNat ((↑(S.len l):Int)-(2:Int)-(x:Int))) (z0,z0)
def ZW(l:List (Int×Int)):Prop :=
 (aE ((ao l)-(2:Int)))∧(∃(x:Nat),(ao l)-(2:Int)=(↑(S.len l):Int)-(2:Int)-(x:Int)∧S.kV l x)∧∀(x:Nat),S.kV l x→(decide (z0≤(↑(S.len l):Int)-(2:Int)-(x:Int))=true→(z0≤(↑(S.len l):Int)-(2:Int)-(x:Int)∧(↑(S.len l):Int)-(2:Int)-(x:Int)<(ao l))∧True∧(aE ((↑(S.len l):Int)-(2:Int)-(x:Int)+z1))∧(z0≤(↑(S.len l):Int)-(2:Int)-(x:Int)+z1∧(↑(S.len l):Int)-(2:Int)-(x:Int)+z1<(ao l))∧True∧(decide (S.eH ((ZV l x).1) ((ZV l x).2)≤S.eH ((ZU l x).1) ((ZU l x).2))=true→(↑(S.len l):Int)-(2:Int)-(x:Int)=(S.bu l).1∧true=(S.bu l).2)∧(decide (S.eH ((ZV l x).1) ((ZV l x).2)≤S.eH ((ZU l x).1) ((ZU l x).2))=false→(aE ((↑(S.len l):Int)-(2:Int)-(x:Int)-z1))∧∃(ae:Nat),(↑(S.len l):Int)-(2:Int)-(x:Int)-z1=(↑(S.len l):Int)-(2:Int)-(ae:Int)∧S.kV l ae∧S.ah (S.len l) ae<S.ah (S.len l) x))∧(decide (z0≤(↑(S.len l):Int)-(2:Int)-(x:Int))=false→z0=(S.bu l).1∧false=(S.bu l).2)
def ZX(l:List (Int×Int×List (List UInt8×List Int))):Prop :=
 (∃(x:Nat),(z0=(x:Int)∧ []=S.ej l x)∧x≤l.length)∧∀(x:Nat),x≤l.length→(decide ((x:Int)<(ao l))=true→(z0≤(x:Int)∧(x:Int)<(ao l))∧List.length (S.ej l x)+List.length [((List.getD l ((x:Int).toNat) (z0,z0,[])).1,((List.getD l ((x:Int).toNat) (z0,z0,[])).2).1)]≤(8796093022208:Nat)∧(aE ((x:Int)+z1))∧∃(ae:Nat),((x:Int)+z1=(ae:Int)∧S.ej l x++ [((List.getD l ((x:Int).toNat) (z0,z0,[])).1,((List.getD l ((x:Int).toNat) (z0,z0,[])).2).1)]=S.ej l ae)∧ae≤l.length∧S.ah (S.len l) ae<S.ah (S.len l) x)∧(decide ((x:Int)<(ao l))=false→S.ej l x=S.bq l)
def ZY(m:Nat)(n:Int):Prop :=
 (decide (n<(2:Int))=true→z0=S.lg n)∧(decide (n<(2:Int))=false→z0≤n∧z0<(2:Int)∧(Int.toNat (n/(2:Int))<m∧True)∧(aE (z1+S.lg (n/(2:Int))))∧z1+S.lg (n/(2:Int))=S.lg n)
def q71(s1 s2:Int):=bif decide (s1<z0) then true else bif decide (s2<z0) then true else decide (s2≤s1)
def ZZ(s1:Int)(s2:Int):Prop :=
 ((q71 s1 s2)=true→(-1:Int)=S.eH s1 s2)∧((q71 s1 s2)=false→(aE (s2-s1))∧True∧S.lg (s2-s1)=S.eH s1 s2)
def Z0(l:List (Int×Int)):Prop :=
 (∃(x:Nat),(z0=(x:Int)∧z0=(S.eY l x).1∧false=(S.eY l x).2)∧S.rj l x)∧∀(x:Nat),S.rj l x→(aE ((x:Int)+z1))∧(decide ((x:Int)+z1<(ao l))=true→(z0≤(x:Int)∧(x:Int)<(ao l))∧True∧(aE ((x:Int)+z1))∧(z0≤(x:Int)+z1∧(x:Int)+z1<(ao l))∧True∧(aE ((x:Int)+z1))∧∃(ae:Nat),((x:Int)+z1=(ae:Int)∧(bif decide (S.eH ((List.getD l ((x:Int).toNat) (z0,z0)).1) ((List.getD l ((x:Int).toNat) (z0,z0)).2)≤S.eH ((List.getD l (Int.toNat ((x:Int)+z1)) (z0,z0)).1) ((List.getD l (Int.toNat ((x:Int)+z1)) (z0,z0)).2)) then(x:Int) else(S.eY l x).1)=(S.eY l ae).1∧(bif decide (S.eH ((List.getD l ((x:Int).toNat) (z0,z0)).1) ((List.getD l ((x:Int).toNat) (z0,z0)).2)≤S.eH ((List.getD l (Int.toNat ((x:Int)+z1)) (z0,z0)).1) ((List.getD l (Int.toNat ((x:Int)+z1)) (z0,z0)).2)) then true else(S.eY l x).2)=(S.eY l ae).2)∧S.rj l ae∧S.ah (S.len l) ae<S.ah (S.len l) x)∧(decide ((x:Int)+z1<(ao l))=false→(S.eY l x).1=(S.bu l).1∧(S.eY l x).2=(S.bu l).2)
def q72(l:List (Int×Int)):=((List.getD l (Int.toNat ((S.bu l).1)) (z0,z0)).1,(List.getD l (Int.toNat ((S.bu l).1+z1)) (z0,z0)).2)
def q73(l:List (Int×Int)):= []++List.take (Int.toNat ((S.bu l).1)) l++ [q72 l]++List.drop (Int.toNat ((S.bu l).1+(2:Int))) l
def Z1(m:Nat)(l:List (Int×Int)):Prop :=
 True∧((!(S.bu l).2)=true→l=S.dO l)∧((!(S.bu l).2)=false→(z0≤(S.bu l).1∧(S.bu l).1≤(ao l))∧List.length (Vg.fu (Int×Int))+List.length (List.take (Int.toNat ((S.bu l).1)) l)≤(8796093022208:Nat)∧(z0≤(S.bu l).1∧(S.bu l).1<(ao l))∧(aE ((S.bu l).1+z1))∧(z0≤(S.bu l).1+z1∧(S.bu l).1+z1<(ao l))∧List.length ([]++List.take (Int.toNat ((S.bu l).1)) l)+List.length [q72 l]≤(8796093022208:Nat)∧(aE ((S.bu l).1+(2:Int)))∧(z0≤(S.bu l).1+(2:Int)∧(S.bu l).1+(2:Int)≤(ao l))∧List.length ([]++List.take (Int.toNat ((S.bu l).1)) l++ [q72 l])+List.length (List.drop (Int.toNat ((S.bu l).1+(2:Int))) l)≤(8796093022208:Nat)∧(List.length (q73 l)<m∧S.len (q73 l)≤(1000000:Nat))∧S.dO (q73 l)=S.dO l)
def Z2(l:List UInt8):Prop :=
 (l= []→ []=l)∧List.length (Vg.fu UInt8)+l.length≤jz∧ []++l=l
def Z3(l:List (List UInt8×List Int)):Prop :=
 (l= []→ []=l)∧List.length (Vg.fu (List UInt8×List Int))+l.length≤(3518437208883:Nat)∧ []++l=l
def Z4(a:List Int)(b:List Int):Prop :=
 ((!decide ((ao a)=(ao b)))=true→false=S.AL a b)∧((!decide ((ao a)=(ao b)))=false→(∃(x:Nat),z0=(x:Int)∧S.zx a b x)∧∀(x:Nat),S.zx a b x→(decide ((x:Int)<(ao a))=true→(z0≤(x:Int)∧(x:Int)<(ao a))∧(z0≤(x:Int)∧(x:Int)<(ao b))∧((!decide (List.getD a ((x:Int).toNat) z0=List.getD b ((x:Int).toNat) z0))=true→false=S.AL a b)∧((!decide (List.getD a ((x:Int).toNat) z0=List.getD b ((x:Int).toNat) z0))=false→(aE ((x:Int)+z1))∧∃(ae:Nat),(x:Int)+z1=(ae:Int)∧S.zx a b ae∧S.ah (S.len a) ae<S.ah (S.len a) x))∧(decide ((x:Int)<(ao a))=false→true=S.AL a b))
def Z5(a1:List UInt8)(a2:List Int)(b1:List UInt8)(b2:List Int):Prop :=
 ((decide (a1=b1)=true→True)∧(decide (a1=b1)=false→True))∧(bif decide (a1=b1) then S.AL a2 b2 else false)=S.vc a1 a2 b1 b2
def q74(a:List (List UInt8×List Int))(x:Nat)(b:List (List UInt8×List Int)):= !S.vc ((List.getD a ((x:Int).toNat) ([],[])).1) ((List.getD a ((x:Int).toNat) ([],[])).2) ((List.getD b ((x:Int).toNat) ([],[])).1) ((List.getD b ((x:Int).toNat) ([],[])).2)
def Z6(a:List (List UInt8×List Int))(b:List (List UInt8×List Int)):Prop :=
 ((!decide ((ao a)=(ao b)))=true→false=S.fx a b)∧((!decide ((ao a)=(ao b)))=false→(∃(x:Nat),z0=(x:Int)∧S.jh a b x)∧∀(x:Nat),S.jh a b x→(decide ((x:Int)<(ao a))=true→(z0≤(x:Int)∧(x:Int)<(ao a))∧(z0≤(x:Int)∧(x:Int)<(ao b))∧True∧((q74 a x b)=true→false=S.fx a b)∧((q74 a x b)=false→(aE ((x:Int)+z1))∧∃(ae:Nat),(x:Int)+z1=(ae:Int)∧S.jh a b ae∧S.ah (S.len a) ae<S.ah (S.len a) x))∧(decide ((x:Int)<(ao a))=false→true=S.fx a b))
def Z7(a:List (List UInt8×List Int))(b:List (List UInt8×List Int)):Prop :=
 True∧S.fx a b=S.fx a b
def KU(y2:List (Int×Int×List (List UInt8×List Int)))(x:Nat):=List.getD y2 ((x:Int).toNat) (z0,z0,[])
def PX(y1:List (List UInt8))(y2:List (Int×Int×List (List UInt8×List Int)))(x:Nat):=S.cx y1 ((KU y2 x).1) (((KU y2 x).2).1)
def q77(y2:List (Int×Int×List (List UInt8×List Int)))(x:Nat)(y1:List (List UInt8)):=bif !decide ((KU y2 x).1=S.cX y2 x) then true else bif decide (((KU y2 x).2).1≤S.cX y2 x) then true else decide ((ao y1)<((KU y2 x).2).1)
def Z8(y1:List (List UInt8))(y2:List (Int×Int×List (List UInt8×List Int))):Prop :=
 ((bif decide ((1000:Int)<(ao y1)) then true else decide ((64:Int)<(ao y2)))=true→false=S.aX y1 y2)∧((bif decide ((1000:Int)<(ao y1)) then true else decide ((64:Int)<(ao y2)))=false→(∃(x:Nat),z0=(x:Int)∧S.E3 y1 y2 x)∧∀(x:Nat),S.E3 y1 y2 x→(decide ((x:Int)<(ao y1))=true→(z0≤(x:Int)∧(x:Int)<(ao y1))∧(decide ((2000:Int)<(↑(List.length (List.getD y1 ((x:Int).toNat) [])):Int))=true→false=S.aX y1 y2)∧(decide ((2000:Int)<(↑(List.length (List.getD y1 ((x:Int).toNat) [])):Int))=false→(aE ((x:Int)+z1))∧∃(ae:Nat),(x:Int)+z1=(ae:Int)∧S.E3 y1 y2 ae∧S.ah (S.len y1) ae<S.ah (S.len y1) x))∧(decide ((x:Int)<(ao y1))=false→(∃(x:Nat),(z0=(x:Int)∧z0=S.cX y2 x)∧S.pX y1 y2 x)∧∀(x:Nat),S.pX y1 y2 x→(decide ((x:Int)<(ao y2))=true→(z0≤(x:Int)∧(x:Int)<(ao y2))∧((q77 y2 x y1)=true→false=S.aX y1 y2)∧((q77 y2 x y1)=false→True∧(((!decide ((PX y1 y2 x).2=z0))=true→True)∧((!decide ((PX y1 y2 x).2=z0))=false→True))∧((bif !decide ((PX y1 y2 x).2=z0) then true else !S.fx ((((PX y1 y2 x).1).2).2) (((KU y2 x).2).2))=true→false=S.aX y1 y2)∧((bif !decide ((PX y1 y2 x).2=z0) then true else !S.fx ((((PX y1 y2 x).1).2).2) (((KU y2 x).2).2))=false→(aE ((x:Int)+z1))∧∃(ae:Nat),((x:Int)+z1=(ae:Int)∧((KU y2 x).2).1=S.cX y2 ae)∧S.pX y1 y2 ae∧S.ah (S.len y2) ae<S.ah (S.len y2) x)))∧(decide ((x:Int)<(ao y2))=false→true=S.aX y1 y2)))
def Z9(y1:List (List UInt8))(y2:List (Int×Int×List (List UInt8×List Int))):Prop :=
 True∧((!S.aX y1 y2)=true→ []=(S.ak y1 y2).1∧ []=(S.ak y1 y2).2)∧((!S.aX y1 y2)=false→y1=(S.ak y1 y2).1∧y2=(S.ak y1 y2).2)
def À(y1:List (List UInt8))(y2:List (Int×Int×List (List UInt8×List Int))):Prop :=
 (decide ((ao y2)=z0)=true→z0=S.bR y2)∧(decide ((ao y2)=z0)=false→(aE ((ao y2)-z1))∧(z0≤(ao y2)-z1∧(ao y2)-z1<(ao y2))∧((List.getD y2 (Int.toNat ((ao y2)-z1)) (z0,z0,[])).2).1=S.bR y2)
def GV(y2:List (Int×Int×List (List UInt8×List Int)))(ae:Nat):=List.getD y2 ((ae:Int).toNat) (z0,z0,[])
def Á(y1:List (List UInt8))(y2:List (Int×Int×List (List UInt8×List Int))):Prop :=
 (z0≤(ao y1)∧(ao y1)≤(ao y1)∧(ao y1)≤Cr/(↑(24:Nat):Int))∧(z0≤(ao y2)∧(ao y2)≤(ao y2)∧(ao y2)≤Cr/(↑(40:Nat):Int))∧(∃(x:Nat),(z0=(x:Int)∧List.replicate (Int.toNat (ao y1)) (Vg.fu UInt8)=S.cZ (Vg.fu UInt8) y1 x)∧S.gR y1 x)∧∀(x:Nat),S.gR y1 x→(decide ((x:Int)<(ao y1))=true→(z0≤(x:Int)∧(x:Int)<(ao y1))∧S.small (List.getD y1 ((x:Int).toNat) [])∧(z0≤(x:Int)∧(x:Int)<(↑(List.length (S.cZ (Vg.fu UInt8) y1 x)):Int))∧(x:Int).toNat<List.length (S.cZ (Vg.fu UInt8) y1 x)∧(aE ((x:Int)+z1))∧∃(ae:Nat),((x:Int)+z1=(ae:Int)∧List.set (S.cZ (Vg.fu UInt8) y1 x) ((x:Int).toNat) (List.getD y1 ((x:Int).toNat) [])=S.cZ (Vg.fu UInt8) y1 ae)∧S.gR y1 ae∧S.ah (S.len y1) ae<S.ah (S.len y1) x)∧(decide ((x:Int)<(ao y1))=false→(∃(x:Nat),(z0=(x:Int)∧List.replicate (Int.toNat (ao y2)) (z0,z0,[])=S.cZ (z0,z0,[]) y2 x)∧S.gR y2 x)∧∀(ae:Nat),S.gR y2 ae→(decide ((ae:Int)<(ao y2))=true→(z0≤(ae:Int)∧(ae:Int)<(ao y2))∧S.small (((GV y2 ae).2).2)∧(z0≤(ae:Int)∧(ae:Int)<(↑(List.length (S.cZ (z0,z0,[]) y2 ae)):Int))∧(ae:Int).toNat<List.length (S.cZ (z0,z0,[]) y2 ae)∧(∃(x:Nat×Nat×List S.ax),(z0=(x.1:Int)∧List.set (S.cZ (z0,z0,[]) y2 ae) ((ae:Int).toNat) ((GV y2 ae).1,((GV y2 ae).2).1,[])=x.2.2∧(ae:Int).toNat=x.2.1∧((GV y2 ae).2).2=((S.aq y2 x.2.1).2).2)∧S.qG y2 x.2.2 x.2.1 x.1∧(ae:Int)=(x.2.1:Int))∧∀(x:Nat×Nat×List S.ax),S.qG y2 x.2.2 x.2.1 x.1∧(ae:Int)=(x.2.1:Int)→(decide ((x.1:Int)<(↑(List.length (((GV y2 ae).2).2)):Int))=true→(z0≤(x.1:Int)∧(x.1:Int)<(↑(List.length (((GV y2 ae).2).2)):Int))∧(z0≤(ae:Int)∧(ae:Int)<(↑(List.length x.2.2):Int))∧(ae:Int).toNat<List.length x.2.2∧(ae:Int).toNat=x.2.1∧S.small ((List.getD (((GV y2 ae).2).2) ((x.1:Int).toNat) ([],[])).2)∧(z0≤(x.1:Int)∧(x.1:Int)<(↑(List.length (((S.aq y2 x.2.1).2).2)):Int))∧(x.1:Int).toNat<List.length (((S.aq y2 x.2.1).2).2)∧(aE ((x.1:Int)+z1))∧∃(az:Nat×Nat×List S.ax),((x.1:Int)+z1=(az.1:Int)∧x.2.2=az.2.2∧x.2.1=az.2.1∧List.set (((S.aq y2 x.2.1).2).2) ((x.1:Int).toNat) ((List.getD (((S.aq y2 x.2.1).2).2) ((x.1:Int).toNat) ([],[])).1,(List.getD (((GV y2 ae).2).2) ((x.1:Int).toNat) ([],[])).2)=((S.aq y2 az.2.1).2).2)∧(S.qG y2 az.2.2 az.2.1 az.1∧(ae:Int)=(az.2.1:Int))∧S.ah (S.iP y2 az.2.1) az.1<S.ah (S.iP y2 x.2.1) x.1)∧(decide ((x.1:Int)<(↑(List.length (((GV y2 ae).2).2)):Int))=false→x.2.1<List.length x.2.2∧(aE ((ae:Int)+z1))∧∃(az:Nat),((ae:Int)+z1=(az:Int)∧List.set x.2.2 x.2.1 ((List.getD x.2.2 x.2.1 (z0,z0,[])).1,((List.getD x.2.2 x.2.1 (z0,z0,[])).2).1,((S.aq y2 x.2.1).2).2)=S.cZ (z0,z0,[]) y2 az)∧S.gR y2 az∧S.ah (S.len y2) az<S.ah (S.len y2) ae))∧(decide ((ae:Int)<(ao y2))=false→S.cZ (Vg.fu UInt8) y1 x=y1∧S.cZ (z0,z0,[]) y2 ae=y2))
def Â(l:List (Int×Int×List (List UInt8×List Int)))(i:Int)(m:Int)(s1:Int)(s2:Int)(s3:List (List UInt8×List Int)):Prop :=
 (z0≤i∧i=i∧i≤(ao l))∧(0:Nat)<List.length [(s1,s2,s3)]∧List.length (List.take (Int.toNat i) l)+List.length [(s1,s2,s3)]≤(3518437208883:Nat)∧(aE (i+m))∧(z0≤i+m∧i+m≤(ao l))∧List.length (List.take (Int.toNat i) l++ [(s1,s2,s3)])+List.length (List.drop (Int.toNat (i+m)) l)≤(3518437208883:Nat)∧List.take (Int.toNat i) l++ [(s1,s2,s3)]++List.drop (Int.toNat (i+m)) l=S.pW l (Int.toNat i) (Int.toNat m) (s1,s2,s3)
def Ã(y1:List (List UInt8))(y2:List (Int×Int×List (List UInt8×List Int)))(d:List UInt8):Prop :=
 True∧(decide ((2000:Int)<(ao d))=true→(S.ak y1 y2).1=((S.aU y1 y2 d).1).1∧(S.ak y1 y2).2=((S.aU y1 y2 d).1).2∧z1=(S.aU y1 y2 d).2)∧(decide ((2000:Int)<(ao d))=false→(decide ((1000:Int)≤(↑(List.length ((S.ak y1 y2).1)):Int))=true→(S.ak y1 y2).1=((S.aU y1 y2 d).1).1∧(S.ak y1 y2).2=((S.aU y1 y2 d).1).2∧(3:Int)=(S.aU y1 y2 d).2)∧(decide ((1000:Int)≤(↑(List.length ((S.ak y1 y2).1)):Int))=false→S.nj ((S.ak y1 y2).1) ((S.ak y1 y2).2)∧S.small d∧List.length ((S.ak y1 y2).1)+List.length [d]≤(5864062014805:Nat)∧(S.ak y1 y2).1++ [d]=((S.aU y1 y2 d).1).1∧(S.ak y1 y2).2=((S.aU y1 y2 d).1).2∧z0=(S.aU y1 y2 d).2))
def GW(y1:List (List UInt8))(y2:List (Int×Int×List (List UInt8×List Int))):=S.cx ((S.ak y1 y2).1) (S.bR ((S.ak y1 y2).2)) (↑(List.length ((S.ak y1 y2).1)):Int)
def Ä(y1:List (List UInt8))(y2:List (Int×Int×List (List UInt8×List Int))):Prop :=
 True∧True∧(decide (S.bR ((S.ak y1 y2).2)=(↑(List.length ((S.ak y1 y2).1)):Int))=true→(S.ak y1 y2).1=((S.aN y1 y2).1).1∧(S.ak y1 y2).2=((S.aN y1 y2).1).2∧(5:Int)=(S.aN y1 y2).2)∧(decide (S.bR ((S.ak y1 y2).2)=(↑(List.length ((S.ak y1 y2).1)):Int))=false→(decide ((64:Int)≤(↑(List.length ((S.ak y1 y2).2)):Int))=true→(S.ak y1 y2).1=((S.aN y1 y2).1).1∧(S.ak y1 y2).2=((S.aN y1 y2).1).2∧(3:Int)=(S.aN y1 y2).2)∧(decide ((64:Int)≤(↑(List.length ((S.ak y1 y2).2)):Int))=false→True∧((!decide ((GW y1 y2).2=z0))=true→(S.ak y1 y2).1=((S.aN y1 y2).1).1∧(S.ak y1 y2).2=((S.aN y1 y2).1).2∧(GW y1 y2).2=(S.aN y1 y2).2)∧((!decide ((GW y1 y2).2=z0))=false→S.nj ((S.ak y1 y2).1) ((S.ak y1 y2).2)∧List.length ((S.ak y1 y2).2)+List.length [(((GW y1 y2).1).1,(((GW y1 y2).1).2).1,(((GW y1 y2).1).2).2)]≤(3518437208883:Nat)∧(S.ak y1 y2).1=((S.aN y1 y2).1).1∧(S.ak y1 y2).2++ [(((GW y1 y2).1).1,(((GW y1 y2).1).2).1,(((GW y1 y2).1).2).2)]=((S.aN y1 y2).1).2∧z0=(S.aN y1 y2).2)))
def Nl(i m:Int)(y1:List (List UInt8))(y2:List (Int×Int×List (List UInt8×List Int))):=List.drop (Int.toNat i) (List.take (Int.toNat (i+m)) ((S.ak y1 y2).2))
def q81(m i:Int)(y1:List (List UInt8))(y2:List (Int×Int×List (List UInt8×List Int))):=bif decide (m<(2:Int)) then true else bif decide (i<z0) then true else bif decide ((↑(List.length ((S.ak y1 y2).2)):Int)<m) then true else decide ((↑(List.length ((S.ak y1 y2).2)):Int)-m<i)
def Å(y1:List (List UInt8))(y2:List (Int×Int×List (List UInt8×List Int)))(i:Int)(m:Int):Prop :=
 True∧((decide (m<(2:Int))=true→True)∧(decide (m<(2:Int))=false→(decide (i<z0)=true→True)∧(decide (i<z0)=false→(decide ((↑(List.length ((S.ak y1 y2).2)):Int)<m)=true→True)∧(decide ((↑(List.length ((S.ak y1 y2).2)):Int)<m)=false→aE ((↑(List.length ((S.ak y1 y2).2)):Int)-m)))))∧((q81 m i y1 y2)=true→(S.ak y1 y2).1=((S.bt y1 y2 i m).1).1∧(S.ak y1 y2).2=((S.bt y1 y2 i m).1).2∧z1=(S.bt y1 y2 i m).2)∧((q81 m i y1 y2)=false→(aE (i+m))∧(z0≤i∧i≤i+m∧i+m≤(↑(List.length ((S.ak y1 y2).2)):Int))∧S.rX (Nl i m y1 y2)∧((!decide ((S.dp (Nl i m y1 y2)).2=z0))=true→(S.ak y1 y2).1=((S.bt y1 y2 i m).1).1∧(S.ak y1 y2).2=((S.bt y1 y2 i m).1).2∧(S.dp (Nl i m y1 y2)).2=(S.bt y1 y2 i m).2)∧((!decide ((S.dp (Nl i m y1 y2)).2=z0))=false→S.nj ((S.ak y1 y2).1) ((S.ak y1 y2).2)∧S.r5 ((S.ak y1 y2).2) i m∧(S.ak y1 y2).1=((S.bt y1 y2 i m).1).1∧S.pW ((S.ak y1 y2).2) (Int.toNat i) (Int.toNat m) (((S.dp (Nl i m y1 y2)).1).1,(((S.dp (Nl i m y1 y2)).1).2).1,(((S.dp (Nl i m y1 y2)).1).2).2)=((S.bt y1 y2 i m).1).2∧z0=(S.bt y1 y2 i m).2))
def PY(y1:List (List UInt8))(y2:List (Int×Int×List (List UInt8×List Int)))(x:List (Int×Int)):=List.take (Int.toNat ((S.bu (S.bq (S.aB ((S.ak y1 y2).1) x))).1+(2:Int))-Int.toNat ((S.bu (S.bq (S.aB ((S.ak y1 y2).1) x))).1)) (List.drop (Int.toNat ((S.bu (S.bq (S.aB ((S.ak y1 y2).1) x))).1)) (S.aB ((S.ak y1 y2).1) x))
def GX(y1:List (List UInt8))(y2:List (Int×Int×List (List UInt8×List Int)))(x:List (Int×Int)):=S.bu (S.bq (S.aB ((S.ak y1 y2).1) x))
def Æ(y1:List (List UInt8))(y2:List (Int×Int×List (List UInt8×List Int))):Prop :=
 True∧S.nj ((S.ak y1 y2).1) ((S.ak y1 y2).2)∧(∃(x:List (Int×Int)),(S.ak y1 y2).2=S.aB ((S.ak y1 y2).1) x∧S.nk y1 y2 x)∧∀(x:List (Int×Int)),S.nk y1 y2 x→S.small (S.aB ((S.ak y1 y2).1) x)∧True∧((!(GX y1 y2 x).2)=true→(S.ak y1 y2).1=(S.cq y1 y2).1∧S.aB ((S.ak y1 y2).1) x=(S.cq y1 y2).2)∧((!(GX y1 y2 x).2)=false→(aE ((GX y1 y2 x).1+(2:Int)))∧(z0≤(GX y1 y2 x).1∧(GX y1 y2 x).1≤(GX y1 y2 x).1+(2:Int)∧(GX y1 y2 x).1+(2:Int)≤(↑(List.length (S.aB ((S.ak y1 y2).1) x)):Int))∧S.rX (PY y1 y2 x)∧((!decide ((S.dp (PY y1 y2 x)).2=z0))=true→(S.ak y1 y2).1=(S.cq y1 y2).1∧(S.ak y1 y2).2=(S.cq y1 y2).2)∧((!decide ((S.dp (PY y1 y2 x)).2=z0))=false→S.r5 (S.aB ((S.ak y1 y2).1) x) ((GX y1 y2 x).1) (2:Int)∧∃(ae:List (Int×Int)),S.pW (S.aB ((S.ak y1 y2).1) x) (Int.toNat ((GX y1 y2 x).1)) ((2:Int).toNat) (((S.dp (PY y1 y2 x)).1).1,(((S.dp (PY y1 y2 x)).1).2).1,(((S.dp (PY y1 y2 x)).1).2).2)=S.aB ((S.ak y1 y2).1) ae∧S.nk y1 y2 ae∧ae.length<x.length))
def k6(y2:List (Int×Int×List (List UInt8×List Int)))(x:Nat):=List.getD y2 ((x:Int).toNat) (z0,z0,[])
def q85(x:Nat)(y2:List (Int×Int×List (List UInt8×List Int)))(y1:List (List UInt8)):=bif decide ((x:Int)=z0) then bif !decide ((k6 y2 x).1=z0) then true else bif decide (z0<(x:Int)) then bif !decide ((k6 y2 x).1=((List.getD y2 (Int.toNat ((x:Int)-z1)) (z0,z0,[])).2).1) then true else !S.cM y1 ((k6 y2 x).1) (((k6 y2 x).2).1) else !S.cM y1 ((k6 y2 x).1) (((k6 y2 x).2).1) else bif decide (z0<(x:Int)) then bif !decide ((k6 y2 x).1=((List.getD y2 (Int.toNat ((x:Int)-z1)) (z0,z0,[])).2).1) then true else !S.cM y1 ((k6 y2 x).1) (((k6 y2 x).2).1) else !S.cM y1 ((k6 y2 x).1) (((k6 y2 x).2).1)
def q86(x:Nat)(y2:List (Int×Int×List (List UInt8×List Int))):=decide (z0<(x:Int))=true→(aE ((x:Int)-z1))∧(z0≤(x:Int)-z1∧(x:Int)-z1<(ao y2))∧((!decide ((k6 y2 x).1=((List.getD y2 (Int.toNat ((x:Int)-z1)) (z0,z0,[])).2).1))=true→True)∧((!decide ((k6 y2 x).1=((List.getD y2 (Int.toNat ((x:Int)-z1)) (z0,z0,[])).2).1))=false→True)
def Ç(y1:List (List UInt8))(y2:List (Int×Int×List (List UInt8×List Int))):Prop :=
 True∧((bif !S.cF y1 z0 z0 then true else decide ((64:Int)<(ao y2)))=true→false=S.aX y1 y2)∧((bif !S.cF y1 z0 z0 then true else decide ((64:Int)<(ao y2)))=false→(∃(x:Nat),z0=(x:Int)∧S.pX y1 y2 x)∧∀(x:Nat),S.pX y1 y2 x→(decide ((x:Int)<(ao y2))=true→(z0≤(x:Int)∧(x:Int)<(ao y2))∧((decide ((x:Int)=z0)=true→((!decide ((k6 y2 x).1=z0))=true→True)∧((!decide ((k6 y2 x).1=z0))=false→(q86 x y2)∧(decide (z0<(x:Int))=false→True)))∧(decide ((x:Int)=z0)=false→(q86 x y2)∧(decide (z0<(x:Int))=false→True)))∧((q85 x y2 y1)=true→false=S.aX y1 y2)∧((q85 x y2 y1)=false→(z0≤(x:Int)∧(x:Int)<(ao y2))∧S.eG y1 ((k6 y2 x).1) (((k6 y2 x).2).1)∧True∧((!S.lY ((k6 y2 x).1) (((k6 y2 x).2).1) (((k6 y2 x).2).2) ((k6 y2 x).1) (((k6 y2 x).2).1) (S.make y1 ((k6 y2 x).1) (((k6 y2 x).2).1)))=true→false=S.aX y1 y2)∧((!S.lY ((k6 y2 x).1) (((k6 y2 x).2).1) (((k6 y2 x).2).2) ((k6 y2 x).1) (((k6 y2 x).2).1) (S.make y1 ((k6 y2 x).1) (((k6 y2 x).2).1)))=false→(aE ((x:Int)+z1))∧∃(ae:Nat),(x:Int)+z1=(ae:Int)∧S.pX y1 y2 ae∧S.ah (S.len y2) ae<S.ah (S.len y2) x)))∧(decide ((x:Int)<(ao y2))=false→true=S.aX y1 y2))
def È(y1:List (List UInt8))(y2:List (Int×Int×List (List UInt8×List Int))):Prop :=
 True∧(S.aX y1 y2=true→y1=(S.ak y1 y2).1∧y2=(S.ak y1 y2).2)∧(S.aX y1 y2=false→ []=(S.ak y1 y2).1∧ []=(S.ak y1 y2).2)
def É(y1:List (List UInt8))(y2:List (Int×Int×List (List UInt8×List Int))):Prop :=
 True∧(∃(x:Nat),(z0=(x:Int)∧z0=S.cX ((S.ak y1 y2).2) x)∧x≤S.gL y1 y2)∧∀(x:Nat),x≤S.gL y1 y2→(decide ((x:Int)<(↑(List.length ((S.ak y1 y2).2)):Int))=true→(z0≤(x:Int)∧(x:Int)<(↑(List.length ((S.ak y1 y2).2)):Int))∧(aE ((x:Int)+z1))∧∃(ae:Nat),((x:Int)+z1=(ae:Int)∧((List.getD ((S.ak y1 y2).2) ((x:Int).toNat) (z0,z0,[])).2).1=S.cX ((S.ak y1 y2).2) ae)∧ae≤S.gL y1 y2∧S.ah (S.gL y1 y2) ae<S.ah (S.gL y1 y2) x)∧(decide ((x:Int)<(↑(List.length ((S.ak y1 y2).2)):Int))=false→S.cX ((S.ak y1 y2).2) x=S.fP y1 y2)
def Ê(y1:List (List UInt8))(y2:List (Int×Int×List (List UInt8×List Int))):Prop :=
 (∃(x:Nat),(z0=(x:Int)∧ []=S.ej y2 x)∧S.gR y2 x)∧∀(x:Nat),S.gR y2 x→(decide ((x:Int)<(ao y2))=true→(z0≤(x:Int)∧(x:Int)<(ao y2))∧List.length (S.ej y2 x)+List.length [((List.getD y2 ((x:Int).toNat) (z0,z0,[])).1,((List.getD y2 ((x:Int).toNat) (z0,z0,[])).2).1)]≤(8796093022208:Nat)∧(aE ((x:Int)+z1))∧∃(ae:Nat),((x:Int)+z1=(ae:Int)∧S.ej y2 x++ [((List.getD y2 ((x:Int).toNat) (z0,z0,[])).1,((List.getD y2 ((x:Int).toNat) (z0,z0,[])).2).1)]=S.ej y2 ae)∧S.gR y2 ae∧S.ah (S.len y2) ae<S.ah (S.len y2) x)∧(decide ((x:Int)<(ao y2))=false→S.ej y2 x=S.bq y2)
def FB(l:List (Int×Int))(x:Nat):=List.getD l ((x:Int).toNat) (z0,z0)
def Ë(y1:List (List UInt8))(y2:List (Int×Int×List (List UInt8×List Int)))(l:List (Int×Int)):Prop :=
 (∃(x:Nat),(z0=(x:Int)∧y1=y1∧ []=S.kl y1 l x)∧S.gR l x)∧∀(x:Nat),S.gR l x→(decide ((x:Int)<(ao l))=true→(z0≤(x:Int)∧(x:Int)<(ao l))∧S.eG y1 ((FB l x).1) ((FB l x).2)∧List.length (S.kl y1 l x)+List.length [((FB l x).1,(FB l x).2,S.make y1 ((FB l x).1) ((FB l x).2))]≤(3518437208883:Nat)∧(aE ((x:Int)+z1))∧∃(ae:Nat),((x:Int)+z1=(ae:Int)∧y1=y1∧S.kl y1 l x++ [((FB l x).1,(FB l x).2,S.make y1 ((FB l x).1) ((FB l x).2))]=S.kl y1 l ae)∧S.gR l ae∧S.ah (S.len l) ae<S.ah (S.len l) x)∧(decide ((x:Int)<(ao l))=false→y1=y1∧S.kl y1 l x=S.aB y1 l)
def Ì(y1:List (List UInt8))(y2:List (Int×Int×List (List UInt8×List Int)))(d:List UInt8):Prop :=
 True∧(decide ((2000:Int)<(ao d))=true→(S.ak y1 y2).1=((S.aU y1 y2 d).1).1∧(S.ak y1 y2).2=((S.aU y1 y2 d).1).2∧z1=(S.aU y1 y2 d).2)∧(decide ((2000:Int)<(ao d))=false→(decide ((1000:Int)≤(↑(List.length ((S.ak y1 y2).1)):Int))=true→(S.ak y1 y2).1=((S.aU y1 y2 d).1).1∧(S.ak y1 y2).2=((S.aU y1 y2 d).1).2∧(3:Int)=(S.aU y1 y2 d).2)∧(decide ((1000:Int)≤(↑(List.length ((S.ak y1 y2).1)):Int))=false→List.length (Vg.fu (List UInt8))+List.length ((S.ak y1 y2).1)≤(5864062014805:Nat)∧List.length ([]++(S.ak y1 y2).1)+List.length [d]≤(5864062014805:Nat)∧ []++(S.ak y1 y2).1++ [d]=((S.aU y1 y2 d).1).1∧(S.ak y1 y2).2=((S.aU y1 y2 d).1).2∧z0=(S.aU y1 y2 d).2))
def q88(y1:List (List UInt8))(y2:List (Int×Int×List (List UInt8×List Int))):=(S.fP ((S.ak y1 y2).1) ((S.ak y1 y2).2),(↑(List.length ((S.ak y1 y2).1)):Int))
def Ra(y1:List (List UInt8))(y2:List (Int×Int×List (List UInt8×List Int))):Prop :=
 True∧True∧(decide (S.fP ((S.ak y1 y2).1) ((S.ak y1 y2).2)=(↑(List.length ((S.ak y1 y2).1)):Int))=true→(S.ak y1 y2).1=((S.aN y1 y2).1).1∧(S.ak y1 y2).2=((S.aN y1 y2).1).2∧(5:Int)=(S.aN y1 y2).2)∧(decide (S.fP ((S.ak y1 y2).1) ((S.ak y1 y2).2)=(↑(List.length ((S.ak y1 y2).1)):Int))=false→(decide ((64:Int)≤(↑(List.length ((S.ak y1 y2).2)):Int))=true→(S.ak y1 y2).1=((S.aN y1 y2).1).1∧(S.ak y1 y2).2=((S.aN y1 y2).1).2∧(3:Int)=(S.aN y1 y2).2)∧(decide ((64:Int)≤(↑(List.length ((S.ak y1 y2).2)):Int))=false→S.small ((S.ak y1 y2).2)∧True∧List.length (S.bq ((S.ak y1 y2).2))+List.length [q88 y1 y2]≤(8796093022208:Nat)∧S.l3 ((S.ak y1 y2).1) (S.bq ((S.ak y1 y2).2)++ [q88 y1 y2])∧(S.ak y1 y2).1=((S.aN y1 y2).1).1∧S.aB ((S.ak y1 y2).1) (S.bq ((S.ak y1 y2).2)++ [q88 y1 y2])=((S.aN y1 y2).1).2∧z0=(S.aN y1 y2).2))
def vA(y1:List (List UInt8))(y2:List (Int×Int×List (List UInt8×List Int))):=S.bq ((S.ak y1 y2).2)
def q90(y1:List (List UInt8))(y2:List (Int×Int×List (List UInt8×List Int)))(i m:Int):=((List.getD (vA y1 y2) (Int.toNat i) (z0,z0)).1,(List.getD (vA y1 y2) (Int.toNat (i+m-z1)) (z0,z0)).2)
def q91(m:Int)(y1:List (List UInt8))(y2:List (Int×Int×List (List UInt8×List Int)))(i:Int):=bif decide (m<(2:Int)) then true else bif decide ((↑(List.length ((S.ak y1 y2).2)):Int)<m) then true else bif decide (i<z0) then true else decide ((↑(List.length ((S.ak y1 y2).2)):Int)-m<i)
def q92(i:Int)(y1:List (List UInt8))(y2:List (Int×Int×List (List UInt8×List Int)))(m:Int):= []++List.take (Int.toNat i) (vA y1 y2)++ [q90 y1 y2 i m]++List.take (List.length (vA y1 y2)-Int.toNat (i+m)) (List.drop (Int.toNat (i+m)) (vA y1 y2))
def Rb(y1:List (List UInt8))(y2:List (Int×Int×List (List UInt8×List Int)))(i:Int)(m:Int):Prop :=
 True∧((decide (m<(2:Int))=true→True)∧(decide (m<(2:Int))=false→(decide ((↑(List.length ((S.ak y1 y2).2)):Int)<m)=true→True)∧(decide ((↑(List.length ((S.ak y1 y2).2)):Int)<m)=false→(decide (i<z0)=true→True)∧(decide (i<z0)=false→aE ((↑(List.length ((S.ak y1 y2).2)):Int)-m)))))∧((q91 m y1 y2 i)=true→(S.ak y1 y2).1=((S.bt y1 y2 i m).1).1∧(S.ak y1 y2).2=((S.bt y1 y2 i m).1).2∧z1=(S.bt y1 y2 i m).2)∧((q91 m y1 y2 i)=false→S.small ((S.ak y1 y2).2)∧(z0≤i∧i≤(↑(List.length (vA y1 y2)):Int))∧List.length (Vg.fu (Int×Int))+List.length (List.take (Int.toNat i) (vA y1 y2))≤(8796093022208:Nat)∧(z0≤i∧i<(↑(List.length (vA y1 y2)):Int))∧Int.toNat i<List.length (vA y1 y2)∧(aE (i+m))∧(aE (i+m-z1))∧(z0≤i+m-z1∧i+m-z1<(↑(List.length (vA y1 y2)):Int))∧Int.toNat (i+m-z1)<List.length (vA y1 y2)∧List.length ([]++List.take (Int.toNat i) (vA y1 y2))+List.length [q90 y1 y2 i m]≤(8796093022208:Nat)∧(aE (i+m))∧(z0≤i+m∧i+m≤(↑(List.length (vA y1 y2)):Int))∧List.length ([]++List.take (Int.toNat i) (vA y1 y2)++ [q90 y1 y2 i m])+List.length (List.take (List.length (vA y1 y2)-Int.toNat (i+m)) (List.drop (Int.toNat (i+m)) (vA y1 y2)))≤(8796093022208:Nat)∧S.l3 ((S.ak y1 y2).1) (q92 i y1 y2 m)∧(S.ak y1 y2).1=((S.bt y1 y2 i m).1).1∧S.aB ((S.ak y1 y2).1) (q92 i y1 y2 m)=((S.bt y1 y2 i m).1).2∧z0=(S.bt y1 y2 i m).2)
def Rc(y1:List (List UInt8))(y2:List (Int×Int×List (List UInt8×List Int))):Prop :=
 True∧S.small ((S.ak y1 y2).2)∧S.len (S.bq ((S.ak y1 y2).2))≤(1000000:Nat)∧S.l3 ((S.ak y1 y2).1) (S.dO (S.bq ((S.ak y1 y2).2)))∧(S.ak y1 y2).1=(S.cq y1 y2).1∧S.aB ((S.ak y1 y2).1) (S.dO (S.bq ((S.ak y1 y2).2)))=(S.cq y1 y2).2
def q93(a2:List (Int×Int×List (List UInt8×List Int)))(x:Nat)(b2:List (Int×Int×List (List UInt8×List Int))):= !S.lY ((List.getD a2 ((x:Int).toNat) (z0,z0,[])).1) (((List.getD a2 ((x:Int).toNat) (z0,z0,[])).2).1) (((List.getD a2 ((x:Int).toNat) (z0,z0,[])).2).2) ((List.getD b2 ((x:Int).toNat) (z0,z0,[])).1) (((List.getD b2 ((x:Int).toNat) (z0,z0,[])).2).1) (((List.getD b2 ((x:Int).toNat) (z0,z0,[])).2).2)
def Re(a1:List (List UInt8))(a2:List (Int×Int×List (List UInt8×List Int)))(b1:List (List UInt8))(b2:List (Int×Int×List (List UInt8×List Int))):Prop :=
 True∧((bif !S.lu a1 b1 then true else !decide ((ao a2)=(ao b2)))=true→false=S.mN a1 a2 b1 b2)∧((bif !S.lu a1 b1 then true else !decide ((ao a2)=(ao b2)))=false→(∃(x:Nat),z0=(x:Int)∧S.nU a1 a2 b1 b2 x)∧∀(x:Nat),S.nU a1 a2 b1 b2 x→(decide ((x:Int)<(ao a2))=true→(z0≤(x:Int)∧(x:Int)<(ao a2))∧(z0≤(x:Int)∧(x:Int)<(ao b2))∧True∧((q93 a2 x b2)=true→false=S.mN a1 a2 b1 b2)∧((q93 a2 x b2)=false→(aE ((x:Int)+z1))∧∃(ae:Nat),(x:Int)+z1=(ae:Int)∧S.nU a1 a2 b1 b2 ae∧S.ah (S.len a2) ae<S.ah (S.len a2) x))∧(decide ((x:Int)<(ao a2))=false→true=S.mN a1 a2 b1 b2))
def PZ(y2:List (Int×Int×List (List UInt8×List Int)))(x:Nat):=List.getD y2 ((x:Int).toNat) (z0,z0,[])
def Rf(y1:List (List UInt8))(y2:List (Int×Int×List (List UInt8×List Int))):Prop :=
 (∃(x:Nat),(z0=(x:Int)∧y1=y1∧ []=List.take x y2)∧S.gR y2 x)∧∀(x:Nat),S.gR y2 x→(decide ((x:Int)<(ao y2))=true→(z0≤(x:Int)∧(x:Int)<(ao y2))∧True∧List.length (List.take x y2)+List.length [((PZ y2 x).1,((PZ y2 x).2).1,((PZ y2 x).2).2)]≤(3518437208883:Nat)∧(aE ((x:Int)+z1))∧∃(ae:Nat),((x:Int)+z1=(ae:Int)∧y1=y1∧List.take x y2++ [((PZ y2 x).1,((PZ y2 x).2).1,((PZ y2 x).2).2)]=List.take ae y2)∧S.gR y2 ae∧S.ah (S.len y2) ae<S.ah (S.len y2) x)∧(decide ((x:Int)<(ao y2))=false→y1=y1∧List.take x y2=y2)
def Rg(y1:List (List UInt8))(y2:List (Int×Int×List (List UInt8×List Int))):Prop :=
 (∃(x:Nat),z0=(x:Int)∧S.ve y2 x)∧∀(x:Nat),S.ve y2 x→(decide ((x:Int)<(ao y2))=true→(z0≤(x:Int)∧(x:Int)<(ao y2))∧True∧(S.gu (((List.getD y2 ((x:Int).toNat) (z0,z0,[])).2).2)=true→true=S.kn y1 y2)∧(S.gu (((List.getD y2 ((x:Int).toNat) (z0,z0,[])).2).2)=false→(aE ((x:Int)+z1))∧∃(ae:Nat),(x:Int)+z1=(ae:Int)∧S.ve y2 ae∧S.ah (S.len y2) ae<S.ah (S.len y2) x))∧(decide ((x:Int)<(ao y2))=false→True∧(bif S.la y1 then true else decide ((100:Int)<(ao y2)))=S.kn y1 y2)
def q95:=List.replicate ((64:Int).toNat) (0:UInt8)
def Rh(b:List UInt8):Prop :=
 (z0≤(64:Int)∧(64:Int)≤(64:Int)∧(64:Int)≤Cr/(↑(1:Nat):Int))∧List.take q95.length b++List.drop b.length q95=S.copied b
def q96(n:Int):=List.replicate (Int.toNat n) (Vg.fu UInt8)
def KV(x:Nat):=(x:Int)+z1
def Ri(n:Int):Prop :=
 (aE (n*(64:Int)))∧(z0≤n*(64:Int)∧n*(64:Int)≤n*(64:Int)∧n*(64:Int)≤Cr/(↑(1:Nat):Int))∧(z0≤n∧n≤n∧n≤Cr/(↑(24:Nat):Int))∧(∃(x:Nat),(z0=(x:Int)∧List.length (q96 n)=Int.toNat n∧x=(0:Nat))∧S.vj x (Int.toNat n))∧∀(x:Nat),S.vj x (Int.toNat n)→(decide ((x:Int)<(↑(List.length (q96 n)):Int))=true→(aE ((x:Int)*(64:Int)))∧(aE (KV x))∧(aE ((KV x)*(64:Int)))∧(z0≤(x:Int)*(64:Int)∧(x:Int)*(64:Int)≤(KV x)*(64:Int)∧(KV x)*(64:Int)≤(KV x)*(64:Int)∧(KV x)*(64:Int)≤(↑(List.length (List.replicate (Int.toNat (n*(64:Int))) (0:UInt8))):Int))∧(z0≤(x:Int)∧(x:Int)<(↑(Int.toNat n):Int))∧((x:Int).toNat=x∧x<Int.toNat n∧Int.toNat ((x:Int)*(64:Int))=x*(64:Nat)∧Int.toNat ((KV x)*(64:Int))-Int.toNat ((x:Int)*(64:Int))=(64:Nat))∧(aE (KV x))∧∃(ae:Nat),((x:Int)+z1=(ae:Int)∧Int.toNat n=Int.toNat n∧x+(1:Nat)=ae∧(64:Nat)=(64:Nat))∧S.vj ae (Int.toNat n)∧S.ah (Int.toNat n) ae<S.ah (Int.toNat n) x)∧(decide ((x:Int)<(↑(List.length (q96 n)):Int))=false→Int.toNat n=Int.toNat n∧x=Int.toNat n∧(64:Nat)=(64:Nat)∧List.replicate (Int.toNat (n*(64:Int))) (0:UInt8)=S.pY n)
def Rj(d1:List (List UInt8))(d2:List (Int×List UInt8)):Prop :=
 S.r6 (ao d1)∧(∃(x:Nat),(z0=(x:Int)∧S.pY (ao d1)=S.gb d1 x)∧S.eb d1 x)∧∀(x:Nat),S.eb d1 x→(decide ((x:Int)<(ao d1))=true→(z0≤(x:Int)∧(x:Int)<(ao d1))∧(z0≤(x:Int)∧(x:Int)<(↑(Int.toNat (ao d1)):Int))∧(x:Int).toNat<Int.toNat (ao d1)∧(x:Int).toNat*(64:Nat)+(64:Nat)≤List.length (S.gb d1 x)∧(aE ((x:Int)+z1))∧∃(ae:Nat),((x:Int)+z1=(ae:Int)∧List.take ((x:Int).toNat*(64:Nat)) (S.gb d1 x)++List.take (64:Nat) (List.getD d1 ((x:Int).toNat) [])++List.drop ((x:Int).toNat*(64:Nat)+Min.min (List.length (List.getD d1 ((x:Int).toNat) [])) (64:Nat)) (S.gb d1 x)=S.gb d1 ae)∧S.eb d1 ae∧S.ah (S.len d1) ae<S.ah (S.len d1) x)∧(decide ((x:Int)<(ao d1))=false→Int.toNat (ao d1)=S.len d1∧Int.toNat (ao d1)=S.len d1∧(64:Nat)=(64:Nat)∧S.gb d1 x=S.flat d1)
def q98(d2:List (Int×List UInt8))(x:Nat)(d1:List (List UInt8)):=bif decide ((List.getD d2 ((x:Int).toNat) (z0,[])).1<z0) then true else bif decide ((ao d1)≤(List.getD d2 ((x:Int).toNat) (z0,[])).1) then true else !decide ((↑(List.length ((List.getD d2 ((x:Int).toNat) (z0,[])).2)):Int)=(64:Int))
def Rk(d1:List (List UInt8))(d2:List (Int×List UInt8)):Prop :=
 ((bif decide ((4096:Int)<(ao d1)) then true else decide ((1000:Int)<(ao d2)))=true→false=S.aP d1 d2)∧((bif decide ((4096:Int)<(ao d1)) then true else decide ((1000:Int)<(ao d2)))=false→(∃(x:Nat),z0=(x:Int)∧S.M3 d1 x)∧∀(x:Nat),S.M3 d1 x→(decide ((x:Int)<(ao d1))=true→(z0≤(x:Int)∧(x:Int)<(ao d1))∧((!decide ((↑(List.length (List.getD d1 ((x:Int).toNat) [])):Int)=(64:Int)))=true→false=S.aP d1 d2)∧((!decide ((↑(List.length (List.getD d1 ((x:Int).toNat) [])):Int)=(64:Int)))=false→(aE ((x:Int)+z1))∧∃(ae:Nat),(x:Int)+z1=(ae:Int)∧S.M3 d1 ae∧S.ah (S.len d1) ae<S.ah (S.len d1) x))∧(decide ((x:Int)<(ao d1))=false→(∃(x:Nat),z0=(x:Int)∧S.M4 d1 d2 x)∧∀(x:Nat),S.M4 d1 d2 x→(decide ((x:Int)<(ao d2))=true→(z0≤(x:Int)∧(x:Int)<(ao d2))∧((q98 d2 x d1)=true→false=S.aP d1 d2)∧((q98 d2 x d1)=false→(aE ((x:Int)+z1))∧∃(ae:Nat),(x:Int)+z1=(ae:Int)∧S.M4 d1 d2 ae∧S.ah (S.len d2) ae<S.ah (S.len d2) x))∧(decide ((x:Int)<(ao d2))=false→true=S.aP d1 d2)))
def Rl(d1:List (List UInt8))(d2:List (Int×List UInt8)):Prop :=
 True∧((!S.aP d1 d2)=true→ []=S.vB d1 d2∧ []=S.vW d1 d2)∧((!S.aP d1 d2)=false→d1=S.vB d1 d2∧d2=S.vW d1 d2)
def Rm(d1:List (List UInt8))(d2:List (Int×List UInt8)):Prop :=
 True∧(ao (S.vB d1 d2))=S.kP (S.vB d1 d2)
def q99(n:Int):=bif decide (n<z0) then true else decide ((4096:Int)<n)
def Rn(n:Int):Prop :=
 ((q99 n)=true→ []=S.xa n∧z1=S.M5 n)∧((q99 n)=false→S.r6 n∧Int.toNat n=Int.toNat n∧Vg.ib (64:Nat) (Int.toNat n) (S.pY n)=S.xa n∧z0=S.M5 n)
def Ro(d1:List (List UInt8))(d2:List (Int×List UInt8))(i:Int):Prop :=
 True∧((bif decide (i<z0) then true else decide ((ao (S.vB d1 d2))≤i))=true→z1=S.gv d1 d2 i∧ []=S.dQ d1 d2 i)∧((bif decide (i<z0) then true else decide ((ao (S.vB d1 d2))≤i))=false→(z0≤i∧i<(ao (S.vB d1 d2)))∧(∃(x:Nat),(z0=(x:Int)∧List.getD (S.vB d1 d2) (Int.toNat i) []=S.qI (S.vW d1 d2) i (S.bX (S.vB d1 d2) i) x)∧S.eb (S.vW d1 d2) x)∧∀(x:Nat),S.eb (S.vW d1 d2) x→(decide ((x:Int)<(ao (S.vW d1 d2)))=true→(z0≤(x:Int)∧(x:Int)<(ao (S.vW d1 d2)))∧(aE ((x:Int)+z1))∧∃(ae:Nat),((x:Int)+z1=(ae:Int)∧(bif decide ((List.getD (S.vW d1 d2) ((x:Int).toNat) (z0,[])).1=i) then(List.getD (S.vW d1 d2) ((x:Int).toNat) (z0,[])).2 else S.qI (S.vW d1 d2) i (S.bX (S.vB d1 d2) i) x)=S.qI (S.vW d1 d2) i (S.bX (S.vB d1 d2) i) ae)∧S.eb (S.vW d1 d2) ae∧S.ah (S.len (S.vW d1 d2)) ae<S.ah (S.len (S.vW d1 d2)) x)∧(decide ((x:Int)<(ao (S.vW d1 d2)))=false→True∧z0=S.gv d1 d2 i∧S.copied (S.qI (S.vW d1 d2) i (S.bX (S.vB d1 d2) i) x)=S.dQ d1 d2 i))
def Rp(d1:List (List UInt8))(d2:List (Int×List UInt8))(i:Int)(b:List UInt8):Prop :=
 True∧((bif decide (i<z0) then true else bif decide ((ao (S.vB d1 d2))≤i) then true else !decide ((ao b)=(64:Int)))=true→S.vB d1 d2=S.wB d1 d2∧S.vW d1 d2=S.wW d1 d2 i b∧z1=S.kY d1 d2 i b)∧((bif decide (i<z0) then true else bif decide ((ao (S.vB d1 d2))≤i) then true else !decide ((ao b)=(64:Int)))=false→(decide ((1000:Int)≤(ao (S.vW d1 d2)))=true→S.vB d1 d2=S.wB d1 d2∧S.vW d1 d2=S.wW d1 d2 i b∧(3:Int)=S.kY d1 d2 i b)∧(decide ((1000:Int)≤(ao (S.vW d1 d2)))=false→S.pZ (S.vB d1 d2)∧(∃(x:Nat),(z0=(x:Int)∧ []=S.kX (S.vW d1 d2) x)∧S.eb (S.vW d1 d2) x)∧∀(x:Nat),S.eb (S.vW d1 d2) x→(decide ((x:Int)<(ao (S.vW d1 d2)))=true→(z0≤(x:Int)∧(x:Int)<(ao (S.vW d1 d2)))∧True∧List.length (S.kX (S.vW d1 d2) x)+List.length [((List.getD (S.vW d1 d2) ((x:Int).toNat) (z0,[])).1,S.copied ((List.getD (S.vW d1 d2) ((x:Int).toNat) (z0,[])).2))]≤(4398046511104:Nat)∧(aE ((x:Int)+z1))∧∃(ae:Nat),((x:Int)+z1=(ae:Int)∧S.kX (S.vW d1 d2) x++ [((List.getD (S.vW d1 d2) ((x:Int).toNat) (z0,[])).1,S.copied ((List.getD (S.vW d1 d2) ((x:Int).toNat) (z0,[])).2))]=S.kX (S.vW d1 d2) ae)∧S.eb (S.vW d1 d2) ae∧S.ah (S.len (S.vW d1 d2)) ae<S.ah (S.len (S.vW d1 d2)) x)∧(decide ((x:Int)<(ao (S.vW d1 d2)))=false→True∧List.length (S.kX (S.vW d1 d2) x)+List.length [(i,S.copied b)]≤(4398046511104:Nat)∧S.len (S.vB d1 d2)=S.len (S.vB d1 d2)∧Vg.ib (64:Nat) (S.len (S.vB d1 d2)) (S.flat (S.vB d1 d2))=S.wB d1 d2∧S.kX (S.vW d1 d2) x++ [(i,S.copied b)]=S.wW d1 d2 i b∧z0=S.kY d1 d2 i b)))
def zN(d1:List (List UInt8))(d2:List (Int×List UInt8))(x:Nat):=List.getD (S.vW d1 d2) ((x:Int).toNat) (z0,[])
def Rq(d1:List (List UInt8))(d2:List (Int×List UInt8)):Prop :=
 True∧S.pZ (S.vB d1 d2)∧(∃(x:Nat),(z0=(x:Int)∧S.flat (S.vB d1 d2)=S.l6 (S.vB d1 d2) (S.vW d1 d2) x)∧S.eb (S.vW d1 d2) x)∧∀(x:Nat),S.eb (S.vW d1 d2) x→(decide ((x:Int)<(ao (S.vW d1 d2)))=true→(z0≤(x:Int)∧(x:Int)<(ao (S.vW d1 d2)))∧(z0≤(zN d1 d2 x).1∧(zN d1 d2 x).1<(↑(S.len (S.vB d1 d2)):Int))∧Int.toNat ((zN d1 d2 x).1)<S.len (S.vB d1 d2)∧Int.toNat ((zN d1 d2 x).1)*(64:Nat)+(64:Nat)≤List.length (S.l6 (S.vB d1 d2) (S.vW d1 d2) x)∧(aE ((x:Int)+z1))∧∃(ae:Nat),((x:Int)+z1=(ae:Int)∧List.take (Int.toNat ((zN d1 d2 x).1)*(64:Nat)) (S.l6 (S.vB d1 d2) (S.vW d1 d2) x)++List.take (64:Nat) ((zN d1 d2 x).2)++List.drop (Int.toNat ((zN d1 d2 x).1)*(64:Nat)+Min.min (List.length ((zN d1 d2 x).2)) (64:Nat)) (S.l6 (S.vB d1 d2) (S.vW d1 d2) x)=S.l6 (S.vB d1 d2) (S.vW d1 d2) ae)∧S.eb (S.vW d1 d2) ae∧S.ah (S.len (S.vW d1 d2)) ae<S.ah (S.len (S.vW d1 d2)) x)∧(decide ((x:Int)<(ao (S.vW d1 d2)))=false→S.len (S.vB d1 d2)=S.len (S.vB d1 d2)∧Vg.ib (64:Nat) (S.len (S.vB d1 d2)) (S.l6 (S.vB d1 d2) (S.vW d1 d2) x)=S.ya (d1,d2))
def xd(d1:List (List UInt8))(d2:List (Int×List UInt8))(x:Nat):=List.getD (S.vW d1 d2) ((x:Int).toNat) (z0,[])
def Rr(x:Nat)(keep:List Int):=bif decide ((x:Int)<(ao keep)) then Min.min (Max.max (List.getD keep ((x:Int).toNat) z0) z0) (64:Int) else z0
def Rs(d1:List (List UInt8))(d2:List (Int×List UInt8))(keep:List Int):Prop :=
 True∧S.pZ (S.vB d1 d2)∧(∃(x:Nat),(z0=(x:Int)∧S.flat (S.vB d1 d2)=S.jT keep (S.vB d1 d2) (S.vW d1 d2) x)∧S.eb (S.vW d1 d2) x)∧∀(x:Nat),S.eb (S.vW d1 d2) x→(decide ((x:Int)<(ao (S.vW d1 d2)))=true→(z0≤(x:Int)∧(x:Int)<(ao (S.vW d1 d2)))∧((decide ((x:Int)<(ao keep))=true→z0≤(x:Int)∧(x:Int)<(ao keep))∧(decide ((x:Int)<(ao keep))=false→True))∧(z0≤(xd d1 d2 x).1∧(xd d1 d2 x).1<(↑(S.len (S.vB d1 d2)):Int))∧Int.toNat ((xd d1 d2 x).1)<S.len (S.vB d1 d2)∧((z0≤bif decide ((x:Int)<(ao keep)) then Min.min (Max.max (List.getD keep ((x:Int).toNat) z0) z0) (64:Int) else z0)∧(Rr x keep)≤(↑(List.length ((xd d1 d2 x).2)):Int))∧Int.toNat ((xd d1 d2 x).1)*(64:Nat)+(64:Nat)≤List.length (S.jT keep (S.vB d1 d2) (S.vW d1 d2) x)∧(aE ((x:Int)+z1))∧∃(ae:Nat),((x:Int)+z1=(ae:Int)∧List.take (Int.toNat ((xd d1 d2 x).1)*(64:Nat)) (S.jT keep (S.vB d1 d2) (S.vW d1 d2) x)++List.take (64:Nat) (List.take (Int.toNat (Rr x keep)) ((xd d1 d2 x).2))++List.drop (Int.toNat ((xd d1 d2 x).1)*(64:Nat)+Min.min (List.length (List.take (Int.toNat (Rr x keep)) ((xd d1 d2 x).2))) (64:Nat)) (S.jT keep (S.vB d1 d2) (S.vW d1 d2) x)=S.jT keep (S.vB d1 d2) (S.vW d1 d2) ae)∧S.eb (S.vW d1 d2) ae∧S.ah (S.len (S.vW d1 d2)) ae<S.ah (S.len (S.vW d1 d2)) x)∧(decide ((x:Int)<(ao (S.vW d1 d2)))=false→S.len (S.vB d1 d2)=S.len (S.vB d1 d2)∧Vg.ib (64:Nat) (S.len (S.vB d1 d2)) (S.jT keep (S.vB d1 d2) (S.vW d1 d2) x)=S.wk (d1,d2) keep)
def Rt(a:List UInt8)(b:List UInt8):Prop :=
 decide (a=b)=S.KJ a b
def Ru(b:List UInt8):=List.length (List.take ((8:Int).toNat) b)
def Rv(b:List UInt8):Prop :=
 (z0≤(8:Int)∧(8:Int)≤(ao b))∧(∃(x:Nat),(z0=(x:Int)∧z0=(↑(S.dS b x):Int))∧S.oE x (8:Nat))∧∀(x:Nat),S.oE x (8:Nat)→(decide ((x:Int)<(↑(Ru b):Int))=true→(z0≤(x:Int)∧(x:Int)<(↑(Ru b):Int))∧(z0≤(8:Int)∧(8:Int)≤(64:Int))∧(aE ((x:Int)+z1))∧∃(ae:Nat),((x:Int)+z1=(ae:Int)∧Vg.cI ((↑(S.dS b x):Int)*(2:Int)^(8:Int).toNat%(18446744073709551616:Int)) (↑(UInt8.toNat (List.getD (List.take ((8:Int).toNat) b) ((x:Int).toNat) (0:UInt8))):Int)=(↑(S.dS b ae):Int))∧S.oE ae (8:Nat)∧S.ah (8:Nat) ae<S.ah (8:Nat) x)∧(decide ((x:Int)<(↑(Ru b):Int))=false→(decide ((4611686018427387904:Int)<(↑(S.dS b x):Int))=true→z0=(S.e8 b).1∧false=(S.e8 b).2)∧(decide ((4611686018427387904:Int)<(↑(S.dS b x):Int))=false→(aE ((↑(S.dS b x):Int)))∧(↑(S.dS b x):Int)=(S.e8 b).1∧true=(S.e8 b).2))
def Í(m1 m2:Int)(x:Nat):=List.set (S.ep m1 m2 x) ((x:Int).toNat) (UInt8.ofNat (Int.toNat (m1%(18446744073709551616:Int)/(2:Int)^Int.toNat ((8:Int)*((7:Int)-(x:Int)))%(256:Int))))
def vC:=(32:Int).toNat
def Î(x:Nat):=z0≤(8:Int)*((7:Int)-(x:Int))∧(8:Int)*((7:Int)-(x:Int))≤(64:Int)
def Rw(m1 m2:Int)(x:Nat):=List.length (S.ep m1 m2 x)-(vC:Int).toNat
def Rx(m1:Int)(m2:Int):Prop :=
 (z0≤(64:Int)∧(64:Int)≤(64:Int)∧(64:Int)≤Cr/(↑(1:Nat):Int))∧(z0≤(32:Int)∧(32:Int)≤(↑(List.length (List.replicate ((64:Int).toNat) (0:UInt8))):Int))∧(∃(x:Nat),(z0=(x:Int)∧List.replicate ((64:Int).toNat) (0:UInt8)=S.ep m1 m2 x)∧S.oE x (8:Nat))∧∀(x:Nat),S.oE x (8:Nat)→(decide ((x:Int)<(8:Int))=true→(aE ((7:Int)-(x:Int)))∧(aE ((8:Int)*((7:Int)-(x:Int))))∧(Î x)∧(z0≤(x:Int)∧(x:Int)<(vC:Int))∧(x:Int).toNat<List.length (S.ep m1 m2 x)∧(aE ((8:Int)+(x:Int)))∧(Î x)∧(z0≤(8:Int)+(x:Int)∧(8:Int)+(x:Int)<(vC:Int))∧Int.toNat ((8:Int)+(x:Int))<List.length (Í m1 m2 x)∧(aE ((x:Int)+z1))∧∃(ae:Nat),((x:Int)+z1=(ae:Int)∧List.set (Í m1 m2 x) (Int.toNat ((8:Int)+(x:Int))) (UInt8.ofNat (Int.toNat (m2%(18446744073709551616:Int)/(2:Int)^Int.toNat ((8:Int)*((7:Int)-(x:Int)))%(256:Int))))=S.ep m1 m2 ae)∧S.oE ae (8:Nat)∧S.ah (8:Nat) ae<S.ah (8:Nat) x)∧(decide ((x:Int)<(8:Int))=false→(z0≤(vC:Int)∧(vC:Int)≤(ao (S.ep m1 m2 x)))∧(vC:Int).toNat+(Rw m1 m2 x)≤List.length (S.ep m1 m2 x)∧List.take ((vC:Int).toNat) (S.ep m1 m2 x)++List.take (Rw m1 m2 x) (List.take vC (S.ep m1 m2 x))++List.drop ((vC:Int).toNat+Min.min (List.length (List.take vC (S.ep m1 m2 x))) (Rw m1 m2 x)) (S.ep m1 m2 x)=S.dX m1 m2)
def xe(b:List UInt8):=S.e8 (List.drop ((8:Int).toNat) b)
def Ï(b:List UInt8)(m:Int):=bif !(S.e8 b).2 then true else bif !(xe b).2 then true else bif decide (m<(xe b).1) then true else !S.KJ b (S.dX ((S.e8 b).1) ((xe b).1))
def Ry(b:List UInt8)(m:Int):Prop :=
 ((!decide ((ao b)=(64:Int)))=true→z0=((S.cG b m).1).1∧z0=((S.cG b m).1).2∧false=(S.cG b m).2)∧((!decide ((ao b)=(64:Int)))=false→S.e6 b∧(z0≤(8:Int)∧(8:Int)≤(ao b))∧S.e6 (List.drop ((8:Int).toNat) b)∧(((!(S.e8 b).2)=true→True)∧((!(S.e8 b).2)=false→((!(xe b).2)=true→True)∧((!(xe b).2)=false→(decide (m<(xe b).1)=true→True)∧(decide (m<(xe b).1)=false→S.ma ((S.e8 b).1) ((xe b).1)∧True))))∧((Ï b m)=true→z0=((S.cG b m).1).1∧z0=((S.cG b m).1).2∧false=(S.cG b m).2)∧((Ï b m)=false→(S.e8 b).1=((S.cG b m).1).1∧(xe b).1=((S.cG b m).1).2∧true=(S.cG b m).2))
def Rz(d1:List (List UInt8))(d2:List (Int×List UInt8)):Prop :=
 True∧(aE (S.kP (S.vB d1 d2)-(2:Int)))∧(aE ((S.kP (S.vB d1 d2)-(2:Int))*(64:Int)))∧(S.kP (S.vB d1 d2)-(2:Int))*(64:Int)=S.dI d1 d2
def RA(d1:List (List UInt8))(d2:List (Int×List UInt8)):Prop :=
 (∃(x:Nat),(z0=(x:Int)∧false=(S.c9 d1 d2 x).2∧z0=((S.c9 d1 d2 x).1).1∧z0=((S.c9 d1 d2 x).1).2)∧S.oE x (2:Nat))∧∀(x:Nat),S.oE x (2:Nat)→(decide ((x:Int)<(2:Int))=true→True∧((!decide (S.gv d1 d2 (x:Int)=z0))=true→(aE ((x:Int)+z1))∧∃(ae:Nat),((x:Int)+z1=(ae:Int)∧(S.c9 d1 d2 x).2=(S.c9 d1 d2 ae).2∧((S.c9 d1 d2 x).1).1=((S.c9 d1 d2 ae).1).1∧((S.c9 d1 d2 x).1).2=((S.c9 d1 d2 ae).1).2)∧S.oE ae (2:Nat)∧S.ah (2:Nat) ae<S.ah (2:Nat) x)∧((!decide (S.gv d1 d2 (x:Int)=z0))=false→True∧True∧(aE ((x:Int)+z1))∧∃(ae:Nat),((x:Int)+z1=(ae:Int)∧(bif bif (S.cG (S.dQ d1 d2 (x:Int)) (S.dI d1 d2)).2 then bif !(S.c9 d1 d2 x).2 then true else decide (((S.c9 d1 d2 x).1).1<((S.cG (S.dQ d1 d2 (x:Int)) (S.dI d1 d2)).1).1) else false then true else(S.c9 d1 d2 x).2)=(S.c9 d1 d2 ae).2∧(bif bif (S.cG (S.dQ d1 d2 (x:Int)) (S.dI d1 d2)).2 then bif !(S.c9 d1 d2 x).2 then true else decide (((S.c9 d1 d2 x).1).1<((S.cG (S.dQ d1 d2 (x:Int)) (S.dI d1 d2)).1).1) else false then((S.cG (S.dQ d1 d2 (x:Int)) (S.dI d1 d2)).1).1 else((S.c9 d1 d2 x).1).1)=((S.c9 d1 d2 ae).1).1∧(bif bif (S.cG (S.dQ d1 d2 (x:Int)) (S.dI d1 d2)).2 then bif !(S.c9 d1 d2 x).2 then true else decide (((S.c9 d1 d2 x).1).1<((S.cG (S.dQ d1 d2 (x:Int)) (S.dI d1 d2)).1).1) else false then((S.cG (S.dQ d1 d2 (x:Int)) (S.dI d1 d2)).1).2 else((S.c9 d1 d2 x).1).2)=((S.c9 d1 d2 ae).1).2)∧S.oE ae (2:Nat)∧S.ah (2:Nat) ae<S.ah (2:Nat) x))∧(decide ((x:Int)<(2:Int))=false→((S.c9 d1 d2 x).1).1=((S.fH d1 d2).1).1∧((S.c9 d1 d2 x).1).2=((S.fH d1 d2).1).2∧(S.c9 d1 d2 x).2=(S.fH d1 d2).2)
def RB(d1:List (List UInt8))(d2:List (Int×List UInt8))(n:Int):Prop :=
 (∃(x:Nat),((2:Int)=(x:Int)+(2:Int)∧ []=S.dU d1 d2 x)∧S.nr d1 d2 n x)∧∀(x:Nat),S.nr d1 d2 n x→(decide ((ao (S.dU d1 d2 x))<n)=true→True∧((!decide (S.gv d1 d2 ((x:Int)+(2:Int))=z0))=true→S.dU d1 d2 x=List.take (Int.toNat n) (S.vt d1 d2))∧((!decide (S.gv d1 d2 ((x:Int)+(2:Int))=z0))=false→List.length (S.dU d1 d2 x)+List.length (S.dQ d1 d2 ((x:Int)+(2:Int)))≤jz∧(aE ((x:Int)+(2:Int)+z1))∧∃(ae:Nat),((x:Int)+(2:Int)+z1=(ae:Int)+(2:Int)∧S.dU d1 d2 x++S.dQ d1 d2 ((x:Int)+(2:Int))=S.dU d1 d2 ae)∧S.nr d1 d2 n ae∧S.ah (5000:Nat) ae<S.ah (5000:Nat) x))∧(decide ((ao (S.dU d1 d2 x))<n)=false→(z0≤n∧n≤(ao (S.dU d1 d2 x)))∧List.take (Int.toNat n) (S.dU d1 d2 x)=List.take (Int.toNat n) (S.vt d1 d2))
def H4(r1:List UInt8)(r2 r3:Int):=S.al (((S.al r1 r2 r3).1).1) ((((S.al r1 r2 r3).1).2).1) ((((S.al r1 r2 r3).1).2).2)
def Nn(r1:List UInt8)(r2 r3:Int):=S.bm (((S.al r1 r2 r3).1).1) ((((S.al r1 r2 r3).1).2).1) ((((S.al r1 r2 r3).1).2).2) (2000:Int)
def Np(r1:List UInt8)(r2 r3:Int):=S.al (((H4 r1 r2 r3).1).1) ((((H4 r1 r2 r3).1).2).1) ((((H4 r1 r2 r3).1).2).2)
def iQ(r1:List UInt8)(r2 r3:Int):=S.al r1 r2 r3
def RC(r1:List UInt8)(r2:Int)(r3:Int):Prop :=
 r1.length≤jz∧((decide ((iQ r1 r2 r3).2=z0)=true→List.length (((iQ r1 r2 r3).1).1)≤jz)∧(decide ((iQ r1 r2 r3).2=z0)=false→(decide ((iQ r1 r2 r3).2=(2:Int))=true→List.length (((iQ r1 r2 r3).1).1)≤jz∧List.length (((H4 r1 r2 r3).1).1)≤jz)∧(decide ((iQ r1 r2 r3).2=(2:Int))=false→True)))∧(bif decide ((iQ r1 r2 r3).2=z0) then((Nn r1 r2 r3).1).1 else bif decide ((iQ r1 r2 r3).2=(2:Int)) then((Np r1 r2 r3).1).1 else((iQ r1 r2 r3).1).1)=r1∧(bif decide ((iQ r1 r2 r3).2=z0) then(((Nn r1 r2 r3).1).2).1 else bif decide ((iQ r1 r2 r3).2=(2:Int)) then(((Np r1 r2 r3).1).2).1 else(((iQ r1 r2 r3).1).2).1)=((S.cr r1 r2 r3).1).1∧(bif decide ((iQ r1 r2 r3).2=z0) then(((Nn r1 r2 r3).1).2).2 else bif decide ((iQ r1 r2 r3).2=(2:Int)) then(((Np r1 r2 r3).1).2).2 else(((iQ r1 r2 r3).1).2).2)=((S.cr r1 r2 r3).1).2∧(bif decide ((iQ r1 r2 r3).2=z0) then(iQ r1 r2 r3).2 else bif decide ((iQ r1 r2 r3).2=(2:Int)) then(iQ r1 r2 r3).2 else(iQ r1 r2 r3).2)=((S.cr r1 r2 r3).2).1∧(bif decide ((iQ r1 r2 r3).2=z0) then z0 else bif decide ((iQ r1 r2 r3).2=(2:Int)) then(H4 r1 r2 r3).2 else z0)=(((S.cr r1 r2 r3).2).2).1∧(bif decide ((iQ r1 r2 r3).2=z0) then z0 else bif decide ((iQ r1 r2 r3).2=(2:Int)) then(Np r1 r2 r3).2 else z0)=((((S.cr r1 r2 r3).2).2).2).1∧(bif decide ((iQ r1 r2 r3).2=z0) then(Nn r1 r2 r3).2 else [])=((((S.cr r1 r2 r3).2).2).2).2
def Ð(e1:Int):=bif decide (e1<z0) then true else decide ((3:Int)<e1)
def RD(e1:Int)(e2:Int)(e3:Int)(e4:List UInt8):Prop :=
 ((Ð e1)=true→ []=(S.aQ e1 e2 e3 e4).1∧z1=(S.aQ e1 e2 e3 e4).2)∧((Ð e1)=false→List.length (Vg.fu UInt8)≤(35184372088832:Nat)∧(decide (e1=z0)=true→(decide ((2000:Int)<(ao e4))=true→ []=(S.aQ e1 e2 e3 e4).1∧z1=(S.aQ e1 e2 e3 e4).2)∧(decide ((2000:Int)<(ao e4))=false→S.lT (S.jg (Vg.fu UInt8) e1) e4∧((!decide (S.iz e1=z0))=true→ []=(S.aQ e1 e2 e3 e4).1∧S.iz e1=(S.aQ e1 e2 e3 e4).2)∧((!decide (S.iz e1=z0))=false→S.jg (Vg.fu UInt8) e1++S.text e4=(S.aQ e1 e2 e3 e4).1∧z0=(S.aQ e1 e2 e3 e4).2)))∧(decide (e1=z0)=false→(decide (e1=(2:Int))=true→(∃(x:Nat),(z0=(x:Int)∧S.iz e1=(S.jU e1 e2 e3 x).2∧S.jg (Vg.fu UInt8) e1=(S.jU e1 e2 e3 x).1)∧S.oE x (2:Nat))∧∀(x:Nat),S.oE x (2:Nat)→(decide ((x:Int)<(↑(List.length [e2,e3]):Int))=true→(z0≤(x:Int)∧(x:Int)<(↑(List.length [e2,e3]):Int))∧(x:Int).toNat<List.length [e2,e3]∧(decide ((S.jU e1 e2 e3 x).2=z0)=true→List.length ((S.jU e1 e2 e3 x).1)≤(35184372088832:Nat)∧(aE ((x:Int)+z1))∧∃(ae:Nat),((x:Int)+z1=(ae:Int)∧S.iz (List.getD [e2,e3] ((x:Int).toNat) z0)=(S.jU e1 e2 e3 ae).2∧S.jg ((S.jU e1 e2 e3 x).1) (List.getD [e2,e3] ((x:Int).toNat) z0)=(S.jU e1 e2 e3 ae).1)∧S.oE ae (2:Nat)∧S.ah (2:Nat) ae<S.ah (2:Nat) x)∧(decide ((S.jU e1 e2 e3 x).2=z0)=false→(aE ((x:Int)+z1))∧∃(ae:Nat),((x:Int)+z1=(ae:Int)∧(S.jU e1 e2 e3 x).2=(S.jU e1 e2 e3 ae).2∧(S.jU e1 e2 e3 x).1=(S.jU e1 e2 e3 ae).1)∧S.oE ae (2:Nat)∧S.ah (2:Nat) ae<S.ah (2:Nat) x))∧(decide ((x:Int)<(↑(List.length [e2,e3]):Int))=false→((!decide ((S.jU e1 e2 e3 x).2=z0))=true→ []=(S.aQ e1 e2 e3 e4).1∧(S.jU e1 e2 e3 x).2=(S.aQ e1 e2 e3 e4).2)∧((!decide ((S.jU e1 e2 e3 x).2=z0))=false→(S.jU e1 e2 e3 x).1=(S.aQ e1 e2 e3 e4).1∧z0=(S.aQ e1 e2 e3 e4).2)))∧(decide (e1=(2:Int))=false→((!decide (S.iz e1=z0))=true→ []=(S.aQ e1 e2 e3 e4).1∧S.iz e1=(S.aQ e1 e2 e3 e4).2)∧((!decide (S.iz e1=z0))=false→S.jg (Vg.fu UInt8) e1=(S.aQ e1 e2 e3 e4).1∧z0=(S.aQ e1 e2 e3 e4).2))))
def Nq(x:Int×List (List UInt8)×List S.ax)(d1:List (List UInt8))(d2:List (Int×List UInt8)):=S.bH x.2.1 x.2.2 (((S.cr (S.ba d1 d2) x.1 z0).2).1) ((((S.cr (S.ba d1 d2) x.1 z0).2).2).1) (((((S.cr (S.ba d1 d2) x.1 z0).2).2).2).1) (((((S.cr (S.ba d1 d2) x.1 z0).2).2).2).2)
def oq(d1:List (List UInt8))(d2:List (Int×List UInt8)):=((S.bV (d1,d2)).1).2
def RE(d1:List (List UInt8))(d2:List (Int×List UInt8)):Prop :=
 True∧(((!S.aP d1 d2)=true→True)∧((!S.aP d1 d2)=false→True))∧((bif !S.aP d1 d2 then true else decide (S.kP (S.vB d1 d2)≤(2:Int)))=true→z0=((S.bV (d1,d2)).1).1∧z0=(oq d1 d2).1∧ []=((oq d1 d2).2).1∧ []=((oq d1 d2).2).2∧z1=(S.bV (d1,d2)).2)∧((bif !S.aP d1 d2 then true else decide (S.kP (S.vB d1 d2)≤(2:Int)))=false→True∧((!(S.fH d1 d2).2)=true→z0=((S.bV (d1,d2)).1).1∧z0=(oq d1 d2).1∧ []=((oq d1 d2).2).1∧ []=((oq d1 d2).2).2∧(7:Int)=(S.bV (d1,d2)).2)∧((!(S.fH d1 d2).2)=false→S.qJ d1 d2 (((S.fH d1 d2).1).2)∧(∃(x:Int×List (List UInt8)×List S.ax),(List.take (Int.toNat (((S.fH d1 d2).1).2)) (S.vt d1 d2)=S.ba d1 d2∧z0=x.1∧z0=z0∧ []=x.2.1∧ []=x.2.2)∧S.p6 (S.ba d1 d2) x)∧∀(x:Int×List (List UInt8)×List S.ax),S.p6 (S.ba d1 d2) x→(decide (x.1<(ao (S.ba d1 d2)))=true→S.KL (S.ba d1 d2)∧((!decide (((S.cr (S.ba d1 d2) x.1 z0).1).2=z0))=true→z0=((S.bV (d1,d2)).1).1∧z0=(oq d1 d2).1∧ []=((oq d1 d2).2).1∧ []=((oq d1 d2).2).2∧(2:Int)=(S.bV (d1,d2)).2)∧((!decide (((S.cr (S.ba d1 d2) x.1 z0).1).2=z0))=false→True∧((!decide ((Nq x d1 d2).2=z0))=true→z0=((S.bV (d1,d2)).1).1∧z0=(oq d1 d2).1∧ []=((oq d1 d2).2).1∧ []=((oq d1 d2).2).2∧(2:Int)=(S.bV (d1,d2)).2)∧((!decide ((Nq x d1 d2).2=z0))=false→∃(ae:Int×List (List UInt8)×List S.ax),(S.ba d1 d2=S.ba d1 d2∧((S.cr (S.ba d1 d2) x.1 z0).1).1=ae.1∧((S.cr (S.ba d1 d2) x.1 z0).1).2=z0∧((Nq x d1 d2).1).1=ae.2.1∧((Nq x d1 d2).1).2=ae.2.2)∧S.p6 (S.ba d1 d2) ae∧List.length (S.ba d1 d2)-Int.toNat ae.1<List.length (S.ba d1 d2)-Int.toNat x.1)))∧(decide (x.1<(ao (S.ba d1 d2)))=false→((S.fH d1 d2).1).1=((S.bV (d1,d2)).1).1∧((S.fH d1 d2).1).2=(oq d1 d2).1∧x.2.1=((oq d1 d2).2).1∧x.2.2=((oq d1 d2).2).2∧z0=(S.bV (d1,d2)).2)))
def zO(d1:List (List UInt8))(d2:List (Int×List UInt8))(x:Int×List UInt8×S.Ws):=List.length (S.dQ d1 d2 ((2:Int)+x.1/(64:Int)))-Int.toNat (x.1%(64:Int))
def Ñ(x:Int×List UInt8×S.Ws)(d1:List (List UInt8))(d2:List (Int×List UInt8)):=(false,(2:Int)+x.1/(64:Int),List.take (Int.toNat (x.1%(64:Int))) (S.dQ d1 d2 ((2:Int)+x.1/(64:Int)))++List.take (zO d1 d2 x) x.2.1++List.drop (Int.toNat (x.1%(64:Int))+Min.min (List.length x.2.1) (zO d1 d2 x)) (S.dQ d1 d2 ((2:Int)+x.1/(64:Int))))
def H5(x:Int×List UInt8×S.Ws):=(2:Int)+x.1/(64:Int)
def RF(d1:List (List UInt8))(d2:List (Int×List UInt8))(a:Int)(b:List UInt8):Prop :=
 (aE (a+(ao b)))∧(∃(x:Int×List UInt8×S.Ws),(a=x.1∧b=x.2.1∧ []=S.mj x.2.2)∧S.s8 d1 d2 a b x)∧∀(x:Int×List UInt8×S.Ws),S.s8 d1 d2 a b x→(decide (x.1<a+(ao b))=true→z0≤x.1∧z0<(64:Int)∧(aE (H5 x))∧True∧((!decide (S.gv d1 d2 (H5 x)=z0))=true→S.mj x.2.2=S.mj (S.en d1 d2 a b))∧((!decide (S.gv d1 d2 (H5 x)=z0))=false→z0≤x.1∧z0<(64:Int)∧(z0≤x.1%(64:Int)∧x.1%(64:Int)≤(↑(List.length (S.dQ d1 d2 (H5 x))):Int))∧Int.toNat (x.1%(64:Int))+(zO d1 d2 x)≤List.length (S.dQ d1 d2 (H5 x))∧List.length (S.mj x.2.2)+List.length [Ñ x d1 d2]≤(3518437208883:Nat)∧(aE (x.1+(↑(Min.min (List.length x.2.1) (zO d1 d2 x)):Int)))∧(z0≤(↑(Min.min (List.length x.2.1) (zO d1 d2 x)):Int)∧(↑(Min.min (List.length x.2.1) (zO d1 d2 x)):Int)≤(↑(List.length x.2.1):Int))∧∃(ae:Int×List UInt8×S.Ws),(x.1+(↑(Min.min (List.length x.2.1) (zO d1 d2 x)):Int)=ae.1∧List.drop (Int.toNat (↑(Min.min (List.length x.2.1) (zO d1 d2 x)):Int)) x.2.1=ae.2.1∧S.mj x.2.2++ [Ñ x d1 d2]=S.mj ae.2.2)∧S.s8 d1 d2 a b ae∧List.length ae.2.1<List.length x.2.1))∧(decide (x.1<a+(ao b))=false→S.mj x.2.2=S.mj (S.en d1 d2 a b))
def gr(d1:List (List UInt8))(d2:List (Int×List UInt8))(s1 s2:Int)(s3:List (List UInt8))(s4:List (Int×Int×List (List UInt8×List Int)))(e1 e2 e3:Int)(e4:List UInt8):=(S.gZ (d1,d2) (s1,s2,s3,s4) (e1,e2,e3,e4)).2
def hC(d1:List (List UInt8))(d2:List (Int×List UInt8)):=(S.bV (d1,d2)).1
def B5(e1 e2 e3:Int)(e4:List UInt8):=List.length ((S.aQ e1 e2 e3 e4).1)
def RG(d1:List (List UInt8))(d2:List (Int×List UInt8))(s1:Int)(s2:Int)(s3:List (List UInt8))(s4:List (Int×Int×List (List UInt8×List Int)))(e1:Int)(e2:Int)(e3:Int)(e4:List UInt8):Prop :=
 (decide (s1=(4611686018427387904:Int))=true→ []=(S.gZ (d1,d2) (s1,s2,s3,s4) (e1,e2,e3,e4)).1∧z0=((gr d1 d2 s1 s2 s3 s4 e1 e2 e3 e4).1).1∧z0=(((gr d1 d2 s1 s2 s3 s4 e1 e2 e3 e4).1).2).1∧ []=((((gr d1 d2 s1 s2 s3 s4 e1 e2 e3 e4).1).2).2).1∧ []=((((gr d1 d2 s1 s2 s3 s4 e1 e2 e3 e4).1).2).2).2∧z1=(gr d1 d2 s1 s2 s3 s4 e1 e2 e3 e4).2)∧(decide (s1=(4611686018427387904:Int))=false→True∧((bif !decide ((S.bV (d1,d2)).2=z0) then true else bif !decide ((hC d1 d2).1=s1) then true else !decide (((hC d1 d2).2).1=s2))=true→ []=(S.gZ (d1,d2) (s1,s2,s3,s4) (e1,e2,e3,e4)).1∧z0=((gr d1 d2 s1 s2 s3 s4 e1 e2 e3 e4).1).1∧z0=(((gr d1 d2 s1 s2 s3 s4 e1 e2 e3 e4).1).2).1∧ []=((((gr d1 d2 s1 s2 s3 s4 e1 e2 e3 e4).1).2).2).1∧ []=((((gr d1 d2 s1 s2 s3 s4 e1 e2 e3 e4).1).2).2).2∧z1=(gr d1 d2 s1 s2 s3 s4 e1 e2 e3 e4).2)∧((bif !decide ((S.bV (d1,d2)).2=z0) then true else bif !decide ((hC d1 d2).1=s1) then true else !decide (((hC d1 d2).2).1=s2))=false→True∧((!decide ((S.aQ e1 e2 e3 e4).2=z0))=true→ []=(S.gZ (d1,d2) (s1,s2,s3,s4) (e1,e2,e3,e4)).1∧z0=((gr d1 d2 s1 s2 s3 s4 e1 e2 e3 e4).1).1∧z0=(((gr d1 d2 s1 s2 s3 s4 e1 e2 e3 e4).1).2).1∧ []=((((gr d1 d2 s1 s2 s3 s4 e1 e2 e3 e4).1).2).2).1∧ []=((((gr d1 d2 s1 s2 s3 s4 e1 e2 e3 e4).1).2).2).2∧(S.aQ e1 e2 e3 e4).2=(gr d1 d2 s1 s2 s3 s4 e1 e2 e3 e4).2)∧((!decide ((S.aQ e1 e2 e3 e4).2=z0))=false→True∧((!decide ((S.bH s3 s4 e1 e2 e3 e4).2=z0))=true→ []=(S.gZ (d1,d2) (s1,s2,s3,s4) (e1,e2,e3,e4)).1∧z0=((gr d1 d2 s1 s2 s3 s4 e1 e2 e3 e4).1).1∧z0=(((gr d1 d2 s1 s2 s3 s4 e1 e2 e3 e4).1).2).1∧ []=((((gr d1 d2 s1 s2 s3 s4 e1 e2 e3 e4).1).2).2).1∧ []=((((gr d1 d2 s1 s2 s3 s4 e1 e2 e3 e4).1).2).2).2∧(S.bH s3 s4 e1 e2 e3 e4).2=(gr d1 d2 s1 s2 s3 s4 e1 e2 e3 e4).2)∧((!decide ((S.bH s3 s4 e1 e2 e3 e4).2=z0))=false→True∧(aE (S.dI d1 d2-((hC d1 d2).2).1))∧(decide (S.dI d1 d2-((hC d1 d2).2).1<(↑(B5 e1 e2 e3 e4):Int))=true→ []=(S.gZ (d1,d2) (s1,s2,s3,s4) (e1,e2,e3,e4)).1∧z0=((gr d1 d2 s1 s2 s3 s4 e1 e2 e3 e4).1).1∧z0=(((gr d1 d2 s1 s2 s3 s4 e1 e2 e3 e4).1).2).1∧ []=((((gr d1 d2 s1 s2 s3 s4 e1 e2 e3 e4).1).2).2).1∧ []=((((gr d1 d2 s1 s2 s3 s4 e1 e2 e3 e4).1).2).2).2∧(3:Int)=(gr d1 d2 s1 s2 s3 s4 e1 e2 e3 e4).2)∧(decide (S.dI d1 d2-((hC d1 d2).2).1<(↑(B5 e1 e2 e3 e4):Int))=false→(aE ((hC d1 d2).1+z1))∧(aE (((hC d1 d2).2).1+(↑(B5 e1 e2 e3 e4):Int)))∧z0≤(hC d1 d2).1+z1∧z0<(2:Int)∧S.KK [(255:UInt8)] (64:Int)∧S.KM (((hC d1 d2).2).1) ((S.aQ e1 e2 e3 e4).1)∧List.length [(false,((hC d1 d2).1+z1)%(2:Int),S.clean)]+List.length (S.mj (S.en d1 d2 (((hC d1 d2).2).1) ((S.aQ e1 e2 e3 e4).1)))≤(3518437208883:Nat)∧S.ma ((hC d1 d2).1+z1) (((hC d1 d2).2).1+(↑(B5 e1 e2 e3 e4):Int))∧List.length ([(false,((hC d1 d2).1+z1)%(2:Int),S.clean)]++S.mj (S.en d1 d2 (((hC d1 d2).2).1) ((S.aQ e1 e2 e3 e4).1)))+List.length [(true,z0,[]),(false,((hC d1 d2).1+z1)%(2:Int),S.dX ((hC d1 d2).1+z1) (((hC d1 d2).2).1+(↑(B5 e1 e2 e3 e4):Int))),(true,z0,[])]≤(3518437208883:Nat)∧ [(false,((hC d1 d2).1+z1)%(2:Int),S.clean)]++S.mj (S.en d1 d2 (((hC d1 d2).2).1) ((S.aQ e1 e2 e3 e4).1))++ [(true,z0,[]),(false,((hC d1 d2).1+z1)%(2:Int),S.dX ((hC d1 d2).1+z1) (((hC d1 d2).2).1+(↑(B5 e1 e2 e3 e4):Int))),(true,z0,[])]=(S.gZ (d1,d2) (s1,s2,s3,s4) (e1,e2,e3,e4)).1∧(hC d1 d2).1+z1=((gr d1 d2 s1 s2 s3 s4 e1 e2 e3 e4).1).1∧((hC d1 d2).2).1+(↑(B5 e1 e2 e3 e4):Int)=(((gr d1 d2 s1 s2 s3 s4 e1 e2 e3 e4).1).2).1∧((S.bH s3 s4 e1 e2 e3 e4).1).1=((((gr d1 d2 s1 s2 s3 s4 e1 e2 e3 e4).1).2).2).1∧((S.bH s3 s4 e1 e2 e3 e4).1).2=((((gr d1 d2 s1 s2 s3 s4 e1 e2 e3 e4).1).2).2).2∧z0=(gr d1 d2 s1 s2 s3 s4 e1 e2 e3 e4).2)))))
def zP(l:List (Bool×Int×List UInt8))(x:Nat×S.Bs×S.Ws):=List.getD l ((x.1:Int).toNat) (false,z0,[])
def RH(d1:List (List UInt8))(d2:List (Int×List UInt8))(l:List (Bool×Int×List UInt8))(f:Int):Prop :=
 (∃(x:Nat×S.Bs×S.Ws),(z0=(x.1:Int)∧d1=x.2.1∧d2=x.2.2)∧S.mQ d1 d2 l f x)∧∀(x:Nat×S.Bs×S.Ws),S.mQ d1 d2 l f x→(decide ((x.1:Int)<(ao l))=true→(z0≤(x.1:Int)∧(x.1:Int)<(ao l))∧(decide (f≤(x.1:Int))=true→x.2.1=((S.r9 (d1,d2) l f).1).1∧x.2.2=((S.r9 (d1,d2) l f).1).2∧(x.1:Int)=(S.r9 (d1,d2) l f).2)∧(decide (f≤(x.1:Int))=false→((zP l x).1=true→True∧(aE ((x.1:Int)+z1))∧∃(ae:Nat×S.Bs×S.Ws),((x.1:Int)+z1=(ae.1:Int)∧S.ya (x.2.1,x.2.2)=ae.2.1∧ []=ae.2.2)∧S.mQ d1 d2 l f ae∧S.ah (S.len l) ae.1<S.ah (S.len l) x.1)∧((zP l x).1=false→True∧((!decide (S.kY x.2.1 x.2.2 (((zP l x).2).1) (((zP l x).2).2)=z0))=true→x.2.1=((S.r9 (d1,d2) l f).1).1∧x.2.2=((S.r9 (d1,d2) l f).1).2∧(x.1:Int)=(S.r9 (d1,d2) l f).2)∧((!decide (S.kY x.2.1 x.2.2 (((zP l x).2).1) (((zP l x).2).2)=z0))=false→(aE ((x.1:Int)+z1))∧∃(ae:Nat×S.Bs×S.Ws),((x.1:Int)+z1=(ae.1:Int)∧S.wB x.2.1 x.2.2=ae.2.1∧S.wW x.2.1 x.2.2 (((zP l x).2).1) (((zP l x).2).2)=ae.2.2)∧S.mQ d1 d2 l f ae∧S.ah (S.len l) ae.1<S.ah (S.len l) x.1))))∧(decide ((x.1:Int)<(ao l))=false→x.2.1=((S.r9 (d1,d2) l f).1).1∧x.2.2=((S.r9 (d1,d2) l f).1).2∧(ao l)=(S.r9 (d1,d2) l f).2)
def RJ(y1:List (List UInt8))(y2:List (Int×Int×List (List UInt8×List Int)))(e1:Int)(e2:Int)(e3:Int)(e4:List UInt8):Prop :=
 True∧((S.aU y1 y2 e4).1).1=((S.aU y1 y2 e4).1).1∧((S.aU y1 y2 e4).1).2=((S.aU y1 y2 e4).1).2∧(S.aU y1 y2 e4).2=(S.aU y1 y2 e4).2
def RL(y1:List (List UInt8))(y2:List (Int×Int×List (List UInt8×List Int)))(e1:Int)(e2:Int)(e3:Int)(e4:List UInt8):Prop :=
 True∧((S.aN y1 y2).1).1=((S.aN y1 y2).1).1∧((S.aN y1 y2).1).2=((S.aN y1 y2).1).2∧(S.aN y1 y2).2=(S.aN y1 y2).2
def RM(y1:List (List UInt8))(y2:List (Int×Int×List (List UInt8×List Int)))(e1:Int)(e2:Int)(e3:Int)(e4:List UInt8):Prop :=
 True∧((S.bt y1 y2 e2 e3).1).1=((S.bt y1 y2 e2 e3).1).1∧((S.bt y1 y2 e2 e3).1).2=((S.bt y1 y2 e2 e3).1).2∧(S.bt y1 y2 e2 e3).2=(S.bt y1 y2 e2 e3).2
def RN(y1:List (List UInt8))(y2:List (Int×Int×List (List UInt8×List Int)))(e1:Int)(e2:Int)(e3:Int)(e4:List UInt8):Prop :=
 True∧(S.cq y1 y2).1=(S.cq y1 y2).1∧(S.cq y1 y2).2=(S.cq y1 y2).2∧z0=z0
def RO:Prop :=
 True
def RP(y1:List (List UInt8))(y2:List (Int×Int×List (List UInt8×List Int)))(e1:Int)(e2:Int)(e3:Int)(e4:List UInt8):Prop :=
 (e1=z0→True∧e1=z0∧True∧((S.aU y1 y2 e4).1).1=((S.bH y1 y2 e1 e2 e3 e4).1).1∧((S.aU y1 y2 e4).1).2=((S.bH y1 y2 e1 e2 e3 e4).1).2∧(S.aU y1 y2 e4).2=(S.bH y1 y2 e1 e2 e3 e4).2)∧(e1=z1→True∧e1=z1∧True∧((S.aN y1 y2).1).1=((S.bH y1 y2 e1 e2 e3 e4).1).1∧((S.aN y1 y2).1).2=((S.bH y1 y2 e1 e2 e3 e4).1).2∧(S.aN y1 y2).2=(S.bH y1 y2 e1 e2 e3 e4).2)∧(e1=(2:Int)→True∧e1=(2:Int)∧True∧((S.bt y1 y2 e2 e3).1).1=((S.bH y1 y2 e1 e2 e3 e4).1).1∧((S.bt y1 y2 e2 e3).1).2=((S.bH y1 y2 e1 e2 e3 e4).1).2∧(S.bt y1 y2 e2 e3).2=(S.bH y1 y2 e1 e2 e3 e4).2)∧(e1=(3:Int)→True∧e1=(3:Int)∧True∧(S.cq y1 y2).1=((S.bH y1 y2 e1 e2 e3 e4).1).1∧(S.cq y1 y2).2=((S.bH y1 y2 e1 e2 e3 e4).1).2∧z0=(S.bH y1 y2 e1 e2 e3 e4).2)∧((e1=z0→False)∧(e1=z1→False)∧(e1=(2:Int)→False)∧(e1=(3:Int)→False)∧True→True∧((e1=z0→False)∧(e1=z1→False)∧(e1=(2:Int)→False)∧(e1=(3:Int)→False)∧True)∧True∧(bif !S.aX y1 y2 then [] else y1)=((S.bH y1 y2 e1 e2 e3 e4).1).1∧(bif !S.aX y1 y2 then [] else y2)=((S.bH y1 y2 e1 e2 e3 e4).1).2∧z1=(S.bH y1 y2 e1 e2 e3 e4).2)
def RQ(y1:List (List UInt8))(y2:List (Int×Int×List (List UInt8×List Int)))(e1:Int)(e2:Int)(e3:Int)(e4:List UInt8):Prop :=
 (decide (e1=z0)=true→True∧((S.aU y1 y2 e4).1).1=((S.bH y1 y2 e1 e2 e3 e4).1).1∧((S.aU y1 y2 e4).1).2=((S.bH y1 y2 e1 e2 e3 e4).1).2∧(S.aU y1 y2 e4).2=(S.bH y1 y2 e1 e2 e3 e4).2)∧(decide (e1=z0)=false→(decide (e1=z1)=true→True∧((S.aN y1 y2).1).1=((S.bH y1 y2 e1 e2 e3 e4).1).1∧((S.aN y1 y2).1).2=((S.bH y1 y2 e1 e2 e3 e4).1).2∧(S.aN y1 y2).2=(S.bH y1 y2 e1 e2 e3 e4).2)∧(decide (e1=z1)=false→(decide (e1=(2:Int))=true→True∧((S.bt y1 y2 e2 e3).1).1=((S.bH y1 y2 e1 e2 e3 e4).1).1∧((S.bt y1 y2 e2 e3).1).2=((S.bH y1 y2 e1 e2 e3 e4).1).2∧(S.bt y1 y2 e2 e3).2=(S.bH y1 y2 e1 e2 e3 e4).2)∧(decide (e1=(2:Int))=false→(decide (e1=(3:Int))=true→True∧(S.cq y1 y2).1=((S.bH y1 y2 e1 e2 e3 e4).1).1∧(S.cq y1 y2).2=((S.bH y1 y2 e1 e2 e3 e4).1).2∧z0=(S.bH y1 y2 e1 e2 e3 e4).2)∧(decide (e1=(3:Int))=false→True∧(S.ak y1 y2).1=((S.bH y1 y2 e1 e2 e3 e4).1).1∧(S.ak y1 y2).2=((S.bH y1 y2 e1 e2 e3 e4).1).2∧z1=(S.bH y1 y2 e1 e2 e3 e4).2))))
def RR(n:Int):Prop :=
 (bif decide (z0≤n) then decide (n≤(4611686018427387904:Int)) else false)=Bool.rec true false (S.du n)
def RS(e1:Int)(e2:Int)(e3:Int)(e4:List UInt8):Prop :=
 (decide (e1=z0)=true→decide ((ao e4)≤(2000:Int))=S.dR e1 e2 e3 e4)∧(decide (e1=z0)=false→(decide (e1=(2:Int))=true→True∧((Bool.rec true false (S.du e2)=true→True)∧(Bool.rec true false (S.du e2)=false→True))∧(bif Bool.rec true false (S.du e2) then Bool.rec true false (S.du e3) else false)=S.dR e1 e2 e3 e4)∧(decide (e1=(2:Int))=false→(bif decide (e1=z1) then true else decide (e1=(3:Int)))=S.dR e1 e2 e3 e4))
def RT(e1:Int)(e2:Int)(e3:Int)(e4:List UInt8):Prop :=
 z0≤e1∧(decide (e1=z0)=true→S.small e4∧List.length (S.num e1)+List.length (S.text e4)≤jz∧S.num e1++S.text e4=S.kB e1 e2 e3 e4)∧(decide (e1=z0)=false→(decide (e1=(2:Int))=true→z0≤e2∧List.length (S.num e1)+List.length (S.num e2)≤jz∧z0≤e3∧List.length (S.num e1++S.num e2)+List.length (S.num e3)≤jz∧S.num e1++S.num e2++S.num e3=S.kB e1 e2 e3 e4)∧(decide (e1=(2:Int))=false→S.num e1=S.kB e1 e2 e3 e4))
def qL:=S.gZ (S.xa (10:Int),[]) ((S.bV (S.xa (10:Int),[])).1) (z0,z0,z0,[(104:UInt8),(97:UInt8),(121:UInt8)])
def zQ:=S.bV (S.wk ((S.r9 (S.xa (10:Int),[]) (qL.1) (9:Int)).1) (Vg.fu Int),[])
def xf:=S.bV (S.xa (10:Int),[])
def RU:=(List.getD (qL.1) ((3:Int).toNat) (false,z0,[])).2
def RV:=List.getD (qL.1) ((2:Int).toNat) (false,z0,[])
def B6:=List.length (qL.1)
def RW:=(List.getD (qL.1) (z0.toNat) (false,z0,[])).2
def RX:=(List.getD (qL.1) (z1.toNat) (false,z0,[])).2
def RY:=S.r9 (S.xa (10:Int),[]) (qL.1) (9:Int)
def Nr:=List.length ((((zQ.1).2).2).1)
def RZ:Prop :=
 True∧True∧(0:Nat)<List.length [(104:UInt8),(97:UInt8),(121:UInt8)]∧True∧True∧True∧True∧((decide (xf.2=z0)=true→(decide ((xf.1).1=z0)=true→(decide (((xf.1).2).1=z0)=true→(decide ((qL.2).2=z0)=true→(decide ((B6:Int)=(5:Int))=true→(z0≤z0∧z0<(B6:Int))∧(decide (RW.1=z1)=true→(z0≤z1∧z1<(B6:Int))∧(decide (RX.1=(2:Int))=true→(z0≤(2:Int)∧(2:Int)<(B6:Int))∧(RV.1=true→(z0≤(3:Int)∧(3:Int)<(B6:Int))∧(decide (RU.1=z1)=true→(decide ((((qL.2).1).2).1=(5:Int))=true→(decide (RY.2=(5:Int))=true→(decide (zQ.2=z0)=true→(decide ((zQ.1).1=z1)=true→(decide ((Nr:Int)=z1)=true→z0≤z0∧z0<(Nr:Int))∧(decide ((Nr:Int)=z1)=false→True))∧(decide ((zQ.1).1=z1)=false→True))∧(decide (zQ.2=z0)=false→True))∧(decide (RY.2=(5:Int))=false→True))∧(decide ((((qL.2).1).2).1=(5:Int))=false→True))∧(decide (RU.1=z1)=false→True))∧(RV.1=false→True))∧(decide (RX.1=(2:Int))=false→True))∧(decide (RW.1=z1)=false→True))∧(decide ((B6:Int)=(5:Int))=false→True))∧(decide ((qL.2).2=z0)=false→True))∧(decide (((xf.1).2).1=z0)=false→True))∧(decide ((xf.1).1=z0)=false→True))∧(decide (xf.2=z0)=false→True))∧(bif decide (xf.2=z0) then bif decide ((xf.1).1=z0) then bif decide (((xf.1).2).1=z0) then bif decide ((qL.2).2=z0) then bif decide ((B6:Int)=(5:Int)) then bif decide (RW.1=z1) then bif decide (RX.1=(2:Int)) then bif RV.1 then bif decide (RU.1=z1) then bif decide ((((qL.2).1).2).1=(5:Int)) then bif decide (RY.2=(5:Int)) then bif decide (zQ.2=z0) then bif decide ((zQ.1).1=z1) then bif decide ((Nr:Int)=z1) then decide (List.getD ((((zQ.1).2).2).1) (z0.toNat) []= [(104:UInt8),(97:UInt8),(121:UInt8)]) else false else false else false else false else false else false else false else false else false else false else false else false else false else false)=true
def R0(e1:Int)(e2:Int)(e3:Int)(e4:List UInt8):Prop :=
 e1=e1∧e2=e2∧e3=e3∧e4=e4
def R1(e1:Int)(e2:Int)(e3:Int)(e4:List UInt8):Prop :=
 decide ((ao e4)≤(2500:Int))=decide ((↑(S.len e4):Int)≤(2500:Int))
def Ò(y1:List (List UInt8))(y2:List (Int×Int×List (List UInt8×List Int)))(e1 e2 e3:Int)(e4:List UInt8):=bif !S.mN (((S.bH y1 y2 e1 e2 e3 e4).1).1) (((S.bH y1 y2 e1 e2 e3 e4).1).2) (((S.bH y1 y2 e1 e2 e3 e4).1).1) (((S.bH y1 y2 e1 e2 e3 e4).1).2) then true else !decide ((S.bH y1 y2 e1 e2 e3 e4).2=(S.bH y1 y2 e1 e2 e3 e4).2)
def R2(y1:List (List UInt8))(y2:List (Int×Int×List (List UInt8×List Int)))(e1:Int)(e2:Int)(e3:Int)(e4:List UInt8):Prop :=
 True∧((S.kn y1 y2=true→True)∧(S.kn y1 y2=false→True))∧((bif S.kn y1 y2 then true else !decide ((↑(S.len e4):Int)≤(2500:Int)))=true→True∧true=true)∧((bif S.kn y1 y2 then true else !decide ((↑(S.len e4):Int)≤(2500:Int)))=false→True∧S.small y2∧True∧True∧True∧S.small (((S.bH y1 y2 e1 e2 e3 e4).1).2)∧True∧((Ò y1 y2 e1 e2 e3 e4)=true→false=true)∧((Ò y1 y2 e1 e2 e3 e4)=false→True∧True∧((!S.dR e1 e2 e3 e4)=true→((decide ((↑(List.length ((S.aQ e1 e2 e3 e4).1)):Int)=z0)=true→(decide ((S.aQ e1 e2 e3 e4).2=z1)=true→True)∧(decide ((S.aQ e1 e2 e3 e4).2=z1)=false→True))∧(decide ((↑(List.length ((S.aQ e1 e2 e3 e4).1)):Int)=z0)=false→True))∧(bif decide ((↑(List.length ((S.aQ e1 e2 e3 e4).1)):Int)=z0) then bif decide ((S.aQ e1 e2 e3 e4).2=z1) then true else false else false)=true)∧((!S.dR e1 e2 e3 e4)=false→True∧S.zJ e1 e2 e3 e4∧((decide ((S.aQ e1 e2 e3 e4).1=S.kB e1 e2 e3 e4)=true→(decide ((S.aQ e1 e2 e3 e4).2=z0)=true→True)∧(decide ((S.aQ e1 e2 e3 e4).2=z0)=false→True))∧(decide ((S.aQ e1 e2 e3 e4).1=S.kB e1 e2 e3 e4)=false→True))∧(bif decide ((S.aQ e1 e2 e3 e4).1=S.kB e1 e2 e3 e4) then bif decide ((S.aQ e1 e2 e3 e4).2=z0) then true else false else false)=true)))
end Go

end
