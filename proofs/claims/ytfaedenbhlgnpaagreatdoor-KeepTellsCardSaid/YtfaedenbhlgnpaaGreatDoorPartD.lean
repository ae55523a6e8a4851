import Derived.Test.YtfaedenbhlgnpaaGreatDoorPartC
set_option linter.unusedVariables false
set_option linter.unusedSimpArgs false
section
namespace Go.S
abbrev qL:=Bool×Int×List UInt8
def dE(bl:Bs)(wt:Ws):Int:=((vB bl wt).length-2)*64
def uI(bl:Bs)(wt:Ws)(i:Int)(m:(Int×Int)×Bool):(Int×Int)×Bool:=
 if fZ bl wt i≠0 then m
 else if(cE (dM bl wt i) (dE bl wt)).2=true∧(m.2=false∨m.1.1<(cE (dM bl wt i) (dE bl wt)).1.1) then cE (dM bl wt i) (dE bl wt) else m
def fm(bl:Bs)(wt:Ws):(Int×Int)×Bool:=uI bl wt 1 (uI bl wt 0 ((0,0),false))
def uJ(bl:Bs)(wt:Ws):List UInt8:=((List.range ((vB bl wt).length-2)).map fun k:Nat=>dM bl wt ((k:Int)+2)).flatten
def aL(bl:Bs)(wt:Ws):((Int×Int)×eV)×Int:=
 if aI bl wt=false∨bl.length≤2 then(((0,0),([],[])),1)
 else if(fm bl wt).2=false then(((0,0),([],[])),7)
 else if(xp ((uJ bl wt).take (fm bl wt).1.2.toNat)).2≠0 then(((0,0),([],[])),2)
 else(((fm bl wt).1,(xp ((uJ bl wt).take (fm bl wt).1.2.toNat)).1),0)
def mr(c:List UInt8)(a:Int)(b:List UInt8):List UInt8:=c.take (a%64).toNat++b.take (64-(a%64).toNat)++c.drop ((a%64).toNat+b.length)
def qM(bl:Bs)(wt:Ws):Nat→Int→List UInt8→Ws
 |0,_,_=> []
 |f+1,a,b=>if b= [] then [] else if fZ bl wt (2+a/64)≠0 then [] else
   (2+a/64,mr (dM bl wt (2+a/64)) a b)::qM bl wt f (a+(min (64-(a%64).toNat) b.length:Nat)) (b.drop (64-(a%64).toNat))
def dV(bl:Bs)(wt:Ws)(a:Int)(b:List UInt8):Ws:=qM bl wt b.length a b
def wr(x:Int×List UInt8):qL:=(false,x.1,x.2)
def clean:List UInt8:=List.replicate 64 255
def eE(bl:Bs)(wt:Ws)(s u:Int)(b:List UInt8):List qL:=
 wr ((s+1)%2,clean)::((dV bl wt u b).map wr++ [(true,0,[]),wr ((s+1)%2,dN (s+1) (u+b.length)),(true,0,[])])
def bF(bl:Bs)(wt:Ws)(s u:Int)(x:eV)(e:bm):(List qL×((Int×Int)×eV))×Int:=
 if s=4611686018427387904 then(([],((0,0),([],[]))),1)
 else if(aL bl wt).2≠0∨(aL bl wt).1.1.1≠s∨(aL bl wt).1.1.2≠u then(([],((0,0),([],[]))),1)
 else if ez e=false then(([],((0,0),([],[]))),1)
 else if(cy x e).2≠0 then(([],((0,0),([],[]))),(cy x e).2)
 else if dE bl wt-u<(bR e).length then(([],((0,0),([],[]))),3)
 else((eE bl wt s u (bR e),((s+1,u+(bR e).length),(cy x e).1)),0)
def eJ:List qL→Nat→Bs→Ws→Nat→(Bs×Ws)×Nat
 | [],_,bl,wt,d=>((bl,wt),d)
 |c::r,f,bl,wt,d=>if f≤d then((bl,wt),d)
   else if c.1=true then eJ r f (sync bl wt) [] (d+1)
   else if kF bl wt c.2.1 c.2.2≠0 then((bl,wt),d)
   else eJ r f (wB bl wt) (wW bl wt c.2.1 c.2.2) (d+1)
def xq(bl:Bs)(wt:Ws)(l:List qL)(f:Int):(Bs×Ws)×Nat:=eJ l f.toNat bl wt 0
theorem GR {keep:List Int} {Q:Int→List UInt8→Prop}:∀(l:List (Nat×Int×List UInt8)) (bl:Bs),
  (∀x∈l,0≤x.2.1∧x.2.1<bl.length)→(∀x∈l,∀c,∀j,j≤64→Q x.2.1 c→Q x.2.1 (x.2.2.take j++c.drop j))→
  (∀i:Int,0≤i→i<bl.length→Q i (bO bl i))→∀i:Int,0≤i→i<bl.length→Q i (bO (l.foldl (sC keep) bl) i)
 | [],bl,_,_,h=>h
 |x::l,bl,hx,hq,h=>by
  have hx0:=hx x (List.mem_cons_self ..)
  have :=GR (keep:=keep) l (sC keep bl x) (fun y hy=>by rw [sE];exact hx y (List.mem_cons_of_mem _ hy)) (fun y hy=>hq y (List.mem_cons_of_mem _ hy)) (fun i h0 h1=>by
   rw [sE] at h1
   simp only [sC]
   rw [pz bl x.2.1 i _ hx0 ⟨h0,h1⟩]
   split
   · rename_i e;subst e
     exact hq x (List.mem_cons_self ..) _ _ (uF _ _) (h _ h0 h1)
   · exact h i h0 h1)
  rw [sE] at this
  exact this
theorem Oc {bl:Bs} {wt:Ws}(hr:aI bl wt=true) {Q:Int→List UInt8→Prop}(keep:List Int)
  (hq:∀x∈wt,∀c,∀j,j≤64→Q x.1 c→Q x.1 (x.2.take j++c.drop j)) (h:∀i:Int,0≤i→i<bl.length→Q i (bO bl i)):
  ∀i:Int,0≤i→i<bl.length→Q i (bO (jz bl wt keep) i):=by
 simp only [jz,j5 hr,qK hr,qJ]
 refine GR _ bl (fun x hx=> ?_) (fun x hx=>hq x.2 (List.of_mem_zip hx).2) h
 have :=(cx.1 hr).2.2.2 _ (List.of_mem_zip hx).2
 exact⟨this.1,this.2.1⟩
theorem LG {Q:Int→List UInt8→Prop}:∀(l:Ws) (bl:Bs),
  (∀x∈l,0≤x.1∧x.1<bl.length)→(∀x∈l,Q x.1 x.2)→
  (∀i:Int,0≤i→i<bl.length→Q i (bO bl i))→∀i:Int,0≤i→i<bl.length→Q i (bO (nv l bl) i)
 | [],bl,_,_,h=>h
 |x::l,bl,hx,hq,h=>by
  have hx0:=hx x (List.mem_cons_self ..)
  have e:(uD bl x).length=bl.length:=by simp [uD]
  have :=LG l (uD bl x) (fun y hy=>by rw [e];exact hx y (List.mem_cons_of_mem _ hy)) (fun y hy=>hq y (List.mem_cons_of_mem _ hy)) (fun i h0 h1=>by
   rw [e] at h1
   simp only [uD]
   rw [pz bl x.1 i _ hx0 ⟨h0,h1⟩]
   split
   · rename_i e;subst e
     exact hq x (List.mem_cons_self ..)
   · exact h i h0 h1)
  rw [e] at this
  simpa only [nv,List.foldl_cons] using this
def dj(bl:Bs):Int:=((bl.length:Int)-2)*64
structure K (bl:Bs) (s u:Int) (x:eV):Prop where
 right :aI bl []=true
 three:3≤bl.length
 s0:0≤s
 u0:0≤u
 um:u≤dj bl
 Ky:cE (bO bl (s%2)) (dj bl)=((s,u),true)
 other:(cE (bO bl ((s+1)%2)) (dj bl)).2=false∨(cE (bO bl ((s+1)%2)) (dj bl)).1.1<s∨s=0∧(cE (bO bl ((s+1)%2)) (dj bl)).1.1=0
 log:∃es,(bl.drop 2).flatten.take u.toNat=es.flatMap bR∧sP ([],[]) es=some x
theorem Es {bl:Bs}(h:aI bl []=true):dE bl []=dj bl:=by simp only [dE,dj,j5 h]
theorem Tt {bl:Bs}(h:aI bl []=true):uJ bl []=(bl.drop 2).flatten:=by
 unfold uJ
 rw [j5 h]
 congr 1
 refine List.ext_getElem (by simp) fun i h1 h2=> ?_
 simp only [List.length_map,List.length_range] at h1
 simp only [List.getElem_map,List.getElem_range,List.getElem_drop]
 rw [z7 h,if_neg (by omega),bO,List.getD_eq_getElem?_getD,List.getElem?_eq_getElem (by omega)]
 simp only [Option.getD_some,show((i:Int)+2).toNat=2+i by omega]
theorem K.cur {bl:Bs} {s u:Int} {x:eV}(k:K bl s u x):fm bl []=((s,u),true):=by
 have h3:=k.three
 have e:∀i:Int,0≤i→i<2→∀m,uI bl [] i m=if(cE (bO bl i) (dj bl)).2=true∧(m.2=false∨m.1.1<(cE (bO bl i) (dj bl)).1.1) then cE (bO bl i) (dj bl) else m:=fun i h0 h1 m=>by
  have r:dM bl [] i=bO bl i:=by rw [z7 k.right,if_neg (by omega)]
  have q:fZ bl [] i=0:=by rw [z6 k.right,if_neg (by omega)]
  unfold uI
  rw [q,r,Es k.right,if_neg (fun w=>w rfl)]
 unfold fm
 rw [e 1 (by omega) (by omega),e 0 (by omega) (by omega)]
 have hg:=k.Ky
 have ho:=k.other
 have hs:=k.s0
 rcases(by omega :s%2=0∨s%2=1) with h|h
 · have h':(s+1)%2=1:=by omega
   rw [h] at hg
   rw [h'] at ho
   rw [hg]
   simp only [true_and,true_or,if_true]
   rw [if_neg]
   rintro⟨q1,q2⟩
   rcases ho with ho|ho|ho
   · rw [ho] at q1;cases q1
   · rcases q2 with q2|q2
     · cases q2
     · omega
   · rcases q2 with q2|q2
     · cases q2
     · omega
 · have h':(s+1)%2=0:=by omega
   rw [h] at hg
   rw [h'] at ho
   rw [hg]
   rw [if_pos]
   refine⟨rfl,?_⟩
   split
   · rename_i q
     rcases ho with ho|ho|ho
     · rw [ho] at q;exact absurd q.1 (by decide)
     · exact .inr ho
     · omega
   · exact .inl rfl
theorem K.opens {bl:Bs} {s u:Int} {x:eV}(k:K bl s u x):aL bl []=(((s,u),x),0):=by
 obtain⟨es,h1,h2⟩:=k.log
 have h3:=k.three
 unfold aL
 rw [k.cur,Tt k.right,if_neg (by rw [k.right];simp;omega),if_neg (by simp)]
 simp only
 rw [h1,Ŋ h2,if_neg (by simp)]
theorem K.Pj {bl:Bs} {s u:Int} {x:eV}(k:K bl s u x):bc x.1 x.2=true :=by
 obtain⟨es,h1,h2⟩:=k.log
 exact Bi es _ _ rfl h2
theorem K.aZ {bl:Bs} {s u:Int} {x:eV}(k:K bl s u x):(0≤s%2∧s%2<bl.length)∧(0≤(s+1)%2∧(s+1)%2<bl.length)∧s%2≠(s+1)%2∧s%2<2∧(s+1)%2<2:=by
 have :=k.three
 omega
theorem K.V6 {bl gg:Bs} {s u:Int} {x:eV}(k:K bl s u x)(hr:aI gg []=true)(hl:gg.length=bl.length)(h1:bO gg (s%2)=bO bl (s%2))
  (h2:bO gg ((s+1)%2)=bO bl ((s+1)%2)∨(bO gg ((s+1)%2)).getD 0 0=255∨(bO gg ((s+1)%2)).getD 63 0=255)
  (h3:(gg.drop 2).flatten.take u.toNat=(bl.drop 2).flatten.take u.toNat):K gg s u x:=by
 have er:dj gg=dj bl:=by unfold dj;rw [hl]
 have oc:8≤(bO gg ((s+1)%2)).length:=by
  have :=(cx.1 hr).2.2.1 _ (bu gg ((s+1)%2).toNat [] (by have :=k.aZ;omega))
  unfold bO;omega
 refine⟨hr,by rw [hl];exact k.three,k.s0,k.u0,by rw [er];exact k.um,by rw [er,h1];exact k.Ky,?_,?_⟩
 · rw [er]
   rcases h2 with h2|h2|h2
   · rw [h2];exact k.other
   · exact .inl (Oa h2 oc)
   · exact .inl (Ob h2)
 · obtain⟨es,e1,e2⟩:=k.log
   exact⟨es,by rw [h3];exact e1,e2⟩
theorem K.next {bl gg:Bs} {s u:Int} {x:eV}(k:K bl s u x) {e:bm}(he:ez e=true)(hh:(cy x e).2=0)(hs:s<4611686018427387904)(hr:aI gg []=true)(hl:gg.length=bl.length)
  (h1:bO gg (s%2)=bO bl (s%2)) (h2:bO gg ((s+1)%2)=dN (s+1) (u+(bR e).length)) (hm:u+(bR e).length≤dj bl)
  (h3:(gg.drop 2).flatten.take (u.toNat+(bR e).length)=(bl.drop 2).flatten.take u.toNat++bR e):K gg (s+1) (u+(bR e).length) (cy x e).1:=by
 have er:dj gg=dj bl:=by unfold dj;rw [hl]
 have Sf:=k.s0
 have hu0:=k.u0
 have tj:dj bl≤4094*64:=by
  have :=(cx.1 k.right).1
  unfold dj;omega
 refine⟨hr,by rw [hl];exact k.three,by omega,by omega,by rw [er];exact hm,?_,?_,?_⟩
 · rw [er,h2];exact GQ (by omega) (by omega) (by omega) (by omega) hm
 · have e2:(s+1+1)%2=s%2:=by omega
   rw [er,e2,h1,k.Ky]
   exact .inr (.inl (by simp only;omega))
 · obtain⟨es,e1,e2⟩:=k.log
   refine⟨es++ [e],?_,?_⟩
   · have :(u+((bR e).length:Int)).toNat=u.toNat+(bR e).length:=by omega
     rw [this,h3,e1];simp
   · rw [Eo,e2];simp only;rw [if_pos ⟨he,hh⟩]
end Go.S

end
section
namespace Go.S
theorem yV {l:List qL} {f d:Nat}(h:f≤d)(bl:Bs)(wt:Ws):eJ l f bl wt d=((bl,wt),d):=by
 cases l with
 |nil=>rfl
 |cons c r=>rw [eJ,if_pos h]
theorem V7 {bl:Bs} {wt:Ws}(hr:aI bl wt=true) {x:Int×List UInt8}(h:0≤x.1∧x.1<bl.length∧x.2.length=64)(hl:wt.length<1000):
  kF bl wt x.1 x.2=0∧wB bl wt=bl∧wW bl wt x.1 x.2=wt++ [x]∧aI bl (wt++ [x])=true :=by
 have e:kF bl wt x.1 x.2=0:=by
  unfold kF;rw [j5 hr,qK hr,if_neg (by omega),if_neg (by omega)]
 have w:wW bl wt x.1 x.2=wt++ [x]:=by unfold wW;rw [if_pos e,qK hr]
 exact⟨e,j5 hr,w,by rw [←w];exact yT hr _ _⟩
theorem V8:∀(ws:Ws) (r:List qL) (f:Nat) (bl:Bs) (wt:Ws) (d:Nat),aI bl wt=true→(∀x∈ws,0≤x.1∧x.1<bl.length∧x.2.length=64)→wt.length+ws.length≤1000→
  eJ (ws.map wr++r) f bl wt d=(if f<d+ws.length then((bl,wt++ws.take (f-d)),max f d) else eJ r f bl (wt++ws) (d+ws.length))∧aI bl (wt++ws)=true
 | [],r,f,bl,wt,d,hr,_,_=>by
   refine⟨?_,by rw [List.append_nil];exact hr⟩
   simp only [List.map_nil,List.nil_append,List.length_nil,Nat.add_zero,List.take_nil,List.append_nil]
   split
   · rw [yV (by omega),Nat.max_eq_right (by omega)]
   · rfl
 |x::ws,r,f,bl,wt,d,hr,hw,hl=>by
  simp only [List.length_cons] at hl
  have h:=V7 hr (hw x (List.mem_cons_self ..)) (by omega)
  have ih:=V8 ws r f bl (wt++ [x]) (d+1) h.2.2.2 (fun y hy=>hw y (List.mem_cons_of_mem _ hy)) (by simp;omega)
  rw [List.append_assoc,List.singleton_append] at ih
  refine⟨?_,by rw [List.append_assoc,List.singleton_append] at ih;exact ih.2⟩
  simp only [List.map_cons,List.cons_append,eJ,wr,Bool.false_eq_true,if_false,h.1,h.2.1,h.2.2.1,ne_eq,not_true_eq_false,List.length_cons]
  split
  · rename_i hf
    rw [if_pos (by omega),show f-d=0 by omega,List.take_zero,List.append_nil,Nat.max_eq_right hf]
  · rename_i hf
    have e:f-d=(f-(d+1))+1:=by omega
    rw [ih.1,e,List.take_succ_cons,List.append_assoc,List.singleton_append]
    by_cases q:f<d+1+ws.length
    · rw [if_pos q,if_pos (by omega),Nat.max_eq_left (by omega),Nat.max_eq_left (by omega)]
    · rw [if_neg q,if_neg (by omega),show d+1+ws.length=d+(ws.length+1) by omega]
theorem rR {bl:Bs}(hr:aI bl []=true) {i:Int}(h0:0≤i)(h1:i<bl.length):dM bl [] i=bO bl i∧fZ bl [] i=0∧(bO bl i).length=64:=
 ⟨by rw [z7 hr,if_neg (by omega)],by rw [z6 hr,if_neg (by omega)],(cx.1 hr).2.2.1 _ (bu bl i.toNat [] (by omega))⟩
theorem Et {c:List UInt8}(hc:c.length=64)(a:Int)(b:List UInt8):(mr c a b).length=64:=by
 unfold mr
 simp only [List.length_append,List.length_take,List.length_drop,hc]
 omega
theorem GS {bl:Bs}(hr:aI bl []=true)(u:Nat):∀(f a:Nat) (b:List UInt8),b.length≤f→u≤a→a+b.length≤(bl.length-2)*64→
  (∀x∈qM bl [] f a b,2≤x.1∧x.1<bl.length∧x.2.length=64∧x.2.take ((u:Int)-64*(x.1-2)).toNat=(bO bl x.1).take ((u:Int)-64*(x.1-2)).toNat)∧
  (qM bl [] f a b).length*64≤a%64+b.length+63∧(b= []→qM bl [] f a b= [])
 |0,a,b,hf,hu,hb=>⟨(fun x hx=>by cases hx),by simp [qM],fun _=>rfl⟩
 |f+1,a,b,hf,hu,hb=>by
  rw [qM]
  by_cases h:b= []
  · rw [if_pos h];exact⟨(fun x hx=>by cases hx),by simp,fun _=>rfl⟩
  · have hp:1≤b.length:=by cases b with|nil=>exact absurd rfl h|cons=>simp
    have hR:=rR hr (i:=2+(a:Int)/64) (by omega) (by omega)
    have eo:((a:Int)%64).toNat=a%64:=by omega
    rw [if_neg h,hR.2.1,hR.1,if_neg (fun w=>w rfl),eo,show(a:Int)+((min (64-a%64) b.length:Nat):Int)=((a+min (64-a%64) b.length:Nat):Int) by omega]
    have ih:=GS hr u f (a+min (64-a%64) b.length) (b.drop (64-a%64)) (by rw [List.length_drop];omega) (by omega) (by rw [List.length_drop];omega)
    refine⟨fun x hx=> ?_,?_,fun q=>absurd q h⟩
    · rcases List.mem_cons.1 hx with rfl|hx
      · refine⟨by simp only;omega,by simp only;omega,Et hR.2.2 _ _,?_⟩
        simp only
        have hm:((u:Int)-64*(2+(a:Int)/64-2)).toNat≤a%64:=by omega
        unfold mr
        rw [eo,List.append_assoc,List.take_append_of_le_length (by rw [List.length_take,hR.2.2];omega),List.take_take,Nat.min_eq_left hm]
      · exact ih.1 x hx
    · rw [List.length_cons]
      have i2:=ih.2.1
      rw [List.length_drop] at i2
      by_cases q:b.length≤64-a%64
      · rw [ih.2.2 (by rw [List.drop_of_length_le q])];simp;omega
      · omega
theorem LH {L:Bs}(h:∀c∈L,c.length=64) {a:Nat}(hi:a/64<L.length):L.flatten.take a=L.flatten.take (a/64*64)++(L.getD (a/64) []).take (a%64):=by
 have e:a=a/64*64+a%64:=by omega
 conv=>lhs;rw [e,List.take_add]
 rw [mP L _ h,List.drop_eq_getElem_cons hi,List.flatten_cons,List.take_append_of_le_length (by rw [h _ (List.getElem_mem hi)];omega),List.getD_eq_getElem?_getD,List.getElem?_eq_getElem hi]
 rfl
theorem Pk {bl:Bs}(hr:aI bl []=true):∀(f a:Nat) (b:List UInt8) (gg:Bs),b.length≤f→gg.length=bl.length→(∀c∈gg,c.length=64)→a+b.length≤(bl.length-2)*64→
  (b≠ []→∀i,2+a/64≤i→gg.getD i []=bl.getD i [])→
  ((nv (qM bl [] f a b) gg).drop 2).flatten=(gg.drop 2).flatten.take a++b++(gg.drop 2).flatten.drop (a+b.length)
 |0,a,b,gg,hf,hl,oc,hb,hi=>by
  have :b= []:=List.length_eq_zero_iff.1 (by omega)
  subst this
  simp [qM,nv]
 |f+1,a,b,gg,hf,hl,oc,hb,hi=>by
  rw [qM]
  by_cases h:b= []
  · subst h;simp [nv]
  · have hp:1≤b.length:=by cases b with|nil=>exact absurd rfl h|cons=>simp
    have hR:=rR hr (i:=2+(a:Int)/64) (by omega) (by omega)
    have eo:((a:Int)%64).toNat=a%64:=by omega
    have ei:(2+(a:Int)/64).toNat=2+a/64:=by omega
    have hn:b.length≤64-a%64∨64-a%64<b.length:=by omega
    rw [if_neg h,hR.2.1,hR.1,if_neg (fun w=>w rfl),eo,show(a:Int)+((min (64-a%64) b.length:Nat):Int)=((a+min (64-a%64) b.length:Nat):Int) by omega]
    have hw:=Et hR.2.2 a b
    have hc:gg.getD (2+a/64) []=bO bl (2+(a:Int)/64):=by rw [hi h _ (Nat.le_refl _),bO,ei]
    have ih:=Pk hr f (a+min (64-a%64) b.length) (b.drop (64-a%64)) (gg.set (2+a/64) (mr (bO bl (2+(a:Int)/64)) a b)) (by rw [List.length_drop];omega) (by rw [List.length_set];exact hl)
     (fun c hc=>by
       rcases mem_set hc with rfl|hc
       · exact hw
       · exact oc c hc) (by rw [List.length_drop];omega) (fun q i gI=>by
       have :64-a%64<b.length:=by
        rcases hn with hn|hn
        · exact absurd (List.drop_of_length_le hn) q
        · exact hn
       have dH:2+a/64≠i:=by omega
       rw [List.getD_eq_getElem?_getD,List.getElem?_set,if_neg dH,←List.getD_eq_getElem?_getD]
       exact hi h i (by omega))
    simp only [nv,List.foldl_cons,uD,ei] at ih ⊢
    rw [ih]
    have hL:∀c∈gg.drop 2,c.length=64:=fun c hc=>oc c (List.mem_of_mem_drop hc)
    have hq:a/64<(gg.drop 2).length:=by rw [List.length_drop];omega
    have hg:(gg.drop 2).getD (a/64) []=bO bl (2+(a:Int)/64):=by rw [←hc,List.getD_eq_getElem?_getD,List.getD_eq_getElem?_getD,List.getElem?_drop]
    have zx:=gi _ hL
    have hfp:=ob (gg.drop 2) (a/64) ((bO bl (2+(a:Int)/64)).take (a%64)++b.take (64-a%64)) hL hq (by simp only [List.length_append,List.length_take];omega)
    have hpl:((bO bl (2+(a:Int)/64)).take (a%64)++b.take (64-a%64)).length=a%64+min (64-a%64) b.length:=by simp only [List.length_append,List.length_take,hR.2.2];omega
    rw [hpl,hg] at hfp
    have hwe:mr (bO bl (2+(a:Int)/64)) a b=(bO bl (2+(a:Int)/64)).take (a%64)++b.take (64-a%64)++(bO bl (2+(a:Int)/64)).drop (a%64+min (64-a%64) b.length):=by
     unfold mr
     rw [eo]
     congr 1
     rcases hn with hn|hn
     · rw [Nat.min_eq_right hn]
     · rw [List.drop_of_length_le (by rw [hR.2.2];omega),List.drop_of_length_le (by rw [hR.2.2];omega)]
    have sJ:(gg.set (2+a/64) (mr (bO bl (2+(a:Int)/64)) a b)).drop 2=(gg.drop 2).set (a/64) (mr (bO bl (2+(a:Int)/64)) a b):=by
     rw [List.drop_set,if_neg (by omega),show 2+a/64-2=a/64 by omega]
    rw [sJ,hwe,←hfp]
    have hs:=LH hL hq
    rw [hg] at hs
    have e1:(gg.drop 2).flatten.take (a/64*64)++((bO bl (2+(a:Int)/64)).take (a%64)++b.take (64-a%64))=(gg.drop 2).flatten.take a++b.take (64-a%64):=by rw [hs,List.append_assoc]
    rw [e1,show a/64*64+(a%64+min (64-a%64) b.length)=a+min (64-a%64) b.length by omega]
    have hla:((gg.drop 2).flatten.take a++b.take (64-a%64)).length=a+min (64-a%64) b.length:=by
     rw [List.length_append,List.length_take,List.length_take,zx,List.length_drop];omega
    rw [List.take_left' hla,List.drop_append,hla,List.drop_of_length_le (l:=(gg.drop 2).flatten.take a++b.take (64-a%64)) (by rw [hla];omega),List.nil_append,List.drop_drop,List.length_drop]
    have e2:a+min (64-a%64) b.length+(a+min (64-a%64) b.length+(b.length-(64-a%64))-(a+min (64-a%64) b.length))=a+b.length:=by omega
    rw [e2,List.append_assoc,List.append_assoc,←List.append_assoc (b.take _),List.take_append_drop,List.append_assoc]
end Go.S

end
section
namespace Go.S
theorem Eu:∀(L L':Bs) (u:Nat),L'.length=L.length→(∀c∈L,c.length=64)→(∀c∈L',c.length=64)→
  (∀i,i<L.length→(L'.getD i []).take (u-64*i)=(L.getD i []).take (u-64*i))→L'.flatten.take u=L.flatten.take u
 | [],L',u,hl,_,_,_=>by rw [List.length_eq_zero_iff.1 hl]
 |c::L,[],u,hl,_,_,_=>by simp at hl
 |c::L,c'::L',u,hl,h,h',hi=>by
  have ih:=Eu L L' (u-64) (by simpa using hl) (fun y hy=>h y (List.mem_cons_of_mem _ hy)) (fun y hy=>h' y (List.mem_cons_of_mem _ hy)) (fun i gI=>by
   have :=hi (i+1) (by simpa using gI)
   rw [List.getD_cons_succ,List.getD_cons_succ] at this
   rw [show u-64-64*i=u-64*(i+1) by omega]
   exact this)
  have h0:=hi 0 (by simp)
  simp only [List.getD_cons_zero,Nat.mul_zero,Nat.sub_zero] at h0
  simp only [List.flatten_cons,List.take_append]
  rw [h c (List.mem_cons_self ..),h' c' (List.mem_cons_self ..),ih,h0]
theorem V9 {c x o:List UInt8} {m j:Nat}(hx:x.take m=o.take m)(hc:c.take m=o.take m)(h1:x.length=64)(hj:j≤64):(x.take j++c.drop j).take m=o.take m:=by
 have hl:(x.take j).length=j:=by rw [List.length_take,h1];omega
 rw [List.take_append,hl,List.take_take]
 by_cases h:m≤j
 · rw [Nat.min_eq_left h,show m-j=0 by omega,List.take_zero,List.append_nil,hx]
 · rw [Nat.min_eq_right (by omega),List.take_drop,show j+(m-j)=m by omega,hc,←hx]
   have :x.take j=(x.take m).take j:=by rw [List.take_take,Nat.min_eq_left (by omega)]
   rw [this,List.take_append_drop]
theorem LI(c:List UInt8)(j:Nat)(hj:j≤64):clean.take j++c.drop j=c∨(clean.take j++c.drop j).getD 0 0=255:=by
 cases j with
 |zero=>left;simp
 |succ j=>right;simp [clean,List.replicate_succ]
theorem Od {m:List UInt8}(hm:m.length=64)(j:Nat)(hj:j≤64):m.take j++clean.drop j=m∨(m.take j++clean.drop j).getD 63 0=255:=by
 by_cases h:j=64
 · subst h;left
   rw [List.take_of_length_le (by omega),List.drop_of_length_le (by simp [clean]),List.append_nil]
 · right
   have hl:(m.take j).length=j:=by rw [List.length_take];omega
   rw [List.getD_eq_getElem?_getD,List.getElem?_append_right (by omega),hl,List.getElem?_drop,show j+(63-j)=63 by omega]
   rfl
theorem Oe {bl gg:Bs}(hr:aI bl []=true)(k9:aI gg []=true)(hl:gg.length=bl.length)(u:Nat)
  (h:∀i:Int,2≤i→i<bl.length→(bO gg i).take ((u:Int)-64*(i-2)).toNat=(bO bl i).take ((u:Int)-64*(i-2)).toNat):(gg.drop 2).flatten.take u=(bl.drop 2).flatten.take u:=by
 refine Eu _ _ u (by simp [hl]) (fun c hc=>(cx.1 hr).2.2.1 c (List.mem_of_mem_drop hc)) (fun c hc=>(cx.1 k9).2.2.1 c (List.mem_of_mem_drop hc)) fun i hi=> ?_
 rw [List.length_drop] at hi
 have :=h ((i:Int)+2) (by omega) (by omega)
 have e:((u:Int)-64*((i:Int)+2-2)).toNat=u-64*i:=by omega
 have e2:((i:Int)+2).toNat=2+i:=by omega
 rw [e,bO,bO,e2] at this
 have ed:∀l:Bs,(l.drop 2).getD i []=l.getD (2+i) []:=fun l=>by rw [List.getD_eq_getElem?_getD,List.getD_eq_getElem?_getD,List.getElem?_drop]
 rw [ed,ed]
 exact this
def ahead(bl:Bs)(s u:Int)(b:List UInt8):Ws:=((s+1)%2,clean)::dV bl [] u b
theorem z8 {bl:Bs} {s u:Int} {x:eV}(k:K bl s u x) {b:List UInt8}(hb:u+b.length≤dj bl):
  (∀x∈dV bl [] u b,2≤x.1∧x.1<bl.length∧x.2.length=64∧x.2.take ((u.toNat:Int)-64*(x.1-2)).toNat=(bO bl x.1).take ((u.toNat:Int)-64*(x.1-2)).toNat)∧
  (∀x∈ahead bl s u b,0≤x.1∧x.1<bl.length∧x.2.length=64)∧(ahead bl s u b).length*64≤b.length+190:=by
 have h0:=k.u0
 have h3:=k.three
 have hs:=k.aZ
 unfold dj at hb
 have e:u=((u.toNat:Nat):Int):=by omega
 have w:=GS k.right u.toNat b.length u.toNat b (Nat.le_refl _) (Nat.le_refl _) (by omega)
 rw [←e] at w
 refine⟨by rw [←e];exact w.1,fun x hx=> ?_,?_⟩
 · rcases List.mem_cons.1 hx with rfl|hx
   · exact⟨hs.2.1.1,hs.2.1.2,by simp [clean]⟩
   · have :=w.1 x hx
     exact⟨by omega,this.2.1,this.2.2.1⟩
 · have :=w.2.1
   simp only [ahead,List.length_cons,dV]
   omega
theorem K.Wa {bl:Bs} {s u:Int} {x:eV}(k:K bl s u x) {b:List UInt8}(hb:u+b.length≤dj bl) {wt:Ws}(hw:∀y∈wt,y∈ahead bl s u b)(hr:aI bl wt=true)(keep:List Int):
  K (jz bl wt keep) s u x:=by
 have ha:=z8 k hb
 have hs:=k.aZ
 have cl:(jz bl wt keep).length=bl.length:=by rw [En,j5 hr]
 have q:=Oc hr (Q:=fun i c=>(i=s%2→c=bO bl i)∧(i=(s+1)%2→c=bO bl i∨c.getD 0 0=255)∧(2≤i→c.take ((u.toNat:Int)-64*(i-2)).toNat=(bO bl i).take ((u.toNat:Int)-64*(i-2)).toNat)) keep
  (fun y hy c j hj hc=>by
    rcases List.mem_cons.1 (hw y hy) with rfl|hy'
    · refine⟨fun h=>absurd h (by simp only;omega),fun h=> ?_,fun h=>absurd h (by simp only;omega)⟩
      rcases LI c j hj with e|e
      · simp only;rw [e];exact hc.2.1 h
      · exact .inr e
    · have hh:=ha.1 y hy'
      exact⟨fun h=>by omega,fun h=>by omega,fun h=>V9 hh.2.2.2 (hc.2.2 h) hh.2.2.1 hj⟩)
  (fun i _ _=>⟨fun _=>rfl,fun _=> .inl rfl,fun _=>rfl⟩)
 refine k.V6 (yS bl wt keep) cl ((q _ hs.1.1 hs.1.2).1 rfl) ?_ (Oe k.right (yS bl wt keep) cl u.toNat fun i h0 h1=>(q i (by omega) h1).2.2 h0)
 rcases(q _ hs.2.1.1 hs.2.1.2).2.1 rfl with e|e
 · exact .inl e
 · exact .inr (.inl e)
theorem synced {bl:Bs} {s u:Int} {x:eV}(k:K bl s u x) {b:List UInt8}(hb:u+b.length≤dj bl)(hr:aI bl (ahead bl s u b)=true):
  aI (sync bl (ahead bl s u b)) []=true∧(sync bl (ahead bl s u b)).length=bl.length∧bO (sync bl (ahead bl s u b)) (s%2)=bO bl (s%2)∧bO (sync bl (ahead bl s u b)) ((s+1)%2)=clean∧
  ((sync bl (ahead bl s u b)).drop 2).flatten=(bl.drop 2).flatten.take u.toNat++b++(bl.drop 2).flatten.drop (u.toNat+b.length):=by
 have ha:=z8 k hb
 have hs:=k.aZ
 have h0:=k.u0
 have h3:=k.three
 have es:sync bl (ahead bl s u b)=nv (dV bl [] u b) (bl.set ((s+1)%2).toNat clean):=by
  unfold sync;rw [j5 hr,qK hr];simp only [ahead,nv,List.foldl_cons,uD]
 have q:=LG (Q:=fun i c=>(i=s%2→c=bO bl i)∧(i=(s+1)%2→c=clean)) (dV bl [] u b) (bl.set ((s+1)%2).toNat clean)
  (fun y hy=>by have :=ha.1 y hy;rw [List.length_set];omega) (fun y hy=>by have :=ha.1 y hy;exact⟨fun h=>by omega,fun h=>by omega⟩)
  (fun i i0 i1=>by
    rw [List.length_set] at i1
    rw [pz bl _ i _ hs.2.1 ⟨i0,i1⟩]
    split
    · rename_i e
      exact⟨fun h=>by omega,fun _=>rfl⟩
    · rename_i e
      exact⟨fun _=>rfl,fun h=>absurd h.symm e⟩)
 rw [List.length_set] at q
 refine⟨Bh _ _,by rw [zZ,j5 hr],?_,?_,?_⟩
 · rw [es];exact(q _ hs.1.1 hs.1.2).1 rfl
 · rw [es];exact(q _ hs.2.1.1 hs.2.1.2).2 rfl
 · unfold dj at hb
   have e:u=((u.toNat:Nat):Int):=by omega
   have KL:((s+1)%2).toNat<2:=by omega
   have w:=Pk k.right b.length u.toNat b (bl.set ((s+1)%2).toNat clean) (Nat.le_refl _) (by rw [List.length_set]) (fun c hc=>by
    rcases mem_set hc with rfl|hc
    · simp [clean]
    · exact(cx.1 k.right).2.2.1 c hc) (by omega) (fun _ i hi=>by
    rw [List.getD_eq_getElem?_getD,List.getElem?_set,if_neg (by omega),←List.getD_eq_getElem?_getD])
   rw [←e] at w
   rw [es]
   unfold dV
   rw [w,List.drop_set,if_pos KL]
theorem ŋ {A b C:List UInt8} {n:Nat}(h:A.length=n):(A++b++C).take n=A∧(A++b++C).take (n+b.length)=A++b:=by
 constructor
 · rw [List.append_assoc,List.take_left' h]
 · rw [List.take_left' (by rw [List.length_append,h])]
theorem K.cut {bl:Bs} {s u:Int} {x:eV}(k:K bl s u x) {e:bm}(he:ez e=true)(hh:(cy x e).2=0)(hs:s<4611686018427387904)(hb:u+(bR e).length≤dj bl)(hl:(bR e).length≤60000)(f:Nat):
  aI (eJ (eE bl [] s u (bR e)) f bl [] 0).1.1 (eJ (eE bl [] s u (bR e)) f bl [] 0).1.2=true∧
  (∀keep,((eJ (eE bl [] s u (bR e)) f bl [] 0).2<(eE bl [] s u (bR e)).length∧K (jz (eJ (eE bl [] s u (bR e)) f bl [] 0).1.1 (eJ (eE bl [] s u (bR e)) f bl [] 0).1.2 keep) s u x)∨
    ((eE bl [] s u (bR e)).length≤(eJ (eE bl [] s u (bR e)) f bl [] 0).2+1∧K (jz (eJ (eE bl [] s u (bR e)) f bl [] 0).1.1 (eJ (eE bl [] s u (bR e)) f bl [] 0).1.2 keep) (s+1) (u+(bR e).length) (cy x e).1))∧
  ((eE bl [] s u (bR e)).length≤f→(eJ (eE bl [] s u (bR e)) f bl [] 0).2=(eE bl [] s u (bR e)).length∧(eJ (eE bl [] s u (bR e)) f bl [] 0).1.2= []∧K (eJ (eE bl [] s u (bR e)) f bl [] 0).1.1 (s+1) (u+(bR e).length) (cy x e).1):=by
 have ha:=z8 k hb
 have mZ:=k.aZ
 have h0:=k.u0
 have ec:eE bl [] s u (bR e)=(ahead bl s u (bR e)).map wr++ [(true,0,[]),wr ((s+1)%2,dN (s+1) (u+(bR e).length)),(true,0,[])]:=rfl
 have el:(eE bl [] s u (bR e)).length=(ahead bl s u (bR e)).length+3:=by rw [ec];simp
 have d:=V8 (ahead bl s u (bR e)) [(true,0,[]),wr ((s+1)%2,dN (s+1) (u+(bR e).length)),(true,0,[])] f bl [] 0 k.right ha.2.1 (by simp;omega)
 rw [←ec] at d
 simp only [List.nil_append,Nat.zero_add,Nat.sub_zero,Nat.max_eq_left (Nat.zero_le f)] at d
 have hr:=d.2
 rw [el,d.1]
 have wc:∀n,aI bl ((ahead bl s u (bR e)).take n)=true :=fun n=>by
  have r:=cx.1 hr
  exact cx.2 ⟨r.1,by rw [List.length_take];omega,r.2.2.1,fun y hy=>r.2.2.2 y (List.mem_of_mem_take hy)⟩
 by_cases c1:f<(ahead bl s u (bR e)).length
 · rw [if_pos c1]
   refine⟨wc f,fun keep=> .inl ⟨by simp only;omega,k.Wa hb (fun y hy=>List.mem_of_mem_take hy) (wc f) keep⟩,fun h=>by omega⟩
 · rw [if_neg c1]
   by_cases c2:f≤(ahead bl s u (bR e)).length
   · rw [yV c2]
     exact⟨hr,fun keep=> .inl ⟨by simp only;omega,k.Wa hb (fun y hy=>hy) hr keep⟩,fun h=>by omega⟩
   · rw [eJ,if_neg c2,if_pos rfl]
     obtain⟨y1,y2,y3,y4,y5⟩:=synced k hb hr
     generalize sync bl (ahead bl s u (bR e))=FX at y1 y2 y3 y4 y5 ⊢
     have hA:((bl.drop 2).flatten.take u.toNat).length=u.toNat:=by
      have :=gi (bl.drop 2) (fun c hc=>(cx.1 k.right).2.2.1 c (List.mem_of_mem_drop hc))
      have hum:=k.um
      unfold dj at hum
      rw [List.length_drop] at this
      rw [List.length_take];omega
     have L:=ŋ (b:=bR e) (C:=(bl.drop 2).flatten.drop (u.toNat+(bR e).length)) hA
     rw [←y5] at L
     have k1:K FX s u x:=k.V6 y1 y2 y3 (.inr (.inl (by rw [y4];rfl))) L.1
     by_cases c3:f≤(ahead bl s u (bR e)).length+1
     · rw [yV c3]
       exact⟨y1,fun keep=> .inl ⟨by simp only;omega,by simp only;rw [mq y1];exact k1⟩,fun h=>by omega⟩
     · have hm:(dN (s+1) (u+(bR e).length)).length=64:=Er _ _
       have ok:=V7 (x:=((s+1)%2,dN (s+1) (u+(bR e).length))) y1 ⟨mZ.2.1.1,by rw [y2];exact mZ.2.1.2,hm⟩ (by simp)
       have nx:∀bl2:Bs,bl2=FX.set ((s+1)%2).toNat (dN (s+1) (u+(bR e).length))→K bl2 (s+1) (u+(bR e).length) (cy x e).1:=by
        rintro _ rfl
        refine k.next he hh hs ?_ (by rw [List.length_set];exact y2) ?_ ?_ hb ?_
        · have r:=cx.1 y1
          refine py (by rw [List.length_set];exact r.1) fun c hc=> ?_
          rcases mem_set hc with rfl|hc
          · exact hm
          · exact r.2.2.1 c hc
        · rw [pz FX _ _ _ (by rw [y2];exact mZ.2.1) (by rw [y2];exact mZ.1),if_neg (by omega)];exact y3
        · rw [pz FX _ _ _ (by rw [y2];exact mZ.2.1) (by rw [y2];exact mZ.2.1),if_pos rfl]
        · rw [List.drop_set,if_pos (by omega)];exact L.2
       rw [eJ,if_neg c3,if_neg (by simp [wr])]
       simp only [wr,ok.1,ok.2.1,ok.2.2.1,ne_eq,not_true_eq_false,if_false,List.nil_append]
       by_cases c4:f≤(ahead bl s u (bR e)).length+1+1
       · rw [yV c4]
         refine⟨ok.2.2.2,fun keep=> ?_,fun h=>by omega⟩
         have ecr:jz FX [((s+1)%2,dN (s+1) (u+(bR e).length))] keep=FX.set ((s+1)%2).toNat ((dN (s+1) (u+(bR e).length)).take (kept keep 0)++clean.drop (kept keep 0)):=by
          have v:=ok.2.2.2
          rw [List.nil_append] at v
          simp only [jz,j5 v,qK v]
          rw [←y4];rfl
         simp only [ecr]
         rcases Od hm (kept keep 0) (uF keep 0) with g|g
         · exact .inr ⟨by omega,nx _ (by rw [g])⟩
         · refine .inl ⟨by omega,?_⟩
           have hlen:((dN (s+1) (u+(bR e).length)).take (kept keep 0)++clean.drop (kept keep 0)).length=64:=by
            have :=uF keep 0
            simp [clean,hm];omega
           refine k.V6 ?_ (by rw [List.length_set];exact y2) ?_ (.inr (.inr ?_)) ?_
           · have r:=cx.1 y1
             refine py (by rw [List.length_set];exact r.1) fun c hc=> ?_
             rcases mem_set hc with rfl|hc
             · exact hlen
             · exact r.2.2.1 c hc
           · rw [pz FX _ _ _ (by rw [y2];exact mZ.2.1) (by rw [y2];exact mZ.1),if_neg (by omega)];exact y3
           · rw [pz FX _ _ _ (by rw [y2];exact mZ.2.1) (by rw [y2];exact mZ.2.1),if_pos rfl];exact g
           · rw [List.drop_set,if_pos (by omega)];exact L.1
       · rw [eJ,if_neg c4,if_pos rfl]
         have v:=ok.2.2.2
         rw [List.nil_append] at v
         have es:sync FX [((s+1)%2,dN (s+1) (u+(bR e).length))]=FX.set ((s+1)%2).toNat (dN (s+1) (u+(bR e).length)):=by
          simp only [sync,j5 v,qK v];rfl
         have N:=nx _ es
         simp only [eJ]
         exact⟨N.right,fun keep=> .inr ⟨by omega,by rw [mq N.right];exact N⟩,fun _=>⟨by first|omega|trivial,by first|trivial|rfl,N⟩⟩
end Go.S

end
section
namespace Go.S
theorem yW {e:bm}(h:ez e=true):(bR e).length≤60000:=by
 obtain⟨a,b,c,d⟩:=e
 have h1:=kp a
 have h2:=kp b
 have h3:=kp c
 have h4:= @S8 d
 simp only [ez,jA] at h
 simp only [bR,kB,List.length_append]
 split at h
 · have :=of_decide_eq_true h
   rename_i q
   rw [if_pos q];omega
 · rename_i q
   rw [if_neg q]
   split
   · rw [List.length_append];omega
   · simp;omega
theorem Wb {n:Nat}(h:3≤n)(h1:n≤4096):K (rz n) 0 0 ([],[]):=by
 have hr:aI (rz n) []=true :=py (by simp [rz];exact h1) (fun b hb=>by rw [(List.mem_replicate.1 hb).2,List.length_replicate])
 have hb:∀i:Int,0≤i→i<n→bO (rz n) i=dN 0 0:=fun i h0 h2=>by
  unfold bO rz
  rw [List.getD_eq_getElem?_getD,List.getElem?_replicate,if_pos (by omega)]
  decide
 have Ō:0≤dj (rz n):=by unfold dj rz;rw [List.length_replicate];omega
 have hs:=GQ (s:=0) (u:=0) (m:=dj (rz n)) (by omega) (by omega) (by omega) (by omega) Ō
 refine⟨hr,by simp [rz];exact h,Int.le_refl _,Int.le_refl _,Ō,?_, .inr (.inr ⟨rfl,?_⟩),[],by simp,rfl⟩
 · rw [show(0:Int)%2=0 from rfl,hb 0 (by omega) (by omega),hs]
 · rw [show((0:Int)+1)%2=1 from rfl,hb 1 (by omega) (by omega),hs]
theorem Jh:∀(l:List qL) (f:Nat) (bl:Bs) (wt:Ws) (d:Nat),aI bl wt=true→(eJ l f bl wt d).1.1.length=bl.length
 | [],_,_,_,_,_=>rfl
 |c::r,f,bl,wt,d,h=>by
  rw [eJ]
  split
  · rfl
  · split
    · rw [Jh r f _ _ _ (Bh bl wt),zZ,j5 h]
    · split
      · rfl
      · have e:wB bl wt=bl:=j5 h
        rw [e,Jh r f _ _ _ (yT h _ _)]
theorem K.changes {bl:Bs} {s u:Int} {x:eV}(k:K bl s u x)(hs:s<4611686018427387904)(y:eV)(e:bm):bF bl [] s u y e=
  if ez e=false then(([],((0,0),([],[]))),1)
  else if(cy y e).2≠0 then(([],((0,0),([],[]))),(cy y e).2)
  else if dj bl-u<(bR e).length then(([],((0,0),([],[]))),3)
  else((eE bl [] s u (bR e),((s+1,u+(bR e).length),(cy y e).1)),0):=by
 unfold bF
 rw [k.opens,if_neg (by omega),if_neg (by simp),Es k.right]
theorem K.may {bl:Bs} {s u:Int} {x:eV}(k:K bl s u x)(hs:s<4611686018427387904)(e:bm):
  ((bF bl [] s u x e).2≠0∧(bF bl [] s u x e).1.1= [])∨
  (bF bl [] s u x e=((eE bl [] s u (bR e),((s+1,u+(bR e).length),(cy x e).1)),0)∧ez e=true∧(cy x e).2=0∧u+(bR e).length≤dj bl):=by
 rw [k.changes hs]
 by_cases h1:ez e=false
 · rw [if_pos h1];exact .inl ⟨by simp,rfl⟩
 · rw [if_neg h1]
   by_cases h2:(cy x e).2≠0
   · rw [if_pos h2];exact .inl ⟨h2,rfl⟩
   · rw [if_neg h2]
     by_cases h3:dj bl-u<(bR e).length
     · rw [if_pos h3];exact .inl ⟨by simp,rfl⟩
     · rw [if_neg h3];exact .inr ⟨rfl,by simpa using h1,by simpa using h2,by omega⟩
def pA(bl:Bs)(e:bm):Bs:=
 if 2500<(e.2.2.2.length:Int) then bl
 else if(bF bl [] (aL bl []).1.1.1 (aL bl []).1.1.2 (aL bl []).1.2 e).2≠0 then bl
 else(xq bl [] (bF bl [] (aL bl []).1.1.1 (aL bl []).1.1.2 (aL bl []).1.2 e).1.1 ((bF bl [] (aL bl []).1.1.1 (aL bl []).1.1.2 (aL bl []).1.2 e).1.1.length:Nat)).1.1
def bo(n:Int)(l:List bm)(k:Nat):Bs:=(l.take k).foldl pA (rz n.toNat)
def kL(l:List bm):Nat:=min l.length 40
def qN(n:Int)(l:List bm):Bs:=bo n l (kL l)
def iN(y:eV×Int)(e:bm):eV×Int:=
 if 2500<(e.2.2.2.length:Int) then y
 else if(cy y.1 e).2≠0∨ez e=false then y
 else((cy y.1 e).1,y.2+(bR e).length)
def aS(l:List bm)(k:Nat):eV×Int:=(l.take k).foldl iN (([],[]),0)
theorem lM(n:Int)(l:List bm)(k:Nat)(h:k<l.length):bo n l (k+1)=pA (bo n l k) (l.getD k (0,0,0,[])):=by
 unfold bo;rw [ay l k _ h,List.foldl_append];rfl
theorem od(l:List bm)(k:Nat)(h:k<l.length):aS l (k+1)=iN (aS l k) (l.getD k (0,0,0,[])):=by
 unfold aS;rw [ay l k _ h,List.foldl_append];rfl
theorem K.step {bl:Bs} {s u:Int} {x:eV}(k:K bl s u x)(hs:s<4611686018427387904)(e:bm):
  (pA bl e=bl∧(2500<(e.2.2.2.length:Int)∨(bF bl [] s u x e).2≠0))∨
  (¬2500<(e.2.2.2.length:Int)∧(bF bl [] s u x e)=((eE bl [] s u (bR e),((s+1,u+(bR e).length),(cy x e).1)),0)∧ez e=true∧(cy x e).2=0∧
    xq bl [] (eE bl [] s u (bR e)) ((eE bl [] s u (bR e)).length:Nat)=((pA bl e,[]),(eE bl [] s u (bR e)).length)∧(pA bl e).length=bl.length∧K (pA bl e) (s+1) (u+(bR e).length) (cy x e).1):=by
 unfold pA
 rw [k.opens]
 simp only
 by_cases h:2500<(e.2.2.2.length:Int)
 · rw [if_pos h];exact .inl ⟨rfl, .inl h⟩
 · rw [if_neg h]
   rcases k.may hs e with⟨h1,h2⟩|⟨h1,h2,h3,h4⟩
   · rw [if_pos h1];exact .inl ⟨rfl, .inr h1⟩
   · have c:=k.cut h2 h3 hs h4 (yW h2) (eE bl [] s u (bR e)).length
     have c3:=c.2.2 (Nat.le_refl _)
     rw [h1]
     simp only [ne_eq,not_true_eq_false,if_false]
     have ed:xq bl [] (eE bl [] s u (bR e)) ((eE bl [] s u (bR e)).length:Nat)=eJ (eE bl [] s u (bR e)) (eE bl [] s u (bR e)).length bl [] 0:=rfl
     rw [ed]
     refine .inr ⟨h,trivial,h2,h3,?_,?_,c3.2.2⟩
     · generalize eJ (eE bl [] s u (bR e)) (eE bl [] s u (bR e)).length bl [] 0=r at c3 ⊢
       obtain⟨⟨r1,r2⟩,r3⟩:=r
       simp only at c3 ⊢
       rw [c3.1,c3.2.1]
     · have :=Jh (eE bl [] s u (bR e)) (eE bl [] s u (bR e)).length bl [] 0 k.right
       exact this
end Go.S

end
section
namespace Go.S
abbrev Tu:=(Int×Int)×eV
def Ji(a b:Tu):Bool:=decide (a.1.1=b.1.1)&&decide (a.1.2=b.1.2)&&iQ a.2.1 a.2.2 b.2.1 b.2.2
theorem Of {a b:Tu}:Ji a b=true↔a=b:=by
 obtain⟨⟨a1,a2⟩,a3,a4⟩:=a
 obtain⟨⟨b1,b2⟩,b3,b4⟩:=b
 simp [Ji,iQ,and_assoc]
def ig(n:Int):Prop :=3≤n∧n≤150
theorem Cd {n:Int}(h:ig n)(l:List bm):∀k,k≤kL l→∃s u x,K (bo n l k) s u x∧s≤k∧(bo n l k).length=n.toNat
 |0,_=>⟨0,0,([],[]),by unfold bo;rw [List.take_zero];exact Wb (by have :=h.1;omega) (by have :=h.2;omega),by omega,by simp [bo,rz]⟩
 |k+1,hk=>by
  obtain⟨s,u,x,K0,hs,hl⟩:=Cd h l k (by omega)
  have c6:k<l.length:=by unfold kL at hk;omega
  have MD:k<40:=by unfold kL at hk;omega
  rw [lM n l k c6]
  rcases K0.step (by omega) (l.getD k (0,0,0,[])) with⟨e,_⟩|⟨_,_,_,_,_,e,K1⟩
  · rw [e];exact⟨s,u,x,K0,by omega,hl⟩
  · exact⟨_,_,_,K1,by omega,by rw [e];exact hl⟩
def Tv(bl:Bs):Prop :=∃s u x,K bl s u x∧s≤50
theorem LJ {n:Int}(h:ig n)(l:List bm):Tv (qN n l):=by
 obtain⟨s,u,x,K0,hs,_⟩:=Cd h l (kL l) (Nat.le_refl _)
 exact⟨s,u,x,K0,by unfold kL at hs;omega⟩
def cc(bl:Bs)(e:bm):(List qL×Tu)×Int:=bF bl [] (aL bl []).1.1.1 (aL bl []).1.1.2 (aL bl []).1.2 e
def fB(bl:Bs)(e:bm)(f:Int):(Bs×Ws)×Nat:=xq bl [] (cc bl e).1.1 f
def ij(bl:Bs)(e:bm)(f:Int)(keep:List Int):Bs:=jz (fB bl e f).1.1 (fB bl e f).1.2 keep
theorem ō(bl:Bs)(wt:Ws)(f:Int):xq bl wt [] f=((bl,wt),0):=rfl
theorem GU {bl:Bs}(h:Tv bl)(e:bm)(f:Int)(keep more:List Int):
  (aL bl []).2=0∧((cc bl e).2≠0→(cc bl e).1.1= [])∧(aL (ij bl e f keep) []).2=0∧aL (jz (ij bl e f keep) [] more) []=aL (ij bl e f keep) []∧
  ((cc bl e).2=0→((aL (ij bl e f keep) []).1=(cc bl e).1.2∧(cc bl e).1.1.length≤(fB bl e f).2+1)∨
    ((aL (ij bl e f keep) []).1≠(cc bl e).1.2∧(aL (ij bl e f keep) []).1=(aL bl []).1∧(fB bl e f).2<(cc bl e).1.1.length))∧
  (∃s u x,K (ij bl e f keep) s u x∧s≤51)∧aI (fB bl e f).1.1 (fB bl e f).1.2=true :=by
 obtain⟨s,u,x,k,hs⟩:=h
 have o:=k.opens
 have en:cc bl e=bF bl [] s u x e:=by unfold cc;rw [o]
 have ef:(aL bl []).2=0:=by rw [o]
 rcases k.may (by omega) e with⟨h1,h2⟩|⟨h1,h2,h3,h4⟩
 · have ed:fB bl e f=((bl,[]),0):=by unfold fB;rw [en,h2,ō]
   have ea:ij bl e f keep=bl:=by unfold ij;rw [ed];exact mq k.right keep
   rw [ea,ed,en]
   refine⟨ef,fun _=>h2,ef,by rw [mq k.right],fun q=>absurd q h1,⟨s,u,x,k,by omega⟩,k.right⟩
 · have c:=k.cut h2 h3 (by omega) h4 (yW h2) f.toNat
   have ed:fB bl e f=eJ (eE bl [] s u (bR e)) f.toNat bl [] 0:=by unfold fB;rw [en,h1];rfl
   rw [←ed] at c
   rw [en,h1]
   have c2:=c.2.1 keep
   have ea:jz (fB bl e f).1.1 (fB bl e f).1.2 keep=ij bl e f keep:=rfl
   rw [ea] at c2
   rcases c2 with⟨n1,K1⟩|⟨n1,K1⟩
   · refine⟨ef,fun q=>absurd rfl q,by rw [K1.opens],by rw [mq K1.right],fun _=> .inr ⟨?_,?_,n1⟩,⟨_,_,_,K1,by omega⟩,c.1⟩
     · rw [K1.opens]
       intro q
       have :=congrArg (fun z:Tu=>z.1.1) q
       simp only at this
       omega
     · rw [K1.opens,o]
   · refine⟨ef,fun q=>absurd rfl q,by rw [K1.opens],by rw [mq K1.right],fun _=> .inl ⟨by rw [K1.opens],n1⟩,⟨_,_,_,K1,by omega⟩,c.1⟩
theorem Tw {bl:Bs}(h:∃s u x,K bl s u x∧s≤51)(e:bm)(keep:List Int):
  (aL bl []).2=0∧((cc bl e).2≠0→(cc bl e).1.1= [])∧
  ((cc bl e).2=0→(fB bl e ((cc bl e).1.1.length:Nat)).2=(cc bl e).1.1.length∧aI (fB bl e ((cc bl e).1.1.length:Nat)).1.1 (fB bl e ((cc bl e).1.1.length:Nat)).1.2=true∧
    (aL (ij bl e ((cc bl e).1.1.length:Nat) keep) []).2=0∧(aL (ij bl e ((cc bl e).1.1.length:Nat) keep) []).1=(cc bl e).1.2∧(cc bl e).1.2.1.1=(aL bl []).1.1.1+1):=by
 obtain⟨s,u,x,k,hs⟩:=h
 have o:=k.opens
 have en:cc bl e=bF bl [] s u x e:=by unfold cc;rw [o]
 rcases k.may (by omega) e with⟨h1,h2⟩|⟨h1,h2,h3,h4⟩
 · rw [en];exact⟨by rw [o],fun _=>h2,fun q=>absurd q h1⟩
 · have c:=k.cut h2 h3 (by omega) h4 (yW h2) (eE bl [] s u (bR e)).length
   have c3:=c.2.2 (Nat.le_refl _)
   have el:(cc bl e).1.1=eE bl [] s u (bR e):=by rw [en,h1]
   have ed:fB bl e ((cc bl e).1.1.length:Nat)=eJ (eE bl [] s u (bR e)) (eE bl [] s u (bR e)).length bl [] 0:=by unfold fB;rw [el];rfl
   rw [←ed] at c c3
   have ea:ij bl e ((cc bl e).1.1.length:Nat) keep=(fB bl e ((cc bl e).1.1.length:Nat)).1.1:=by
    unfold ij;rw [c3.2.1,mq c3.2.2.right]
   refine⟨by rw [o],fun q=>absurd (by rw [en,h1]) q,fun _=>⟨by rw [c3.1,el],c.1,by rw [ea,c3.2.2.opens],?_,?_⟩⟩
   · rw [ea,c3.2.2.opens,en,h1]
   · rw [en,h1,o]
def qj(l:List bm)(k:Nat):Prop :=k≤kL l∧∃s,K (bo 150 l k) s (aS l k).2 (aS l k).1∧s≤k∧(bo 150 l k).length=150
theorem Ŏ(l:List bm):qj l 0:=by
 refine⟨Nat.zero_le _,0,?_,by omega,by simp [bo,rz]⟩
 unfold bo aS;rw [List.take_zero]
 exact Wb (n:=150) (by omega) (by omega)
theorem Pl {l:List bm} {k:Nat}(h:qj l k)(hk:k<kL l)(hf:(aS l (k+1)).2≤148*64):qj l (k+1):=by
 obtain⟨_,s,K0,hs,hl⟩:=h
 have c6:k<l.length:=by unfold kL at hk;omega
 have MD:k<40:=by unfold kL at hk;omega
 refine⟨by omega,?_⟩
 rw [od l k c6] at hf ⊢
 rw [lM 150 l k c6]
 generalize l.getD k (0,0,0,[])=e at hf ⊢
 generalize aS l k=y at K0 hf ⊢
 have Ō:dj (bo 150 l k)=148*64:=by unfold dj;rw [hl];rfl
 rcases K0.step (by omega) e with⟨q,q1⟩|⟨q1,_,q2,q3,_,q4,K1⟩
 · rw [q]
   have :iN y e=y:=by
    unfold iN
    by_cases c:2500<(e.2.2.2.length:Int)
    · rw [if_pos c]
    · rw [if_neg c]
      by_cases c2:(cy y.1 e).2≠0∨ez e=false
      · rw [if_pos c2]
      · exfalso
        have c3:(cy y.1 e).2=0∧ez e=true :=by
         constructor
         · exact Decidable.byContradiction fun w=>c2 (.inl w)
         · cases w:ez e
           · exact absurd (.inr w) c2
           · rfl
        rcases q1 with q1|q1
        · exact c q1
        · rw [K0.changes (by omega),if_neg (by rw [c3.2];simp),if_neg (by rw [c3.1];simp)] at q1
          unfold iN at hf
          rw [if_neg c,if_neg c2] at hf
          simp only at hf
          rw [Ō,if_neg (by omega)] at q1
          exact q1 rfl
   rw [this]
   exact⟨s,K0,by omega,hl⟩
 · have :iN y e=((cy y.1 e).1,y.2+(bR e).length):=by
    unfold iN
    rw [if_neg q1,if_neg (by rw [q2,q3];simp)]
   rw [this]
   exact⟨s+1,K1,by omega,by rw [q4];exact hl⟩
theorem Og {l:List bm}(h:qj l (kL l)):(aL (qN 150 l) []).2=0∧(aL (qN 150 l) []).1.1.2=(aS l (kL l)).2∧(aL (qN 150 l) []).1.2=(aS l (kL l)).1:=by
 obtain⟨_,s,K0,_,_⟩:=h
 unfold qN
 rw [K0.opens]
 exact⟨rfl,rfl,rfl⟩
end Go.S

end
section
namespace Go.S
def Jj(a b:List UInt8):Bool:=decide (a=b)
def Jk(b:List UInt8)(n:Int):Prop :=b= [255]∧n=64
def dO(b:List UInt8)(k:Nat):Nat:=(b.take k).foldl (fun v x=>v*256+x.toNat) 0
def eQ(b:List UInt8):Prop :=8≤b.length
def lN(s u:Int):Prop :=0≤s∧0≤u
def dW(s u:Int)(k:Nat):List UInt8:=(kZ s).take k++List.replicate (8-k) 0++(kZ u).take k++List.replicate (8-k) 0++List.replicate 48 0
def cZ(bl:Bs)(wt:Ws)(k:Nat):(Int×Int)×Bool:=(List.range k).foldl (fun m (i:Nat)=>uI bl wt i m) ((0,0),false)
def dP(bl:Bs)(wt:Ws)(k:Nat):List UInt8:=((List.range k).map fun i:Nat=>dM bl wt ((i:Int)+2)).flatten
def qk(bl:Bs)(wt:Ws)(n:Int):Prop :=n≤dE bl wt∧0≤n
def mR(bl:Bs)(wt:Ws)(n:Int)(k:Nat):Prop :=k+2≤(vB bl wt).length∧((k:Int)-1)*64<n∨k=0
def Jl(b:List UInt8):Prop :=b.length≤140737488355328
def jB(a b c:Int)(k:Nat):List UInt8×Int:=match k with
 |0=>(num a,0)
 |1=>(iK (num a) b,hU b)
 |_=>if hU b=0 then(iK (num a++num b) c,hU c) else([],1)
def pB(b:List UInt8)(k:Int×eV):Prop :=0≤k.1∧k.1≤b.length∧xo b (b.length-k.1.toNat) k.1 k.2=xp b
def fo(x:Tu):Int×Int×eV:=(x.1.1,x.1.2,x.2)
def aX(bl:Bs)(wt:Ws):List UInt8:=(uJ bl wt).take (fm bl wt).1.2.toNat
def sF(bl:Bs)(wt:Ws)(a:Int)(b:List UInt8)(k:Int×List UInt8×Ws):Prop :=0≤k.1∧k.1+k.2.1.length=a+b.length∧k.2.2++qM bl wt k.2.1.length k.1 k.2.1=dV bl wt a b
def lX(w:Ws):List qL:=w.map wr
def Jm(a:Int)(b:List UInt8):Prop :=0≤a∧a≤1000000∧b.length≤1000000
def mu(bl:Bs)(wt:Ws)(l:List qL)(f:Int)(k:Nat×Bs×Ws):Prop :=k.1≤l.length∧eJ (l.drop k.1) f.toNat k.2.1 k.2.2 k.1=xq bl wt l f
end Go.S

end
section
namespace Go.S
theorem Ew(b:List UInt8):∀k,k≤b.length→dO b k<256^k
 |0,_=>by simp [dO]
 |k+1,h=>by
  have ih:=Ew b k (by omega)
  have hb:=(b.getD k 0).toNat_lt
  unfold dO at ih ⊢
  rw [ay b k 0 (by omega),List.foldl_append,List.foldl_cons,List.foldl_nil,Nat.pow_succ]
  omega
theorem Tx {b:List UInt8} {k:Nat}(h:k<b.length):dO b (k+1)=dO b k*256+(b.getD k 0).toNat:=by
 unfold dO
 rw [ay b k 0 h,List.foldl_append,List.foldl_cons,List.foldl_nil]
theorem Oh {b:List UInt8} {k:Nat}(h8:8≤b.length)(hk:k<8):
  Vg.cF ((dO b k:Int)*(2:Int)^Int.toNat 8%18446744073709551616) ((UInt8.toNat (List.getD (List.take (Int.toNat 8) b) (Int.toNat (k:Int)) 0):Nat):Int)=(dO b (k+1):Int):=by
 have eB:=Ew b k (by omega)
 have h7:dO b k<72057594037927936:=Nat.lt_of_lt_of_le eB (Nat.le_trans (Nat.pow_le_pow_right (by omega) (show k≤7 by omega)) (by decide))
 have hg:List.getD (List.take (Int.toNat 8) b) (Int.toNat (k:Int)) 0=b.getD k 0:=by
  rw [Int.toNat_natCast,List.getD_eq_getElem?_getD,List.getElem?_take_of_lt (by show k<8;omega),←List.getD_eq_getElem?_getD]
 have hb:=(b.getD k 0).toNat_lt
 rw [hg,Tx (by omega)]
 have e:(dO b k:Int)*(2:Int)^Int.toNat 8%18446744073709551616=(dO b k:Int)*2^8:=by
  rw [show Int.toNat 8=8 from rfl];omega
 rw [e,iE _ _ 8 (by omega) (by omega) (by omega)]
 omega
theorem vE(b:List UInt8):0≤(eS b).1:=by
 unfold eS;split
 · exact Int.le_refl _
 · exact Int.natCast_nonneg _
theorem ŏ {b:List UInt8} {k:Nat}(h:(k:Int)<((List.take (Int.toNat 8) b).length:Nat)):k<8:=by
 rw [List.length_take,show Int.toNat 8=8 from rfl] at h;omega
theorem Pm(a m:Bool)(p:Prop) [Decidable p] {α:Type}(x y:α):(bif (bif a then(bif !m then true else decide p) else false) then x else y)=if a=true∧(m=false∨p) then x else y:=by
 cases a<;>cases m<;>simp [Bool.cond_eq_ite]
theorem uK(s u:Int)(k:Nat)(h:k≤8):(dW s u k).length=64:=by
 simp [dW,k6];omega
theorem Tz(s u:Int):dW s u 8=yU s u++List.replicate 32 0:=by
 have e1:(kZ s).take 8=kZ s:=List.take_of_length_le (by rw [k6];exact Nat.le_refl _)
 have e2:(kZ u).take 8=kZ u:=List.take_of_length_le (by rw [k6];exact Nat.le_refl _)
 have e3:List.replicate 48 (0:UInt8)=List.replicate 16 0++List.replicate 32 0:=by rw [List.replicate_append_replicate]
 simp [dW,yU,e1,e2,e3]
theorem Aa(bl:Bs)(wt:Ws)(k:Nat):cZ bl wt (k+1)=uI bl wt k (cZ bl wt k):=by
 simp only [cZ,List.range_succ,List.foldl_append,List.foldl_cons,List.foldl_nil]
theorem Ab(bl:Bs)(wt:Ws)(k:Nat):dP bl wt (k+1)=dP bl wt k++dM bl wt ((k:Int)+2):=by
 simp [dP,List.range_succ]
theorem LK {n:Int} {k:Nat}(h:0≤n)(h1:n≤9223372036854775807)(hk:k<8):UInt8.ofNat (n%18446744073709551616/2^(8*(7-(k:Int))).toNat%256).toNat=rA n k:=by
 unfold rA
 congr 1
 have e:n%18446744073709551616=n:=by omega
 rw [e]
 rcases(by omega :k=0∨k=1∨k=2∨k=3∨k=4∨k=5∨k=6∨k=7) with q|q|q|q|q|q|q|q<;>subst q
 · have :(2:Int)^(8*(7-((0:Nat):Int))).toNat=72057594037927936:=by decide
   rw [this];omega
 · have :(2:Int)^(8*(7-((1:Nat):Int))).toNat=281474976710656:=by decide
   rw [this];omega
 · have :(2:Int)^(8*(7-((2:Nat):Int))).toNat=1099511627776:=by decide
   rw [this];omega
 · have :(2:Int)^(8*(7-((3:Nat):Int))).toNat=4294967296:=by decide
   rw [this];omega
 · have :(2:Int)^(8*(7-((4:Nat):Int))).toNat=16777216:=by decide
   rw [this];omega
 · have :(2:Int)^(8*(7-((5:Nat):Int))).toNat=65536:=by decide
   rw [this];omega
 · have :(2:Int)^(8*(7-((6:Nat):Int))).toNat=256:=by decide
   rw [this];omega
 · have :(2:Int)^(8*(7-((7:Nat):Int))).toNat=1:=by decide
   rw [this];omega
theorem LL {s u:Int} {k:Nat}(hs:0≤s)(Mo:s≤9223372036854775807)(hu:0≤u)(hu1:u≤9223372036854775807)(hk:k<8):
  ((dW s u k).set (k:Int).toNat (UInt8.ofNat (s%18446744073709551616/2^(8*(7-(k:Int))).toNat%256).toNat)).set (8+(k:Int)).toNat (UInt8.ofNat (u%18446744073709551616/2^(8*(7-(k:Int))).toNat%256).toNat)=dW s u (k+1):=by
 rw [LK hs Mo hk,LK hu hu1 hk,Int.toNat_natCast,show(8+(k:Int)).toNat=8+k by omega]
 rcases(by omega :k=0∨k=1∨k=2∨k=3∨k=4∨k=5∨k=6∨k=7) with q|q|q|q|q|q|q|q<;>subst q<;>rfl
theorem TC {s u:Int} {k:Nat}(h:¬(k:Int)<8)(h2:k≤8):
  List.take ((Int.toNat 32:Nat):Int).toNat (dW s u k)++List.take ((dW s u k).length-((Int.toNat 32:Nat):Int).toNat) (List.take (Int.toNat 32) (dW s u k))++List.drop (((Int.toNat 32:Nat):Int).toNat+min (List.take (Int.toNat 32) (dW s u k)).length ((dW s u k).length-((Int.toNat 32:Nat):Int).toNat)) (dW s u k)=dN s u:=by
 have :k=8:=by omega
 subst this
 rw [Tz]
 have e:((Int.toNat 32:Nat):Int).toNat=32:=rfl
 have e':Int.toNat 32=32:=rfl
 have hl:=Ep s u
 rw [e,e']
 simp only [List.length_append,List.length_replicate,hl]
 rw [show 32+32-32=32 from rfl]
 rw [List.take_left' hl,List.take_of_length_le (by omega),List.drop_of_length_le (by simp;omega),List.append_nil];rfl
end Go.S

end
section
namespace Go.S
theorem Pn {bl:Bs} {wt:Ws} {i:Int}(h:0≤i)(h1:i<(vB bl wt).length):fZ bl wt i=0:=by unfold fZ;rw [if_neg (by omega)]
theorem Wc {bl:Bs} {wt:Ws} {i:Int}(h:fZ bl wt i=0):0≤i∧i<(vB bl wt).length:=by
 unfold fZ at h;split at h
 · cases h
 · omega
theorem yX {bl:Bs} {wt:Ws} {i:Int}(h:fZ bl wt i=0):(dM bl wt i).length=64:=by
 have h1:=Wc h
 unfold dM
 rw [if_pos h]
 refine zY _ (lL bl wt) _ _ ?_
 exact kJ bl wt _ (bu _ i.toNat [] (by omega))
theorem uM {bl:Bs} {wt:Ws}:∀k:Nat,k+2≤(vB bl wt).length→(dP bl wt k).length=64*k
 |0,_=>rfl
 |k+1,h=>by
  rw [Ab,List.length_append,uM k (by omega),yX (Pn (by omega) (by omega))];omega
theorem Bj(bl:Bs)(wt:Ws):dP bl wt ((vB bl wt).length-2)=uJ bl wt:=rfl
theorem Bk {bl:Bs} {wt:Ws}(k:Nat):∀j,k≤j→∃r,dP bl wt j=dP bl wt k++r
 |0,h=>by obtain rfl :k=0:=(by omega);exact⟨[],by simp⟩
 |j+1,h=>by
  by_cases e:k=j+1
  · subst e;exact⟨[],by simp⟩
  · obtain⟨r,hr⟩:=Bk (bl:=bl) (wt:=wt) k j (by omega)
    exact⟨r++dM bl wt ((j:Int)+2),by rw [Ab,hr,List.append_assoc]⟩
theorem yY {bl:Bs} {wt:Ws} {n:Int} {k:Nat}(h:mR bl wt n k):(dP bl wt k).length=64*k:=by
 rcases h with h|h
 · exact uM k h.1
 · subst h;rfl
theorem rB {bl:Bs} {wt:Ws} {n:Int} {k:Nat}(hp:qk bl wt n)(h:mR bl wt n k)(h3:((dP bl wt k).length:Int)<n):k+3≤(vB bl wt).length∧k≤4096:=by
 have h1:=yY h
 have h2:=hp.1
 have h4:=lK bl wt
 simp only [dE] at h2
 omega
theorem Ő {bl:Bs} {wt:Ws} {n:Int} {k:Nat}(hp:qk bl wt n)(h:mR bl wt n k)(h3:((dP bl wt k).length:Int)<n):fZ bl wt ((k:Int)+2)=0:=by
 have :=rB hp h h3
 exact Pn (by omega) (by omega)
theorem afn {bl:Bs} {wt:Ws} {n:Int} {k:Nat}(hp:qk bl wt n)(h:mR bl wt n k)(h3:((dP bl wt k).length:Int)<n):mR bl wt n (k+1):=by
 have h1:=yY h
 have :=rB hp h h3
 exact .inl ⟨by omega,by omega⟩
theorem Wd {bl:Bs} {wt:Ws} {n:Int} {k:Nat}(hp:qk bl wt n)(h:mR bl wt n k)(h3:¬((dP bl wt k).length:Int)<n):List.take n.toNat (dP bl wt k)=List.take n.toNat (uJ bl wt):=by
 have h1:=yY h
 have h0:=hp.2
 rcases h with h|h
 · obtain⟨r,hr⟩:=Bk (bl:=bl) (wt:=wt) k ((vB bl wt).length-2) (by omega)
   rw [←Bj,hr,List.take_append_of_le_length (by omega)]
 · subst h
   have :n.toNat=0:=by simp only [dP,List.range_zero,List.map_nil,List.flatten_nil,List.length_nil] at h3;omega
   rw [this];simp
theorem ő(b:List UInt8)(a e m:Int):(bj b a e m).1.1=b:=by
 unfold bj;split
 · rfl
 · split<;>rfl
theorem GV(b:List UInt8)(a e:Int) {α:Type}(x y z:α):(bif decide ((af b a e).2=0) then x else bif decide ((af b a e).2=2) then y else z)=if(af b a e).2=0 then x else if(af b a e).2=2 then y else z:=by
 simp only [Bool.cond_decide]
theorem alp(b:List UInt8)(a e:Int):(bif decide ((af b a e).2=0) then(bj (af b a e).1.1 (af b a e).1.2.1 (af b a e).1.2.2 2000).1.1 else bif decide ((af b a e).2=2) then(af (af (af b a e).1.1 (af b a e).1.2.1 (af b a e).1.2.2).1.1 (af (af b a e).1.1 (af b a e).1.2.1 (af b a e).1.2.2).1.2.1 (af (af b a e).1.1 (af b a e).1.2.1 (af b a e).1.2.2).1.2.2).1.1 else(af b a e).1.1)=b:=by
 rw [GV]
 split
 · rw [ő,(mO b a e).1]
 · split
   · rw [(mO _ _ _).1,(mO _ _ _).1,(mO b a e).1]
   · exact(mO b a e).1
theorem vF(b:List UInt8)(a e:Int):
  (((bif decide ((af b a e).2=0) then(bj (af b a e).1.1 (af b a e).1.2.1 (af b a e).1.2.2 2000).1.2.1 else bif decide ((af b a e).2=2) then(af (af (af b a e).1.1 (af b a e).1.2.1 (af b a e).1.2.2).1.1 (af (af b a e).1.1 (af b a e).1.2.1 (af b a e).1.2.2).1.2.1 (af (af b a e).1.1 (af b a e).1.2.1 (af b a e).1.2.2).1.2.2).1.2.1 else(af b a e).1.2.1,
    bif decide ((af b a e).2=0) then(bj (af b a e).1.1 (af b a e).1.2.1 (af b a e).1.2.2 2000).1.2.2 else bif decide ((af b a e).2=2) then(af (af (af b a e).1.1 (af b a e).1.2.1 (af b a e).1.2.2).1.1 (af (af b a e).1.1 (af b a e).1.2.1 (af b a e).1.2.2).1.2.1 (af (af b a e).1.1 (af b a e).1.2.1 (af b a e).1.2.2).1.2.2).1.2.2 else(af b a e).1.2.2),
   (bif decide ((af b a e).2=0) then(af b a e).2 else bif decide ((af b a e).2=2) then(af b a e).2 else(af b a e).2,
    bif decide ((af b a e).2=0) then 0 else bif decide ((af b a e).2=2) then(af (af b a e).1.1 (af b a e).1.2.1 (af b a e).1.2.2).2 else 0,
    bif decide ((af b a e).2=0) then 0 else bif decide ((af b a e).2=2) then(af (af (af b a e).1.1 (af b a e).1.2.1 (af b a e).1.2.2).1.1 (af (af b a e).1.1 (af b a e).1.2.1 (af b a e).1.2.2).1.2.1 (af (af b a e).1.1 (af b a e).1.2.1 (af b a e).1.2.2).1.2.2).2 else 0,
    bif decide ((af b a e).2=0) then(bj (af b a e).1.1 (af b a e).1.2.1 (af b a e).1.2.2 2000).2 else [])):(Int×Int)×bm)=cn b a e:=by
 unfold cn
 simp only [GV,(mO _ _ _).1,Bool.cond_decide]
 split
 · rename_i h;rw [h]
 · split
   · rename_i h;rw [h]
   · rfl
theorem yZ {a:Int}(h:¬a<0∧¬3<a):hU a=0:=by
 unfold hU;rw [if_neg];simp [iF];omega
theorem Ce {a:Int}(h:¬a<0∧¬3<a):iK (Vg.iU UInt8) a=num a:=SZ (by omega) (by omega)
theorem Ey {a b c:Int} {d:List UInt8}(h:a<0∨3<a):aU a b c d=([],1):=by
 unfold aU jA
 rw [if_neg]
 rw [if_neg (by omega),if_neg (by omega)]
 simp;omega
theorem Bl {a b c:Int} {d:List UInt8}(h0:a=0)(h:2000<(d.length:Int)):aU a b c d=([],1):=by
 unfold aU jA
 rw [if_neg]
 rw [if_pos h0]
 simp;omega
theorem Ez {a b c:Int} {d:List UInt8}(h0:a=0)(h:¬2000<(d.length:Int)):aU a b c d=(num a++text d,0):=by
 unfold aU jA
 rw [if_pos]
 · unfold kB;rw [if_pos h0]
 · rw [if_pos h0];simp;omega
theorem Bm {a b c:Int} {d:List UInt8}(h:¬a<0∧¬3<a)(h0:¬a=0)(h2:¬a=2):aU a b c d=(num a,0):=by
 unfold aU jA
 rw [if_pos]
 · unfold kB;rw [if_neg h0,if_neg h2,List.append_nil]
 · rw [if_neg h0,if_neg h2];simp;omega
theorem Oi {a:Int} {d:List UInt8}(h:¬a<0∧¬3<a)(h1:¬2000<(d.length:Int)):lB (iK (Vg.iU UInt8) a) d:=by
 rw [Ce h]
 have :=kp a
 unfold lB;omega
theorem GW(l:List UInt8)(v:Int):(iK l v).length≤l.length+9:=by
 have :=kp v
 unfold iK;split
 · simp
 · rw [List.length_append];omega
theorem We(a b c:Int)(k:Nat):(jB a b c k).1.length≤100:=by
 have h1:=kp a
 have h2:=kp b
 match k with
 |0=>simp only [jB];omega
 |1=>simp only [jB];have :=GW (num a) b;omega
 |k+2=>
  simp only [jB];split
  · have :=GW (num a++num b) c;rw [List.length_append] at this;simp only;omega
  · simp
theorem Wf {a b c:Int} {k:Nat}(h:(k:Int)<(([b,c]:List Int).length:Int))(h0:(jB a b c k).2=0):hU ([b,c].getD (k:Int).toNat 0)=(jB a b c (k+1)).2∧iK (jB a b c k).1 ([b,c].getD (k:Int).toNat 0)=(jB a b c (k+1)).1:=by
 have hk:k=0∨k=1:=by simp at h;omega
 rcases hk with hk|hk
 · subst hk;exact⟨rfl,rfl⟩
 · subst hk
   have h1:hU b=0:=h0
   have h2:iF b=false :=by
    unfold hU at h1;split at h1
    · cases h1
    · rename_i q;simpa using q
   simp only [jB]
   rw [h1,if_pos rfl]
   have :iK (num a) b=num a++num b:=by unfold iK;rw [h2];rfl
   rw [this]
   exact⟨rfl,rfl⟩
theorem Wg {a b c:Int} {k:Nat}(h:(k:Int)<(([b,c]:List Int).length:Int))(h0:¬(jB a b c k).2=0):jB a b c k=jB a b c (k+1):=by
 have hk:k=0∨k=1:=by simp at h;omega
 rcases hk with hk|hk
 · subst hk;exact absurd rfl h0
 · subst hk
   have h1:¬hU b=0:=h0
   have h2:iF b=true :=by
    unfold hU at h1;split at h1
    · rename_i q;exact q
    · exact absurd rfl h1
   simp only [jB]
   rw [if_neg h1]
   unfold iK hU;rw [h2];rfl
theorem y6 {a b c:Int} {d:List UInt8} {k:Nat}(h:a=2)(hk:k≤2)(IF:¬(k:Int)<(([b,c]:List Int).length:Int)):aU a b c d=if(jB a b c k).2=0 then((jB a b c k).1,0) else([],(jB a b c k).2):=by
 have :k=2:=by simp at IF;omega
 subst this
 simp only [jB]
 unfold aU jA kB hU iK
 rw [if_neg (show ¬a=0 by omega),if_pos h,if_neg (show ¬a=0 by omega),if_pos h]
 cases iF b<;>cases iF c<;>simp
end Go.S

end
section
namespace Go.S
abbrev TD:=Int×Int×eV
def xr(d:Bs×Ws):Bs:=sync d.1 d.2
def eG(d:Bs×Ws)(keep:List Int):Bs:=jz d.1 d.2 keep
def au(d:Bs×Ws):TD×Int:=(fo (aL d.1 d.2).1,(aL d.1 d.2).2)
def bq(d:Bs×Ws)(s:TD)(e:bm):List qL×TD×Int:=((bF d.1 d.2 s.1 s.2.1 s.2.2 e).1.1,fo (bF d.1 d.2 s.1 s.2.1 s.2.2 e).1.2,(bF d.1 d.2 s.1 s.2.1 s.2.2 e).2)
def gJ(d:Bs×Ws)(l:List qL)(f:Int):(Bs×Ws)×Int:=((xq d.1 d.2 l f).1,(((xq d.1 d.2 l f).2:Nat):Int))
theorem Jn {b:List UInt8} {a:Int}(h0:0≤a)(h1:a≤b.length)(h:(af b a 0).1.2.2=0):a<(af b a 0).1.2.1∧(af b a 0).1.2.1≤b.length:=by
 by_cases hf:(first (b.drop a.toNat)).2.2=0
 · have hb:=Bg hf
   have hd:=vo (b.drop a.toNat)
   have hp:=yD (first (b.drop a.toNat)).1
   rw [VZ h0 h1 hf]
   simp only
   rw [List.length_drop] at hd
   omega
 · rw [afh h0 h1 hf] at h;exact absurd h hf
theorem alq {b:List UInt8} {a e m:Int}(h:e≠0):bj b a e m=((b,a,e),[]):=by
 unfold bj;rw [Lz h,if_pos h]
theorem Œ {b:List UInt8} {a m:Int}(h0:0≤a)(h1:a≤b.length)(h:(bj b a 0 m).1.2.2=0):a<(bj b a 0 m).1.2.1∧(bj b a 0 m).1.2.1≤b.length:=by
 unfold bj at h ⊢
 rw [yQ h0 h1,if_neg (fun q=>q rfl)] at h ⊢
 by_cases hg:(bV b a m).2.2=0
 · rw [if_neg (fun q=>q hg)]
   simp only
   unfold bV at hg ⊢
   by_cases g1:(aJ b a).2.2=0
   · rw [if_neg (fun q=>q g1)] at hg ⊢
     have hf:(first (b.drop a.toNat)).2.2=0:=g1
     have hb:=Bg hf
     have hd:=vo (b.drop a.toNat)
     have hp:=yD (first (b.drop a.toNat)).1
     have e:(aJ b a).2.1=a+(first (b.drop a.toNat)).2.1:=by simp only [aJ,AU,hf,if_true]
     have e1:(aJ b a).1=(first (b.drop a.toNat)).1:=rfl
     rw [List.length_drop] at hd
     split at hg
     · cases hg
     · rename_i q1
       rw [if_neg q1]
       split at hg
       · cases hg
       · rename_i q2
         rw [if_neg q2]
         simp only
         rw [e,e1] at *
         omega
   · rw [if_pos g1] at hg;exact absurd hg g1
 · rw [if_pos hg] at h;exact absurd h hg
theorem Cf {b:List UInt8} {a:Int}(h0:0≤a)(h1:a≤b.length)(h:(cn b a 0).1.2=0):a<(cn b a 0).1.1∧(cn b a 0).1.1≤b.length:=by
 by_cases e0:(af b a 0).1.2.2=0
 · have r1:=Jn h0 h1 e0
   unfold cn at h ⊢
   split at h
   · rename_i q
     rw [if_pos q]
     simp only at h ⊢
     rw [e0] at h ⊢
     have :=Œ (m:=2000) (by omega) r1.2 h
     omega
   · rename_i q
     rw [if_neg q]
     split at h
     · rename_i q2
       rw [if_pos q2]
       simp only at h ⊢
       rw [e0] at h ⊢
       by_cases e1:(af b (af b a 0).1.2.1 0).1.2.2=0
       · have r2:=Jn (by omega) r1.2 e1
         rw [e1] at h ⊢
         have :=Jn (by omega) r2.2 h
         omega
       · rw [VY e1] at h;exact absurd h e1
     · rename_i q2
       rw [if_neg q2]
       exact r1
 · exfalso
   unfold cn at h
   split at h
   · simp only at h;rw [alq e0] at h;exact e0 h
   · split at h
     · simp only at h;rw [VY e0] at h;simp only at h;rw [VY e0] at h;exact e0 h
     · exact e0 h
theorem GX(b:List UInt8):∀(f g:Nat) (a:Int) (x:eV),0≤a→a≤b.length→b.length-a.toNat≤f→b.length-a.toNat≤g→xo b f a x=xo b g a x
 |0,0,_,_,_,_,_,_=>rfl
 |0,g+1,a,x,h0,h1,hf,_=>by simp only [xo];rw [if_neg (by omega)]
 |f+1,0,a,x,h0,h1,_,hg=>by simp only [xo];rw [if_neg (by omega)]
 |f+1,g+1,a,x,h0,h1,hf,hg=>by
  simp only [xo]
  by_cases ha:a<b.length
  · rw [if_pos ha,if_pos ha]
    by_cases he:(cn b a 0).1.2=0
    · have :=Cf h0 h1 he
      rw [GX b f g _ _ (by omega) (by omega) (by omega) (by omega)]
    · rw [if_pos he,if_pos he]
  · rw [if_neg ha,if_neg ha]
theorem EA {b:List UInt8} {a:Int} {x:eV}(h0:0≤a)(h1:a<b.length):xo b (b.length-a.toNat) a x=
  if(cn b a 0).1.2≠0 then(([],[]),2) else if(cy x (cn b a 0).2).2≠0 then(([],[]),2) else xo b (b.length-(cn b a 0).1.1.toNat) (cn b a 0).1.1 (cy x (cn b a 0).2).1:=by
 obtain⟨f,hf⟩:∃f,b.length-a.toNat=f+1:=⟨b.length-a.toNat-1,by omega⟩
 rw [hf]
 simp only [xo]
 rw [if_pos h1]
 by_cases he:(cn b a 0).1.2=0
 · have :=Cf h0 (by omega) he
   rw [GX b f (b.length-(cn b a 0).1.1.toNat) _ _ (by omega) (by omega) (by omega) (Nat.le_refl _)]
 · rw [if_pos he,if_pos he]
def okM(bl:Bs)(wt:Ws)(m:(Int×Int)×Bool):Prop :=m.2=true→0≤m.1.1∧m.1.1≤4611686018427387904∧0≤m.1.2∧m.1.2≤dE bl wt
theorem Wh {b:List UInt8}:(eS b).1≤4611686018427387904:=by
 unfold eS;split
 · exact Int.natCast_nonneg 4611686018427387904
 · simp only;omega
theorem LM {bl:Bs} {wt:Ws} {i:Int} {m:(Int×Int)×Bool}(h:okM bl wt m):okM bl wt (uI bl wt i m):=by
 unfold uI
 split
 · exact h
 · split
   · intro hs
     unfold cE at hs ⊢
     split at hs
     · rename_i q
       rw [if_pos q]
       exact⟨vE _,Wh,vE _,q.2.2.2.1⟩
     · cases hs
   · exact h
theorem LN {bl:Bs} {wt:Ws}(h:(fm bl wt).2=true):0≤(fm bl wt).1.1∧(fm bl wt).1.1≤4611686018427387904∧0≤(fm bl wt).1.2∧(fm bl wt).1.2≤dE bl wt:=
 LM (LM (fun q=>by cases q)) h
theorem ac9 {bl:Bs} {wt:Ws}(h:aI bl wt=false∨ko (vB bl wt)≤2):aL bl wt=(((0,0),([],[])),1):=by
 unfold aL
 rw [if_pos]
 by_cases hr:aI bl wt=true
 · rcases h with h|h
   · exact .inl h
   · right;simp only [ko,vB,hr,if_true] at h;omega
 · exact .inl (by simpa using hr)
theorem Po {bl:Bs} {wt:Ws}(h:aI bl wt=true∧¬ko (vB bl wt)≤2):¬(aI bl wt=false∨bl.length≤2):=by
 rintro(q|q)
 · rw [h.1] at q;cases q
 · have :=h.2;simp only [ko,vB,h.1,if_true] at this;omega
theorem ada {bl:Bs} {wt:Ws}(h:aI bl wt=true∧¬ko (vB bl wt)≤2)(h1:(fm bl wt).2=false):aL bl wt=(((0,0),([],[])),7):=by
 unfold aL
 rw [if_neg (Po h),if_pos h1]
theorem Oj(bl:Bs)(wt:Ws):(aX bl wt).length≤300000:=by
 have h4:=lK bl wt
 unfold aX
 rw [List.length_take,←Bj]
 by_cases h:2≤(vB bl wt).length
 · rw [uM _ (by omega)];omega
 · have :(vB bl wt).length-2=0:=by omega
   rw [this];simp [dP]
theorem œ {bl:Bs} {wt:Ws}(h1:(fm bl wt).2=true):qk bl wt (fm bl wt).1.2:=by
 have :=LN h1
 exact⟨this.2.2.2,this.2.2.1⟩
theorem Wi(b:List UInt8):pB b (0,[],[]):=⟨Int.le_refl _,Int.natCast_nonneg _,rfl⟩
theorem Wj {bl:Bs} {wt:Ws}(h:aI bl wt=true∧¬ko (vB bl wt)≤2)(h1:(fm bl wt).2=true):aL bl wt=if(xp (aX bl wt)).2≠0 then(((0,0),([],[])),2) else(((fm bl wt).1,(xp (aX bl wt)).1),0):=by
 unfold aL
 rw [if_neg (Po h),if_neg (by rw [h1];simp)];rfl
theorem Pq {bl:Bs} {wt:Ws}(h:aI bl wt=true∧¬ko (vB bl wt)≤2)(h1:(fm bl wt).2=true) {k:Int×eV}(hi:pB (aX bl wt) k)(hk:k.1<((aX bl wt).length:Int))(he:¬(cn (aX bl wt) k.1 0).1.2=0):aL bl wt=(((0,0),([],[])),2):=by
 obtain⟨i0,i1,i2⟩:=hi
 rw [EA i0 hk,if_pos he] at i2
 rw [Wj h h1,←i2];rfl
theorem LO {bl:Bs} {wt:Ws}(h:aI bl wt=true∧¬ko (vB bl wt)≤2)(h1:(fm bl wt).2=true) {k:Int×eV}(hi:pB (aX bl wt) k)(hk:k.1<((aX bl wt).length:Int))(he:(cn (aX bl wt) k.1 0).1.2=0)
  (hh:¬(c9 k.2.1 k.2.2 (cn (aX bl wt) k.1 0).2.1 (cn (aX bl wt) k.1 0).2.2.1 (cn (aX bl wt) k.1 0).2.2.2.1 (cn (aX bl wt) k.1 0).2.2.2.2).2=0):aL bl wt=(((0,0),([],[])),2):=by
 obtain⟨i0,i1,i2⟩:=hi
 have FE:(cy k.2 (cn (aX bl wt) k.1 0).2).2≠0:=hh
 rw [EA i0 hk,if_neg (fun q=>q he),if_pos FE] at i2
 rw [Wj h h1,←i2];rfl
theorem als {bl:Bs} {wt:Ws} {k:Int×eV}(hi:pB (aX bl wt) k)(hk:k.1<((aX bl wt).length:Int))(he:(cn (aX bl wt) k.1 0).1.2=0)
  (hh:(c9 k.2.1 k.2.2 (cn (aX bl wt) k.1 0).2.1 (cn (aX bl wt) k.1 0).2.2.1 (cn (aX bl wt) k.1 0).2.2.2.1 (cn (aX bl wt) k.1 0).2.2.2.2).2=0):
  pB (aX bl wt) ((cn (aX bl wt) k.1 0).1.1,(c9 k.2.1 k.2.2 (cn (aX bl wt) k.1 0).2.1 (cn (aX bl wt) k.1 0).2.2.1 (cn (aX bl wt) k.1 0).2.2.2.1 (cn (aX bl wt) k.1 0).2.2.2.2).1.1,(c9 k.2.1 k.2.2 (cn (aX bl wt) k.1 0).2.1 (cn (aX bl wt) k.1 0).2.2.1 (cn (aX bl wt) k.1 0).2.2.2.1 (cn (aX bl wt) k.1 0).2.2.2.2).1.2):=by
 obtain⟨i0,i1,i2⟩:=hi
 have FE:¬(cy k.2 (cn (aX bl wt) k.1 0).2).2≠0:=fun q=>q hh
 have ha:=Cf i0 i1 he
 rw [EA i0 hk,if_neg (fun q=>q he),if_neg FE] at i2
 exact⟨by omega,ha.2,i2⟩
theorem Wk {bl:Bs} {wt:Ws} {k:Int×eV}(hi:pB (aX bl wt) k)(hk:k.1<((aX bl wt).length:Int))(he:(cn (aX bl wt) k.1 0).1.2=0):(aX bl wt).length-(cn (aX bl wt) k.1 0).1.1.toNat<(aX bl wt).length-k.1.toNat:=by
 have ha:=Cf hi.1 hi.2.1 he
 have :=hi.1
 omega
theorem Pr {bl:Bs} {wt:Ws}(h:aI bl wt=true∧¬ko (vB bl wt)≤2)(h1:(fm bl wt).2=true) {k:Int×eV}(hi:pB (aX bl wt) k)(hk:¬k.1<((aX bl wt).length:Int)):aL bl wt=(((fm bl wt).1,k.2),0):=by
 obtain⟨i0,i1,i2⟩:=hi
 have e:(aX bl wt).length-k.1.toNat=0:=by omega
 rw [e] at i2
 simp only [xo] at i2
 rw [Wj h h1,←i2];rfl
theorem GY {docs:List (List UInt8)} {l:List ax} {a b c:Int} {d:List UInt8}(h:(a=0→False)∧(a=1→False)∧(a=2→False)∧(a=3→False)∧True):
  c9 docs l a b c d=((bif !bc docs l then [] else docs,bif !bc docs l then [] else l),1):=by
 unfold c9
 rw [if_neg h.1,if_neg h.2.1,if_neg h.2.2.1,if_neg h.2.2.2.1]
 unfold al
 cases bc docs l<;>rfl
theorem Ŕ {bl:Bs} {wt:Ws} {a:Int} {b:List UInt8} {k:Int×List UInt8×Ws}(h:sF bl wt a b k)(hk:k.1<a+(b.length:Int))(he:¬fZ bl wt (2+k.1/64)=0):k.2.2=dV bl wt a b:=by
 obtain⟨h0,h1,h2⟩:=h
 have hl:k.2.1≠ []:=fun q=>by rw [q] at h1;simp at h1;omega
 obtain⟨f,hf⟩:∃f,k.2.1.length=f+1:=⟨k.2.1.length-1,by have :=List.length_pos_iff.2 hl;omega⟩
 rw [hf] at h2
 simp only [qM] at h2
 rw [if_neg hl,if_pos he,List.append_nil] at h2
 exact h2
theorem Wl {bl:Bs} {wt:Ws} {a:Int} {b:List UInt8} {k:Int×List UInt8×Ws}(h:sF bl wt a b k)(hk:¬k.1<a+(b.length:Int)):k.2.2=dV bl wt a b:=by
 obtain⟨h0,h1,h2⟩:=h
 have :k.2.1.length=0:=by omega
 rw [this] at h2
 simp only [qM,List.append_nil] at h2
 exact h2
theorem GZ(bl:Bs)(wt:Ws):∀(f g:Nat) (a:Int) (b:List UInt8),b.length≤f→b.length≤g→qM bl wt f a b=qM bl wt g a b
 |0,0,_,_,_,_=>rfl
 |0,g+1,a,b,h,_=>by
  have :b= []:=List.length_eq_zero_iff.1 (by omega)
  simp only [qM];rw [if_pos this]
 |f+1,0,a,b,_,h=>by
  have :b= []:=List.length_eq_zero_iff.1 (by omega)
  simp only [qM];rw [if_pos this]
 |f+1,g+1,a,b,h1,h2=>by
  simp only [qM]
  by_cases hb:b= []
  · rw [if_pos hb,if_pos hb]
  · have :=List.length_pos_iff.2 hb
    have hp:(a%64).toNat<64:=by omega
    rw [GZ bl wt f g _ _ (by rw [List.length_drop];omega) (by rw [List.length_drop];omega)]
theorem Ac {bl:Bs} {wt:Ws} {a:Int} {b:List UInt8} {k:Int×List UInt8×Ws}(h:sF bl wt a b k)(hk:k.1<a+(b.length:Int))(he:fZ bl wt (2+k.1/64)=0):
  (min k.2.1.length ((dM bl wt (2+k.1/64)).length-(k.1%64).toNat))=min (64-(k.1%64).toNat) k.2.1.length∧1≤min (64-(k.1%64).toNat) k.2.1.length∧
  k.2.1.drop (64-(k.1%64).toNat)=k.2.1.drop (min (64-(k.1%64).toNat) k.2.1.length)∧
  mr (dM bl wt (2+k.1/64)) k.1 k.2.1=List.take (k.1%64).toNat (dM bl wt (2+k.1/64))++List.take ((dM bl wt (2+k.1/64)).length-(k.1%64).toNat) k.2.1++List.drop ((k.1%64).toNat+min k.2.1.length ((dM bl wt (2+k.1/64)).length-(k.1%64).toNat)) (dM bl wt (2+k.1/64))∧
  sF bl wt a b (k.1+(min (64-(k.1%64).toNat) k.2.1.length:Nat),k.2.1.drop (64-(k.1%64).toNat),k.2.2++ [(2+k.1/64,mr (dM bl wt (2+k.1/64)) k.1 k.2.1)]):=by
 obtain⟨h0,h1,h2⟩:=h
 have hl:k.2.1≠ []:=fun q=>by rw [q] at h1;simp at h1;omega
 have hp:=List.length_pos_iff.2 hl
 have oc:=yX he
 have hm:(k.1%64).toNat<64:=by omega
 have ed:k.2.1.drop (64-(k.1%64).toNat)=k.2.1.drop (min (64-(k.1%64).toNat) k.2.1.length):=by
  by_cases q:64-(k.1%64).toNat≤k.2.1.length
  · rw [Nat.min_eq_left q]
  · rw [Nat.min_eq_right (by omega),List.drop_of_length_le (by omega),List.drop_of_length_le (by omega)]
 refine⟨by rw [oc];omega,by omega,ed,?_,?_⟩
 · unfold mr
   rw [oc]
   congr 1
   by_cases q:k.2.1.length≤64-(k.1%64).toNat
   · rw [Nat.min_eq_left q]
   · rw [Nat.min_eq_right (by omega),List.drop_of_length_le (by omega),List.drop_of_length_le (by omega)]
 · refine⟨by simp only;omega,?_,?_⟩
   · simp only [List.length_drop];omega
   · obtain⟨f,hf⟩:∃f,k.2.1.length=f+1:=⟨k.2.1.length-1,by omega⟩
     rw [←h2,hf]
     simp only [qM]
     rw [if_neg hl,if_neg (fun q=>q he),List.append_assoc,List.singleton_append,hf]
     rw [GZ bl wt _ f _ _ (Nat.le_refl _) (by rw [List.length_drop];omega)]
theorem EB(bl:Bs)(wt:Ws):∀(f:Nat) (a:Int) (b:List UInt8),(qM bl wt f a b).length≤f
 |0,_,_=>Nat.le_refl _
 |f+1,a,b=>by
  simp only [qM]
  split
  · simp
  · split
    · simp
    · have :=EB bl wt f (a+(min (64-(a%64).toNat) b.length:Nat)) (b.drop (64-(a%64).toNat))
      simp only [List.length_cons];omega
theorem Jo {bl:Bs} {wt:Ws} {a:Int} {b:List UInt8} {k:Int×List UInt8×Ws}(hp:Jm a b)(h:sF bl wt a b k):k.2.2.length≤1000000∧k.2.1.length≤2000000∧k.1≤2000000:=by
 obtain⟨h0,h1,h2⟩:=h
 obtain⟨p1,p2,p3⟩:=hp
 have e:=congrArg List.length h2
 have :=EB bl wt b.length a b
 rw [List.length_append] at e
 unfold dV at e
 refine⟨by omega,by omega,by omega⟩
theorem alu {bl:Bs} {wt:Ws} {s u:Int} {x:eV} {e:bm}(h:s=4611686018427387904):bF bl wt s u x e=(([],((0,0),([],[]))),1):=by
 unfold bF;rw [if_pos h]
theorem alv {bl:Bs} {wt:Ws} {s u:Int} {x:eV} {e:bm}(h:¬s=4611686018427387904)(h1:¬(aL bl wt).2=0∨¬(fo (aL bl wt).1).1=s∨¬(fo (aL bl wt).1).2.1=u):bF bl wt s u x e=(([],((0,0),([],[]))),1):=by
 have Se:(aL bl wt).2≠0∨(aL bl wt).1.1.1≠s∨(aL bl wt).1.1.2≠u:=h1
 unfold bF;rw [if_neg h,if_pos Se]
theorem Ps {bl:Bs} {wt:Ws} {s u:Int}(h1:(aL bl wt).2=0∧(fo (aL bl wt).1).1=s∧(fo (aL bl wt).1).2.1=u):¬((aL bl wt).2≠0∨(aL bl wt).1.1.1≠s∨(aL bl wt).1.1.2≠u):=by
 rintro(q|q|q)
 · exact q h1.1
 · exact q h1.2.1
 · exact q h1.2.2
theorem vG {a b c:Int} {d:List UInt8}:(aU a b c d).2=if jA a b c d=true then 0 else 1:=by
 unfold aU;cases jA a b c d<;>rfl
theorem alw {bl:Bs} {wt:Ws} {s u:Int} {x:eV} {a b c:Int} {d:List UInt8}(h:¬s=4611686018427387904)(h1:(aL bl wt).2=0∧(fo (aL bl wt).1).1=s∧(fo (aL bl wt).1).2.1=u)(h2:¬(aU a b c d).2=0):
  bF bl wt s u x (a,b,c,d)=(([],((0,0),([],[]))),(aU a b c d).2):=by
 have hf:ez (a,b,c,d)=false :=by
  rw [vG] at h2
  cases q:jA a b c d
  · exact q
  · rw [q] at h2;exact absurd rfl h2
 have e:(aU a b c d).2=1:=by
  rw [vG];rw [show jA a b c d=false from hf];rfl
 unfold bF;rw [if_neg h,if_neg (Ps h1),if_pos hf,e]
theorem Pt {a b c:Int} {d:List UInt8}(h2:(aU a b c d).2=0):jA a b c d=true∧(aU a b c d).1=bR (a,b,c,d):=by
 rw [vG] at h2
 cases q:jA a b c d
 · rw [q] at h2;cases h2
 · refine⟨rfl,?_⟩
   unfold aU;rw [q];rfl
theorem alx {bl:Bs} {wt:Ws} {s u:Int} {y:List (List UInt8)} {z:List ax} {a b c:Int} {d:List UInt8}(h:¬s=4611686018427387904)(h1:(aL bl wt).2=0∧(fo (aL bl wt).1).1=s∧(fo (aL bl wt).1).2.1=u)(h2:(aU a b c d).2=0)(h3:¬(c9 y z a b c d).2=0):
  bF bl wt s u (y,z) (a,b,c,d)=(([],((0,0),([],[]))),(c9 y z a b c d).2):=by
 have hf:=Pt h2
 have Wm:(cy (y,z) (a,b,c,d)).2≠0:=h3
 unfold bF;rw [if_neg h,if_neg (Ps h1),if_neg (by rw [show ez (a,b,c,d)=true from hf.1];simp),if_pos Wm];rfl
theorem aly {bl:Bs} {wt:Ws} {s u:Int} {y:List (List UInt8)} {z:List ax} {a b c:Int} {d:List UInt8}(h:¬s=4611686018427387904)(h1:(aL bl wt).2=0∧(fo (aL bl wt).1).1=s∧(fo (aL bl wt).1).2.1=u)(h2:(aU a b c d).2=0)(h3:(c9 y z a b c d).2=0)
  (h4:dE bl wt-(fo (aL bl wt).1).2.1<((aU a b c d).1.length:Int)):bF bl wt s u (y,z) (a,b,c,d)=(([],((0,0),([],[]))),3):=by
 have hf:=Pt h2
 have Wm:¬(cy (y,z) (a,b,c,d)).2≠0:=fun q=>q h3
 rw [h1.2.2,hf.2] at h4
 unfold bF;rw [if_neg h,if_neg (Ps h1),if_neg (by rw [show ez (a,b,c,d)=true from hf.1];simp),if_neg Wm,if_pos h4]
theorem alz {bl:Bs} {wt:Ws} {s u:Int} {y:List (List UInt8)} {z:List ax} {a b c:Int} {d:List UInt8}(h:¬s=4611686018427387904)(h1:(aL bl wt).2=0∧(fo (aL bl wt).1).1=s∧(fo (aL bl wt).1).2.1=u)(h2:(aU a b c d).2=0)(h3:(c9 y z a b c d).2=0)
  (h4:¬dE bl wt-(fo (aL bl wt).1).2.1<((aU a b c d).1.length:Int)):bF bl wt s u (y,z) (a,b,c,d)=
    ((wr (((fo (aL bl wt).1).1+1)%2,clean)::(lX (dV bl wt (fo (aL bl wt).1).2.1 (aU a b c d).1)++ [(true,0,[]),(false,((fo (aL bl wt).1).1+1)%2,dN ((fo (aL bl wt).1).1+1) ((fo (aL bl wt).1).2.1+((aU a b c d).1.length:Int))),(true,0,[])]),(((fo (aL bl wt).1).1+1,(fo (aL bl wt).1).2.1+((aU a b c d).1.length:Int)),(c9 y z a b c d).1)),0):=by
 have hf:=Pt h2
 have Wm:¬(cy (y,z) (a,b,c,d)).2≠0:=fun q=>q h3
 rw [h1.2.2,hf.2] at h4
 unfold bF;rw [if_neg h,if_neg (Ps h1),if_neg (by rw [show ez (a,b,c,d)=true from hf.1];simp),if_neg Wm,if_neg h4,h1.2.2,h1.2.1,hf.2];rfl
theorem Jp {bl:Bs} {wt:Ws}(h1:(aL bl wt).2=0):0≤(fo (aL bl wt).1).1∧(fo (aL bl wt).1).1≤4611686018427387904∧0≤(fo (aL bl wt).1).2.1∧(fo (aL bl wt).1).2.1≤300000∧(fo (aL bl wt).1).2.1≤dE bl wt:=by
 have h4:=lK bl wt
 unfold aL at h1 ⊢
 split at h1
 · cases h1
 · rename_i q1
   rw [if_neg q1]
   split at h1
   · cases h1
   · rename_i q2
     rw [if_neg q2]
     have hc:=LN (bl:=bl) (wt:=wt) (by simpa using q2)
     split at h1
     · cases h1
     · rename_i q3
       rw [if_neg q3]
       simp only [fo]
       simp only [dE] at hc ⊢
       omega
theorem Ad(bl:Bs)(wt:Ws):dE bl wt≤300000∧ -200≤dE bl wt:=by
 have h4:=lK bl wt
 simp only [dE];omega
theorem k7 {a b c:Int} {d:List UInt8}:(aU a b c d).1.length≤60000:=by
 unfold aU
 cases q:jA a b c d
 · simp
 · exact yW (e:=(a,b,c,d)) q
theorem G1(bl:Bs)(wt:Ws)(a:Int)(b:List UInt8):(lX (dV bl wt a b)).length≤b.length:=by
 unfold lX dV;rw [List.length_map];exact EB _ _ _ _ _
theorem alA(bl:Bs)(wt:Ws)(l:List qL)(f:Int):mu bl wt l f (0,bl,wt):=⟨Nat.zero_le _,by simp [xq]⟩
theorem drop_cons {α:Type}(l:List α)(k:Nat)(d:α)(h:k<l.length):l.drop k=l.getD k d::l.drop (k+1):=by
 rw [List.drop_eq_getElem_cons h,List.getD_eq_getElem?_getD,List.getElem?_eq_getElem h];rfl
theorem adb {bl:Bs} {wt:Ws} {l:List qL} {f:Int} {k:Nat×Bs×Ws}(h:mu bl wt l f k)(hk:(k.1:Int)<l.length)(hf:f≤(k.1:Int)):xq bl wt l f=((k.2.1,k.2.2),k.1):=by
 obtain⟨h0,h1⟩:=h
 rw [drop_cons l k.1 (false,0,[]) (by omega)] at h1
 simp only [eJ] at h1
 rw [if_pos (by omega)] at h1
 exact h1.symm
theorem Wn {bl:Bs} {wt:Ws} {l:List qL} {f:Int} {k:Nat×Bs×Ws}(h:mu bl wt l f k)(hk:(k.1:Int)<l.length)(hf:¬f≤(k.1:Int))(hs:(l.getD ((k.1:Int)).toNat (false,0,[])).1=true):mu bl wt l f (k.1+1,sync k.2.1 k.2.2,[]):=by
 obtain⟨h0,h1⟩:=h
 rw [Int.toNat_natCast] at hs
 rw [drop_cons l k.1 (false,0,[]) (by omega)] at h1
 simp only [eJ] at h1
 rw [if_neg (by omega),if_pos hs] at h1
 exact⟨by simp only;omega,h1⟩
theorem Pu {bl:Bs} {wt:Ws} {l:List qL} {f:Int} {k:Nat×Bs×Ws}(h:mu bl wt l f k)(hk:(k.1:Int)<l.length)(hf:¬f≤(k.1:Int))(hs:(l.getD ((k.1:Int)).toNat (false,0,[])).1=false)(he:¬kF k.2.1 k.2.2 (l.getD k.1 (false,0,[])).2.1 (l.getD k.1 (false,0,[])).2.2=0):xq bl wt l f=((k.2.1,k.2.2),k.1):=by
 obtain⟨h0,h1⟩:=h
 rw [Int.toNat_natCast] at hs
 rw [drop_cons l k.1 (false,0,[]) (by omega)] at h1
 simp only [eJ] at h1
 rw [if_neg (by omega),if_neg (by rw [hs];simp),if_pos he] at h1
 exact h1.symm
theorem TF {bl:Bs} {wt:Ws} {l:List qL} {f:Int} {k:Nat×Bs×Ws}(h:mu bl wt l f k)(hk:(k.1:Int)<l.length)(hf:¬f≤(k.1:Int))(hs:(l.getD ((k.1:Int)).toNat (false,0,[])).1=false)(he:kF k.2.1 k.2.2 (l.getD k.1 (false,0,[])).2.1 (l.getD k.1 (false,0,[])).2.2=0):
  mu bl wt l f (k.1+1,wB k.2.1 k.2.2,wW k.2.1 k.2.2 (l.getD ((k.1:Int)).toNat (false,0,[])).2.1 (l.getD ((k.1:Int)).toNat (false,0,[])).2.2):=by
 obtain⟨h0,h1⟩:=h
 rw [Int.toNat_natCast] at hs ⊢
 rw [drop_cons l k.1 (false,0,[]) (by omega)] at h1
 simp only [eJ] at h1
 rw [if_neg (by omega),if_neg (by rw [hs];simp),if_neg (fun q=>q he)] at h1
 exact⟨by simp only;omega,h1⟩
theorem Pv {bl:Bs} {wt:Ws} {l:List qL} {f:Int} {k:Nat×Bs×Ws}(h:mu bl wt l f k)(hk:¬(k.1:Int)<l.length):xq bl wt l f=((k.2.1,k.2.2),l.length):=by
 obtain⟨h0,h1⟩:=h
 have e:k.1=l.length:=by omega
 rw [e,List.drop_length] at h1
 exact h1.symm
end Go.S

end
section
namespace Go.S
def aV(n:Int)(l:List bm):(Bs×Ws)×Bool:=((qN n l,[]),true)
def ny:Ws:= []
def EC(x y:TD):Bool:=Ji ((x.1,x.2.1),x.2.2) ((y.1,y.2.1),y.2.2)
theorem Ol {a b:TD}:EC a b=true↔a=b:=by
 obtain⟨a1,a2,a3,a4⟩:=a
 obtain⟨b1,b2,b3,b4⟩:=b
 unfold EC
 rw [Of]
 simp [and_assoc]
theorem ade(a:TD):EC a a=true :=Ol.2 rfl
theorem Om(docs:List (List UInt8))(l:List ax)(a b c:Int)(d:List UInt8):bc (c9 docs l a b c d).1.1 (c9 docs l a b c d).1.2=true :=by
 unfold c9
 split
 · exact append_right _ _ _
 · split
   · exact n4 _ _
   · split
     · exact merge_right _ _ _ _
     · split
       · exact qF _ _
       · exact ix _ _
theorem qO {docs:List (List UInt8)} {l:List ax}(h:bc docs l=true):small l:=by
 have h:=RI.of h
 have hb:=h.bd
 have hle:=h.le
 unfold small;omega
theorem ED(docs:List (List UInt8))(l:List ax)(a b c:Int)(d:List UInt8):small (c9 docs l a b c d).1.2:=qO (Om docs l a b c d)
end Go.S

end
section
namespace Go.S
theorem sG(bl:Bs)(wt:Ws):au (bl,wt)=(fo (aL bl wt).1,(aL bl wt).2):=rfl
theorem Wo {a b:Tu}(h:fo a=fo b):a=b:=by
 obtain⟨⟨a1,a2⟩,a3⟩:=a
 obtain⟨⟨b1,b2⟩,b3⟩:=b
 simp only [fo,Prod.mk.injEq] at h
 obtain⟨rfl,rfl,rfl⟩:=h
 rfl
theorem afo(bl:Bs)(e:bm):bq (bl,[]) (au (bl,[])).1 e=((cc bl e).1.1,fo (cc bl e).1.2,(cc bl e).2):=rfl
theorem alB(bl:Bs)(e:bm)(f:Int):gJ (bl,[]) (bq (bl,[]) (au (bl,[])).1 e).1 f=((fB bl e f).1,(((fB bl e f).2:Nat):Int)):=rfl
theorem Wp(bl:Bs)(e:bm)(f:Int)(keep:List Int):eG (gJ (bl,[]) (bq (bl,[]) (au (bl,[])).1 e).1 f).1 keep=ij bl e f keep:=rfl
theorem K.small {bl:Bs} {s u:Int} {x:eV}(k:K bl s u x):Go.S.small (au (bl,[])).1.2.2.2:=by
 rw [sG,k.opens]
 exact qO k.Pj
theorem Tv.small {bl:Bs}(h:∃s u x,K bl s u x∧s≤51):Go.S.small (au (bl,[])).1.2.2.2:=by
 obtain⟨s,u,x,k,_⟩:=h
 exact k.small
theorem ŕ {bl:Bs}(hk:Tv bl)(e:bm)(f:Int)(keep more:List Int):
  (au (bl,[])).2=0∧((bq (bl,[]) (au (bl,[])).1 e).2.2≠0→(bq (bl,[]) (au (bl,[])).1 e).1= [])∧
  (au (ij bl e f keep,[])).2=0∧
  au (eG (ij bl e f keep,[]) more,[])=au (ij bl e f keep,[])∧
  ((bq (bl,[]) (au (bl,[])).1 e).2.2=0→
    ((au (ij bl e f keep,[])).1=(bq (bl,[]) (au (bl,[])).1 e).2.1∧((bq (bl,[]) (au (bl,[])).1 e).1.length:Int)≤(gJ (bl,[]) (bq (bl,[]) (au (bl,[])).1 e).1 f).2+1)∨
    ((au (ij bl e f keep,[])).1≠(bq (bl,[]) (au (bl,[])).1 e).2.1∧(au (ij bl e f keep,[])).1=(au (bl,[])).1∧
      (gJ (bl,[]) (bq (bl,[]) (au (bl,[])).1 e).1 f).2<((bq (bl,[]) (au (bl,[])).1 e).1.length:Int)))∧
  Go.S.small (au (ij bl e f keep,[])).1.2.2.2∧Go.S.small (au (bl,[])).1.2.2.2∧Go.S.small (bq (bl,[]) (au (bl,[])).1 e).2.1.2.2.2:=by
 obtain⟨h1,h2,h3,h4,h5,h6,h7⟩:=GU hk e f keep more
 rw [alB,afo]
 have e4:au (eG (ij bl e f keep,[]) more,[])=au (ij bl e f keep,[]):=by
  rw [sG,sG]
  simp only [eG]
  rw [h4]
 have e5:au (ij bl e f keep,[])=(fo (aL (ij bl e f keep) []).1,(aL (ij bl e f keep) []).2):=sG _ _
 have e6:au (bl,[])=(fo (aL bl []).1,(aL bl []).2):=sG _ _
 have h6':=Tv.small h6
 refine⟨by rw [e6];exact h1,h2,by rw [e5];exact h3,e4,fun q=> ?_,h6',?_,?_⟩
 · rw [e5,e6]
   simp only at q ⊢
   rcases h5 q with⟨a,b⟩|⟨a,b,c⟩
   · exact .inl ⟨congrArg fo a,by omega⟩
   · exact .inr ⟨fun w=>a (Wo w),congrArg fo b,by omega⟩
 · obtain⟨s,u,x,k,_⟩:=hk
   exact k.small
 · obtain⟨s,u,x,k,hs⟩:=hk
   show Go.S.small (fo (cc bl e).1.2).2.2.2
   have en:cc bl e=bF bl [] s u x e:=by unfold cc;rw [k.opens]
   rw [en,k.changes (by omega)]
   split
   · simp [fo,Go.S.small]
   · split
     · simp [fo,Go.S.small]
     · split
       · simp [fo,Go.S.small]
       · exact ED _ _ _ _ _ _
theorem Ŗ {bl:Bs}(hk:∃s u x,K bl s u x∧s≤51)(e:bm)(keep:List Int):
  (au (bl,[])).2=0∧((bq (bl,[]) (au (bl,[])).1 e).2.2≠0→(bq (bl,[]) (au (bl,[])).1 e).1= [])∧Go.S.small (bq (bl,[]) (au (bl,[])).1 e).2.1.2.2.2∧
  ((bq (bl,[]) (au (bl,[])).1 e).2.2=0→(gJ (bl,[]) (bq (bl,[]) (au (bl,[])).1 e).1 ((bq (bl,[]) (au (bl,[])).1 e).1.length:Int)).2=((bq (bl,[]) (au (bl,[])).1 e).1.length:Int)∧
    (au (eG (gJ (bl,[]) (bq (bl,[]) (au (bl,[])).1 e).1 ((bq (bl,[]) (au (bl,[])).1 e).1.length:Int)).1 keep,[])).2=0∧
    (au (eG (gJ (bl,[]) (bq (bl,[]) (au (bl,[])).1 e).1 ((bq (bl,[]) (au (bl,[])).1 e).1.length:Int)).1 keep,[])).1=(bq (bl,[]) (au (bl,[])).1 e).2.1∧
    (bq (bl,[]) (au (bl,[])).1 e).2.1.1=(au (bl,[])).1.1+1):=by
 obtain⟨h1,h2,h3⟩:=Tw hk e keep
 refine⟨h1,h2,?_,fun q=> ?_⟩
 · obtain⟨s,u,x,k,hs⟩:=hk
   show Go.S.small (fo (cc bl e).1.2).2.2.2
   have en:cc bl e=bF bl [] s u x e:=by unfold cc;rw [k.opens]
   rw [en,k.changes (by omega)]
   split
   · simp [fo,Go.S.small]
   · split
     · simp [fo,Go.S.small]
     · split
       · simp [fo,Go.S.small]
       · exact ED _ _ _ _ _ _
 · obtain⟨a,b,c,d,f⟩:=h3 q
   refine⟨?_,c,congrArg fo d,f⟩
   show(((fB bl e ((cc bl e).1.1.length:Nat)).2:Nat):Int)=(((cc bl e).1.1.length:Nat):Int)
   rw [a]
end Go.S

end
section
namespace Go.S
theorem amK(a1 a2:Int)(a3:List (List UInt8))(a4:List ax)(b1 b2:Int)(b3:List (List UInt8))(b4:List ax):(bif decide (a1=b1) then bif decide (a2=b2) then iQ a3 a4 b3 b4 else false else false)=EC (a1,a2,a3,a4) (b1,b2,b3,b4):=by
 unfold EC Ji
 simp only
 cases decide (a1=b1)<;>cases decide (a2=b2)<;>rfl
theorem Wq {n:Int}(h:ig n):yR n=0∧pw n=rz n.toNat:=by
 have h1:=h.1
 have h2:=h.2
 constructor
 · unfold yR;rw [if_neg (by omega)]
 · unfold pw;rw [if_neg (by omega)];rfl
theorem alC {n:Int}(h:ig n)(l:List bm):pw n=bo n l 0:=by
 rw [(Wq h).2];unfold bo;rw [List.take_zero];rfl
theorem kT {l:List bm} {k:Nat}(h:(k:Int)<l.length∧(k:Int)<40):k<l.length∧k<kL l∧k<40:=by unfold kL;omega
theorem ŗ {n:Int} {l:List bm} {k:Nat}(h:(k:Int)<l.length∧(k:Int)<40)(hb:¬((len (l.getD k (0,0,0,[])).2.2.2:Nat):Int)≤2500):bo n l k=bo n l (k+1):=by
 rw [lM n l k (kT h).1]
 unfold pA
 rw [if_pos (by unfold len at hb;omega)]
theorem LP {n:Int}(hb:ig n) {l:List bm} {k:Nat}(h:k≤kL l):(au (bo n l k,ny)).2=0:=by
 obtain⟨s,u,x,K0,hs,_⟩:=Cd hb l k h
 show(au (bo n l k,[])).2=0
 rw [sG,K0.opens]
theorem afp {n:Int} {l:List bm} {k:Nat}(h:(k:Int)<l.length∧(k:Int)<40)(hb:((len (l.getD k (0,0,0,[])).2.2.2:Nat):Int)≤2500)
  (he:¬(bq (bo n l k,ny) (au (bo n l k,ny)).1 (l.getD k (0,0,0,[]))).2.2=0):bo n l k=bo n l (k+1):=by
 have Dj:(cc (bo n l k) (l.getD k (0,0,0,[]))).2≠0:=he
 rw [lM n l k (kT h).1]
 unfold pA
 rw [if_neg (by unfold len at hb;omega)]
 unfold cc at Dj
 rw [if_pos Dj]
theorem Jq {n:Int}(hb:ig n) {l:List bm} {k:Nat}(h:(k:Int)<l.length∧(k:Int)<40)(hs:((len (l.getD k (0,0,0,[])).2.2.2:Nat):Int)≤2500)
  (he:(bq (bo n l k,ny) (au (bo n l k,ny)).1 (l.getD k (0,0,0,[]))).2.2=0):
  (gJ (bo n l k,ny) (bq (bo n l k,ny) (au (bo n l k,ny)).1 (l.getD k (0,0,0,[]))).1 ((bq (bo n l k,ny) (au (bo n l k,ny)).1 (l.getD k (0,0,0,[]))).1.length:Int))=
    ((bo n l (k+1),ny),((bq (bo n l k,ny) (au (bo n l k,ny)).1 (l.getD k (0,0,0,[]))).1.length:Int)):=by
 have Dj:(cc (bo n l k) (l.getD k (0,0,0,[]))).2=0:=he
 obtain⟨s,u,x,K0,hsk,_⟩:=Cd hb l k (Nat.le_of_lt (kT h).2.1)
 have aoY:=(kT h).2.2
 have e1:bo n l (k+1)=pA (bo n l k) (l.getD k (0,0,0,[])):=lM n l k (kT h).1
 rw [e1]
 generalize l.getD k (0,0,0,[])=e at *
 generalize bo n l k=bl at *
 have en:cc bl e=bF bl [] s u x e:=by unfold cc;rw [K0.opens]
 rcases K0.step (by omega) e with⟨_,q⟩|⟨_,q1,_,_,q2,_,_⟩
 · rcases q with q|q
   · unfold len at hs;omega
   · rw [en] at Dj;exact absurd Dj q
 · show((fB bl e (((cc bl e).1.1.length:Nat):Int)).1,(((fB bl e (((cc bl e).1.1.length:Nat):Int)).2:Nat):Int))=((pA bl e,[]),(((cc bl e).1.1.length:Nat):Int))
   unfold fB
   rw [en,q1]
   simp only
   rw [q2]
theorem Ř {n:Int} {l:List bm} {k:Nat}(h:k≤kL l)(hk:¬(k:Int)<l.length∨¬(k:Int)<40):bo n l k=(aV n l).1.1:=by
 have :k=kL l:=by unfold kL at h ⊢;omega
 subst this;rfl
theorem EE {l:List bm} {k:Nat}(h:(k:Int)<l.length∧(k:Int)<40):k<kL l:=(kT h).2.1
theorem Pw {l:List bm} {k:Nat}(h:(k:Int)<l.length∧(k:Int)<40)(hb:¬((len (l.getD k (0,0,0,[])).2.2.2:Nat):Int)≤2500):aS l k=aS l (k+1):=by
 rw [od l k (kT h).1]
 unfold iN
 rw [if_pos (by unfold len at hb;omega)]
theorem Wr {l:List bm} {k:Nat}(h:(k:Int)<l.length∧(k:Int)<40)
  (he:¬(c9 (aS l k).1.1 (aS l k).1.2 (l.getD k (0,0,0,[])).1 (l.getD k (0,0,0,[])).2.1 (l.getD k (0,0,0,[])).2.2.1 (l.getD k (0,0,0,[])).2.2.2).2=0∨¬(aU (l.getD k (0,0,0,[])).1 (l.getD k (0,0,0,[])).2.1 (l.getD k (0,0,0,[])).2.2.1 (l.getD k (0,0,0,[])).2.2.2).2=0):aS l k=aS l (k+1):=by
 rw [od l k (kT h).1]
 unfold iN
 split
 · rfl
 · rw [if_pos]
   rcases he with he|he
   · exact .inl he
   · right
     rw [vG] at he
     unfold ez
     cases q:jA (l.getD k (0,0,0,[])).1 (l.getD k (0,0,0,[])).2.1 (l.getD k (0,0,0,[])).2.2.1 (l.getD k (0,0,0,[])).2.2.2
     · rfl
     · rw [q] at he;exact absurd rfl he
theorem Px {l:List bm} {k:Nat}(h:(k:Int)<l.length∧(k:Int)<40)(hb:((len (l.getD k (0,0,0,[])).2.2.2:Nat):Int)≤2500)
  (he:(c9 (aS l k).1.1 (aS l k).1.2 (l.getD k (0,0,0,[])).1 (l.getD k (0,0,0,[])).2.1 (l.getD k (0,0,0,[])).2.2.1 (l.getD k (0,0,0,[])).2.2.2).2=0∧(aU (l.getD k (0,0,0,[])).1 (l.getD k (0,0,0,[])).2.1 (l.getD k (0,0,0,[])).2.2.1 (l.getD k (0,0,0,[])).2.2.2).2=0):
  aS l (k+1)=((c9 (aS l k).1.1 (aS l k).1.2 (l.getD k (0,0,0,[])).1 (l.getD k (0,0,0,[])).2.1 (l.getD k (0,0,0,[])).2.2.1 (l.getD k (0,0,0,[])).2.2.2).1,(aS l k).2+((aU (l.getD k (0,0,0,[])).1 (l.getD k (0,0,0,[])).2.1 (l.getD k (0,0,0,[])).2.2.1 (l.getD k (0,0,0,[])).2.2.2).1.length:Int)):=by
 rw [od l k (kT h).1]
 have hf:=Pt he.2
 unfold iN
 rw [if_neg (by unfold len at hb;omega),if_neg,hf.2]
 · rfl
 · rintro(q|q)
   · exact q he.1
   · rw [show ez (l.getD k (0,0,0,[]))=true from hf.1] at q;cases q
theorem Wt {l:List bm} {k:Nat}(h:qj l k):0≤(aS l k).2∧(aS l k).2≤300000:=by
 obtain⟨_,s,K0,_,hl⟩:=h
 have :=K0.um
 have :=K0.u0
 unfold dj at *
 omega
theorem Py {l:List bm} {k:Nat}(h:qj l k)(hk:(k:Int)<l.length∧(k:Int)<40)(he:aS l k=aS l (k+1)):qj l (k+1):=by
 refine Pl h (EE hk) ?_
 rw [←he]
 obtain⟨_,s,K0,_,hl⟩:=h
 have :=K0.um
 unfold dj at this
 omega
theorem Pz {l:List bm} {k:Nat}(h:qj l k)(hk:¬(k:Int)<l.length∨¬(k:Int)<40):(au (aV 150 l).1).2=0∧(au (aV 150 l).1).1.2.1=(aS l k).2∧(au (aV 150 l).1).1.2.2=(aS l k).1:=by
 have hle:=h.1
 have :k=kL l:=by unfold kL at hle ⊢;omega
 subst this
 exact Og h
theorem G2 {l:List bm} {k:Nat}(h:qj l k):small (aS l k).1.2:=by
 obtain⟨_,s,K0,_,_⟩:=h
 exact qO K0.Pj
end Go.S

end
section
namespace Go.S
end Go.S

end
section
namespace Go.S
theorem amL {n:Int}(hb:ig n)(l:List bm)(e:bm)(f:Int)(u v:List Int):
  (au (aV n l).1).2=0∧
  ((bq (aV n l).1 (au (aV n l).1).1 e).2.2≠0→(bq (aV n l).1 (au (aV n l).1).1 e).1= [])∧
  (au (eG (gJ (aV n l).1 (bq (aV n l).1 (au (aV n l).1).1 e).1 f).1 u,[])).2=0∧
  au (eG (eG (gJ (aV n l).1 (bq (aV n l).1 (au (aV n l).1).1 e).1 f).1 u,[]) v,[])=au (eG (gJ (aV n l).1 (bq (aV n l).1 (au (aV n l).1).1 e).1 f).1 u,[])∧
  ((bq (aV n l).1 (au (aV n l).1).1 e).2.2=0→
    ((au (eG (gJ (aV n l).1 (bq (aV n l).1 (au (aV n l).1).1 e).1 f).1 u,[])).1=(bq (aV n l).1 (au (aV n l).1).1 e).2.1∧
      ((bq (aV n l).1 (au (aV n l).1).1 e).1.length:Int)≤(gJ (aV n l).1 (bq (aV n l).1 (au (aV n l).1).1 e).1 f).2+1)∨
    ((au (eG (gJ (aV n l).1 (bq (aV n l).1 (au (aV n l).1).1 e).1 f).1 u,[])).1≠(bq (aV n l).1 (au (aV n l).1).1 e).2.1∧
      (au (eG (gJ (aV n l).1 (bq (aV n l).1 (au (aV n l).1).1 e).1 f).1 u,[])).1=(au (aV n l).1).1∧
      (gJ (aV n l).1 (bq (aV n l).1 (au (aV n l).1).1 e).1 f).2<((bq (aV n l).1 (au (aV n l).1).1 e).1.length:Int)))∧
  Go.S.small (au (eG (gJ (aV n l).1 (bq (aV n l).1 (au (aV n l).1).1 e).1 f).1 u,[])).1.2.2.2∧Go.S.small (au (aV n l).1).1.2.2.2∧Go.S.small (bq (aV n l).1 (au (aV n l).1).1 e).2.1.2.2.2:=
 by
 have q:=ŕ (LJ hb l) e f u v
 have e1:(aV n l).1=(qN n l,[]):=rfl
 rw [e1]
 generalize qN n l=bl at q
 rw [←Wp] at q
 exact q
theorem an9 {n:Int}(hb:ig n)(l:List bm)(e:bm)(f:Int)(u:List Int):
  ∃s u' x,K (eG (gJ (aV n l).1 (bq (aV n l).1 (au (aV n l).1).1 e).1 f).1 u) s u' x∧s≤51:=
 by
 have q:=(GU (LJ hb l) e f u []).2.2.2.2.2.1
 have e1:(aV n l).1=(qN n l,[]):=rfl
 rw [e1]
 generalize qN n l=bl at q
 rw [←Wp] at q
 exact q
theorem amM {bl:Bs}(hk:∃s u x,K bl s u x∧s≤51)(e:bm)(keep:List Int):
  Go.S.small (au (bl,[])).1.2.2.2∧0≤(au (bl,[])).1.1∧(au (bl,[])).1.1≤51∧
  ((bq (bl,[]) (au (bl,[])).1 e).2.2=0→Go.S.small (au (eG (gJ (bl,[]) (bq (bl,[]) (au (bl,[])).1 e).1 ((bq (bl,[]) (au (bl,[])).1 e).1.length:Int)).1 keep,[])).1.2.2.2):=by
 have q:=Ŗ hk e keep
 refine⟨Tv.small hk,?_,?_,fun h=>by rw [(q.2.2.2 h).2.2.1];exact q.2.2.1⟩<;>
 · obtain⟨s,u,x,k,hs⟩:=hk
   rw [sG,k.opens]
   have :=k.s0
   show _≤_
   simp only [fo]
   omega
theorem adU:∀(l:List qL) (f:Nat) (bl:Bs) (wt:Ws) (d:Nat),(eJ l f bl wt d).2≤d∨(eJ l f bl wt d).2≤f
 | [],_,_,_,d=> .inl (Nat.le_refl d)
 |c::r,f,bl,wt,d=>by
  unfold eJ
  split
  · exact .inl (Nat.le_refl d)
  · rename_i h
    split
    · rcases adU r f (sync bl wt) [] (d+1) with q|q<;>exact .inr (by omega)
    · split
      · exact .inl (Nat.le_refl d)
      · rcases adU r f (wB bl wt) (wW bl wt c.2.1 c.2.2) (d+1) with q|q<;>exact .inr (by omega)
theorem amN(d:Bs×Ws)(l:List qL)(f:Int):(gJ d l f).2≤0∨(gJ d l f).2≤f:=by
 show(((xq d.1 d.2 l f).2:Nat):Int)≤0∨(((xq d.1 d.2 l f).2:Nat):Int)≤f
 unfold xq
 rcases adU l f.toNat d.1 d.2 0 with q|q<;>omega
end Go.S

end
