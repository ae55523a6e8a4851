import Derived.Test.YtfaedenbhlgnpaaGreatDoorPartC
import Derived.Lib.LaidTab
import Derived.Test.YtfaedenbhlgnpaaGreatDoorProg
set_option linter.unusedVariables false
set_option linter.unusedSimpArgs false
section
namespace Go.S
theorem zm {l:List lj} {f d:Nat}(h:f≤d)(bl:Bs)(wt:Ws):eB l f bl wt d=((bl,wt),d):=by
 cases l with
 |nil=>rfl
 |cons c r=>rw [eB,if_pos h]
theorem Xt {bl:Bs} {wt:Ws}(hr:aJ bl wt=true) {x:Int×List UInt8}(h:0≤x.1∧x.1<bl.length∧x.2.length=64)(hl:wt.length<1000):
  kL bl wt x.1 x.2=0∧wB bl wt=bl∧wW bl wt x.1 x.2=wt++ [x]∧aJ bl (wt++ [x])=true :=by
 have e:kL bl wt x.1 x.2=0:=by
  unfold kL;rw [jC hr,pJ hr,if_neg (by omega),if_neg (by omega)]
 have w:wW bl wt x.1 x.2=wt++ [x]:=by unfold wW;rw [if_pos e,pJ hr]
 exact⟨e,jC hr,w,by rw [←w];exact zj hr _ _⟩
theorem Xu:∀(ws:Ws) (r:List lj) (f:Nat) (bl:Bs) (wt:Ws) (d:Nat),aJ bl wt=true→(∀x∈ws,0≤x.1∧x.1<bl.length∧x.2.length=64)→wt.length+ws.length≤1000→
  eB (ws.map wr++r) f bl wt d=(if f<d+ws.length then((bl,wt++ws.take (f-d)),max f d) else eB r f bl (wt++ws) (d+ws.length))∧aJ bl (wt++ws)=true
 | [],r,f,bl,wt,d,hr,_,_=>by
   refine⟨?_,by rw [List.append_nil];exact hr⟩
   simp only [List.map_nil,List.nil_append,List.length_nil,Nat.add_zero,List.take_nil,List.append_nil]
   split
   · rw [zm (by omega),Nat.max_eq_right (by omega)]
   · rfl
 |x::ws,r,f,bl,wt,d,hr,hw,hl=>by
  simp only [List.length_cons] at hl
  have h:=Xt hr (hw x (List.mem_cons_self ..)) (by omega)
  have ih:=Xu ws r f bl (wt++ [x]) (d+1) h.2.2.2 (fun y hy=>hw y (List.mem_cons_of_mem _ hy)) (by simp;omega)
  rw [List.append_assoc,List.singleton_append] at ih
  refine⟨?_,by rw [List.append_assoc,List.singleton_append] at ih;exact ih.2⟩
  simp only [List.map_cons,List.cons_append,eB,wr,Bool.false_eq_true,if_false,h.1,h.2.1,h.2.2.1,ne_eq,not_true_eq_false,List.length_cons]
  split
  · rename_i hf
    rw [if_pos (by omega),show f-d=0 by omega,List.take_zero,List.append_nil,Nat.max_eq_right hf]
  · rename_i hf
    have e:f-d=(f-(d+1))+1:=by omega
    rw [ih.1,e,List.take_succ_cons,List.append_assoc,List.singleton_append]
    by_cases q:f<d+1+ws.length
    · rw [if_pos q,if_pos (by omega),Nat.max_eq_left (by omega),Nat.max_eq_left (by omega)]
    · rw [if_neg q,if_neg (by omega),show d+1+ws.length=d+(ws.length+1) by omega]
theorem rR {bl:Bs}(hr:aJ bl []=true) {i:Int}(h0:0≤i)(h1:i<bl.length):dP bl [] i=bN bl i∧gj bl [] i=0∧(bN bl i).length=64:=
 ⟨by rw [Av hr,if_neg (by omega)],by rw [Au hr,if_neg (by omega)],(ct.1 hr).2.2.1 _ (bo bl i.toNat [] (by omega))⟩
theorem ES {c:List UInt8}(hc:c.length=64)(a:Int)(b:List UInt8):(mK c a b).length=64:=by
 unfold mK
 simp only [List.length_append,List.length_take,List.length_drop,hc]
 omega
theorem HA {bl:Bs}(hr:aJ bl []=true)(u:Nat):∀(f a:Nat) (b:List UInt8),b.length≤f→u≤a→a+b.length≤(bl.length-2)*64→
  (∀x∈qU bl [] f a b,2≤x.1∧x.1<bl.length∧x.2.length=64∧x.2.take ((u:Int)-64*(x.1-2)).toNat=(bN bl x.1).take ((u:Int)-64*(x.1-2)).toNat)∧
  (qU bl [] f a b).length*64≤a%64+b.length+63∧(b= []→qU bl [] f a b= [])
 |0,a,b,hf,hu,hb=>⟨(fun x hx=>by cases hx),by simp [qU],fun _=>rfl⟩
 |f+1,a,b,hf,hu,hb=>by
  rw [qU]
  by_cases h:b= []
  · rw [if_pos h];exact⟨(fun x hx=>by cases hx),by simp,fun _=>rfl⟩
  · have hp:1≤b.length:=by cases b with|nil=>exact absurd rfl h|cons=>simp
    have hR:=rR hr (i:=2+(a:Int)/64) (by omega) (by omega)
    have eo:((a:Int)%64).toNat=a%64:=by omega
    rw [if_neg h,hR.2.1,hR.1,if_neg (fun w=>w rfl),eo,show(a:Int)+((min (64-a%64) b.length:Nat):Int)=((a+min (64-a%64) b.length:Nat):Int) by omega]
    have ih:=HA hr u f (a+min (64-a%64) b.length) (b.drop (64-a%64)) (by rw [List.length_drop];omega) (by omega) (by rw [List.length_drop];omega)
    refine⟨fun x hx=> ?_,?_,fun q=>absurd q h⟩
    · rcases List.mem_cons.1 hx with rfl|hx
      · refine⟨by simp only;omega,by simp only;omega,ES hR.2.2 _ _,?_⟩
        simp only
        have hm:((u:Int)-64*(2+(a:Int)/64-2)).toNat≤a%64:=by omega
        unfold mK
        rw [eo,List.append_assoc,List.take_append_of_le_length (by rw [List.length_take,hR.2.2];omega),List.take_take,Nat.min_eq_left hm]
      · exact ih.1 x hx
    · rw [List.length_cons]
      have i2:=ih.2.1
      rw [List.length_drop] at i2
      by_cases q:b.length≤64-a%64
      · rw [ih.2.2 (by rw [List.drop_of_length_le q])];simp;omega
      · omega
theorem Mm {L:Bs}(h:∀c∈L,c.length=64) {a:Nat}(hi:a/64<L.length):L.flatten.take a=L.flatten.take (a/64*64)++(L.getD (a/64) []).take (a%64):=by
 have e:a=a/64*64+a%64:=by omega
 conv=>lhs;rw [e,List.take_add]
 rw [nh L _ h,List.drop_eq_getElem_cons hi,List.flatten_cons,List.take_append_of_le_length (by rw [h _ (List.getElem_mem hi)];omega),List.getD_eq_getElem?_getD,List.getElem?_eq_getElem hi]
 rfl
theorem P9 {bl:Bs}(hr:aJ bl []=true):∀(f a:Nat) (b:List UInt8) (gq:Bs),b.length≤f→gq.length=bl.length→(∀c∈gq,c.length=64)→a+b.length≤(bl.length-2)*64→
  (b≠ []→∀i,2+a/64≤i→gq.getD i []=bl.getD i [])→
  ((nK (qU bl [] f a b) gq).drop 2).flatten=(gq.drop 2).flatten.take a++b++(gq.drop 2).flatten.drop (a+b.length)
 |0,a,b,gq,hf,hl,oA,hb,hi=>by
  have :b= []:=List.length_eq_zero_iff.1 (by omega)
  subst this
  simp [qU,nK]
 |f+1,a,b,gq,hf,hl,oA,hb,hi=>by
  rw [qU]
  by_cases h:b= []
  · subst h;simp [nK]
  · have hp:1≤b.length:=by cases b with|nil=>exact absurd rfl h|cons=>simp
    have hR:=rR hr (i:=2+(a:Int)/64) (by omega) (by omega)
    have eo:((a:Int)%64).toNat=a%64:=by omega
    have ei:(2+(a:Int)/64).toNat=2+a/64:=by omega
    have hn:b.length≤64-a%64∨64-a%64<b.length:=by omega
    rw [if_neg h,hR.2.1,hR.1,if_neg (fun w=>w rfl),eo,show(a:Int)+((min (64-a%64) b.length:Nat):Int)=((a+min (64-a%64) b.length:Nat):Int) by omega]
    have hw:=ES hR.2.2 a b
    have hc:gq.getD (2+a/64) []=bN bl (2+(a:Int)/64):=by rw [hi h _ (Nat.le_refl _),bN,ei]
    have ih:=P9 hr f (a+min (64-a%64) b.length) (b.drop (64-a%64)) (gq.set (2+a/64) (mK (bN bl (2+(a:Int)/64)) a b)) (by rw [List.length_drop];omega) (by rw [List.length_set];exact hl)
     (fun c hc=>by
       rcases mem_set hc with rfl|hc
       · exact hw
       · exact oA c hc) (by rw [List.length_drop];omega) (fun q i gU=>by
       have :64-a%64<b.length:=by
        rcases hn with hn|hn
        · exact absurd (List.drop_of_length_le hn) q
        · exact hn
       have dJ:2+a/64≠i:=by omega
       rw [List.getD_eq_getElem?_getD,List.getElem?_set,if_neg dJ,←List.getD_eq_getElem?_getD]
       exact hi h i (by omega))
    simp only [nK,List.foldl_cons,uQ,ei] at ih ⊢
    rw [ih]
    have hL:∀c∈gq.drop 2,c.length=64:=fun c hc=>oA c (List.mem_of_mem_drop hc)
    have hq:a/64<(gq.drop 2).length:=by rw [List.length_drop];omega
    have hg:(gq.drop 2).getD (a/64) []=bN bl (2+(a:Int)/64):=by rw [←hc,List.getD_eq_getElem?_getD,List.getD_eq_getElem?_getD,List.getElem?_drop]
    have zT:=gv _ hL
    have hfp:=oz (gq.drop 2) (a/64) ((bN bl (2+(a:Int)/64)).take (a%64)++b.take (64-a%64)) hL hq (by simp only [List.length_append,List.length_take];omega)
    have hpl:((bN bl (2+(a:Int)/64)).take (a%64)++b.take (64-a%64)).length=a%64+min (64-a%64) b.length:=by simp only [List.length_append,List.length_take,hR.2.2];omega
    rw [hpl,hg] at hfp
    have hwe:mK (bN bl (2+(a:Int)/64)) a b=(bN bl (2+(a:Int)/64)).take (a%64)++b.take (64-a%64)++(bN bl (2+(a:Int)/64)).drop (a%64+min (64-a%64) b.length):=by
     unfold mK
     rw [eo]
     congr 1
     rcases hn with hn|hn
     · rw [Nat.min_eq_right hn]
     · rw [List.drop_of_length_le (by rw [hR.2.2];omega),List.drop_of_length_le (by rw [hR.2.2];omega)]
    have sS:(gq.set (2+a/64) (mK (bN bl (2+(a:Int)/64)) a b)).drop 2=(gq.drop 2).set (a/64) (mK (bN bl (2+(a:Int)/64)) a b):=by
     rw [List.drop_set,if_neg (by omega),show 2+a/64-2=a/64 by omega]
    rw [sS,hwe,←hfp]
    have hs:=Mm hL hq
    rw [hg] at hs
    have e1:(gq.drop 2).flatten.take (a/64*64)++((bN bl (2+(a:Int)/64)).take (a%64)++b.take (64-a%64))=(gq.drop 2).flatten.take a++b.take (64-a%64):=by rw [hs,List.append_assoc]
    rw [e1,show a/64*64+(a%64+min (64-a%64) b.length)=a+min (64-a%64) b.length by omega]
    have hla:((gq.drop 2).flatten.take a++b.take (64-a%64)).length=a+min (64-a%64) b.length:=by
     rw [List.length_append,List.length_take,List.length_take,zT,List.length_drop];omega
    rw [List.take_left' hla,List.drop_append,hla,List.drop_of_length_le (l:=(gq.drop 2).flatten.take a++b.take (64-a%64)) (by rw [hla];omega),List.nil_append,List.drop_drop,List.length_drop]
    have e2:a+min (64-a%64) b.length+(a+min (64-a%64) b.length+(b.length-(64-a%64))-(a+min (64-a%64) b.length))=a+b.length:=by omega
    rw [e2,List.append_assoc,List.append_assoc,←List.append_assoc (b.take _),List.take_append_drop,List.append_assoc]
end Go.S

end
section
namespace Go.S
theorem ET:∀(L L':Bs) (u:Nat),L'.length=L.length→(∀c∈L,c.length=64)→(∀c∈L',c.length=64)→
  (∀i,i<L.length→(L'.getD i []).take (u-64*i)=(L.getD i []).take (u-64*i))→L'.flatten.take u=L.flatten.take u
 | [],L',u,hl,_,_,_=>by rw [List.length_eq_zero_iff.1 hl]
 |c::L,[],u,hl,_,_,_=>by simp at hl
 |c::L,c'::L',u,hl,h,h',hi=>by
  have ih:=ET L L' (u-64) (by simpa using hl) (fun y hy=>h y (List.mem_cons_of_mem _ hy)) (fun y hy=>h' y (List.mem_cons_of_mem _ hy)) (fun i gU=>by
   have :=hi (i+1) (by simpa using gU)
   rw [List.getD_cons_succ,List.getD_cons_succ] at this
   rw [show u-64-64*i=u-64*(i+1) by omega]
   exact this)
  have h0:=hi 0 (by simp)
  simp only [List.getD_cons_zero,Nat.mul_zero,Nat.sub_zero] at h0
  simp only [List.flatten_cons,List.take_append]
  rw [h c (List.mem_cons_self ..),h' c' (List.mem_cons_self ..),ih,h0]
theorem Xv {c x o:List UInt8} {m j:Nat}(hx:x.take m=o.take m)(hc:c.take m=o.take m)(h1:x.length=64)(hj:j≤64):(x.take j++c.drop j).take m=o.take m:=by
 have hl:(x.take j).length=j:=by rw [List.length_take,h1];omega
 rw [List.take_append,hl,List.take_take]
 by_cases h:m≤j
 · rw [Nat.min_eq_left h,show m-j=0 by omega,List.take_zero,List.append_nil,hx]
 · rw [Nat.min_eq_right (by omega),List.take_drop,show j+(m-j)=m by omega,hc,←hx]
   have :x.take j=(x.take m).take j:=by rw [List.take_take,Nat.min_eq_left (by omega)]
   rw [this,List.take_append_drop]
theorem Mn(c:List UInt8)(j:Nat)(hj:j≤64):clean.take j++c.drop j=c∨(clean.take j++c.drop j).getD 0 0=255:=by
 cases j with
 |zero=>left;simp
 |succ j=>right;simp [clean,List.replicate_succ]
theorem OW {m:List UInt8}(hm:m.length=64)(j:Nat)(hj:j≤64):m.take j++clean.drop j=m∨(m.take j++clean.drop j).getD 63 0=255:=by
 by_cases h:j=64
 · subst h;left
   rw [List.take_of_length_le (by omega),List.drop_of_length_le (by simp [clean]),List.append_nil]
 · right
   have hl:(m.take j).length=j:=by rw [List.length_take];omega
   rw [List.getD_eq_getElem?_getD,List.getElem?_append_right (by omega),hl,List.getElem?_drop,show j+(63-j)=63 by omega]
   rfl
theorem OX {bl gq:Bs}(hr:aJ bl []=true)(lb:aJ gq []=true)(hl:gq.length=bl.length)(u:Nat)
  (h:∀i:Int,2≤i→i<bl.length→(bN gq i).take ((u:Int)-64*(i-2)).toNat=(bN bl i).take ((u:Int)-64*(i-2)).toNat):(gq.drop 2).flatten.take u=(bl.drop 2).flatten.take u:=by
 refine ET _ _ u (by simp [hl]) (fun c hc=>(ct.1 hr).2.2.1 c (List.mem_of_mem_drop hc)) (fun c hc=>(ct.1 lb).2.2.1 c (List.mem_of_mem_drop hc)) fun i hi=> ?_
 rw [List.length_drop] at hi
 have :=h ((i:Int)+2) (by omega) (by omega)
 have e:((u:Int)-64*((i:Int)+2-2)).toNat=u-64*i:=by omega
 have e2:((i:Int)+2).toNat=2+i:=by omega
 rw [e,bN,bN,e2] at this
 have ed:∀l:Bs,(l.drop 2).getD i []=l.getD (2+i) []:=fun l=>by rw [List.getD_eq_getElem?_getD,List.getD_eq_getElem?_getD,List.getElem?_drop]
 rw [ed,ed]
 exact this
def ahead(bl:Bs)(s u:Int)(b:List UInt8):Ws:=((s+1)%2,clean)::dZ bl [] u b
theorem Aw {bl:Bs} {s u:Int} {x:eI}(k:K bl s u x) {b:List UInt8}(hb:u+b.length≤dR bl):
  (∀x∈dZ bl [] u b,2≤x.1∧x.1<bl.length∧x.2.length=64∧x.2.take ((u.toNat:Int)-64*(x.1-2)).toNat=(bN bl x.1).take ((u.toNat:Int)-64*(x.1-2)).toNat)∧
  (∀x∈ahead bl s u b,0≤x.1∧x.1<bl.length∧x.2.length=64)∧(ahead bl s u b).length*64≤b.length+190:=by
 have h0:=k.u0
 have h3:=k.three
 have hs:=k.aZ
 unfold dR at hb
 have e:u=((u.toNat:Nat):Int):=by omega
 have w:=HA k.right u.toNat b.length u.toNat b (Nat.le_refl _) (Nat.le_refl _) (by omega)
 rw [←e] at w
 refine⟨by rw [←e];exact w.1,fun x hx=> ?_,?_⟩
 · rcases List.mem_cons.1 hx with rfl|hx
   · exact⟨hs.2.1.1,hs.2.1.2,by simp [clean]⟩
   · have :=w.1 x hx
     exact⟨by omega,this.2.1,this.2.2.1⟩
 · have :=w.2.1
   simp only [ahead,List.length_cons,dZ]
   omega
theorem K.Xw {bl:Bs} {s u:Int} {x:eI}(k:K bl s u x) {b:List UInt8}(hb:u+b.length≤dR bl) {wt:Ws}(hw:∀y∈wt,y∈ahead bl s u b)(hr:aJ bl wt=true)(keep:List Int):
  K (ka bl wt keep) s u x:=by
 have ha:=Aw k hb
 have hs:=k.aZ
 have cl:(ka bl wt keep).length=bl.length:=by rw [EM,jC hr]
 have q:=OV hr (Q:=fun i c=>(i=s%2→c=bN bl i)∧(i=(s+1)%2→c=bN bl i∨c.getD 0 0=255)∧(2≤i→c.take ((u.toNat:Int)-64*(i-2)).toNat=(bN bl i).take ((u.toNat:Int)-64*(i-2)).toNat)) keep
  (fun y hy c j hj hc=>by
    rcases List.mem_cons.1 (hw y hy) with rfl|hy'
    · refine⟨fun h=>absurd h (by simp only;omega),fun h=> ?_,fun h=>absurd h (by simp only;omega)⟩
      rcases Mn c j hj with e|e
      · simp only;rw [e];exact hc.2.1 h
      · exact .inr e
    · have hh:=ha.1 y hy'
      exact⟨fun h=>by omega,fun h=>by omega,fun h=>Xv hh.2.2.2 (hc.2.2 h) hh.2.2.1 hj⟩)
  (fun i _ _=>⟨fun _=>rfl,fun _=> .inl rfl,fun _=>rfl⟩)
 refine k.Xs (zi bl wt keep) cl ((q _ hs.1.1 hs.1.2).1 rfl) ?_ (OX k.right (zi bl wt keep) cl u.toNat fun i h0 h1=>(q i (by omega) h1).2.2 h0)
 rcases(q _ hs.2.1.1 hs.2.1.2).2.1 rfl with e|e
 · exact .inl e
 · exact .inr (.inl e)
theorem synced {bl:Bs} {s u:Int} {x:eI}(k:K bl s u x) {b:List UInt8}(hb:u+b.length≤dR bl)(hr:aJ bl (ahead bl s u b)=true):
  aJ (sync bl (ahead bl s u b)) []=true∧(sync bl (ahead bl s u b)).length=bl.length∧bN (sync bl (ahead bl s u b)) (s%2)=bN bl (s%2)∧bN (sync bl (ahead bl s u b)) ((s+1)%2)=clean∧
  ((sync bl (ahead bl s u b)).drop 2).flatten=(bl.drop 2).flatten.take u.toNat++b++(bl.drop 2).flatten.drop (u.toNat+b.length):=by
 have ha:=Aw k hb
 have hs:=k.aZ
 have h0:=k.u0
 have h3:=k.three
 have es:sync bl (ahead bl s u b)=nK (dZ bl [] u b) (bl.set ((s+1)%2).toNat clean):=by
  unfold sync;rw [jC hr,pJ hr];simp only [ahead,nK,List.foldl_cons,uQ]
 have q:=Ml (Q:=fun i c=>(i=s%2→c=bN bl i)∧(i=(s+1)%2→c=clean)) (dZ bl [] u b) (bl.set ((s+1)%2).toNat clean)
  (fun y hy=>by have :=ha.1 y hy;rw [List.length_set];omega) (fun y hy=>by have :=ha.1 y hy;exact⟨fun h=>by omega,fun h=>by omega⟩)
  (fun i i0 i1=>by
    rw [List.length_set] at i1
    rw [pL bl _ i _ hs.2.1 ⟨i0,i1⟩]
    split
    · rename_i e
      exact⟨fun h=>by omega,fun _=>rfl⟩
    · rename_i e
      exact⟨fun _=>rfl,fun h=>absurd h.symm e⟩)
 rw [List.length_set] at q
 refine⟨BB _ _,by rw [As,jC hr],?_,?_,?_⟩
 · rw [es];exact(q _ hs.1.1 hs.1.2).1 rfl
 · rw [es];exact(q _ hs.2.1.1 hs.2.1.2).2 rfl
 · unfold dR at hb
   have e:u=((u.toNat:Nat):Int):=by omega
   have Lt:((s+1)%2).toNat<2:=by omega
   have w:=P9 k.right b.length u.toNat b (bl.set ((s+1)%2).toNat clean) (Nat.le_refl _) (by rw [List.length_set]) (fun c hc=>by
    rcases mem_set hc with rfl|hc
    · simp [clean]
    · exact(ct.1 k.right).2.2.1 c hc) (by omega) (fun _ i hi=>by
    rw [List.getD_eq_getElem?_getD,List.getElem?_set,if_neg (by omega),←List.getD_eq_getElem?_getD])
   rw [←e] at w
   rw [es]
   unfold dZ
   rw [w,List.drop_set,if_pos Lt]
theorem aax {A b C:List UInt8} {n:Nat}(h:A.length=n):(A++b++C).take n=A∧(A++b++C).take (n+b.length)=A++b:=by
 constructor
 · rw [List.append_assoc,List.take_left' h]
 · rw [List.take_left' (by rw [List.length_append,h])]
theorem K.cut {bl:Bs} {s u:Int} {x:eI}(k:K bl s u x) {e:db}(he:gI e=true)(hh:(bY x e).2=0)(hs:s<4611686018427387904)(hb:u+(bV e).length≤dR bl)(hl:(bV e).length≤60000)(f:Nat):
  aJ (eB (fi bl [] s u (bV e)) f bl [] 0).1.1 (eB (fi bl [] s u (bV e)) f bl [] 0).1.2=true∧
  (∀keep,((eB (fi bl [] s u (bV e)) f bl [] 0).2<(fi bl [] s u (bV e)).length∧K (ka (eB (fi bl [] s u (bV e)) f bl [] 0).1.1 (eB (fi bl [] s u (bV e)) f bl [] 0).1.2 keep) s u x)∨
    ((fi bl [] s u (bV e)).length≤(eB (fi bl [] s u (bV e)) f bl [] 0).2+1∧K (ka (eB (fi bl [] s u (bV e)) f bl [] 0).1.1 (eB (fi bl [] s u (bV e)) f bl [] 0).1.2 keep) (s+1) (u+(bV e).length) (bY x e).1))∧
  ((fi bl [] s u (bV e)).length≤f→(eB (fi bl [] s u (bV e)) f bl [] 0).2=(fi bl [] s u (bV e)).length∧(eB (fi bl [] s u (bV e)) f bl [] 0).1.2= []∧K (eB (fi bl [] s u (bV e)) f bl [] 0).1.1 (s+1) (u+(bV e).length) (bY x e).1):=by
 have ha:=Aw k hb
 have ny:=k.aZ
 have h0:=k.u0
 have ec:fi bl [] s u (bV e)=(ahead bl s u (bV e)).map wr++ [(true,0,[]),wr ((s+1)%2,dQ (s+1) (u+(bV e).length)),(true,0,[])]:=rfl
 have el:(fi bl [] s u (bV e)).length=(ahead bl s u (bV e)).length+3:=by rw [ec];simp
 have d:=Xu (ahead bl s u (bV e)) [(true,0,[]),wr ((s+1)%2,dQ (s+1) (u+(bV e).length)),(true,0,[])] f bl [] 0 k.right ha.2.1 (by simp;omega)
 rw [←ec] at d
 simp only [List.nil_append,Nat.zero_add,Nat.sub_zero,Nat.max_eq_left (Nat.zero_le f)] at d
 have hr:=d.2
 rw [el,d.1]
 have wI:∀n,aJ bl ((ahead bl s u (bV e)).take n)=true :=fun n=>by
  have r:=ct.1 hr
  exact ct.2 ⟨r.1,by rw [List.length_take];omega,r.2.2.1,fun y hy=>r.2.2.2 y (List.mem_of_mem_take hy)⟩
 by_cases c1:f<(ahead bl s u (bV e)).length
 · rw [if_pos c1]
   refine⟨wI f,fun keep=> .inl ⟨by simp only;omega,k.Xw hb (fun y hy=>List.mem_of_mem_take hy) (wI f) keep⟩,fun h=>by omega⟩
 · rw [if_neg c1]
   by_cases c2:f≤(ahead bl s u (bV e)).length
   · rw [zm c2]
     exact⟨hr,fun keep=> .inl ⟨by simp only;omega,k.Xw hb (fun y hy=>hy) hr keep⟩,fun h=>by omega⟩
   · rw [eB,if_neg c2,if_pos rfl]
     obtain⟨y1,y2,y3,y4,y5⟩:=synced k hb hr
     generalize sync bl (ahead bl s u (bV e))=GA at y1 y2 y3 y4 y5 ⊢
     have hA:((bl.drop 2).flatten.take u.toNat).length=u.toNat:=by
      have :=gv (bl.drop 2) (fun c hc=>(ct.1 k.right).2.2.1 c (List.mem_of_mem_drop hc))
      have hum:=k.um
      unfold dR at hum
      rw [List.length_drop] at this
      rw [List.length_take];omega
     have L:=aax (b:=bV e) (C:=(bl.drop 2).flatten.drop (u.toNat+(bV e).length)) hA
     rw [←y5] at L
     have k1:K GA s u x:=k.Xs y1 y2 y3 (.inr (.inl (by rw [y4];rfl))) L.1
     by_cases c3:f≤(ahead bl s u (bV e)).length+1
     · rw [zm c3]
       exact⟨y1,fun keep=> .inl ⟨by simp only;omega,by simp only;rw [vU y1];exact k1⟩,fun h=>by omega⟩
     · have hm:(dQ (s+1) (u+(bV e).length)).length=64:=EP _ _
       have ok:=Xt (x:=((s+1)%2,dQ (s+1) (u+(bV e).length))) y1 ⟨ny.2.1.1,by rw [y2];exact ny.2.1.2,hm⟩ (by simp)
       have nx:∀bl2:Bs,bl2=GA.set ((s+1)%2).toNat (dQ (s+1) (u+(bV e).length))→K bl2 (s+1) (u+(bV e).length) (bY x e).1:=by
        rintro _ rfl
        refine k.next he hh hs ?_ (by rw [List.length_set];exact y2) ?_ ?_ hb ?_
        · have r:=ct.1 y1
          refine pK (by rw [List.length_set];exact r.1) fun c hc=> ?_
          rcases mem_set hc with rfl|hc
          · exact hm
          · exact r.2.2.1 c hc
        · rw [pL GA _ _ _ (by rw [y2];exact ny.2.1) (by rw [y2];exact ny.1),if_neg (by omega)];exact y3
        · rw [pL GA _ _ _ (by rw [y2];exact ny.2.1) (by rw [y2];exact ny.2.1),if_pos rfl]
        · rw [List.drop_set,if_pos (by omega)];exact L.2
       rw [eB,if_neg c3,if_neg (by simp [wr])]
       simp only [wr,ok.1,ok.2.1,ok.2.2.1,ne_eq,not_true_eq_false,if_false,List.nil_append]
       by_cases c4:f≤(ahead bl s u (bV e)).length+1+1
       · rw [zm c4]
         refine⟨ok.2.2.2,fun keep=> ?_,fun h=>by omega⟩
         have ecr:ka GA [((s+1)%2,dQ (s+1) (u+(bV e).length))] keep=GA.set ((s+1)%2).toNat ((dQ (s+1) (u+(bV e).length)).take (kept keep 0)++clean.drop (kept keep 0)):=by
          have v:=ok.2.2.2
          rw [List.nil_append] at v
          simp only [ka,jC v,pJ v]
          rw [←y4];rfl
         simp only [ecr]
         rcases OW hm (kept keep 0) (uS keep 0) with g|g
         · exact .inr ⟨by omega,nx _ (by rw [g])⟩
         · refine .inl ⟨by omega,?_⟩
           have hlen:((dQ (s+1) (u+(bV e).length)).take (kept keep 0)++clean.drop (kept keep 0)).length=64:=by
            have :=uS keep 0
            simp [clean,hm];omega
           refine k.Xs ?_ (by rw [List.length_set];exact y2) ?_ (.inr (.inr ?_)) ?_
           · have r:=ct.1 y1
             refine pK (by rw [List.length_set];exact r.1) fun c hc=> ?_
             rcases mem_set hc with rfl|hc
             · exact hlen
             · exact r.2.2.1 c hc
           · rw [pL GA _ _ _ (by rw [y2];exact ny.2.1) (by rw [y2];exact ny.1),if_neg (by omega)];exact y3
           · rw [pL GA _ _ _ (by rw [y2];exact ny.2.1) (by rw [y2];exact ny.2.1),if_pos rfl];exact g
           · rw [List.drop_set,if_pos (by omega)];exact L.1
       · rw [eB,if_neg c4,if_pos rfl]
         have v:=ok.2.2.2
         rw [List.nil_append] at v
         have es:sync GA [((s+1)%2,dQ (s+1) (u+(bV e).length))]=GA.set ((s+1)%2).toNat (dQ (s+1) (u+(bV e).length)):=by
          simp only [sync,jC v,pJ v];rfl
         have N:=nx _ es
         simp only [eB]
         exact⟨N.right,fun keep=> .inr ⟨by omega,by rw [vU N.right];exact N⟩,fun _=>⟨by first|omega|trivial,by first|trivial|rfl,N⟩⟩
end Go.S

end
section
namespace Go.S
theorem zn {e:db}(h:gI e=true):(bV e).length≤60000:=by
 obtain⟨a,b,c,d⟩:=e
 have h1:=kC a
 have h2:=kC b
 have h3:=kC c
 have h4:= @Ux d
 simp only [gI,ke] at h
 simp only [bV,kB,List.length_append]
 split at h
 · have :=of_decide_eq_true h
   rename_i q
   rw [if_pos q];omega
 · rename_i q
   rw [if_neg q]
   split
   · rw [List.length_append];omega
   · simp;omega
theorem ahs {n:Nat}(h:3≤n)(h1:n≤4096):K (wX n) 0 0 ([],[]):=by
 have hr:aJ (wX n) []=true :=pK (by simp [wX];exact h1) (fun b hb=>by rw [(List.mem_replicate.1 hb).2,List.length_replicate])
 have hb:∀i:Int,0≤i→i<n→bN (wX n) i=dQ 0 0:=fun i h0 h2=>by
  unfold bN wX
  rw [List.getD_eq_getElem?_getD,List.getElem?_replicate,if_pos (by omega)]
  decide
 have hrm:0≤dR (wX n):=by unfold dR wX;rw [List.length_replicate];omega
 have hs:=Hy (s:=0) (u:=0) (m:=dR (wX n)) (by omega) (by omega) (by omega) (by omega) hrm
 refine⟨hr,by simp [wX];exact h,Int.le_refl _,Int.le_refl _,hrm,?_, .inr (.inr ⟨rfl,?_⟩),[],by simp,rfl⟩
 · rw [show(0:Int)%2=0 from rfl,hb 0 (by omega) (by omega),hs]
 · rw [show((0:Int)+1)%2=1 from rfl,hb 1 (by omega) (by omega),hs]
theorem JS:∀(l:List lj) (f:Nat) (bl:Bs) (wt:Ws) (d:Nat),aJ bl wt=true→(eB l f bl wt d).1.1.length=bl.length
 | [],_,_,_,_,_=>rfl
 |c::r,f,bl,wt,d,h=>by
  rw [eB]
  split
  · rfl
  · split
    · rw [JS r f _ _ _ (BB bl wt),As,jC h]
    · split
      · rfl
      · have e:wB bl wt=bl:=jC h
        rw [e,JS r f _ _ _ (zj h _ _)]
theorem K.changes {bl:Bs} {s u:Int} {x:eI}(k:K bl s u x)(hs:s<4611686018427387904)(y:eI)(e:db):bF bl [] s u y e=
  if gI e=false then(([],((0,0),([],[]))),1)
  else if(bY y e).2≠0 then(([],((0,0),([],[]))),(bY y e).2)
  else if dR bl-u<(bV e).length then(([],((0,0),([],[]))),3)
  else((fi bl [] s u (bV e),((s+1,u+(bV e).length),(bY y e).1)),0):=by
 unfold bF
 rw [k.opens,if_neg (by omega),if_neg (by simp),ER k.right]
theorem K.may {bl:Bs} {s u:Int} {x:eI}(k:K bl s u x)(hs:s<4611686018427387904)(e:db):
  ((bF bl [] s u x e).2≠0∧(bF bl [] s u x e).1.1= [])∨
  (bF bl [] s u x e=((fi bl [] s u (bV e),((s+1,u+(bV e).length),(bY x e).1)),0)∧gI e=true∧(bY x e).2=0∧u+(bV e).length≤dR bl):=by
 rw [k.changes hs]
 by_cases h1:gI e=false
 · rw [if_pos h1];exact .inl ⟨by simp,rfl⟩
 · rw [if_neg h1]
   by_cases h2:(bY x e).2≠0
   · rw [if_pos h2];exact .inl ⟨h2,rfl⟩
   · rw [if_neg h2]
     by_cases h3:dR bl-u<(bV e).length
     · rw [if_pos h3];exact .inl ⟨by simp,rfl⟩
     · rw [if_neg h3];exact .inr ⟨rfl,by simpa using h1,by simpa using h2,by omega⟩
def EU(bl:Bs)(e:db):Bs:=
 if 2500<(e.2.2.2.length:Int) then bl
 else if(bF bl [] (aR bl []).1.1.1 (aR bl []).1.1.2 (aR bl []).1.2 e).2≠0 then bl
 else(ta bl [] (bF bl [] (aR bl []).1.1.1 (aR bl []).1.1.2 (aR bl []).1.2 e).1.1 ((bF bl [] (aR bl []).1.1.1 (aR bl []).1.1.2 (aR bl []).1.2 e).1.1.length:Nat)).1.1
theorem K.step {bl:Bs} {s u:Int} {x:eI}(k:K bl s u x)(hs:s<4611686018427387904)(e:db):
  (EU bl e=bl∧(2500<(e.2.2.2.length:Int)∨(bF bl [] s u x e).2≠0))∨
  (¬2500<(e.2.2.2.length:Int)∧(bF bl [] s u x e)=((fi bl [] s u (bV e),((s+1,u+(bV e).length),(bY x e).1)),0)∧gI e=true∧(bY x e).2=0∧
    ta bl [] (fi bl [] s u (bV e)) ((fi bl [] s u (bV e)).length:Nat)=((EU bl e,[]),(fi bl [] s u (bV e)).length)∧(EU bl e).length=bl.length∧K (EU bl e) (s+1) (u+(bV e).length) (bY x e).1):=by
 unfold EU
 rw [k.opens]
 simp only
 by_cases h:2500<(e.2.2.2.length:Int)
 · rw [if_pos h];exact .inl ⟨rfl, .inl h⟩
 · rw [if_neg h]
   rcases k.may hs e with⟨h1,h2⟩|⟨h1,h2,h3,h4⟩
   · rw [if_pos h1];exact .inl ⟨rfl, .inr h1⟩
   · have c:=k.cut h2 h3 hs h4 (zn h2) (fi bl [] s u (bV e)).length
     have c3:=c.2.2 (Nat.le_refl _)
     rw [h1]
     simp only [ne_eq,not_true_eq_false,if_false]
     have ed:ta bl [] (fi bl [] s u (bV e)) ((fi bl [] s u (bV e)).length:Nat)=eB (fi bl [] s u (bV e)) (fi bl [] s u (bV e)).length bl [] 0:=rfl
     rw [ed]
     refine .inr ⟨h,trivial,h2,h3,?_,?_,c3.2.2⟩
     · generalize eB (fi bl [] s u (bV e)) (fi bl [] s u (bV e)).length bl [] 0=r at c3 ⊢
       obtain⟨⟨r1,r2⟩,r3⟩:=r
       simp only at c3 ⊢
       rw [c3.1,c3.2.1]
     · have :=JS (fi bl [] s u (bV e)) (fi bl [] s u (bV e)).length bl [] 0 k.right
       exact this
end Go.S

end
section
namespace Go.S
abbrev Stt:=(Int×Int)×eI
def US(n:Int):Prop :=3≤n∧n≤150
def isK(bl:Bs):Prop :=∃s u x,K bl s u x∧s≤50
end Go.S

end
section
namespace Go.S
def JT(a b:List UInt8):Bool:=decide (a=b)
def JU(b:List UInt8)(n:Int):Prop :=b= [255]∧n=64
def dS(b:List UInt8)(k:Nat):Nat:=(b.take k).foldl (fun v x=>v*256+x.toNat) 0
def eS(b:List UInt8):Prop :=8≤b.length
def lQ(s u:Int):Prop :=0≤s∧0≤u
def eb(s u:Int)(k:Nat):List UInt8:=(k9 s).take k++List.replicate (8-k) 0++(k9 u).take k++List.replicate (8-k) 0++List.replicate 48 0
def c6(bl:Bs)(wt:Ws)(k:Nat):(Int×Int)×Bool:=(List.range k).foldl (fun m (i:Nat)=>uW bl wt i m) ((0,0),false)
def dU(bl:Bs)(wt:Ws)(k:Nat):List UInt8:=((List.range k).map fun i:Nat=>dP bl wt ((i:Int)+2)).flatten
def qv(bl:Bs)(wt:Ws)(n:Int):Prop :=n≤dG bl wt∧0≤n
def nj(bl:Bs)(wt:Ws)(n:Int)(k:Nat):Prop :=k+2≤(vB bl wt).length∧((k:Int)-1)*64<n∨k=0
def JV(b:List UInt8):Prop :=b.length≤140737488355328
def jD(a b c:Int)(k:Nat):List UInt8×Int:=match k with
 |0=>(num a,0)
 |1=>(iS (num a) b,ij b)
 |_=>if ij b=0 then(iS (num a++num b) c,ij c) else([],1)
def pM(b:List UInt8)(k:Int×eI):Prop :=0≤k.1∧k.1≤b.length∧xK b (b.length-k.1.toNat) k.1 k.2=xL b
def kM(x:Stt):Int×Int×eI:=(x.1.1,x.1.2,x.2)
def aV(bl:Bs)(wt:Ws):List UInt8:=(uX bl wt).take (fy bl wt).1.2.toNat
def sL(bl:Bs)(wt:Ws)(a:Int)(b:List UInt8)(k:Int×List UInt8×Ws):Prop :=0≤k.1∧k.1+k.2.1.length=a+b.length∧k.2.2++qU bl wt k.2.1.length k.1 k.2.1=dZ bl wt a b
def mh(w:Ws):List lj:=w.map wr
def JW(a:Int)(b:List UInt8):Prop :=0≤a∧a≤1000000∧b.length≤1000000
def mL(bl:Bs)(wt:Ws)(l:List lj)(f:Int)(k:Nat×Bs×Ws):Prop :=k.1≤l.length∧eB (l.drop k.1) f.toNat k.2.1 k.2.2 k.1=ta bl wt l f
end Go.S

end
section
namespace Go.S
theorem EV(b:List UInt8):∀k,k≤b.length→dS b k<256^k
 |0,_=>by simp [dS]
 |k+1,h=>by
  have ih:=EV b k (by omega)
  have hb:=(b.getD k 0).toNat_lt
  unfold dS at ih ⊢
  rw [aG b k 0 (by omega),List.foldl_append,List.foldl_cons,List.foldl_nil,Nat.pow_succ]
  omega
theorem UT {b:List UInt8} {k:Nat}(h:k<b.length):dS b (k+1)=dS b k*256+(b.getD k 0).toNat:=by
 unfold dS
 rw [aG b k 0 h,List.foldl_append,List.foldl_cons,List.foldl_nil]
theorem OY {b:List UInt8} {k:Nat}(h8:8≤b.length)(hk:k<8):
  Vg.cG ((dS b k:Int)*(2:Int)^Int.toNat 8%18446744073709551616) ((UInt8.toNat (List.getD (List.take (Int.toNat 8) b) (Int.toNat (k:Int)) 0):Nat):Int)=(dS b (k+1):Int):=by
 have eD:=EV b k (by omega)
 have h7:dS b k<72057594037927936:=Nat.lt_of_lt_of_le eD (Nat.le_trans (Nat.pow_le_pow_right (by omega) (show k≤7 by omega)) (by decide))
 have hg:List.getD (List.take (Int.toNat 8) b) (Int.toNat (k:Int)) 0=b.getD k 0:=by
  rw [Int.toNat_natCast,List.getD_eq_getElem?_getD,List.getElem?_take_of_lt (by show k<8;omega),←List.getD_eq_getElem?_getD]
 have hb:=(b.getD k 0).toNat_lt
 rw [hg,UT (by omega)]
 have e:(dS b k:Int)*(2:Int)^Int.toNat 8%18446744073709551616=(dS b k:Int)*2^8:=by
  rw [show Int.toNat 8=8 from rfl];omega
 rw [e,iL _ _ 8 (by omega) (by omega) (by omega)]
 omega
theorem vV(b:List UInt8):0≤(eU b).1:=by
 unfold eU;split
 · exact Int.le_refl _
 · exact Int.natCast_nonneg _
theorem aay {b:List UInt8} {k:Nat}(h:(k:Int)<((List.take (Int.toNat 8) b).length:Nat)):k<8:=by
 rw [List.length_take,show Int.toNat 8=8 from rfl] at h;omega
theorem Qa(a m:Bool)(p:Prop) [Decidable p] {α:Type}(x y:α):(bif (bif a then(bif !m then true else decide p) else false) then x else y)=if a=true∧(m=false∨p) then x else y:=by
 cases a<;>cases m<;>simp [Bool.cond_eq_ite]
theorem uY(s u:Int)(k:Nat)(h:k≤8):(eb s u k).length=64:=by
 simp [eb,la];omega
theorem UU(s u:Int):eb s u 8=zk s u++List.replicate 32 0:=by
 have e1:(k9 s).take 8=k9 s:=List.take_of_length_le (by rw [la];exact Nat.le_refl _)
 have e2:(k9 u).take 8=k9 u:=List.take_of_length_le (by rw [la];exact Nat.le_refl _)
 have e3:List.replicate 48 (0:UInt8)=List.replicate 16 0++List.replicate 32 0:=by rw [List.replicate_append_replicate]
 simp [eb,zk,e1,e2,e3]
theorem Ax(bl:Bs)(wt:Ws)(k:Nat):c6 bl wt (k+1)=uW bl wt k (c6 bl wt k):=by
 simp only [c6,List.range_succ,List.foldl_append,List.foldl_cons,List.foldl_nil]
theorem Ay(bl:Bs)(wt:Ws)(k:Nat):dU bl wt (k+1)=dU bl wt k++dP bl wt ((k:Int)+2):=by
 simp [dU,List.range_succ]
theorem Mo {n:Int} {k:Nat}(h:0≤n)(h1:n≤9223372036854775807)(hk:k<8):UInt8.ofNat (n%18446744073709551616/2^(8*(7-(k:Int))).toNat%256).toNat=rH n k:=by
 unfold rH
 congr 1
 have e:n%18446744073709551616=n:=by omega
 rw [e]
 rcases(by omega :k=0∨k=1∨k=2∨k=3∨k=4∨k=5∨k=6∨k=7) with q|q|q|q|q|q|q|q<;>subst q
 · have :(2:Int)^(8*(7-((0:Nat):Int))).toNat=72057594037927936:=by decide
   rw [this];omega
 · have :(2:Int)^(8*(7-((1:Nat):Int))).toNat=281474976710656:=by decide
   rw [this];omega
 · have :(2:Int)^(8*(7-((2:Nat):Int))).toNat=1099511627776:=by decide
   rw [this];omega
 · have :(2:Int)^(8*(7-((3:Nat):Int))).toNat=4294967296:=by decide
   rw [this];omega
 · have :(2:Int)^(8*(7-((4:Nat):Int))).toNat=16777216:=by decide
   rw [this];omega
 · have :(2:Int)^(8*(7-((5:Nat):Int))).toNat=65536:=by decide
   rw [this];omega
 · have :(2:Int)^(8*(7-((6:Nat):Int))).toNat=256:=by decide
   rw [this];omega
 · have :(2:Int)^(8*(7-((7:Nat):Int))).toNat=1:=by decide
   rw [this];omega
theorem Mp {s u:Int} {k:Nat}(hs:0≤s)(M9:s≤9223372036854775807)(hu:0≤u)(hu1:u≤9223372036854775807)(hk:k<8):
  ((eb s u k).set (k:Int).toNat (UInt8.ofNat (s%18446744073709551616/2^(8*(7-(k:Int))).toNat%256).toNat)).set (8+(k:Int)).toNat (UInt8.ofNat (u%18446744073709551616/2^(8*(7-(k:Int))).toNat%256).toNat)=eb s u (k+1):=by
 rw [Mo hs M9 hk,Mo hu hu1 hk,Int.toNat_natCast,show(8+(k:Int)).toNat=8+k by omega]
 rcases(by omega :k=0∨k=1∨k=2∨k=3∨k=4∨k=5∨k=6∨k=7) with q|q|q|q|q|q|q|q<;>subst q<;>rfl
theorem UW {s u:Int} {k:Nat}(h:¬(k:Int)<8)(h2:k≤8):
  List.take ((Int.toNat 32:Nat):Int).toNat (eb s u k)++List.take ((eb s u k).length-((Int.toNat 32:Nat):Int).toNat) (List.take (Int.toNat 32) (eb s u k))++List.drop (((Int.toNat 32:Nat):Int).toNat+min (List.take (Int.toNat 32) (eb s u k)).length ((eb s u k).length-((Int.toNat 32:Nat):Int).toNat)) (eb s u k)=dQ s u:=by
 have :k=8:=by omega
 subst this
 rw [UU]
 have e:((Int.toNat 32:Nat):Int).toNat=32:=rfl
 have e':Int.toNat 32=32:=rfl
 have hl:=EO s u
 rw [e,e']
 simp only [List.length_append,List.length_replicate,hl]
 rw [show 32+32-32=32 from rfl]
 rw [List.take_left' hl,List.take_of_length_le (by omega),List.drop_of_length_le (by simp;omega),List.append_nil];rfl
end Go.S

end
section
namespace Go.S
theorem Qb {bl:Bs} {wt:Ws} {i:Int}(h:0≤i)(h1:i<(vB bl wt).length):gj bl wt i=0:=by unfold gj;rw [if_neg (by omega)]
theorem Xx {bl:Bs} {wt:Ws} {i:Int}(h:gj bl wt i=0):0≤i∧i<(vB bl wt).length:=by
 unfold gj at h;split at h
 · cases h
 · omega
theorem zo {bl:Bs} {wt:Ws} {i:Int}(h:gj bl wt i=0):(dP bl wt i).length=64:=by
 have h1:=Xx h
 unfold dP
 rw [if_pos h]
 refine Ar _ (lP bl wt) _ _ ?_
 exact kQ bl wt _ (bo _ i.toNat [] (by omega))
theorem uZ {bl:Bs} {wt:Ws}:∀k:Nat,k+2≤(vB bl wt).length→(dU bl wt k).length=64*k
 |0,_=>rfl
 |k+1,h=>by
  rw [Ay,List.length_append,uZ k (by omega),zo (Qb (by omega) (by omega))];omega
theorem BD(bl:Bs)(wt:Ws):dU bl wt ((vB bl wt).length-2)=uX bl wt:=rfl
theorem BE {bl:Bs} {wt:Ws}(k:Nat):∀j,k≤j→∃r,dU bl wt j=dU bl wt k++r
 |0,h=>by obtain rfl :k=0:=(by omega);exact⟨[],by simp⟩
 |j+1,h=>by
  by_cases e:k=j+1
  · subst e;exact⟨[],by simp⟩
  · obtain⟨r,hr⟩:=BE (bl:=bl) (wt:=wt) k j (by omega)
    exact⟨r++dP bl wt ((j:Int)+2),by rw [Ay,hr,List.append_assoc]⟩
theorem zp {bl:Bs} {wt:Ws} {n:Int} {k:Nat}(h:nj bl wt n k):(dU bl wt k).length=64*k:=by
 rcases h with h|h
 · exact uZ k h.1
 · subst h;rfl
theorem rI {bl:Bs} {wt:Ws} {n:Int} {k:Nat}(hp:qv bl wt n)(h:nj bl wt n k)(h3:((dU bl wt k).length:Int)<n):k+3≤(vB bl wt).length∧k≤4096:=by
 have h1:=zp h
 have h2:=hp.1
 have h4:=lO bl wt
 simp only [dG] at h2
 omega
theorem aaz {bl:Bs} {wt:Ws} {n:Int} {k:Nat}(hp:qv bl wt n)(h:nj bl wt n k)(h3:((dU bl wt k).length:Int)<n):gj bl wt ((k:Int)+2)=0:=by
 have :=rI hp h h3
 exact Qb (by omega) (by omega)
theorem ahu {bl:Bs} {wt:Ws} {n:Int} {k:Nat}(hp:qv bl wt n)(h:nj bl wt n k)(h3:((dU bl wt k).length:Int)<n):nj bl wt n (k+1):=by
 have h1:=zp h
 have :=rI hp h h3
 exact .inl ⟨by omega,by omega⟩
theorem Xy {bl:Bs} {wt:Ws} {n:Int} {k:Nat}(hp:qv bl wt n)(h:nj bl wt n k)(h3:¬((dU bl wt k).length:Int)<n):List.take n.toNat (dU bl wt k)=List.take n.toNat (uX bl wt):=by
 have h1:=zp h
 have h0:=hp.2
 rcases h with h|h
 · obtain⟨r,hr⟩:=BE (bl:=bl) (wt:=wt) k ((vB bl wt).length-2) (by omega)
   rw [←BD,hr,List.take_append_of_le_length (by omega)]
 · subst h
   have :n.toNat=0:=by simp only [dU,List.range_zero,List.map_nil,List.flatten_nil,List.length_nil] at h3;omega
   rw [this];simp
theorem aaA(b:List UInt8)(a e m:Int):(bj b a e m).1.1=b:=by
 unfold bj;split
 · rfl
 · split<;>rfl
theorem HC(b:List UInt8)(a e:Int) {α:Type}(x y z:α):(bif decide ((ag b a e).2=0) then x else bif decide ((ag b a e).2=2) then y else z)=if(ag b a e).2=0 then x else if(ag b a e).2=2 then y else z:=by
 simp only [Bool.cond_decide]
theorem anw(b:List UInt8)(a e:Int):(bif decide ((ag b a e).2=0) then(bj (ag b a e).1.1 (ag b a e).1.2.1 (ag b a e).1.2.2 2000).1.1 else bif decide ((ag b a e).2=2) then(ag (ag (ag b a e).1.1 (ag b a e).1.2.1 (ag b a e).1.2.2).1.1 (ag (ag b a e).1.1 (ag b a e).1.2.1 (ag b a e).1.2.2).1.2.1 (ag (ag b a e).1.1 (ag b a e).1.2.1 (ag b a e).1.2.2).1.2.2).1.1 else(ag b a e).1.1)=b:=by
 rw [HC]
 split
 · rw [aaA,(ng b a e).1]
 · split
   · rw [(ng _ _ _).1,(ng _ _ _).1,(ng b a e).1]
   · exact(ng b a e).1
theorem vX(b:List UInt8)(a e:Int):
  (((bif decide ((ag b a e).2=0) then(bj (ag b a e).1.1 (ag b a e).1.2.1 (ag b a e).1.2.2 2000).1.2.1 else bif decide ((ag b a e).2=2) then(ag (ag (ag b a e).1.1 (ag b a e).1.2.1 (ag b a e).1.2.2).1.1 (ag (ag b a e).1.1 (ag b a e).1.2.1 (ag b a e).1.2.2).1.2.1 (ag (ag b a e).1.1 (ag b a e).1.2.1 (ag b a e).1.2.2).1.2.2).1.2.1 else(ag b a e).1.2.1,
    bif decide ((ag b a e).2=0) then(bj (ag b a e).1.1 (ag b a e).1.2.1 (ag b a e).1.2.2 2000).1.2.2 else bif decide ((ag b a e).2=2) then(ag (ag (ag b a e).1.1 (ag b a e).1.2.1 (ag b a e).1.2.2).1.1 (ag (ag b a e).1.1 (ag b a e).1.2.1 (ag b a e).1.2.2).1.2.1 (ag (ag b a e).1.1 (ag b a e).1.2.1 (ag b a e).1.2.2).1.2.2).1.2.2 else(ag b a e).1.2.2),
   (bif decide ((ag b a e).2=0) then(ag b a e).2 else bif decide ((ag b a e).2=2) then(ag b a e).2 else(ag b a e).2,
    bif decide ((ag b a e).2=0) then 0 else bif decide ((ag b a e).2=2) then(ag (ag b a e).1.1 (ag b a e).1.2.1 (ag b a e).1.2.2).2 else 0,
    bif decide ((ag b a e).2=0) then 0 else bif decide ((ag b a e).2=2) then(ag (ag (ag b a e).1.1 (ag b a e).1.2.1 (ag b a e).1.2.2).1.1 (ag (ag b a e).1.1 (ag b a e).1.2.1 (ag b a e).1.2.2).1.2.1 (ag (ag b a e).1.1 (ag b a e).1.2.1 (ag b a e).1.2.2).1.2.2).2 else 0,
    bif decide ((ag b a e).2=0) then(bj (ag b a e).1.1 (ag b a e).1.2.1 (ag b a e).1.2.2 2000).2 else [])):(Int×Int)×db)=cm b a e:=by
 unfold cm
 simp only [HC,(ng _ _ _).1,Bool.cond_decide]
 split
 · rename_i h;rw [h]
 · split
   · rename_i h;rw [h]
   · rfl
theorem zq {a:Int}(h:¬a<0∧¬3<a):ij a=0:=by
 unfold ij;rw [if_neg];simp [iM];omega
theorem Cz {a:Int}(h:¬a<0∧¬3<a):iS (Vg.fb UInt8) a=num a:=Ur (by omega) (by omega)
theorem EW {a b c:Int} {d:List UInt8}(h:a<0∨3<a):ba a b c d=([],1):=by
 unfold ba ke
 rw [if_neg]
 rw [if_neg (by omega),if_neg (by omega)]
 simp;omega
theorem BF {a b c:Int} {d:List UInt8}(h0:a=0)(h:2000<(d.length:Int)):ba a b c d=([],1):=by
 unfold ba ke
 rw [if_neg]
 rw [if_pos h0]
 simp;omega
theorem EX {a b c:Int} {d:List UInt8}(h0:a=0)(h:¬2000<(d.length:Int)):ba a b c d=(num a++text d,0):=by
 unfold ba ke
 rw [if_pos]
 · unfold kB;rw [if_pos h0]
 · rw [if_pos h0];simp;omega
theorem BG {a b c:Int} {d:List UInt8}(h:¬a<0∧¬3<a)(h0:¬a=0)(h2:¬a=2):ba a b c d=(num a,0):=by
 unfold ba ke
 rw [if_pos]
 · unfold kB;rw [if_neg h0,if_neg h2,List.append_nil]
 · rw [if_neg h0,if_neg h2];simp;omega
theorem OZ {a:Int} {d:List UInt8}(h:¬a<0∧¬3<a)(h1:¬2000<(d.length:Int)):lE (iS (Vg.fb UInt8) a) d:=by
 rw [Cz h]
 have :=kC a
 unfold lE;omega
theorem HD(l:List UInt8)(v:Int):(iS l v).length≤l.length+9:=by
 have :=kC v
 unfold iS;split
 · simp
 · rw [List.length_append];omega
theorem Xz(a b c:Int)(k:Nat):(jD a b c k).1.length≤100:=by
 have h1:=kC a
 have h2:=kC b
 match k with
 |0=>simp only [jD];omega
 |1=>simp only [jD];have :=HD (num a) b;omega
 |k+2=>
  simp only [jD];split
  · have :=HD (num a++num b) c;rw [List.length_append] at this;simp only;omega
  · simp
theorem XA {a b c:Int} {k:Nat}(h:(k:Int)<(([b,c]:List Int).length:Int))(h0:(jD a b c k).2=0):ij ([b,c].getD (k:Int).toNat 0)=(jD a b c (k+1)).2∧iS (jD a b c k).1 ([b,c].getD (k:Int).toNat 0)=(jD a b c (k+1)).1:=by
 have hk:k=0∨k=1:=by simp at h;omega
 rcases hk with hk|hk
 · subst hk;exact⟨rfl,rfl⟩
 · subst hk
   have h1:ij b=0:=h0
   have h2:iM b=false :=by
    unfold ij at h1;split at h1
    · cases h1
    · rename_i q;simpa using q
   simp only [jD]
   rw [h1,if_pos rfl]
   have :iS (num a) b=num a++num b:=by unfold iS;rw [h2];rfl
   rw [this]
   exact⟨rfl,rfl⟩
theorem XB {a b c:Int} {k:Nat}(h:(k:Int)<(([b,c]:List Int).length:Int))(h0:¬(jD a b c k).2=0):jD a b c k=jD a b c (k+1):=by
 have hk:k=0∨k=1:=by simp at h;omega
 rcases hk with hk|hk
 · subst hk;exact absurd rfl h0
 · subst hk
   have h1:¬ij b=0:=h0
   have h2:iM b=true :=by
    unfold ij at h1;split at h1
    · rename_i q;exact q
    · exact absurd rfl h1
   simp only [jD]
   rw [if_neg h1]
   unfold iS ij;rw [h2];rfl
theorem zr {a b c:Int} {d:List UInt8} {k:Nat}(h:a=2)(hk:k≤2)(Ji:¬(k:Int)<(([b,c]:List Int).length:Int)):ba a b c d=if(jD a b c k).2=0 then((jD a b c k).1,0) else([],(jD a b c k).2):=by
 have :k=2:=by simp at Ji;omega
 subst this
 simp only [jD]
 unfold ba ke kB ij iS
 rw [if_neg (show ¬a=0 by omega),if_pos h,if_neg (show ¬a=0 by omega),if_pos h]
 cases iM b<;>cases iM c<;>simp
end Go.S

end
section
namespace Go.S
abbrev St4:=Int×Int×eI
def jE(d:Bs×Ws):Bs:=sync d.1 d.2
def vY(d:Bs×Ws)(keep:List Int):Bs:=ka d.1 d.2 keep
def bp(d:Bs×Ws):St4×Int:=(kM (aR d.1 d.2).1,(aR d.1 d.2).2)
def cW(d:Bs×Ws)(s:St4)(e:db):List lj×St4×Int:=((bF d.1 d.2 s.1 s.2.1 s.2.2 e).1.1,kM (bF d.1 d.2 s.1 s.2.1 s.2.2 e).1.2,(bF d.1 d.2 s.1 s.2.1 s.2.2 e).2)
def lY(d:Bs×Ws)(l:List lj)(f:Int):(Bs×Ws)×Int:=((ta d.1 d.2 l f).1,(((ta d.1 d.2 l f).2:Nat):Int))
theorem JX {b:List UInt8} {a:Int}(h0:0≤a)(h1:a≤b.length)(h:(ag b a 0).1.2.2=0):a<(ag b a 0).1.2.1∧(ag b a 0).1.2.1≤b.length:=by
 by_cases hf:(first (b.drop a.toNat)).2.2=0
 · have hb:=BA hf
   have hd:=vJ (b.drop a.toNat)
   have hp:=yV (first (b.drop a.toNat)).1
   rw [Xl h0 h1 hf]
   simp only
   rw [List.length_drop] at hd
   omega
 · rw [ahl h0 h1 hf] at h;exact absurd h hf
theorem anx {b:List UInt8} {a e m:Int}(h:e≠0):bj b a e m=((b,a,e),[]):=by
 unfold bj;rw [Mf h,if_pos h]
theorem aaB {b:List UInt8} {a m:Int}(h0:0≤a)(h1:a≤b.length)(h:(bj b a 0 m).1.2.2=0):a<(bj b a 0 m).1.2.1∧(bj b a 0 m).1.2.1≤b.length:=by
 unfold bj at h ⊢
 rw [zh h0 h1,if_neg (fun q=>q rfl)] at h ⊢
 by_cases hg:(bS b a m).2.2=0
 · rw [if_neg (fun q=>q hg)]
   simp only
   unfold bS at hg ⊢
   by_cases g1:(aK b a).2.2=0
   · rw [if_neg (fun q=>q g1)] at hg ⊢
     have hf:(first (b.drop a.toNat)).2.2=0:=g1
     have hb:=BA hf
     have hd:=vJ (b.drop a.toNat)
     have hp:=yV (first (b.drop a.toNat)).1
     have e:(aK b a).2.1=a+(first (b.drop a.toNat)).2.1:=by simp only [aK,Bg,hf,if_true]
     have e1:(aK b a).1=(first (b.drop a.toNat)).1:=rfl
     rw [List.length_drop] at hd
     split at hg
     · cases hg
     · rename_i q1
       rw [if_neg q1]
       split at hg
       · cases hg
       · rename_i q2
         rw [if_neg q2]
         simp only
         rw [e,e1] at *
         omega
   · rw [if_pos g1] at hg;exact absurd hg g1
 · rw [if_pos hg] at h;exact absurd h hg
theorem CA {b:List UInt8} {a:Int}(h0:0≤a)(h1:a≤b.length)(h:(cm b a 0).1.2=0):a<(cm b a 0).1.1∧(cm b a 0).1.1≤b.length:=by
 by_cases e0:(ag b a 0).1.2.2=0
 · have r1:=JX h0 h1 e0
   unfold cm at h ⊢
   split at h
   · rename_i q
     rw [if_pos q]
     simp only at h ⊢
     rw [e0] at h ⊢
     have :=aaB (m:=2000) (by omega) r1.2 h
     omega
   · rename_i q
     rw [if_neg q]
     split at h
     · rename_i q2
       rw [if_pos q2]
       simp only at h ⊢
       rw [e0] at h ⊢
       by_cases e1:(ag b (ag b a 0).1.2.1 0).1.2.2=0
       · have r2:=JX (by omega) r1.2 e1
         rw [e1] at h ⊢
         have :=JX (by omega) r2.2 h
         omega
       · rw [Xk e1] at h;exact absurd h e1
     · rename_i q2
       rw [if_neg q2]
       exact r1
 · exfalso
   unfold cm at h
   split at h
   · simp only at h;rw [anx e0] at h;exact e0 h
   · split at h
     · simp only at h;rw [Xk e0] at h;simp only at h;rw [Xk e0] at h;exact e0 h
     · exact e0 h
theorem HE(b:List UInt8):∀(f g:Nat) (a:Int) (x:eI),0≤a→a≤b.length→b.length-a.toNat≤f→b.length-a.toNat≤g→xK b f a x=xK b g a x
 |0,0,_,_,_,_,_,_=>rfl
 |0,g+1,a,x,h0,h1,hf,_=>by simp only [xK];rw [if_neg (by omega)]
 |f+1,0,a,x,h0,h1,_,hg=>by simp only [xK];rw [if_neg (by omega)]
 |f+1,g+1,a,x,h0,h1,hf,hg=>by
  simp only [xK]
  by_cases ha:a<b.length
  · rw [if_pos ha,if_pos ha]
    by_cases he:(cm b a 0).1.2=0
    · have :=CA h0 h1 he
      rw [HE b f g _ _ (by omega) (by omega) (by omega) (by omega)]
    · rw [if_pos he,if_pos he]
  · rw [if_neg ha,if_neg ha]
theorem EY {b:List UInt8} {a:Int} {x:eI}(h0:0≤a)(h1:a<b.length):xK b (b.length-a.toNat) a x=
  if(cm b a 0).1.2≠0 then(([],[]),2) else if(bY x (cm b a 0).2).2≠0 then(([],[]),2) else xK b (b.length-(cm b a 0).1.1.toNat) (cm b a 0).1.1 (bY x (cm b a 0).2).1:=by
 obtain⟨f,hf⟩:∃f,b.length-a.toNat=f+1:=⟨b.length-a.toNat-1,by omega⟩
 rw [hf]
 simp only [xK]
 rw [if_pos h1]
 by_cases he:(cm b a 0).1.2=0
 · have :=CA h0 (by omega) he
   rw [HE b f (b.length-(cm b a 0).1.1.toNat) _ _ (by omega) (by omega) (by omega) (Nat.le_refl _)]
 · rw [if_pos he,if_pos he]
def okM(bl:Bs)(wt:Ws)(m:(Int×Int)×Bool):Prop :=m.2=true→0≤m.1.1∧m.1.1≤4611686018427387904∧0≤m.1.2∧m.1.2≤dG bl wt
theorem XC {b:List UInt8}:(eU b).1≤4611686018427387904:=by
 unfold eU;split
 · exact Int.natCast_nonneg 4611686018427387904
 · simp only;omega
theorem Mq {bl:Bs} {wt:Ws} {i:Int} {m:(Int×Int)×Bool}(h:okM bl wt m):okM bl wt (uW bl wt i m):=by
 unfold uW
 split
 · exact h
 · split
   · intro hs
     unfold cF at hs ⊢
     split at hs
     · rename_i q
       rw [if_pos q]
       exact⟨vV _,XC,vV _,q.2.2.2.1⟩
     · cases hs
   · exact h
theorem Mr {bl:Bs} {wt:Ws}(h:(fy bl wt).2=true):0≤(fy bl wt).1.1∧(fy bl wt).1.1≤4611686018427387904∧0≤(fy bl wt).1.2∧(fy bl wt).1.2≤dG bl wt:=
 Mq (Mq (fun q=>by cases q)) h
theorem ae2 {bl:Bs} {wt:Ws}(h:aJ bl wt=false∨kA (vB bl wt)≤2):aR bl wt=(((0,0),([],[])),1):=by
 unfold aR
 rw [if_pos]
 by_cases hr:aJ bl wt=true
 · rcases h with h|h
   · exact .inl h
   · right;simp only [kA,vB,hr,if_true] at h;omega
 · exact .inl (by simpa using hr)
theorem Qc {bl:Bs} {wt:Ws}(h:aJ bl wt=true∧¬kA (vB bl wt)≤2):¬(aJ bl wt=false∨bl.length≤2):=by
 rintro(q|q)
 · rw [h.1] at q;cases q
 · have :=h.2;simp only [kA,vB,h.1,if_true] at this;omega
theorem ae3 {bl:Bs} {wt:Ws}(h:aJ bl wt=true∧¬kA (vB bl wt)≤2)(h1:(fy bl wt).2=false):aR bl wt=(((0,0),([],[])),7):=by
 unfold aR
 rw [if_neg (Qc h),if_pos h1]
theorem O0(bl:Bs)(wt:Ws):(aV bl wt).length≤300000:=by
 have h4:=lO bl wt
 unfold aV
 rw [List.length_take,←BD]
 by_cases h:2≤(vB bl wt).length
 · rw [uZ _ (by omega)];omega
 · have :(vB bl wt).length-2=0:=by omega
   rw [this];simp [dU]
theorem aaC {bl:Bs} {wt:Ws}(h1:(fy bl wt).2=true):qv bl wt (fy bl wt).1.2:=by
 have :=Mr h1
 exact⟨this.2.2.2,this.2.2.1⟩
theorem XD(b:List UInt8):pM b (0,[],[]):=⟨Int.le_refl _,Int.natCast_nonneg _,rfl⟩
theorem XE {bl:Bs} {wt:Ws}(h:aJ bl wt=true∧¬kA (vB bl wt)≤2)(h1:(fy bl wt).2=true):aR bl wt=if(xL (aV bl wt)).2≠0 then(((0,0),([],[])),2) else(((fy bl wt).1,(xL (aV bl wt)).1),0):=by
 unfold aR
 rw [if_neg (Qc h),if_neg (by rw [h1];simp)];rfl
theorem Qd {bl:Bs} {wt:Ws}(h:aJ bl wt=true∧¬kA (vB bl wt)≤2)(h1:(fy bl wt).2=true) {k:Int×eI}(hi:pM (aV bl wt) k)(hk:k.1<((aV bl wt).length:Int))(he:¬(cm (aV bl wt) k.1 0).1.2=0):aR bl wt=(((0,0),([],[])),2):=by
 obtain⟨i0,i1,i2⟩:=hi
 rw [EY i0 hk,if_pos he] at i2
 rw [XE h h1,←i2];rfl
theorem Ms {bl:Bs} {wt:Ws}(h:aJ bl wt=true∧¬kA (vB bl wt)≤2)(h1:(fy bl wt).2=true) {k:Int×eI}(hi:pM (aV bl wt) k)(hk:k.1<((aV bl wt).length:Int))(he:(cm (aV bl wt) k.1 0).1.2=0)
  (hh:¬(dA k.2.1 k.2.2 (cm (aV bl wt) k.1 0).2.1 (cm (aV bl wt) k.1 0).2.2.1 (cm (aV bl wt) k.1 0).2.2.2.1 (cm (aV bl wt) k.1 0).2.2.2.2).2=0):aR bl wt=(((0,0),([],[])),2):=by
 obtain⟨i0,i1,i2⟩:=hi
 have Gg:(bY k.2 (cm (aV bl wt) k.1 0).2).2≠0:=hh
 rw [EY i0 hk,if_neg (fun q=>q he),if_pos Gg] at i2
 rw [XE h h1,←i2];rfl
theorem anA {bl:Bs} {wt:Ws} {k:Int×eI}(hi:pM (aV bl wt) k)(hk:k.1<((aV bl wt).length:Int))(he:(cm (aV bl wt) k.1 0).1.2=0)
  (hh:(dA k.2.1 k.2.2 (cm (aV bl wt) k.1 0).2.1 (cm (aV bl wt) k.1 0).2.2.1 (cm (aV bl wt) k.1 0).2.2.2.1 (cm (aV bl wt) k.1 0).2.2.2.2).2=0):
  pM (aV bl wt) ((cm (aV bl wt) k.1 0).1.1,(dA k.2.1 k.2.2 (cm (aV bl wt) k.1 0).2.1 (cm (aV bl wt) k.1 0).2.2.1 (cm (aV bl wt) k.1 0).2.2.2.1 (cm (aV bl wt) k.1 0).2.2.2.2).1.1,(dA k.2.1 k.2.2 (cm (aV bl wt) k.1 0).2.1 (cm (aV bl wt) k.1 0).2.2.1 (cm (aV bl wt) k.1 0).2.2.2.1 (cm (aV bl wt) k.1 0).2.2.2.2).1.2):=by
 obtain⟨i0,i1,i2⟩:=hi
 have Gg:¬(bY k.2 (cm (aV bl wt) k.1 0).2).2≠0:=fun q=>q hh
 have ha:=CA i0 i1 he
 rw [EY i0 hk,if_neg (fun q=>q he),if_neg Gg] at i2
 exact⟨by omega,ha.2,i2⟩
theorem XF {bl:Bs} {wt:Ws} {k:Int×eI}(hi:pM (aV bl wt) k)(hk:k.1<((aV bl wt).length:Int))(he:(cm (aV bl wt) k.1 0).1.2=0):(aV bl wt).length-(cm (aV bl wt) k.1 0).1.1.toNat<(aV bl wt).length-k.1.toNat:=by
 have ha:=CA hi.1 hi.2.1 he
 have :=hi.1
 omega
theorem Qe {bl:Bs} {wt:Ws}(h:aJ bl wt=true∧¬kA (vB bl wt)≤2)(h1:(fy bl wt).2=true) {k:Int×eI}(hi:pM (aV bl wt) k)(hk:¬k.1<((aV bl wt).length:Int)):aR bl wt=(((fy bl wt).1,k.2),0):=by
 obtain⟨i0,i1,i2⟩:=hi
 have e:(aV bl wt).length-k.1.toNat=0:=by omega
 rw [e] at i2
 simp only [xK] at i2
 rw [XE h h1,←i2];rfl
theorem HF {docs:List (List UInt8)} {l:List aA} {a b c:Int} {d:List UInt8}(h:(a=0→False)∧(a=1→False)∧(a=2→False)∧(a=3→False)∧True):
  dA docs l a b c d=((bif !aW docs l then [] else docs,bif !aW docs l then [] else l),1):=by
 unfold dA
 rw [if_neg h.1,if_neg h.2.1,if_neg h.2.2.1,if_neg h.2.2.2.1]
 unfold ao
 cases aW docs l<;>rfl
theorem aaD {bl:Bs} {wt:Ws} {a:Int} {b:List UInt8} {k:Int×List UInt8×Ws}(h:sL bl wt a b k)(hk:k.1<a+(b.length:Int))(he:¬gj bl wt (2+k.1/64)=0):k.2.2=dZ bl wt a b:=by
 obtain⟨h0,h1,h2⟩:=h
 have hl:k.2.1≠ []:=fun q=>by rw [q] at h1;simp at h1;omega
 obtain⟨f,hf⟩:∃f,k.2.1.length=f+1:=⟨k.2.1.length-1,by have :=List.length_pos_iff.2 hl;omega⟩
 rw [hf] at h2
 simp only [qU] at h2
 rw [if_neg hl,if_pos he,List.append_nil] at h2
 exact h2
theorem XG {bl:Bs} {wt:Ws} {a:Int} {b:List UInt8} {k:Int×List UInt8×Ws}(h:sL bl wt a b k)(hk:¬k.1<a+(b.length:Int)):k.2.2=dZ bl wt a b:=by
 obtain⟨h0,h1,h2⟩:=h
 have :k.2.1.length=0:=by omega
 rw [this] at h2
 simp only [qU,List.append_nil] at h2
 exact h2
theorem HG(bl:Bs)(wt:Ws):∀(f g:Nat) (a:Int) (b:List UInt8),b.length≤f→b.length≤g→qU bl wt f a b=qU bl wt g a b
 |0,0,_,_,_,_=>rfl
 |0,g+1,a,b,h,_=>by
  have :b= []:=List.length_eq_zero_iff.1 (by omega)
  simp only [qU];rw [if_pos this]
 |f+1,0,a,b,_,h=>by
  have :b= []:=List.length_eq_zero_iff.1 (by omega)
  simp only [qU];rw [if_pos this]
 |f+1,g+1,a,b,h1,h2=>by
  simp only [qU]
  by_cases hb:b= []
  · rw [if_pos hb,if_pos hb]
  · have :=List.length_pos_iff.2 hb
    have hp:(a%64).toNat<64:=by omega
    rw [HG bl wt f g _ _ (by rw [List.length_drop];omega) (by rw [List.length_drop];omega)]
theorem Az {bl:Bs} {wt:Ws} {a:Int} {b:List UInt8} {k:Int×List UInt8×Ws}(h:sL bl wt a b k)(hk:k.1<a+(b.length:Int))(he:gj bl wt (2+k.1/64)=0):
  (min k.2.1.length ((dP bl wt (2+k.1/64)).length-(k.1%64).toNat))=min (64-(k.1%64).toNat) k.2.1.length∧1≤min (64-(k.1%64).toNat) k.2.1.length∧
  k.2.1.drop (64-(k.1%64).toNat)=k.2.1.drop (min (64-(k.1%64).toNat) k.2.1.length)∧
  mK (dP bl wt (2+k.1/64)) k.1 k.2.1=List.take (k.1%64).toNat (dP bl wt (2+k.1/64))++List.take ((dP bl wt (2+k.1/64)).length-(k.1%64).toNat) k.2.1++List.drop ((k.1%64).toNat+min k.2.1.length ((dP bl wt (2+k.1/64)).length-(k.1%64).toNat)) (dP bl wt (2+k.1/64))∧
  sL bl wt a b (k.1+(min (64-(k.1%64).toNat) k.2.1.length:Nat),k.2.1.drop (64-(k.1%64).toNat),k.2.2++ [(2+k.1/64,mK (dP bl wt (2+k.1/64)) k.1 k.2.1)]):=by
 obtain⟨h0,h1,h2⟩:=h
 have hl:k.2.1≠ []:=fun q=>by rw [q] at h1;simp at h1;omega
 have hp:=List.length_pos_iff.2 hl
 have oA:=zo he
 have hm:(k.1%64).toNat<64:=by omega
 have ed:k.2.1.drop (64-(k.1%64).toNat)=k.2.1.drop (min (64-(k.1%64).toNat) k.2.1.length):=by
  by_cases q:64-(k.1%64).toNat≤k.2.1.length
  · rw [Nat.min_eq_left q]
  · rw [Nat.min_eq_right (by omega),List.drop_of_length_le (by omega),List.drop_of_length_le (by omega)]
 refine⟨by rw [oA];omega,by omega,ed,?_,?_⟩
 · unfold mK
   rw [oA]
   congr 1
   by_cases q:k.2.1.length≤64-(k.1%64).toNat
   · rw [Nat.min_eq_left q]
   · rw [Nat.min_eq_right (by omega),List.drop_of_length_le (by omega),List.drop_of_length_le (by omega)]
 · refine⟨by simp only;omega,?_,?_⟩
   · simp only [List.length_drop];omega
   · obtain⟨f,hf⟩:∃f,k.2.1.length=f+1:=⟨k.2.1.length-1,by omega⟩
     rw [←h2,hf]
     simp only [qU]
     rw [if_neg hl,if_neg (fun q=>q he),List.append_assoc,List.singleton_append,hf]
     rw [HG bl wt _ f _ _ (Nat.le_refl _) (by rw [List.length_drop];omega)]
theorem EZ(bl:Bs)(wt:Ws):∀(f:Nat) (a:Int) (b:List UInt8),(qU bl wt f a b).length≤f
 |0,_,_=>Nat.le_refl _
 |f+1,a,b=>by
  simp only [qU]
  split
  · simp
  · split
    · simp
    · have :=EZ bl wt f (a+(min (64-(a%64).toNat) b.length:Nat)) (b.drop (64-(a%64).toNat))
      simp only [List.length_cons];omega
theorem JY {bl:Bs} {wt:Ws} {a:Int} {b:List UInt8} {k:Int×List UInt8×Ws}(hp:JW a b)(h:sL bl wt a b k):k.2.2.length≤1000000∧k.2.1.length≤2000000∧k.1≤2000000:=by
 obtain⟨h0,h1,h2⟩:=h
 obtain⟨p1,p2,p3⟩:=hp
 have e:=congrArg List.length h2
 have :=EZ bl wt b.length a b
 rw [List.length_append] at e
 unfold dZ at e
 refine⟨by omega,by omega,by omega⟩
theorem anB {bl:Bs} {wt:Ws} {s u:Int} {x:eI} {e:db}(h:s=4611686018427387904):bF bl wt s u x e=(([],((0,0),([],[]))),1):=by
 unfold bF;rw [if_pos h]
theorem anC {bl:Bs} {wt:Ws} {s u:Int} {x:eI} {e:db}(h:¬s=4611686018427387904)(h1:¬(aR bl wt).2=0∨¬(kM (aR bl wt).1).1=s∨¬(kM (aR bl wt).1).2.1=u):bF bl wt s u x e=(([],((0,0),([],[]))),1):=by
 have TM:(aR bl wt).2≠0∨(aR bl wt).1.1.1≠s∨(aR bl wt).1.1.2≠u:=h1
 unfold bF;rw [if_neg h,if_pos TM]
theorem Qf {bl:Bs} {wt:Ws} {s u:Int}(h1:(aR bl wt).2=0∧(kM (aR bl wt).1).1=s∧(kM (aR bl wt).1).2.1=u):¬((aR bl wt).2≠0∨(aR bl wt).1.1.1≠s∨(aR bl wt).1.1.2≠u):=by
 rintro(q|q|q)
 · exact q h1.1
 · exact q h1.2.1
 · exact q h1.2.2
theorem AA {a b c:Int} {d:List UInt8}:(ba a b c d).2=if ke a b c d=true then 0 else 1:=by
 unfold ba;cases ke a b c d<;>rfl
theorem anD {bl:Bs} {wt:Ws} {s u:Int} {x:eI} {a b c:Int} {d:List UInt8}(h:¬s=4611686018427387904)(h1:(aR bl wt).2=0∧(kM (aR bl wt).1).1=s∧(kM (aR bl wt).1).2.1=u)(h2:¬(ba a b c d).2=0):
  bF bl wt s u x (a,b,c,d)=(([],((0,0),([],[]))),(ba a b c d).2):=by
 have hf:gI (a,b,c,d)=false :=by
  rw [AA] at h2
  cases q:ke a b c d
  · exact q
  · rw [q] at h2;exact absurd rfl h2
 have e:(ba a b c d).2=1:=by
  rw [AA];rw [show ke a b c d=false from hf];rfl
 unfold bF;rw [if_neg h,if_neg (Qf h1),if_pos hf,e]
theorem XH {a b c:Int} {d:List UInt8}(h2:(ba a b c d).2=0):ke a b c d=true∧(ba a b c d).1=bV (a,b,c,d):=by
 rw [AA] at h2
 cases q:ke a b c d
 · rw [q] at h2;cases h2
 · refine⟨rfl,?_⟩
   unfold ba;rw [q];rfl
theorem anE {bl:Bs} {wt:Ws} {s u:Int} {y:List (List UInt8)} {z:List aA} {a b c:Int} {d:List UInt8}(h:¬s=4611686018427387904)(h1:(aR bl wt).2=0∧(kM (aR bl wt).1).1=s∧(kM (aR bl wt).1).2.1=u)(h2:(ba a b c d).2=0)(h3:¬(dA y z a b c d).2=0):
  bF bl wt s u (y,z) (a,b,c,d)=(([],((0,0),([],[]))),(dA y z a b c d).2):=by
 have hf:=XH h2
 have XI:(bY (y,z) (a,b,c,d)).2≠0:=h3
 unfold bF;rw [if_neg h,if_neg (Qf h1),if_neg (by rw [show gI (a,b,c,d)=true from hf.1];simp),if_pos XI];rfl
theorem anF {bl:Bs} {wt:Ws} {s u:Int} {y:List (List UInt8)} {z:List aA} {a b c:Int} {d:List UInt8}(h:¬s=4611686018427387904)(h1:(aR bl wt).2=0∧(kM (aR bl wt).1).1=s∧(kM (aR bl wt).1).2.1=u)(h2:(ba a b c d).2=0)(h3:(dA y z a b c d).2=0)
  (h4:dG bl wt-(kM (aR bl wt).1).2.1<((ba a b c d).1.length:Int)):bF bl wt s u (y,z) (a,b,c,d)=(([],((0,0),([],[]))),3):=by
 have hf:=XH h2
 have XI:¬(bY (y,z) (a,b,c,d)).2≠0:=fun q=>q h3
 rw [h1.2.2,hf.2] at h4
 unfold bF;rw [if_neg h,if_neg (Qf h1),if_neg (by rw [show gI (a,b,c,d)=true from hf.1];simp),if_neg XI,if_pos h4]
theorem anG {bl:Bs} {wt:Ws} {s u:Int} {y:List (List UInt8)} {z:List aA} {a b c:Int} {d:List UInt8}(h:¬s=4611686018427387904)(h1:(aR bl wt).2=0∧(kM (aR bl wt).1).1=s∧(kM (aR bl wt).1).2.1=u)(h2:(ba a b c d).2=0)(h3:(dA y z a b c d).2=0)
  (h4:¬dG bl wt-(kM (aR bl wt).1).2.1<((ba a b c d).1.length:Int)):bF bl wt s u (y,z) (a,b,c,d)=
    ((wr (((kM (aR bl wt).1).1+1)%2,clean)::(mh (dZ bl wt (kM (aR bl wt).1).2.1 (ba a b c d).1)++ [(true,0,[]),(false,((kM (aR bl wt).1).1+1)%2,dQ ((kM (aR bl wt).1).1+1) ((kM (aR bl wt).1).2.1+((ba a b c d).1.length:Int))),(true,0,[])]),(((kM (aR bl wt).1).1+1,(kM (aR bl wt).1).2.1+((ba a b c d).1.length:Int)),(dA y z a b c d).1)),0):=by
 have hf:=XH h2
 have XI:¬(bY (y,z) (a,b,c,d)).2≠0:=fun q=>q h3
 rw [h1.2.2,hf.2] at h4
 unfold bF;rw [if_neg h,if_neg (Qf h1),if_neg (by rw [show gI (a,b,c,d)=true from hf.1];simp),if_neg XI,if_neg h4,h1.2.2,h1.2.1,hf.2];rfl
theorem JZ {bl:Bs} {wt:Ws}(h1:(aR bl wt).2=0):0≤(kM (aR bl wt).1).1∧(kM (aR bl wt).1).1≤4611686018427387904∧0≤(kM (aR bl wt).1).2.1∧(kM (aR bl wt).1).2.1≤300000∧(kM (aR bl wt).1).2.1≤dG bl wt:=by
 have h4:=lO bl wt
 unfold aR at h1 ⊢
 split at h1
 · cases h1
 · rename_i q1
   rw [if_neg q1]
   split at h1
   · cases h1
   · rename_i q2
     rw [if_neg q2]
     have hc:=Mr (bl:=bl) (wt:=wt) (by simpa using q2)
     split at h1
     · cases h1
     · rename_i q3
       rw [if_neg q3]
       simp only [kM]
       simp only [dG] at hc ⊢
       omega
theorem AD(bl:Bs)(wt:Ws):dG bl wt≤300000∧ -200≤dG bl wt:=by
 have h4:=lO bl wt
 simp only [dG];omega
theorem qw {a b c:Int} {d:List UInt8}:(ba a b c d).1.length≤60000:=by
 unfold ba
 cases q:ke a b c d
 · simp
 · exact zn (e:=(a,b,c,d)) q
theorem HH(bl:Bs)(wt:Ws)(a:Int)(b:List UInt8):(mh (dZ bl wt a b)).length≤b.length:=by
 unfold mh dZ;rw [List.length_map];exact EZ _ _ _ _ _
theorem anH(bl:Bs)(wt:Ws)(l:List lj)(f:Int):mL bl wt l f (0,bl,wt):=⟨Nat.zero_le _,by simp [ta]⟩
theorem drop_cons {α:Type}(l:List α)(k:Nat)(d:α)(h:k<l.length):l.drop k=l.getD k d::l.drop (k+1):=by
 rw [List.drop_eq_getElem_cons h,List.getD_eq_getElem?_getD,List.getElem?_eq_getElem h];rfl
theorem ae4 {bl:Bs} {wt:Ws} {l:List lj} {f:Int} {k:Nat×Bs×Ws}(h:mL bl wt l f k)(hk:(k.1:Int)<l.length)(hf:f≤(k.1:Int)):ta bl wt l f=((k.2.1,k.2.2),k.1):=by
 obtain⟨h0,h1⟩:=h
 rw [drop_cons l k.1 (false,0,[]) (by omega)] at h1
 simp only [eB] at h1
 rw [if_pos (by omega)] at h1
 exact h1.symm
theorem XJ {bl:Bs} {wt:Ws} {l:List lj} {f:Int} {k:Nat×Bs×Ws}(h:mL bl wt l f k)(hk:(k.1:Int)<l.length)(hf:¬f≤(k.1:Int))(hs:(l.getD ((k.1:Int)).toNat (false,0,[])).1=true):mL bl wt l f (k.1+1,sync k.2.1 k.2.2,[]):=by
 obtain⟨h0,h1⟩:=h
 rw [Int.toNat_natCast] at hs
 rw [drop_cons l k.1 (false,0,[]) (by omega)] at h1
 simp only [eB] at h1
 rw [if_neg (by omega),if_pos hs] at h1
 exact⟨by simp only;omega,h1⟩
theorem Qg {bl:Bs} {wt:Ws} {l:List lj} {f:Int} {k:Nat×Bs×Ws}(h:mL bl wt l f k)(hk:(k.1:Int)<l.length)(hf:¬f≤(k.1:Int))(hs:(l.getD ((k.1:Int)).toNat (false,0,[])).1=false)(he:¬kL k.2.1 k.2.2 (l.getD k.1 (false,0,[])).2.1 (l.getD k.1 (false,0,[])).2.2=0):ta bl wt l f=((k.2.1,k.2.2),k.1):=by
 obtain⟨h0,h1⟩:=h
 rw [Int.toNat_natCast] at hs
 rw [drop_cons l k.1 (false,0,[]) (by omega)] at h1
 simp only [eB] at h1
 rw [if_neg (by omega),if_neg (by rw [hs];simp),if_pos he] at h1
 exact h1.symm
theorem UX {bl:Bs} {wt:Ws} {l:List lj} {f:Int} {k:Nat×Bs×Ws}(h:mL bl wt l f k)(hk:(k.1:Int)<l.length)(hf:¬f≤(k.1:Int))(hs:(l.getD ((k.1:Int)).toNat (false,0,[])).1=false)(he:kL k.2.1 k.2.2 (l.getD k.1 (false,0,[])).2.1 (l.getD k.1 (false,0,[])).2.2=0):
  mL bl wt l f (k.1+1,wB k.2.1 k.2.2,wW k.2.1 k.2.2 (l.getD ((k.1:Int)).toNat (false,0,[])).2.1 (l.getD ((k.1:Int)).toNat (false,0,[])).2.2):=by
 obtain⟨h0,h1⟩:=h
 rw [Int.toNat_natCast] at hs ⊢
 rw [drop_cons l k.1 (false,0,[]) (by omega)] at h1
 simp only [eB] at h1
 rw [if_neg (by omega),if_neg (by rw [hs];simp),if_neg (fun q=>q he)] at h1
 exact⟨by simp only;omega,h1⟩
theorem Qh {bl:Bs} {wt:Ws} {l:List lj} {f:Int} {k:Nat×Bs×Ws}(h:mL bl wt l f k)(hk:¬(k.1:Int)<l.length):ta bl wt l f=((k.2.1,k.2.2),l.length):=by
 obtain⟨h0,h1⟩:=h
 have e:k.1=l.length:=by omega
 rw [e,List.drop_length] at h1
 exact h1.symm
end Go.S

end
section
namespace Go.S
theorem O1(docs:List (List UInt8))(l:List aA)(a b c:Int)(d:List UInt8):aW (dA docs l a b c d).1.1 (dA docs l a b c d).1.2=true :=by
 unfold dA
 split
 · exact append_right _ _ _
 · split
   · exact ov _ _
   · split
     · exact merge_right _ _ _ _
     · split
       · exact qP _ _
       · exact iE _ _
theorem GB {docs:List (List UInt8)} {l:List aA}(h:aW docs l=true):small l:=by
 have h:=RI.of h
 have hb:=h.bd
 have hle:=h.le
 unfold small;omega
end Go.S

end
section
namespace Go.S
theorem aaE(bl:Bs)(wt:Ws):bp (bl,wt)=(kM (aR bl wt).1,(aR bl wt).2):=rfl
theorem K.small {bl:Bs} {s u:Int} {x:eI}(k:K bl s u x):Go.S.small (bp (bl,[])).1.2.2.2:=by
 rw [aaE,k.opens]
 exact GB k.zl
theorem isK.small {bl:Bs}(h:∃s u x,K bl s u x∧s≤51):Go.S.small (bp (bl,[])).1.2.2.2:=by
 obtain⟨s,u,x,k,_⟩:=h
 exact k.small
end Go.S

end
section
namespace Go.S
end Go.S

end
section
namespace Go.S
end Go.S

end
section
namespace Go.S
theorem E1:∀(l:List lj) (f:Nat) (bl:Bs) (wt:Ws) (d:Nat),(eB l f bl wt d).2≤d∨(eB l f bl wt d).2≤f
 | [],_,_,_,d=> .inl (Nat.le_refl d)
 |c::r,f,bl,wt,d=>by
  unfold eB
  split
  · exact .inl (Nat.le_refl d)
  · rename_i h
    split
    · rcases E1 r f (sync bl wt) [] (d+1) with q|q<;>exact .inr (by omega)
    · split
      · exact .inl (Nat.le_refl d)
      · rcases E1 r f (wB bl wt) (wW bl wt c.2.1 c.2.2) (d+1) with q|q<;>exact .inr (by omega)
theorem aaF(d:Bs×Ws)(l:List lj)(f:Int):(lY d l f).2≤0∨(lY d l f).2≤f:=by
 show(((ta d.1 d.2 l f).2:Nat):Int)≤0∨(((ta d.1 d.2 l f).2:Nat):Int)≤f
 unfold ta
 rcases E1 l f.toNat d.1 d.2 0 with q|q<;>omega
end Go.S

end
section
namespace Go.S
abbrev gi:=Bs×Ws×Int×Int×List (List UInt8)×List aA×Bool×Int
abbrev zt:=Int×Int×Int×Int×Int×List UInt8×List Int
def lR(x:gi):Bool:=x.2.2.2.2.2.2.1
def UY(x:gi):Int:=x.2.2.2.2.2.2.2
def XK(x:gi):List (List UInt8):=x.2.2.2.2.1
def gJ(bl:Bs)(wt:Ws)(s u:Int)(y:eI)(up:Bool)(fu:Int):gi:=(bl,wt,s,u,y.1,y.2,up,fu)
def pN(x:gi)(c:List lj):Int:=if UY x<0 then(c.length:Int) else UY x
def mM(x:gi)(c:List lj):(Bs×Ws)×Nat:=ta x.1 x.2.1 c (pN x c)
def eJ(x:gi)(c:List lj):gi:=gJ (mM x c).1.1 (mM x c).1.2 x.2.2.1 x.2.2.2.1 (x.2.2.2.2.1,x.2.2.2.2.2.1) (lR x) (if UY x<0 then UY x else UY x-((mM x c).2:Nat))
def iT(x:gi)(c:List lj):Bool:=decide ((((mM x c).2:Nat):Int)=c.length)
def J0(x:gi):gi:=(x.1,x.2.1,x.2.2.1,x.2.2.2.1,x.2.2.2.2.1,x.2.2.2.2.2.1,false,-1)
def Ca(x:gi)(e:db):(List lj×Stt)×Int:=bF x.1 x.2.1 x.2.2.1 x.2.2.2.1 (x.2.2.2.2.1,x.2.2.2.2.2.1) e
def J1(x:gi)(t:Stt):gi:=gJ x.1 x.2.1 t.1.1 t.1.2 t.2 (lR x) (UY x)
def dB(x:gi)(e:db):gi×Int:=
 if lR x=false then(x,7)
 else if(Ca x e).2≠0 then(x,(Ca x e).2)
 else if iT x (Ca x e).1.1=false then(J0 (eJ x (Ca x e).1.1),7)
 else(J1 (eJ x (Ca x e).1.1) (Ca x e).1.2,0)
def ax(x:gi)(some:List Int):gi:=(ka x.1 x.2.1 some,[],x.2.2.1,x.2.2.2.1,x.2.2.2.2.1,x.2.2.2.2.2.1,false,-1)
def al(x:gi):gi×Int:=
 if lR x=true then(x,0)
 else if(aR (sync x.1 x.2.1) []).2≠0 then(x,(aR (sync x.1 x.2.1) []).2)
 else(gJ (sync x.1 x.2.1) [] (aR (sync x.1 x.2.1) []).1.1.1 (aR (sync x.1 x.2.1) []).1.1.2 (aR (sync x.1 x.2.1) []).1.2 true (-1),0)
def lNo:gi:=([],[],0,0,[],[],false,0)
def cx(n:Int):gi×Int:=
 if nZ n≠0 then(lNo,nZ n)
 else if(aR (j1 n) []).2≠0 then(lNo,1)
 else(gJ (j1 n) [] (aR (j1 n) []).1.1.1 (aR (j1 n) []).1.1.2 (aR (j1 n) []).1.2 true (-1),0)
def O2(a:zt):db:=(a.2.2.1,a.2.2.2.1,a.2.2.2.2.1,a.2.2.2.2.2.1)
def bc(x:gi)(a:zt):gi×Int:=
 if a.1=0 then dB x (O2 a) else if a.1=1 then(ax x a.2.2.2.2.2.2,0) else if a.1=2 then al x
 else((x.1,x.2.1,x.2.2.1,x.2.2.2.1,x.2.2.2.2.1,x.2.2.2.2.2.1,x.2.2.2.2.2.2.1,a.2.1),0)
theorem UZ {x:eI}(hx:aW x.1 x.2=true) {e:db}(h:(bY x e).2=0):(bY x e).1.1=if e.1=0 then x.1++ [e.2.2.2] else x.1:=by
 obtain⟨a,b,c,d⟩:=e
 have hg:=gd hx
 simp only [bY,dA] at h ⊢
 by_cases h0:a=0
 · rw [if_pos h0] at h ⊢
   rw [if_pos h0]
   unfold bq at h ⊢
   split at h
   · cases h
   · rename_i q1
     rw [if_neg q1]
     split at h
     · cases h
     · rename_i q2
       rw [if_neg q2,hg]
 · rw [if_neg h0] at h ⊢
   rw [if_neg h0]
   by_cases h1:a=1
   · rw [if_pos h1] at h ⊢
     unfold aY at h ⊢
     split at h
     · cases h
     · rename_i q1
       rw [if_neg q1]
       split at h
       · cases h
       · rename_i q2
         rw [if_neg q2,hg]
   · rw [if_neg h1] at h ⊢
     by_cases h2:a=2
     · rw [if_pos h2] at h ⊢
       unfold cn at h ⊢
       split at h
       · cases h
       · rename_i q1
         rw [if_neg q1,hg]
     · rw [if_neg h2] at h ⊢
       by_cases h3:a=3
       · rw [if_pos h3]
         unfold c5;rw [hg]
       · rw [if_neg h3] at h
         cases h
theorem J2:∀(l:List lj) (f:Nat) (bl:Bs) (wt:Ws) (d:Nat),d≤f→(eB l f bl wt d).2≤f
 | [],f,bl,wt,d,h=>h
 |c::r,f,bl,wt,d,h=>by
  rw [eB]
  split
  · exact h
  · split
    · exact J2 r f _ _ _ (by omega)
    · split
      · exact h
      · exact J2 r f _ _ _ (by omega)
theorem U0 {bl:Bs}(h:aJ bl []=true):sync bl []=bl:=by
 unfold sync;rw [jC h,pJ h];rfl
def LI(x:gi)(sure:List (List UInt8))(n:Nat):Prop :=∃s u y fu,x=gJ x.1 [] s u y true fu∧K x.1 s u y∧s≤n∧y.1=sure
theorem K.zu {bl:Bs} {s u:Int} {y:eI}(k:K bl s u y)(a b:Int)(i:List (List UInt8))(j:List aA)(fu:Int):al (bl,[],a,b,i,j,false,fu)=(gJ bl [] s u y true (-1),0):=by
 unfold al
 simp only [lR]
 rw [if_neg (by simp),U0 k.right,k.opens]
 rfl
theorem K.LI {bl:Bs} {s u:Int} {y:eI}(k:K bl s u y) {n:Nat}(hs:s≤n)(fu:Int):LI (gJ bl [] s u y true fu) y.1 n:=⟨s,u,y,fu,rfl,k,hs,rfl⟩
def lS(sure:List (List UInt8))(a:zt)(e:Int):List (List UInt8):=if a.1=0∧(O2 a).1=0∧e=0 then sure++ [(O2 a).2.2.2] else sure
theorem xM {bl:Bs} {s u:Int} {y:eI}(k:K bl s u y)(fu:Int)(some:List Int):ax (gJ bl [] s u y true fu) some=(bl,[],s,u,y.1,y.2,false,-1):=by
 unfold ax gJ
 simp only
 rw [vU k.right]
theorem vZ {x:gi} {sure:List (List UInt8)} {n:Nat}(h:LI x sure n)(hn:n≤100)(a:zt)(some:List Int):
  (lR (bc x a).1=true→LI (bc x a).1 (lS sure a (bc x a).2) (n+1))∧
  (lR (bc x a).1=false→lS sure a (bc x a).2=sure∧(al (ax (bc x a).1 some)).2=0∧
    (LI (al (ax (bc x a).1 some)).1 sure (n+1)∨(a.1=0∧(O2 a).1=0∧LI (al (ax (bc x a).1 some)).1 (sure++ [(O2 a).2.2.2]) (n+1)))):=by
 obtain⟨s,u,y,fu,hx,k,hs,rfl⟩:=h
 generalize x.1=bl at hx k
 subst hx
 unfold bc
 by_cases h0:a.1=0
 · rw [if_pos h0]
   generalize he:O2 a=e
   have hl:Ca (gJ bl [] s u y true fu) e=bF bl [] s u y e:=rfl
   unfold dB
   rw [if_neg (show ¬lR (gJ bl [] s u y true fu)=false by simp [lR,gJ]),hl]
   rcases k.may (by omega) e with⟨h1,h2⟩|⟨h1,h2,h3,h4⟩
   · rw [if_pos h1]
     refine⟨fun _=> ?_,fun q=>by simp [lR,gJ] at q⟩
     have :lS y.1 a (bF bl [] s u y e).2=y.1:=by unfold lS;rw [if_neg (fun q=>h1 q.2.2)]
     rw [this]
     exact k.LI (by omega) fu
   · rw [h1]
     simp only [ne_eq,not_true_eq_false,if_false]
     generalize Nx:fi bl [] s u (bV e)=ch
     have c:=k.cut h2 h3 (by omega) h4 (zn h2) (pN (gJ bl [] s u y true fu) ch).toNat
     rw [Nx] at c
     have ed:mM (gJ bl [] s u y true fu) ch=eB ch (pN (gJ bl [] s u y true fu) ch).toNat bl [] 0:=rfl
     rw [←ed] at c
     have hle:(mM (gJ bl [] s u y true fu) ch).2≤(pN (gJ bl [] s u y true fu) ch).toNat:=by rw [ed];exact J2 _ _ _ _ _ (Nat.zero_le _)
     have hd:(bY y e).1.1=if e.1=0 then y.1++ [e.2.2.2] else y.1:=UZ k.zl h3
     by_cases Gv:iT (gJ bl [] s u y true fu) ch=false
     · rw [if_pos Gv]
       refine⟨fun q=>by simp [lR,J0] at q,fun _=> ?_⟩
       have Ky:lS y.1 a 7=y.1:=by unfold lS;rw [if_neg (fun q=>absurd q.2.2 (by decide))]
       refine⟨Ky,?_⟩
       have ecr:ax (J0 (eJ (gJ bl [] s u y true fu) ch)) some=(ka (mM (gJ bl [] s u y true fu) ch).1.1 (mM (gJ bl [] s u y true fu) ch).1.2 some,[],s,u,y.1,y.2,false,-1):=rfl
       rw [ecr]
       rcases c.2.1 some with⟨n1,K1⟩|⟨n1,K1⟩
       · rw [K1.zu]
         exact⟨rfl, .inl (K1.LI (by omega) _)⟩
       · rw [K1.zu]
         refine⟨rfl,?_⟩
         have L:=K1.LI (n:=n+1) (by omega) (-1)
         rw [hd] at L
         by_cases e0:e.1=0
         · rw [if_pos e0] at L
           exact .inr ⟨h0,e0,L⟩
         · rw [if_neg e0] at L
           exact .inl L
     · rw [if_neg Gv]
       have ja:(mM (gJ bl [] s u y true fu) ch).2=ch.length:=by
        unfold iT at Gv
        simp only [decide_eq_false_iff_not,Decidable.not_not] at Gv
        omega
       have c3:=c.2.2 (by omega)
       refine⟨fun _=> ?_,fun q=>by simp [lR,gJ,J1,eJ] at q⟩
       have ex:J1 (eJ (gJ bl [] s u y true fu) ch) ((s+1,u+((bV e).length:Int)),(bY y e).1)=gJ (mM (gJ bl [] s u y true fu) ch).1.1 [] (s+1) (u+((bV e).length:Int)) (bY y e).1 true (if fu<0 then fu else fu-((mM (gJ bl [] s u y true fu) ch).2:Nat)):=by
        exact Prod.ext rfl (Prod.ext c3.2.1 rfl)
       rw [ex]
       have L:=c3.2.2.LI (n:=n+1) (by omega) (if fu<0 then fu else fu-((mM (gJ bl [] s u y true fu) ch).2:Nat))
       have :lS y.1 a 0=(bY y e).1.1:=by
        unfold lS
        rw [hd,he]
        by_cases e0:e.1=0
        · rw [if_pos e0,if_pos ⟨h0,e0,rfl⟩]
        · rw [if_neg e0,if_neg (fun q=>e0 q.2.1)]
       rw [this];exact L
 · rw [if_neg h0]
   have Ky:∀v,lS y.1 a v=y.1:=fun v=>by unfold lS;rw [if_neg (fun q=>h0 q.1)]
   by_cases h1:a.1=1
   · rw [if_pos h1]
     refine⟨fun q=>by simp [lR,ax] at q,fun _=>⟨Ky _,?_⟩⟩
     simp only
     rw [xM k]
     have :ax (bl,[],s,u,y.1,y.2,false,-1) some=(bl,[],s,u,y.1,y.2,false,-1):=by
      unfold ax;simp only;rw [vU k.right]
     rw [this,k.zu]
     exact⟨rfl, .inl (k.LI (by omega) _)⟩
   · rw [if_neg h1]
     by_cases h2:a.1=2
     · rw [if_pos h2]
       have :al (gJ bl [] s u y true fu)=(gJ bl [] s u y true fu,0):=by unfold al;rw [if_pos (by rfl)]
       rw [this]
       refine⟨fun _=> ?_,fun q=>by simp [lR,gJ] at q⟩
       rw [Ky];exact k.LI (by omega) fu
     · rw [if_neg h2]
       refine⟨fun _=> ?_,fun q=>by simp [lR,gJ] at q⟩
       rw [Ky]
       exact k.LI (by omega) a.2.1
theorem Mt {n:Int}(h:US n):(cx n).2=0∧LI (cx n).1 [] 0:=by
 have hk:=ahs (n:=n.toNat) (by have :=h.1;omega) (by have :=h.2;omega)
 have hz:j1 n=wX n.toNat:=by
  unfold j1
  rw [if_neg (by have :=h.1;have :=h.2;omega)];rfl
 have he:nZ n=0:=by
  unfold nZ
  rw [if_neg (by have :=h.1;have :=h.2;omega)]
 unfold cx
 rw [he,hz,hk.opens]
 exact⟨rfl,hk.LI (by omega) (-1)⟩
theorem XL {x:gi} {sure:List (List UInt8)} {n:Nat}(h:LI x sure n)(some:List Int):(al (ax x some)).2=0∧XK (al (ax x some)).1=sure:=by
 obtain⟨s,u,y,fu,hx,k,hs,rfl⟩:=h
 generalize x.1=bl at hx k
 subst hx
 rw [xM k,k.zu]
 exact⟨rfl,rfl⟩
end Go.S

end
section
namespace Go.S
def dj(x:gi):Prop :=small x.1∧(∀b∈x.1,small b)∧small x.2.1∧(∀w∈x.2.1,small w.2)∧lL x.2.2.2.2.1 x.2.2.2.2.2.1
def v7(a:zt):Bool:=decide ((a.2.2.2.2.2.1.length:Int)≤2500)&&decide ((a.2.2.2.2.2.2.length:Int)≤300)
def gr(k:Nat×gi×List (List UInt8)):Prop :=LI k.2.1 k.2.2 k.1∧k.1≤40
def sM(l:List aA)(k:Nat×Nat):Prop :=k.2<l.length∧k.1≤(ar l k.2).2.2.length
theorem E2 {bl:Bs} {wt:Ws}(h:aJ bl wt=true):small bl∧(∀b∈bl,small b)∧small wt∧(∀w∈wt,small w.2):=by
 have r:=ct.1 h
 refine⟨by unfold small;omega,fun b hb=>by have :=r.2.2.1 b hb;unfold small;omega,by unfold small;omega,fun w hw=>by have :=(r.2.2.2 w hw).2.2;unfold small;omega⟩
theorem u3 {bl:Bs} {wt:Ws} {s u:Int} {y:eI} {up:Bool} {fu:Int}(h:aJ bl wt=true)(hy:aW y.1 y.2=true):dj (gJ bl wt s u y up fu):=by
 have r:=E2 h
 exact⟨r.1,r.2.1,r.2.2.1,r.2.2.2,(RI.of hy).small⟩
theorem LI.pre {x:gi} {sure:List (List UInt8)} {n:Nat}(h:LI x sure n):dj x:=by
 obtain⟨s,u,y,fu,hx,k,hs,rfl⟩:=h
 rw [hx]
 exact u3 k.right k.zl
theorem LI.more {x:gi} {sure:List (List UInt8)} {n:Nat}(h:LI x sure n):LI x sure (n+1):=by
 obtain⟨s,u,y,fu,hx,k,hs,rfl⟩:=h
 exact⟨s,u,y,fu,hx,k,by omega,rfl⟩
theorem LI.up {x:gi} {sure:List (List UInt8)} {n:Nat}(h:LI x sure n):lR x=true∧XK x=sure∧sure.length≤1000:=by
 obtain⟨s,u,y,fu,hx,k,hs,rfl⟩:=h
 rw [hx]
 exact⟨rfl,rfl,by have :=(RI.of k.zl).bd;omega⟩
theorem Qi {x:gi} {sure:List (List UInt8)} {n:Nat}(h:LI x sure n)(hn:n≤100)(a:zt):dj (bc x a).1:=by
 obtain⟨s,u,y,fu,hx,k,hs,rfl⟩:=h
 generalize x.1=bl at hx k
 subst hx
 have hy:=k.zl
 unfold bc
 by_cases h0:a.1=0
 · rw [if_pos h0]
   generalize O2 a=e
   have hl:Ca (gJ bl [] s u y true fu) e=bF bl [] s u y e:=rfl
   unfold dB
   rw [if_neg (show ¬lR (gJ bl [] s u y true fu)=false by simp [lR,gJ]),hl]
   rcases k.may (by omega) e with⟨h1,h2⟩|⟨h1,h2,h3,h4⟩
   · rw [if_pos h1];exact u3 k.right hy
   · rw [h1]
     simp only [ne_eq,not_true_eq_false,if_false]
     generalize Nx:fi bl [] s u (bV e)=ch
     have c:=k.cut h2 h3 (by omega) h4 (zn h2) (pN (gJ bl [] s u y true fu) ch).toNat
     rw [Nx] at c
     have ed:mM (gJ bl [] s u y true fu) ch=eB ch (pN (gJ bl [] s u y true fu) ch).toNat bl [] 0:=rfl
     rw [←ed] at c
     have r:=E2 c.1
     split
     · exact⟨r.1,r.2.1,r.2.2.1,r.2.2.2,(RI.of hy).small⟩
     · have hz:aW (bY y e).1.1 (bY y e).1.2=true :=O1 _ _ _ _ _ _
       exact⟨r.1,r.2.1,r.2.2.1,r.2.2.2,(RI.of hz).small⟩
 · rw [if_neg h0]
   split
   · show dj (ax (gJ bl [] s u y true fu) _)
     rw [xM k]
     exact u3 k.right hy
   · split
     · have :al (gJ bl [] s u y true fu)=(gJ bl [] s u y true fu,0):=by unfold al;rw [if_pos (by rfl)]
       rw [this];exact u3 k.right hy
     · exact u3 (fu:=a.2.1) k.right hy
end Go.S

end
section
namespace Go.S
theorem Mu {l:List (List UInt8)}(h:∀b∈l,small b)(k:Nat):small (l.getD k []):=by
 by_cases hk:k<l.length
 · exact h _ (bo _ k _ hk)
 · rw [List.getD_eq_getElem?_getD,List.getElem?_eq_none (by omega)];simp [small]
theorem Mv {l:List (Int×List UInt8)}(h:∀w∈l,small w.2)(k:Nat):small (l.getD k (0,[])).2:=by
 by_cases hk:k<l.length
 · exact h _ (bo _ k _ hk)
 · rw [List.getD_eq_getElem?_getD,List.getElem?_eq_none (by omega)];simp [small]
theorem ahw {l:List aA} {k:Nat}(h:(k:Int)<l.length):sM l (0,k):=⟨Int.ofNat_lt.1 h,Nat.zero_le _⟩
theorem ahx {l:List aA} {k:Nat×Nat}(h:sM l k)(h1:(k.1:Int)<(l.getD k.2 (0,0,[])).2.2.length):sM l (k.1+1,k.2):=⟨h.1,Int.ofNat_lt.1 h1⟩
theorem ahy {l:List aA} {k:Nat×Nat}(h1:(k.1:Int)<(l.getD k.2 (0,0,[])).2.2.length):ah (len (ar l k.2).2.2) (k.1+1)<ah (len (ar l k.2).2.2) k.1:=by
 have h:(k.1:Int)<(ar l k.2).2.2.length:=h1
 simp only [ah,len]
 omega
theorem XM(l:List aA)(j:Nat):l.set (j:Int).toNat ((l.getD (j:Int).toNat (0,0,[])).1,(l.getD (j:Int).toNat (0,0,[])).2.1,(ar l j).2.2)=l:=jQ (0,0,[]) l j
section
variable {l1:List (List UInt8)} {l2:List (Int×List UInt8)} {l3 l4:Int} {l5:List (List UInt8)} {l6:List aA} {l7:Bool} {l8:Int} {e:db}
theorem XN(l:List lj):pN (l1,l2,l3,l4,l5,l6,l7,l8) l=bif decide (l8<0) then(l.length:Int) else l8:=by
 show(if l8<0 then(l.length:Int) else l8)=_
 by_cases h:l8<0
 · rw [if_pos h,decide_eq_true h];rfl
 · rw [if_neg h,decide_eq_false h];rfl
theorem XO(l:List lj):eJ (l1,l2,l3,l4,l5,l6,l7,l8) l=
  ((lY (l1,l2) l (bif decide (l8<0) then(l.length:Int) else l8)).1.1,(lY (l1,l2) l (bif decide (l8<0) then(l.length:Int) else l8)).1.2,l3,l4,l5,l6,l7,
    bif decide (0≤l8) then l8-(lY (l1,l2) l (bif decide (l8<0) then(l.length:Int) else l8)).2 else l8):=by
 show((ta l1 l2 l (pN (l1,l2,l3,l4,l5,l6,l7,l8) l)).1.1,(ta l1 l2 l (pN (l1,l2,l3,l4,l5,l6,l7,l8) l)).1.2,l3,l4,l5,l6,l7,
  if l8<0 then l8 else l8-((ta l1 l2 l (pN (l1,l2,l3,l4,l5,l6,l7,l8) l)).2:Nat))=_
 rw [XN]
 by_cases h:l8<0
 · rw [if_pos h,decide_eq_false (show ¬0≤l8 by omega)];rfl
 · rw [if_neg h,decide_eq_true (show 0≤l8 by omega)];rfl
theorem ahz(l:List lj):decide ((lY (l1,l2) l (bif decide (l8<0) then(l.length:Int) else l8)).2=(l.length:Int))=iT (l1,l2,l3,l4,l5,l6,l7,l8) l:=by
 show _=decide ((((ta l1 l2 l (pN (l1,l2,l3,l4,l5,l6,l7,l8) l)).2:Nat):Int)=l.length)
 rw [XN]
 rfl
theorem XP(l:List lj)(h:0≤l8):0≤l8-(lY (l1,l2) l (bif decide (l8<0) then(l.length:Int) else l8)).2∧0≤(lY (l1,l2) l (bif decide (l8<0) then(l.length:Int) else l8)).2:=by
 rw [decide_eq_false (show ¬l8<0 by omega),cond_false]
 have q:=aaF (l1,l2) l l8
 have q2:0≤(lY (l1,l2) l l8).2:=Int.natCast_nonneg _
 omega
theorem ae5 {n:Int}(h:¬nZ n=0):cx n=(lNo,nZ n):=by unfold cx;rw [if_pos h]
theorem ae6 {n:Int}(h:nZ n=0)(h2:¬(bp (j1 n,[])).2=0):cx n=(lNo,1):=by unfold cx;rw [if_neg (by simp [h]),if_pos (by exact h2)]
theorem ae7 {n:Int}(h:nZ n=0)(h2:(bp (j1 n,[])).2=0):cx n=((j1 n,[],(bp (j1 n,[])).1.1,(bp (j1 n,[])).1.2.1,(bp (j1 n,[])).1.2.2.1,(bp (j1 n,[])).1.2.2.2,true,-1),0):=by
 unfold cx
 rw [if_neg (by simp [h]),if_neg (show ¬(aR (j1 n) []).2≠0 from fun w=>w h2)]
 rfl
theorem ae8(h:l7=false):dB (l1,l2,l3,l4,l5,l6,l7,l8) e=((l1,l2,l3,l4,l5,l6,l7,l8),7):=by unfold dB;rw [if_pos (by exact h)]
theorem ae9(h:l7=true)(h2:¬(cW (l1,l2) (l3,l4,l5,l6) e).2.2=0):dB (l1,l2,l3,l4,l5,l6,l7,l8) e=((l1,l2,l3,l4,l5,l6,l7,l8),(cW (l1,l2) (l3,l4,l5,l6) e).2.2):=by
 unfold dB
 rw [if_neg (show ¬lR (l1,l2,l3,l4,l5,l6,l7,l8)=false by simp [lR,h]),if_pos (by exact h2)]
 rfl
theorem afa(h:l7=true)(h2:(cW (l1,l2) (l3,l4,l5,l6) e).2.2=0)(h3:iT (l1,l2,l3,l4,l5,l6,l7,l8) (cW (l1,l2) (l3,l4,l5,l6) e).1=false):
  dB (l1,l2,l3,l4,l5,l6,l7,l8) e=(J0 (eJ (l1,l2,l3,l4,l5,l6,l7,l8) (cW (l1,l2) (l3,l4,l5,l6) e).1),7):=by
 unfold dB
 rw [if_neg (show ¬lR (l1,l2,l3,l4,l5,l6,l7,l8)=false by simp [lR,h]),if_neg (show ¬(Ca (l1,l2,l3,l4,l5,l6,l7,l8) e).2≠0 from fun w=>w h2),if_pos (by exact h3)]
 rfl
theorem afb(h:l7=true)(h2:(cW (l1,l2) (l3,l4,l5,l6) e).2.2=0)(h3:iT (l1,l2,l3,l4,l5,l6,l7,l8) (cW (l1,l2) (l3,l4,l5,l6) e).1=true):
  dB (l1,l2,l3,l4,l5,l6,l7,l8) e=(((eJ (l1,l2,l3,l4,l5,l6,l7,l8) (cW (l1,l2) (l3,l4,l5,l6) e).1).1,(eJ (l1,l2,l3,l4,l5,l6,l7,l8) (cW (l1,l2) (l3,l4,l5,l6) e).1).2.1,
   (cW (l1,l2) (l3,l4,l5,l6) e).2.1.1,(cW (l1,l2) (l3,l4,l5,l6) e).2.1.2.1,(cW (l1,l2) (l3,l4,l5,l6) e).2.1.2.2.1,(cW (l1,l2) (l3,l4,l5,l6) e).2.1.2.2.2,
   (eJ (l1,l2,l3,l4,l5,l6,l7,l8) (cW (l1,l2) (l3,l4,l5,l6) e).1).2.2.2.2.2.2.1,(eJ (l1,l2,l3,l4,l5,l6,l7,l8) (cW (l1,l2) (l3,l4,l5,l6) e).1).2.2.2.2.2.2.2),0):=by
 unfold dB
 rw [if_neg (show ¬lR (l1,l2,l3,l4,l5,l6,l7,l8)=false by simp [lR,h]),if_neg (show ¬(Ca (l1,l2,l3,l4,l5,l6,l7,l8) e).2≠0 from fun w=>w h2),if_neg (show ¬iT (l1,l2,l3,l4,l5,l6,l7,l8) (Ca (l1,l2,l3,l4,l5,l6,l7,l8) e).1.1=false from fun w=>by rw [show iT (l1,l2,l3,l4,l5,l6,l7,l8) (Ca (l1,l2,l3,l4,l5,l6,l7,l8) e).1.1=true from h3] at w;cases w)]
 rfl
theorem afc(h:l7=true):al (l1,l2,l3,l4,l5,l6,l7,l8)=((l1,l2,l3,l4,l5,l6,l7,l8),0):=by unfold al;rw [if_pos (by exact h)]
theorem afd(h:l7=false)(h2:¬(bp (jE (l1,l2),[])).2=0):al (l1,l2,l3,l4,l5,l6,l7,l8)=((l1,l2,l3,l4,l5,l6,l7,l8),(bp (jE (l1,l2),[])).2):=by
 unfold al
 rw [if_neg (show ¬lR (l1,l2,l3,l4,l5,l6,l7,l8)=true by simp [lR,h]),if_pos (by exact h2)]
 rfl
theorem afe(h:l7=false)(h2:(bp (jE (l1,l2),[])).2=0):al (l1,l2,l3,l4,l5,l6,l7,l8)=((jE (l1,l2),[],(bp (jE (l1,l2),[])).1.1,(bp (jE (l1,l2),[])).1.2.1,(bp (jE (l1,l2),[])).1.2.2.1,(bp (jE (l1,l2),[])).1.2.2.2,true,-1),0):=by
 unfold al
 rw [if_neg (show ¬lR (l1,l2,l3,l4,l5,l6,l7,l8)=true by simp [lR,h]),if_neg (show ¬(aR (sync l1 l2) []).2≠0 from fun w=>w h2)]
 rfl
theorem lsm(a1 a2 a3 a4 a5:Int)(a6:List UInt8)(a7:List Int):(bif decide ((len a6:Int)≤2500) then decide ((a7.length:Int)≤300) else false)=v7 (a1,a2,a3,a4,a5,a6,a7):=by
 unfold v7 len
 simp only
 cases decide ((a6.length:Int)≤2500)<;>rfl
theorem XQ {x:gi} {a1 a2 a3 a4 a5:Int} {a6:List UInt8} {a7:List Int}(h:a1=0):bc x (a1,a2,a3,a4,a5,a6,a7)=dB x (a3,a4,a5,a6):=by unfold bc;rw [if_pos (by exact h)];rfl
theorem aff {x:gi} {a1 a2 a3 a4 a5:Int} {a6:List UInt8} {a7:List Int}(h:¬a1=0)(h1:a1=1):bc x (a1,a2,a3,a4,a5,a6,a7)=(ax x a7,0):=by unfold bc;rw [if_neg (by exact h),if_pos (by exact h1)]
theorem afg {x:gi} {a1 a2 a3 a4 a5:Int} {a6:List UInt8} {a7:List Int}(h:¬a1=0)(h1:¬a1=1)(h2:a1=2):bc x (a1,a2,a3,a4,a5,a6,a7)=al x:=by unfold bc;rw [if_neg (by exact h),if_neg (by exact h1),if_pos (by exact h2)]
theorem afh {a1 a2 a3 a4 a5:Int} {a6:List UInt8} {a7:List Int}(h:¬a1=0)(h1:¬a1=1)(h2:¬a1=2):bc (l1,l2,l3,l4,l5,l6,l7,l8) (a1,a2,a3,a4,a5,a6,a7)=((l1,l2,l3,l4,l5,l6,l7,a2),0):=by unfold bc;rw [if_neg (by exact h),if_neg (by exact h1),if_neg (by exact h2)]
end
section
variable {x:Nat×gi×List (List UInt8)} {a:zt} {f:List Int}
theorem afi {n:Int}(h:¬n<3∧¬150<n):(cx n).2=0∧gr (0,(cx n).1,[]):=by
 have q:=Mt (n:=n) ⟨by omega,by omega⟩
 exact⟨q.1,q.2,Nat.zero_le _⟩
theorem J3(h:gr x):x.2.2.length≤1000:=h.1.up.2.2
theorem aaH(l:List (List UInt8))(b:List UInt8):(l++ [b]).getD l.length []=b:=by
 rw [List.getD_eq_getElem?_getD,List.getElem?_append_right (Nat.le_refl _),Nat.sub_self];rfl
theorem u4(l:List (List UInt8)):ga l l=true :=by unfold ga;exact decide_eq_true rfl
theorem E3 {l:List zt} {k:Nat}(h:(k:Int)<l.length):ah (len l) (k+1)<ah (len l) k:=by simp only [ah,len];omega
theorem aaI(h:gr x)(f:List Int):(al (ax x.2.1 f)).2=0∧(al (ax x.2.1 f)).1.2.2.2.2.1=x.2.2:=XL h.1 f
end
section
variable {k:Nat} {X:gi} {s:List (List UInt8)} {a:zt} {f:List Int}
theorem qV(h1:LI X s k)(h2:k≤40)(cO:a.1=0∧a.2.2.1=0∧(bc X a).2=0)(fj:(bc X a).1.2.2.2.2.2.2.1=false):False:=by
 have q:=((vZ h1 (by omega) a []).2 fj).1
 unfold lS at q
 rw [if_pos ⟨cO.1,cO.2.1,cO.2.2⟩] at q
 have :=congrArg List.length q
 rw [List.length_append,List.length_singleton] at this
 omega
theorem XR(h1:LI X s k)(h2:k≤40)(hn:(k:Int)<40):gr (k+1,X,s):=⟨h1.more,by simp only;omega⟩
theorem aaJ(h1:LI X s k)(h2:k≤40)(hn:(k:Int)<40)(cO:a.1=0∧a.2.2.1=0∧(bc X a).2=0)(fj:(bc X a).1.2.2.2.2.2.2.1=true):gr (k+1,(bc X a).1,s++ [a.2.2.2.2.2.1]):=by
 have q:=(vZ h1 (by omega) a []).1 fj
 unfold lS at q
 rw [if_pos ⟨cO.1,cO.2.1,cO.2.2⟩] at q
 exact⟨q,by simp only;omega⟩
theorem XS(Mw:¬a.1=0∨¬a.2.2.1=0∨¬(bc X a).2=0):lS s a (bc X a).2=s:=by
 unfold lS
 rw [if_neg]
 rintro⟨w1,w2,w3⟩
 rcases Mw with w|w|w
 · exact w w1
 · exact w w2
 · exact w w3
theorem aaK(h1:LI X s k)(h2:k≤40)(hn:(k:Int)<40)(Mw:¬a.1=0∨¬a.2.2.1=0∨¬(bc X a).2=0)(fj:(bc X a).1.2.2.2.2.2.2.1=true):gr (k+1,(bc X a).1,s):=by
 have q:=(vZ h1 (by omega) a []).1 fj
 rw [XS Mw] at q
 exact⟨q,by simp only;omega⟩
theorem O3(h1:LI X s k)(h2:k≤40)(hn:(k:Int)<40)(fj:(bc X a).1.2.2.2.2.2.2.1=false)(f:List Int):(al (ax (bc X a).1 f)).2=0∧
  (((al (ax (bc X a).1 f)).1.2.2.2.2.1=s∧gr (k+1,(al (ax (bc X a).1 f)).1,s))∨
   (a.1=0∧(al (ax (bc X a).1 f)).1.2.2.2.2.1=s++ [a.2.2.2.2.2.1]∧gr (k+1,(al (ax (bc X a).1 f)).1,s++ [a.2.2.2.2.2.1]))):=by
 have q:=(vZ h1 (by omega) a f).2 fj
 refine⟨q.2.1,?_⟩
 rcases q.2.2 with w|⟨w1,_,w⟩
 · exact .inl ⟨w.up.2.1,w,by simp only;omega⟩
 · exact .inr ⟨w1,w.up.2.1,w,by simp only;omega⟩
theorem J4(h1:LI X s k)(h2:k≤40)(hn:(k:Int)<40)(fj:(bc X a).1.2.2.2.2.2.2.1=false)(hl:(s.length:Int)<(al (ax (bc X a).1 f)).1.2.2.2.2.1.length):
  a.1=0∧(al (ax (bc X a).1 f)).1.2.2.2.2.1.getD s.length []=a.2.2.2.2.2.1∧(al (ax (bc X a).1 f)).1.2.2.2.2.1=s++ [a.2.2.2.2.2.1]∧
  gr (k+1,(al (ax (bc X a).1 f)).1,s++ [a.2.2.2.2.2.1]):=by
 rcases(O3 h1 h2 hn fj f).2 with w|w
 · rw [w.1] at hl;omega
 · exact⟨w.1,by rw [w.2.1,aaH],w.2.1,w.2.2⟩
theorem Mx(h1:LI X s k)(h2:k≤40)(hn:(k:Int)<40)(fj:(bc X a).1.2.2.2.2.2.2.1=false)(hl:¬(s.length:Int)<(al (ax (bc X a).1 f)).1.2.2.2.2.1.length):
  (al (ax (bc X a).1 f)).1.2.2.2.2.1=s∧gr (k+1,(al (ax (bc X a).1 f)).1,s):=by
 rcases(O3 h1 h2 hn fj f).2 with w|w
 · exact w
 · rw [w.2.1,List.length_append,List.length_singleton] at hl;omega
theorem aaL(h1:LI X s k)(h2:k≤40)(hn:(k:Int)<40)(fj:(bc X a).1.2.2.2.2.2.2.1=false)
  (hb:¬(al (ax (bc X a).1 f)).2=0∨((al (ax (bc X a).1 f)).1.2.2.2.2.1.length:Int)<s.length∨(s.length:Int)+1<(al (ax (bc X a).1 f)).1.2.2.2.2.1.length):False:=by
 have q:=O3 h1 h2 hn fj f
 have e:(al (ax (bc X a).1 f)).1.2.2.2.2.1.length=s.length∨(al (ax (bc X a).1 f)).1.2.2.2.2.1.length=s.length+1:=by
  rcases q.2 with w|w
  · rw [w.1];exact .inl rfl
  · rw [w.2.1,List.length_append];exact .inr rfl
 rcases hb with w|w|w
 · exact w q.1
 · omega
 · omega
theorem XT(h1:LI X s k)(h2:k≤40)(hn:(k:Int)<40)(fj:(bc X a).1.2.2.2.2.2.2.1=false)(hl:(s.length:Int)<(al (ax (bc X a).1 f)).1.2.2.2.2.1.length)
  (hb:X.2.2.2.2.2.2.1=false∨¬a.1=0∨¬(al (ax (bc X a).1 f)).1.2.2.2.2.1.getD s.length []=a.2.2.2.2.2.1):False:=by
 have q:=J4 h1 h2 hn fj hl
 rcases hb with w|w|w
 · have :=h1.up.1
   unfold lR at this
   rw [w] at this;cases this
 · exact w q.1
 · exact w q.2.1
theorem Qj(h:gr (k,X,s)):gr (k,(X.1,X.2.1,X.2.2.1,X.2.2.2.1,X.2.2.2.2.1,X.2.2.2.2.2.1,X.2.2.2.2.2.2.1,X.2.2.2.2.2.2.2),s):=h
end
end Go.S

end
section
namespace Go.S
def k4h:db:=((0:Int),(0:Int),(0:Int),[(104:UInt8),(97:UInt8),(121:UInt8)])
def sN:gi×Int:=cx (9:Int)
def XU:gi:=(sN.1.1,sN.1.2.1,sN.1.2.2.1,sN.1.2.2.2.1,sN.1.2.2.2.2.1,sN.1.2.2.2.2.2.1,sN.1.2.2.2.2.2.2.1,(1:Int))
def k4p:gi×Int:=dB XU k4h
def k4q:gi×Int:=dB sN.1 k4h
def k4b:gi×Int:=al (ax k4p.1 (Vg.fb Int))
def k4d:gi×Int:=al (ax k4q.1 (Vg.fb Int))
theorem zv:cx (9:Int)=sN:=rfl
theorem CB:(sN.1.1,sN.1.2.1,sN.1.2.2.1,sN.1.2.2.2.1,sN.1.2.2.2.2.1,sN.1.2.2.2.2.2.1,sN.1.2.2.2.2.2.2.1,(1:Int))=XU:=rfl
theorem CC:dB XU ((0:Int),(0:Int),(0:Int),[(104:UInt8),(97:UInt8),(121:UInt8)])=k4p:=rfl
theorem zw:dB sN.1 ((0:Int),(0:Int),(0:Int),[(104:UInt8),(97:UInt8),(121:UInt8)])=k4q:=rfl
theorem CD:al (ax k4p.1 (Vg.fb Int))=k4b:=rfl
theorem zx:al (ax k4q.1 (Vg.fb Int))=k4d:=rfl
theorem XV:LI sN.1 [] 0:=(Mt (n:=9) ⟨by decide,by decide⟩).2
theorem XW {z:gi} {n:Nat} {sure:List (List UInt8)}(h:LI z sure n)(f:Int):LI (z.1,z.2.1,z.2.2.1,z.2.2.2.1,z.2.2.2.2.1,z.2.2.2.2.2.1,z.2.2.2.2.2.2.1,f) sure n:=by
 obtain⟨s,u,y,fu,hx,k,hs,hy⟩:=h
 refine⟨s,u,y,f,?_,k,hs,hy⟩
 have e:z.2=(gJ z.1 [] s u y true fu).2:=congrArg Prod.snd hx
 rw [e]
 rfl
theorem afj:LI XU [] 0:=XW XV 1
theorem Qk {z:gi} {n:Nat} {sure:List (List UInt8)}(h:LI z sure n)(hn:n≤100)(e:db):dj (dB z e).1:=by
 have q:=Qi h hn (0,0,e.1,e.2.1,e.2.2.1,e.2.2.2,[])
 rw [XQ rfl] at q
 exact q
theorem ahA:dj XU:=afj.pre
theorem ahB:dj sN.1:=XV.pre
theorem ahC:dj k4p.1:=Qk afj (Nat.zero_le _) k4h
theorem ahD:dj k4q.1:=Qk XV (Nat.zero_le _) k4h
end Go.S

end
section
namespace Go.Vg
open Go
theorem My {P:Program} {W:World}:∀ {laid:List (String×DataW Unit)} {ps:List MemPlace} {name:String} {d:DataW Unit},DataW.LaidVars P W laid ps→(name,d)∈laid→
  ∃(g:Nat) (t:TypeId) (cs:Array Value) (fuel:Nat) (p:List MemPlace),P.globalNamed name=some g∧(P.globals[g]?).map (·.type)=some t∧W.var? P name=some cs∧DataW.trod (fun _=>()) P W 0 (fun _=>true) false fuel t cs.toList=some (d,p)
 | [],_,_,_,_,hm=>by cases hm
 |x::rest,ps,name,d,h,hm=>by
  obtain⟨g',t',cs,fuel,p,q,we,ht',anI,hd,hr,ŗ⟩:=h
  rcases List.mem_cons.1 hm with rfl|hm
  · exact⟨g',t',cs,fuel,p,we,ht',anI,hd⟩
  · exact My hr hm
theorem E4 {H:Type} {enc:TypeId×Value→H} {P:Program} {w:World} {base:Nat} {sp:Nat→Bool} {held:Bool} {fuel:Nat} {t e:TypeId} {n m:Nat} {k:IntKind} {cs:List Value} {zss:List (List Int)} {p:List MemPlace} {fs:Array Field}
  (ht:P.underlying t=some (.array n e)) (he:P.underlying e=some (.struct fs)) (NS:P.cellsOf e=m) (hct:P.cellsOf t=n*m) (hfs:fs.size=m) (hf:∀(i:Nat) (f:Field),fs[i]? =some f→f.offset=i∧P.underlying f.type=some (.int k)∧P.cellsOf f.type=1)
  (hz:∀r∈zss,r.length=m) (h:DataW.trod enc P w base sp held fuel t cs=some (.agg (zss.map fun r=> .agg (r.map fun z=> .lit (.int k z))),p)):cs.length=n*m∧zss.length=n∧
    ∀i j,i<n→j<m→cs[i*m+j]? =some (.int k ((zss.getD i []).getD j 0)):=by
 cases fuel with
 |zero=>simp [DataW.trod] at h
 |succ fuel=>
  simp only [DataW.trod,ht,NS,hct] at h
  split at h
  · rename_i hl
    obtain⟨xs,hm,hx⟩:=Option.map_eq_some_iff.1 h
    have WS:xs.map (·.1)=zss.map fun r=>(DataW.agg (r.map fun z=> .lit (.int k z)):DataW H):=by
     have :=congrArg Prod.fst hx
     simpa using this
    have Le:xs.length=n:=by simpa using Lib.mapM_length hm
    have Nl:zss.length=n:=by
     have :=congrArg List.length WS
     simp at this
     omega
    refine⟨hl,Nl,fun i j hi hj=> ?_⟩
    obtain⟨b,hb,hfb⟩:=Lib.mapM_at hm i i (by simp [hi])
    have fO:b.1=DataW.agg ((zss.getD i []).map fun z=> .lit (.int k z)):=by
     have h2:(xs.map (·.1))[i]? =some b.1:=by simp [hb]
     rw [WS] at h2
     rw [List.getElem?_map,List.getElem?_eq_getElem (by omega)] at h2
     simp only [Option.map_some,Option.some.injEq] at h2
     rw [←h2,List.getD_eq_getElem?_getD,List.getElem?_eq_getElem (by omega)]
     rfl
    obtain⟨ys,n',_,hy,_,hyl,hyf⟩:=DataW.trod_struct he hfb
    have VG:ys.map (·.1)=(zss.getD i []).map fun z=>(DataW.lit (.int k z):DataW H):=by
     rw [hy] at fO
     simpa using fO
    have hrl:(zss.getD i []).length=m:=hz _ (by rw [List.getD_eq_getElem?_getD,List.getElem?_eq_getElem (by omega)];exact List.getElem_mem _)
    have hjf:j<fs.size:=by omega
    have hfj:=hyf j fs[j] (Array.getElem?_eq_getElem hjf)
    obtain⟨f1,f2,f3⟩:=hf j fs[j] (Array.getElem?_eq_getElem hjf)
    rw [f1,f3] at hfj
    have hyj:j<ys.length:=by omega
    rw [List.getElem?_eq_getElem hyj] at hfj
    obtain⟨z,hc,hzv,_⟩:=DataW.trod_int f2 hfj
    have h1:cs[i*m+j]? =some (.int k z):=by
     have :=congrArg (·[0]?) hc
     simp only [List.getElem?_take,List.getElem?_drop] at this
     simpa [hj,Nat.add_comm] using this
    have h3:(ys.map (·.1))[j]? =some (DataW.lit (.int k z)):=by rw [List.getElem?_map,List.getElem?_eq_getElem hyj,hzv];rfl
    rw [VG,List.getElem?_map,List.getElem?_eq_getElem (by omega)] at h3
    simp only [Option.map_some,Option.some.injEq,DataW.lit.injEq,Lit.int.injEq,true_and] at h3
    rw [h1,List.getD_eq_getElem?_getD,List.getElem?_eq_getElem (by omega)]
    simp only [Option.getD_some,h3]
  · cases h
theorem aaP {P:Program} {W:World} {name:String} {g:Nat} {cs:Array Value}(hg:P.globalNamed name=some g)(h:W.var? P name=some cs)(hn:0<cs.size):g<W.heap.size:=by
 have h1:=World.var?_cell hg h 0
 rw [Array.getElem?_eq_getElem hn] at h1
 unfold World.cell? at h1
 split at h1
 · rename_i h2
   exact(Array.getElem?_eq_some_iff.1 h2).1
 · cases h1
def lT(k:IntKind):(ts:List Ty)→List Int→Row ts→Prop
 | [],[],_=>True
 | .int k'::ts,z::zs,x=>k'=k∧DI.toInt k' (Row.hd (t:= .int k') (ts:=ts) x)=z∧lo k≤z∧z≤hi k∧lT k ts zs (Row.tl x)
 |_,_,_=>False
theorem E5 {w:World} {A:Nat→Prop} {k:IntKind}:∀(ts:List Ty) (zs:List Int) (x:Row ts),lT k ts zs x→bh w A ts (zs.map (Value.int k)) x
 | [],[],x,_=>by simp [bh]
 | .int k'::ts,z::zs,x,h=>by
   simp only [lT] at h
   obtain⟨rfl,h2,h3,h4,h5⟩:=h
   simp only [bh,List.map_cons]
   refine⟨_,_,rfl,?_,E5 ts zs _ h5⟩
   simp only [Rd]
   rw [h2]
   exact⟨rfl,h3,h4⟩
 | .bool::_,_,_,h=>by simp [lT] at h
 | .str::_,_,_,h=>by simp [lT] at h
 | .slice _::_,_,_,h=>by simp [lT] at h
 | [],_::_,_,h=>by simp [lT] at h
 | .int _::_,[],_,h=>by simp [lT] at h
def u5(k:IntKind)(ts:List Ty):List (List Int)→List (Row ts)→Prop
 | [],[]=>True
 |zs::r,x::l=>lT k ts zs x∧u5 k ts r l
 |_,_=>False
theorem HI {w:World} {A:Nat→Prop} {k:IntKind} {ts:List Ty}:∀(zss:List (List Int)) (l:List (Row ts)),u5 k ts zss l→bX (bh w A ts) (zss.flatten.map (Value.int k)) l
 | [],[],_=>by simp [bX]
 |zs::r,x::l,h=>by
  simp only [u5] at h
  exact⟨zs.map (Value.int k),r.flatten.map (Value.int k),by simp,E5 ts zs x h.1,HI r l h.2⟩
 | [],_::_,h=>by simp [u5] at h
 |_::_,[],h=>by simp [u5] at h
theorem BH {m:Nat}:∀(zss:List (List Int)),(∀r∈zss,r.length=m)→∀q (z:Int),zss.flatten[q]? =some z→∃i j,i<zss.length∧j<m∧q=i*m+j∧(zss.getD i []).getD j 0=z
 | [],_,q,z,h=>by simp at h
 |r::rs,hz,q,z,h=>by
  have hr:r.length=m:=hz r (by simp)
  by_cases hq:q<m
  · refine⟨0,q,by simp,hq,by simp,?_⟩
    rw [List.flatten_cons,List.getElem?_append_left (by omega)] at h
    simp [List.getD,h]
  · rw [List.flatten_cons,List.getElem?_append_right (by omega),hr] at h
    obtain⟨i,j,h1,h2,h3,h4⟩:=BH rs (fun r lb=>hz r (by simp [lb])) (q-m) z h
    refine⟨i+1,j,by simp;omega,h2,?_,by simpa using h4⟩
    rw [Nat.add_mul];omega
theorem E6 {P:Program} {W:World} {name:String} {g:Nat} {t e:TypeId} {n m:Nat} {k:IntKind} {fs:Array Field} {zss:List (List Int)} {row:List Ty} {l:List (Row row)} {laid:List (String×DataW Unit)}
  (hm:laidMet P laid W) (aE:(name,DataW.agg (zss.map fun r=> .agg (r.map fun z=> .lit (.int k z))))∈laid) (hg:P.globalNamed name=some g) (hgt:(P.globals[g]?).map (·.type)=some t)
  (ht:P.underlying t=some (.array n e)) (he:P.underlying e=some (.struct fs)) (NS:P.cellsOf e=m) (hct:P.cellsOf t=n*m) (hfs:fs.size=m) (hf:∀(i:Nat) (f:Field),fs[i]? =some f→f.offset=i∧P.underlying f.type=some (.int k)∧P.cellsOf f.type=1)
  (hz:∀r∈zss,r.length=m) (iy:0<n*m) (hl:u5 k row zss l):oM W (fun b=>b<W.heap.size) g ⟨row,l⟩:=by
 obtain⟨ps,KR,_⟩:=hm
 obtain⟨g',t',cs,fuel,p,h1,h2,h3,h4⟩:=My KR aE
 obtain rfl :=Option.some.inj (hg.symm.trans h1)
 obtain rfl :=Option.some.inj (hgt.symm.trans h2)
 obtain⟨q1,q2,q3⟩:=E4 ht he NS hct hfs hf hz h4
 have anM:cs.size=n*m:=by simpa using q1
 refine⟨aaP hg h3 (by rw [anM];exact iy),zss.flatten.map (Value.int k),fun q v hq=> ?_,HI zss l hl⟩
 rw [List.getElem?_map] at hq
 obtain⟨z,ŋ,rfl⟩:=Option.map_eq_some_iff.1 hq
 obtain⟨i,j,hi,hj,rfl,hv⟩:=BH zss hz q z ŋ
 rw [Nat.zero_add,World.var?_cell hg h3,←Array.getElem?_toList,q3 i j (by omega) hj,hv]
end Go.Vg

end
section
namespace Go.Vg
open Go.Proofs
open Go
def fB:Vg.bT:=(.node (.node (.node (.node (.node (.node .leaf 3 ⟨.int .i64,1,8, .int .i64 (0)⟩ .leaf) 4 ⟨.bool,1,1, .bool false⟩ (.node .leaf 5 ⟨.int .u8,1,1, .int .u8 (0)⟩ .leaf)) 9 ⟨.string,1,16, .string ⟨#[]⟩⟩ (.node (.node .leaf 22 ⟨.slice 26,1,24, .slice none 0 0⟩ .leaf) 23 ⟨.slice 91,1,24, .slice none 0 0⟩ .leaf)) 25 ⟨.struct #[⟨ "Docs",22,0,false,"","",0⟩,⟨ "Segs",23,1,false,"","",24⟩],2,48, .agg #[.slice none 0 0, .slice none 0 0]⟩ (.node (.node (.node .leaf 26 ⟨.slice 5,1,24, .slice none 0 0⟩ .leaf) 28 ⟨.struct #[⟨ "Kind",3,0,false,"","",0⟩,⟨ "I",3,1,false,"","",8⟩,⟨ "Many",3,2,false,"","",16⟩,⟨ "Doc",26,3,false,"","",24⟩],4,48, .agg #[.int .i64 (0), .int .i64 (0), .int .i64 (0), .slice none 0 0]⟩ (.node .leaf 32 ⟨.int .i64,1,8, .int .i64 (0)⟩ .leaf)) 34 ⟨.func #[25,28] #[25,32] false,1,8, .nilFunc⟩ (.node (.node .leaf 35 ⟨.slice 104,1,24, .slice none 0 0⟩ .leaf) 37 ⟨.struct #[⟨ "Docs",22,0,false,"","",0⟩,⟨ "Segs",35,1,false,"","",24⟩],2,48, .agg #[.slice none 0 0, .slice none 0 0]⟩ .leaf))) 41 ⟨.struct #[⟨ "Kind",3,0,false,"","",0⟩,⟨ "I",3,1,false,"","",8⟩,⟨ "Many",3,2,false,"","",16⟩,⟨ "Doc",26,3,false,"","",24⟩],4,48, .agg #[.int .i64 (0), .int .i64 (0), .int .i64 (0), .slice none 0 0]⟩ (.node (.node (.node (.node .leaf 49 ⟨.slice 28,1,24, .slice none 0 0⟩ .leaf) 50 ⟨.slice 3,1,24, .slice none 0 0⟩ (.node .leaf 51 ⟨.slice 129,1,24, .slice none 0 0⟩ .leaf)) 53 ⟨.struct #[⟨ "Blocks",22,0,false,"","",0⟩,⟨ "Waits",51,1,false,"","",24⟩],2,48, .agg #[.slice none 0 0, .slice none 0 0]⟩ (.node (.node .leaf 57 ⟨.struct #[⟨ "Seq",3,0,false,"","",0⟩,⟨ "Len",3,1,false,"","",8⟩,⟨ "X",25,2,false,"","",16⟩],4,64, .agg #[.int .i64 (0), .int .i64 (0), .slice none 0 0, .slice none 0 0]⟩ .leaf) 60 ⟨.slice 96,1,24, .slice none 0 0⟩ .leaf)) 68 ⟨.struct #[⟨ "Seq",3,0,false,"","",0⟩,⟨ "Len",3,1,false,"","",8⟩,⟨ "X",37,2,false,"","",16⟩],4,64, .agg #[.int .i64 (0), .int .i64 (0), .slice none 0 0, .slice none 0 0]⟩ (.node (.node (.node .leaf 73 ⟨.slice 80,1,24, .slice none 0 0⟩ .leaf) 75 ⟨.struct #[⟨ "D",53,0,false,"","",0⟩,⟨ "S",57,2,false,"","",48⟩,⟨ "Up",4,6,false,"","",112⟩,⟨ "Fuse",3,7,false,"","",120⟩],8,128, .agg #[.slice none 0 0, .slice none 0 0, .int .i64 (0), .int .i64 (0), .slice none 0 0, .slice none 0 0, .bool false, .int .i64 (0)]⟩ (.node .leaf 80 ⟨.struct #[⟨ "Kind",3,0,false,"","",0⟩,⟨ "N",3,1,false,"","",8⟩,⟨ "E",28,2,false,"","",16⟩,⟨ "Some",50,6,false,"","",64⟩],7,88, .agg #[.int .i64 (0), .int .i64 (0), .int .i64 (0), .int .i64 (0), .int .i64 (0), .slice none 0 0, .slice none 0 0]⟩ .leaf)) 88 ⟨.struct #[⟨ "From",3,0,false,"","",0⟩,⟨ "To",3,1,false,"","",8⟩],2,16, .agg #[.int .i64 (0), .int .i64 (0)]⟩ (.node (.node .leaf 89 ⟨.slice 136,1,24, .slice none 0 0⟩ .leaf) 91 ⟨.struct #[⟨ "Span",88,0,false,"","",0⟩,⟨ "Dict",89,2,false,"","",16⟩],3,40, .agg #[.int .i64 (0), .int .i64 (0), .slice none 0 0]⟩ .leaf)))) 96 ⟨.struct #[⟨ "Sync",4,0,false,"","",0⟩,⟨ "At",3,1,false,"","",8⟩,⟨ "B",26,2,false,"","",16⟩],3,40, .agg #[.bool false, .int .i64 (0), .slice none 0 0]⟩ (.node (.node (.node (.node (.node .leaf 98 ⟨.map 3 34,1,8, .map none⟩ .leaf) 104 ⟨.struct #[⟨ "Span",88,0,false,"","",0⟩,⟨ "Dict",89,2,false,"","",16⟩],3,40, .agg #[.int .i64 (0), .int .i64 (0), .slice none 0 0]⟩ (.node .leaf 115 ⟨.struct #[⟨ "seq",3,0,false,"","rubrick/keep",0⟩,⟨ "used",3,1,false,"","rubrick/keep",8⟩],2,16, .agg #[.int .i64 (0), .int .i64 (0)]⟩ .leaf)) 120 ⟨.struct #[⟨ "B",26,0,false,"","",0⟩,⟨ "At",3,1,false,"","",24⟩,⟨ "E",32,2,false,"","",32⟩],3,40, .agg #[.slice none 0 0, .int .i64 (0), .int .i64 (0)]⟩ (.node (.node .leaf 129 ⟨.struct #[⟨ "At",3,0,false,"","",0⟩,⟨ "B",26,1,false,"","",8⟩],2,32, .agg #[.int .i64 (0), .slice none 0 0]⟩ .leaf) 131 ⟨.pointer 134,1,8, .pointer none⟩ .leaf)) 134 ⟨.struct #[⟨ "Ledger",75,0,true,"","",0⟩],8,128, .agg #[.slice none 0 0, .slice none 0 0, .int .i64 (0), .int .i64 (0), .slice none 0 0, .slice none 0 0, .bool false, .int .i64 (0)]⟩ (.node (.node (.node .leaf 136 ⟨.struct #[⟨ "Term",9,0,false,"","",0⟩,⟨ "Docs",50,1,false,"","",16⟩],2,40, .agg #[.string ⟨#[]⟩, .slice none 0 0]⟩ .leaf) 147 ⟨.slice 88,1,24, .slice none 0 0⟩ (.node .leaf 158 ⟨.int .u64,1,8, .int .u64 (0)⟩ .leaf)) 161 ⟨.int .u64,1,8, .int .u64 (0)⟩ (.node (.node .leaf 178 ⟨.func #[136,136] #[4] false,1,8, .nilFunc⟩ .leaf) 188 ⟨.int .u32,1,4, .int .u32 (0)⟩ .leaf))) 196 ⟨.map 9 50,1,8, .map none⟩ (.node (.node (.node (.node .leaf 197 ⟨.slice 9,1,24, .slice none 0 0⟩ .leaf) 201 ⟨.func #[210] #[] false,1,8, .nilFunc⟩ (.node .leaf 208 ⟨.func #[9,9] #[3] false,1,8, .nilFunc⟩ .leaf)) 216 ⟨.func #[3,4,4] #[4] false,1,8, .nilFunc⟩ (.node (.node .leaf 219 ⟨.func #[9,9] #[4] false,1,8, .nilFunc⟩ .leaf) 231 ⟨.struct #[⟨ "from",3,0,false,"","rubrick/utf",0⟩,⟨ "to",3,1,false,"","rubrick/utf",8⟩],2,16, .agg #[.int .i64 (0), .int .i64 (0)]⟩ .leaf)) 232 ⟨.array 9 231,18,144, .agg #[.int .i64 (0), .int .i64 (0), .int .i64 (0), .int .i64 (0), .int .i64 (0), .int .i64 (0), .int .i64 (0), .int .i64 (0), .int .i64 (0), .int .i64 (0), .int .i64 (0), .int .i64 (0), .int .i64 (0), .int .i64 (0), .int .i64 (0), .int .i64 (0), .int .i64 (0), .int .i64 (0)]⟩ (.node (.node (.node .leaf 235 ⟨.int .i64,1,8, .int .i64 (0)⟩ .leaf) 250 ⟨.struct #[⟨ "from",3,0,false,"","rubrick/utf",0⟩,⟨ "to",3,1,false,"","rubrick/utf",8⟩,⟨ "add",3,2,false,"","rubrick/utf",16⟩],3,24, .agg #[.int .i64 (0), .int .i64 (0), .int .i64 (0)]⟩ .leaf) 251 ⟨.array 7 250,21,168, .agg #[.int .i64 (0), .int .i64 (0), .int .i64 (0), .int .i64 (0), .int .i64 (0), .int .i64 (0), .int .i64 (0), .int .i64 (0), .int .i64 (0), .int .i64 (0), .int .i64 (0), .int .i64 (0), .int .i64 (0), .int .i64 (0), .int .i64 (0), .int .i64 (0), .int .i64 (0), .int .i64 (0), .int .i64 (0), .int .i64 (0), .int .i64 (0)]⟩ (.node (.node .leaf 252 ⟨.int .u64,1,8, .int .u64 (0)⟩ .leaf) 256 ⟨.pointer 3,1,8, .pointer none⟩ .leaf)))))
set_option maxRecDepth 100000 in
theorem Ql:fB.Ok Tryz.prog:=⟨⟨⟨⟨⟨⟨trivial,trivial,Tryz.underlying3,trivial,Tryz.t3,rfl,rfl,rfl,rfl⟩,⟨trivial,trivial,Tryz.underlying5,trivial,Tryz.t5,rfl,rfl,rfl,rfl⟩,Tryz.underlying4,trivial,Tryz.t4,rfl,rfl,rfl,rfl⟩,⟨⟨trivial,trivial,Tryz.underlying22,trivial,Tryz.t22,rfl,rfl,rfl,rfl⟩,trivial,Tryz.underlying23,trivial,Tryz.t23,rfl,rfl,rfl,rfl⟩,Tryz.underlying9,trivial,Tryz.t9,rfl,rfl,rfl,rfl⟩,⟨⟨⟨trivial,trivial,Tryz.underlying26,trivial,Tryz.t26,rfl,rfl,rfl,rfl⟩,⟨trivial,trivial,Tryz.underlying32,trivial,Tryz.t32,rfl,rfl,rfl,rfl⟩,Tryz.underlying28,⟨by kernel_rfl,by kernel_rfl,by kernel_rfl⟩,Tryz.t28,rfl,rfl,rfl,rfl⟩,⟨⟨trivial,trivial,Tryz.underlying35,trivial,Tryz.t35,rfl,rfl,rfl,rfl⟩,trivial,Tryz.underlying37,⟨by kernel_rfl,by kernel_rfl,by kernel_rfl⟩,Tryz.t37,rfl,rfl,rfl,rfl⟩,Tryz.underlying34,trivial,Tryz.t34,rfl,rfl,rfl,rfl⟩,Tryz.underlying25,⟨by kernel_rfl,by kernel_rfl,by kernel_rfl⟩,Tryz.t25,rfl,rfl,rfl,rfl⟩,⟨⟨⟨⟨trivial,trivial,Tryz.underlying49,trivial,Tryz.t49,rfl,rfl,rfl,rfl⟩,⟨trivial,trivial,Tryz.underlying51,trivial,Tryz.t51,rfl,rfl,rfl,rfl⟩,Tryz.underlying50,trivial,Tryz.t50,rfl,rfl,rfl,rfl⟩,⟨⟨trivial,trivial,Tryz.underlying57,⟨by kernel_rfl,by kernel_rfl,by kernel_rfl⟩,Tryz.t57,rfl,rfl,rfl,rfl⟩,trivial,Tryz.underlying60,trivial,Tryz.t60,rfl,rfl,rfl,rfl⟩,Tryz.underlying53,⟨by kernel_rfl,by kernel_rfl,by kernel_rfl⟩,Tryz.t53,rfl,rfl,rfl,rfl⟩,⟨⟨⟨trivial,trivial,Tryz.underlying73,trivial,Tryz.t73,rfl,rfl,rfl,rfl⟩,⟨trivial,trivial,Tryz.underlying80,⟨by kernel_rfl,by kernel_rfl,by kernel_rfl⟩,Tryz.t80,rfl,rfl,rfl,rfl⟩,Tryz.underlying75,⟨by kernel_rfl,by kernel_rfl,by kernel_rfl⟩,Tryz.t75,rfl,rfl,rfl,rfl⟩,⟨⟨trivial,trivial,Tryz.underlying89,trivial,Tryz.t89,rfl,rfl,rfl,rfl⟩,trivial,Tryz.underlying91,⟨by kernel_rfl,by kernel_rfl,by kernel_rfl⟩,Tryz.t91,rfl,rfl,rfl,rfl⟩,Tryz.underlying88,⟨by kernel_rfl,by kernel_rfl,by kernel_rfl⟩,Tryz.t88,rfl,rfl,rfl,rfl⟩,Tryz.underlying68,⟨by kernel_rfl,by kernel_rfl,by kernel_rfl⟩,Tryz.t68,rfl,rfl,rfl,rfl⟩,Tryz.underlying41,⟨by kernel_rfl,by kernel_rfl,by kernel_rfl⟩,Tryz.t41,rfl,rfl,rfl,rfl⟩,⟨⟨⟨⟨⟨trivial,trivial,Tryz.underlying98,trivial,Tryz.t98,rfl,rfl,rfl,rfl⟩,⟨trivial,trivial,Tryz.underlying115,⟨by kernel_rfl,by kernel_rfl,by kernel_rfl⟩,Tryz.t115,rfl,rfl,rfl,rfl⟩,Tryz.underlying104,⟨by kernel_rfl,by kernel_rfl,by kernel_rfl⟩,Tryz.t104,rfl,rfl,rfl,rfl⟩,⟨⟨trivial,trivial,Tryz.underlying129,⟨by kernel_rfl,by kernel_rfl,by kernel_rfl⟩,Tryz.t129,rfl,rfl,rfl,rfl⟩,trivial,Tryz.underlying131,trivial,Tryz.t131,rfl,rfl,rfl,rfl⟩,Tryz.underlying120,⟨by kernel_rfl,by kernel_rfl,by kernel_rfl⟩,Tryz.t120,rfl,rfl,rfl,rfl⟩,⟨⟨⟨trivial,trivial,Tryz.underlying136,⟨by kernel_rfl,by kernel_rfl,by kernel_rfl⟩,Tryz.t136,rfl,rfl,rfl,rfl⟩,⟨trivial,trivial,Tryz.underlying158,trivial,Tryz.t158,rfl,rfl,rfl,rfl⟩,Tryz.underlying147,trivial,Tryz.t147,rfl,rfl,rfl,rfl⟩,⟨⟨trivial,trivial,Tryz.underlying178,trivial,Tryz.t178,rfl,rfl,rfl,rfl⟩,trivial,Tryz.underlying188,trivial,Tryz.t188,rfl,rfl,rfl,rfl⟩,Tryz.underlying161,trivial,Tryz.t161,rfl,rfl,rfl,rfl⟩,Tryz.underlying134,⟨by kernel_rfl,by kernel_rfl,by kernel_rfl⟩,Tryz.t134,rfl,rfl,rfl,rfl⟩,⟨⟨⟨⟨trivial,trivial,Tryz.underlying197,trivial,Tryz.t197,rfl,rfl,rfl,rfl⟩,⟨trivial,trivial,Tryz.underlying208,trivial,Tryz.t208,rfl,rfl,rfl,rfl⟩,Tryz.underlying201,trivial,Tryz.t201,rfl,rfl,rfl,rfl⟩,⟨⟨trivial,trivial,Tryz.underlying219,trivial,Tryz.t219,rfl,rfl,rfl,rfl⟩,trivial,Tryz.underlying231,⟨by kernel_rfl,by kernel_rfl,by kernel_rfl⟩,Tryz.t231,rfl,rfl,rfl,rfl⟩,Tryz.underlying216,trivial,Tryz.t216,rfl,rfl,rfl,rfl⟩,⟨⟨⟨trivial,trivial,Tryz.underlying235,trivial,Tryz.t235,rfl,rfl,rfl,rfl⟩,trivial,Tryz.underlying250,⟨by kernel_rfl,by kernel_rfl,by kernel_rfl⟩,Tryz.t250,rfl,rfl,rfl,rfl⟩,⟨⟨trivial,trivial,Tryz.underlying252,trivial,Tryz.t252,rfl,rfl,rfl,rfl⟩,trivial,Tryz.underlying256,trivial,Tryz.t256,rfl,rfl,rfl,rfl⟩,Tryz.underlying251,trivial,Tryz.t251,rfl,rfl,rfl,rfl⟩,Tryz.underlying232,trivial,Tryz.t232,rfl,rfl,rfl,rfl⟩,Tryz.underlying196,trivial,Tryz.t196,rfl,rfl,rfl,rfl⟩,Tryz.underlying96,⟨by kernel_rfl,by kernel_rfl,by kernel_rfl⟩,Tryz.t96,rfl,rfl,rfl,rfl⟩
end Go.Vg
namespace Go.J
open Go.Proofs
def G0:Nat→Option Go.Vg.GD:=fun i=>match i with
 |1=>some ⟨[.int .i64, .int .i64],[(65,90),(97,122),(192,214),(216,246),(248,255),(913,929),(931,937),(945,969),(1024,1119)]⟩
 |2=>some ⟨[.int .i64, .int .i64, .int .i64],[(65,90,32),(192,214,32),(216,222,32),(913,929,32),(931,937,32),(1024,1039,80),(1040,1071,32)]⟩
 |_=>none
end Go.J

end
section
set_option linter.unusedVariables false
namespace Go
def aU(x:Int):Prop :=(-9223372036854775808:Int)≤x∧x≤(9223372036854775807:Int)
def lZ:Nat:=140737488355328
def Cb:Int:=140737488355328
def z0:Int:=0
def z1:Int:=1
def au {α:Type}(x:List α):Int:=(x.length:Int)
def afk(b:List UInt8):Prop :=
 b.length≤lZ∧b=b
def q0(x:List UInt8×Int):=UInt8.ofNat (Int.toNat (Vg.cG (Vg.bf x.2 (127:Int)%(256:Int)) (128:Int)))
def afl(v:Int)(l:List UInt8):Prop :=
 (∃(x:List UInt8×Int),(v=x.2∧l=x.1)∧S.oi l v x.1 x.2)∧∀(x:List UInt8×Int),S.oi l v x.1 x.2→(decide ((127:Int)<x.2)=true→z0≤x.2∧z0≤(127:Int)∧List.length x.1+List.length [q0 x]≤lZ∧(z0≤(7:Int)∧(7:Int)≤(64:Int))∧∃(af:List UInt8×Int),(x.2/(2:Int)^(7:Int).toNat=af.2∧x.1++ [q0 x]=af.1)∧S.oi l v af.1 af.2∧Int.toNat af.2<Int.toNat x.2)∧(decide ((127:Int)<x.2)=false→List.length x.1+List.length [UInt8.ofNat (Int.toNat (x.2%(256:Int)))]≤lZ∧x.1++ [UInt8.ofNat (Int.toNat (x.2%(256:Int)))]=l++S.num v)
def afm(s:List UInt8)(l:List UInt8):Prop :=
 S.yT l (au s)∧List.length (l++S.num (au s))+s.length≤lZ∧l++S.num (au s)++s=l++S.text s
def q1(v:Int):=bif decide (v<z0) then true else decide ((4611686018427387904:Int)<v)
def afn(b:List UInt8)(v:Int):Prop :=
 ((q1 v)=true→z1=S.ij v∧ []=S.iS b v)∧((q1 v)=false→b.length≤lZ∧S.yT b v∧z0=S.ij v∧b++S.num v=S.iS b v)
def afo(b:List UInt8)(s:List UInt8):Prop :=
 b.length≤lZ∧S.lE b s∧b++S.text s=b++S.text s
def afp(r1:List UInt8)(r2:Int)(r3:Int):Prop :=
 (bif decide (z0≤r2) then decide (r2≤(au r1)) else false)=S.inside r1 r2
def afq(r1:List UInt8)(r2:Int)(r3:Int):Prop :=
 r1.length≤lZ∧((decide (r3=z0)=true→True)∧(decide (r3=z0)=false→True))∧r1=r1∧(bif bif decide (r3=z0) then !S.inside r1 r2 else false then r2 else r2)=r2∧(bif bif decide (r3=z0) then !S.inside r1 r2 else false then z1 else r3)=S.cT r1 r2 r3
def q2(b:List UInt8)(p:Int)(x:Nat):=Vg.bf (↑(UInt8.toNat (List.getD b (Int.toNat (p+(x:Int))) (0:UInt8))):Int) (127:Int)*(2:Int)^Int.toNat ((7:Int)*(x:Int))
def q3(x:Nat)(b:List UInt8)(p:Int):=bif decide (z1<(x:Int)+z1) then bif decide ((↑(UInt8.toNat (List.getD b (Int.toNat (p+((x:Int)+z1)-z1)) (0:UInt8))):Int)=z0) then true else decide ((4611686018427387904:Int)<Vg.cG (S.eA b p x) (q2 b p x)) else decide ((4611686018427387904:Int)<Vg.cG (S.eA b p x) (q2 b p x))
def q4(b:List UInt8)(p:Int)(x:Nat):=UInt8.toNat (List.getD b (Int.toNat (p+(x:Int))) (0:UInt8))
def afr(b:List UInt8)(p:Int):Prop :=
 (∃(x:Nat),(z0=S.eA b p x∧z0=(x:Int))∧S.gF b p x)∧∀(x:Nat),S.gF b p x→(decide ((x:Int)=(9:Int))=true→z0=(S.aK b p).1∧z0=((S.aK b p).2).1∧(2:Int)=((S.aK b p).2).2)∧(decide ((x:Int)=(9:Int))=false→(aU ((au b)-p))∧(decide ((x:Int)=(au b)-p)=true→z0=(S.aK b p).1∧z0=((S.aK b p).2).1∧(4:Int)=((S.aK b p).2).2)∧(decide ((x:Int)=(au b)-p)=false→(aU (p+(x:Int)))∧(z0≤p+(x:Int)∧p+(x:Int)<(au b))∧(aU ((7:Int)*(x:Int)))∧(z0≤(7:Int)*(x:Int)∧(7:Int)*(x:Int)≤(64:Int))∧(aU (q2 b p x))∧z0≤S.eA b p x∧z0≤Vg.bf (↑(q4 b p x):Int) (127:Int)*(2:Int)^Int.toNat ((7:Int)*(x:Int))∧(aU ((x:Int)+z1))∧(decide ((↑(q4 b p x):Int)<(128:Int))=true→((decide (z1<(x:Int)+z1)=true→(aU (p+((x:Int)+z1)))∧(aU (p+((x:Int)+z1)-z1))∧z0≤p+((x:Int)+z1)-z1∧p+((x:Int)+z1)-z1<(au b))∧(decide (z1<(x:Int)+z1)=false→True))∧((q3 x b p)=true→z0=(S.aK b p).1∧z0=((S.aK b p).2).1∧(2:Int)=((S.aK b p).2).2)∧((q3 x b p)=false→(aU (p+((x:Int)+z1)))∧Vg.cG (S.eA b p x) (q2 b p x)=(S.aK b p).1∧p+((x:Int)+z1)=((S.aK b p).2).1∧z0=((S.aK b p).2).2))∧(decide ((↑(q4 b p x):Int)<(128:Int))=false→∃(af:Nat),(Vg.cG (S.eA b p x) (q2 b p x)=S.eA b p af∧(x:Int)+z1=(af:Int))∧S.gF b p af∧S.ah (9:Nat) af<S.ah (9:Nat) x)))
def q5(b:List UInt8)(p:Int):=(S.aK b p).2
def XX(b:List UInt8)(p:Int)(b9:Int):Prop :=
 S.dC b p∧((!decide ((q5 b p).2=z0))=true→ []=(S.bS b p b9).1∧z0=((S.bS b p b9).2).1∧(q5 b p).2=((S.bS b p b9).2).2)∧((!decide ((q5 b p).2=z0))=false→(decide (b9<(S.aK b p).1)=true→ []=(S.bS b p b9).1∧z0=((S.bS b p b9).2).1∧(2:Int)=((S.bS b p b9).2).2)∧(decide (b9<(S.aK b p).1)=false→(aU ((au b)-(q5 b p).1))∧(decide ((au b)-(q5 b p).1<(S.aK b p).1)=true→ []=(S.bS b p b9).1∧z0=((S.bS b p b9).2).1∧(4:Int)=((S.bS b p b9).2).2)∧(decide ((au b)-(q5 b p).1<(S.aK b p).1)=false→(aU ((q5 b p).1+(S.aK b p).1))∧(z0≤(q5 b p).1∧(q5 b p).1≤(q5 b p).1+(S.aK b p).1∧(q5 b p).1+(S.aK b p).1≤(au b))∧(aU ((q5 b p).1+(S.aK b p).1))∧List.drop (Int.toNat ((q5 b p).1)) (List.take (Int.toNat ((q5 b p).1+(S.aK b p).1)) b)=(S.bS b p b9).1∧(q5 b p).1+(S.aK b p).1=((S.bS b p b9).2).1∧z0=((S.bS b p b9).2).2)))
def XY(r1:List UInt8)(r2:Int)(r3:Int)(b9:Int):Prop :=
 r1.length≤lZ∧((!decide (S.cT r1 r2 r3=z0))=true→r1=((S.bj r1 r2 r3 b9).1).1∧r2=(((S.bj r1 r2 r3 b9).1).2).1∧S.cT r1 r2 r3=(((S.bj r1 r2 r3 b9).1).2).2∧ []=(S.bj r1 r2 r3 b9).2)∧((!decide (S.cT r1 r2 r3=z0))=false→S.dC r1 r2∧((!decide (((S.bS r1 r2 b9).2).2=z0))=true→r1=((S.bj r1 r2 r3 b9).1).1∧r2=(((S.bj r1 r2 r3 b9).1).2).1∧((S.bS r1 r2 b9).2).2=(((S.bj r1 r2 r3 b9).1).2).2∧ []=(S.bj r1 r2 r3 b9).2)∧((!decide (((S.bS r1 r2 b9).2).2=z0))=false→r1=((S.bj r1 r2 r3 b9).1).1∧((S.bS r1 r2 b9).2).1=(((S.bj r1 r2 r3 b9).1).2).1∧S.cT r1 r2 r3=(((S.bj r1 r2 r3 b9).1).2).2∧(S.bS r1 r2 b9).1=(S.bj r1 r2 r3 b9).2))
def XZ(r1:List UInt8)(r2:Int)(r3:Int):Prop :=
 r1.length≤lZ∧((!decide (S.cT r1 r2 r3=z0))=true→r1=((S.ag r1 r2 r3).1).1∧r2=(((S.ag r1 r2 r3).1).2).1∧S.cT r1 r2 r3=(((S.ag r1 r2 r3).1).2).2∧z0=(S.ag r1 r2 r3).2)∧((!decide (S.cT r1 r2 r3=z0))=false→S.dC r1 r2∧((!decide (((S.aK r1 r2).2).2=z0))=true→r1=((S.ag r1 r2 r3).1).1∧r2=(((S.ag r1 r2 r3).1).2).1∧((S.aK r1 r2).2).2=(((S.ag r1 r2 r3).1).2).2∧z0=(S.ag r1 r2 r3).2)∧((!decide (((S.aK r1 r2).2).2=z0))=false→r1=((S.ag r1 r2 r3).1).1∧((S.aK r1 r2).2).1=(((S.ag r1 r2 r3).1).2).1∧S.cT r1 r2 r3=(((S.ag r1 r2 r3).1).2).2∧(S.aK r1 r2).1=(S.ag r1 r2 r3).2))
def X0(c:Int):Prop :=
 (bif decide (z0≤c) then bif decide (c≤(1114111:Int)) then bif decide (c<(55296:Int)) then true else decide ((57343:Int)<c) else false else false)=S.bm c
def X1(c:Int):Prop :=
 (decide (c<(128:Int))=true→z1=S.cZ c)∧(decide (c<(128:Int))=false→(decide (c<(2048:Int))=true→(2:Int)=S.cZ c)∧(decide (c<(2048:Int))=false→(decide (c<(65536:Int))=true→(3:Int)=S.cZ c)∧(decide (c<(65536:Int))=false→(4:Int)=S.cZ c)))
def X2(c:Int):Prop :=
 z0≤c∧z0≤(63:Int)∧Vg.cG (128:Int) (Vg.bf c (63:Int)%(256:Int))=(↑(UInt8.toNat (S.more c)):Int)
def q6(c:Int):=UInt8.ofNat (Int.toNat (↑(UInt8.toNat (S.more c)):Int))
def q7:=z0≤(6:Int)∧(6:Int)≤(64:Int)
def q8(c:Int):=UInt8.ofNat (Int.toNat (↑(UInt8.toNat (S.more (c/(2:Int)^(6:Int).toNat))):Int))
def q9:=z0≤(12:Int)∧(12:Int)≤(64:Int)
def X3(c:Int):Prop :=
 True∧((!S.bm c)=true→z1=S.sX c∧ []=S.fg c)∧((!S.bm c)=false→True∧(decide (S.cZ c=z1)=true→z0=S.sX c∧ [UInt8.ofNat (Int.toNat (c%(256:Int)))]=S.fg c)∧(decide (S.cZ c=z1)=false→(decide (S.cZ c=(2:Int))=true→q7∧z0≤c∧z0=S.sX c∧ [UInt8.ofNat (Int.toNat (Vg.cG (192:Int) (c/(2:Int)^(6:Int).toNat%(256:Int)))),q6 c]=S.fg c)∧(decide (S.cZ c=(2:Int))=false→(decide (S.cZ c=(3:Int))=true→q9∧q7∧z0≤c/(2:Int)^(6:Int).toNat∧z0≤c∧z0=S.sX c∧ [UInt8.ofNat (Int.toNat (Vg.cG (224:Int) (c/(2:Int)^(12:Int).toNat%(256:Int)))),q8 c,q6 c]=S.fg c)∧(decide (S.cZ c=(3:Int))=false→(z0≤(18:Int)∧(18:Int)≤(64:Int))∧q9∧z0≤c/(2:Int)^(12:Int).toNat∧q7∧z0≤c/(2:Int)^(6:Int).toNat∧z0≤c∧z0=S.sX c∧ [UInt8.ofNat (Int.toNat (Vg.cG (240:Int) (c/(2:Int)^(18:Int).toNat%(256:Int)))),UInt8.ofNat (Int.toNat (↑(UInt8.toNat (S.more (c/(2:Int)^(12:Int).toNat))):Int)),q8 c,q6 c]=S.fg c))))
def wi(b:List UInt8):=UInt8.toNat (List.getD b (z0.toNat) (0:UInt8))
def X4(b:List UInt8)(x:Nat):=UInt8.toNat (List.getD (List.drop (z1.toNat) (List.take ((2:Int).toNat) b)) ((x:Int).toNat) (0:UInt8))
def X5(b:List UInt8)(x:Nat):=UInt8.toNat (List.getD (List.drop (z1.toNat) (List.take ((3:Int).toNat) b)) ((x:Int).toNat) (0:UInt8))
def X6(b:List UInt8)(x:Nat):=UInt8.toNat (List.getD (List.drop (z1.toNat) (List.take ((4:Int).toNat) b)) ((x:Int).toNat) (0:UInt8))
def q14(b:List UInt8)(x:Nat):=((!S.bm (S.bz b x))=true→True)∧((!S.bm (S.bz b x))=false→True)
def O4(b:List UInt8)(x:Nat):=S.bz b x*(2:Int)^(6:Int).toNat
def q16(b:List UInt8):=List.length (List.drop (z1.toNat) (List.take ((2:Int).toNat) b))
def q17(b:List UInt8):=List.length (List.drop (z1.toNat) (List.take ((3:Int).toNat) b))
def q18(b:List UInt8):=List.length (List.drop (z1.toNat) (List.take ((4:Int).toNat) b))
def q19:=z0≤(6:Int)∧(6:Int)≤(64:Int)
def q20:=z0≤(6:Int)∧(6:Int)≤(8:Int)
def q21(b:List UInt8)(x:Nat):=bif !S.bm (S.bz b x) then true else !decide (S.cZ (S.bz b x)=(2:Int))
def q22(b:List UInt8)(x:Nat):=bif !S.bm (S.bz b x) then true else !decide (S.cZ (S.bz b x)=(3:Int))
def q23(b:List UInt8)(x:Nat):=bif !S.bm (S.bz b x) then true else !decide (S.cZ (S.bz b x)=(4:Int))
def X7(b:List UInt8):Prop :=
 (z0≤z0∧z0<(au b))∧(decide ((↑(wi b):Int)<(128:Int))=true→(↑(wi b):Int)=(S.aM b).1∧z1=(S.aM b).2)∧(decide ((↑(wi b):Int)<(128:Int))=false→(z0≤(5:Int)∧(5:Int)≤(64:Int))∧(decide ((↑(wi b):Int)/(2:Int)^(5:Int).toNat=(6:Int))=true→z0≤(↑(wi b):Int)∧z0≤(31:Int)∧(decide ((au b)<(2:Int))=true→(65533:Int)=(S.aM b).1∧z1=(S.aM b).2)∧(decide ((au b)<(2:Int))=false→(z0≤z1∧z1≤(2:Int)∧(2:Int)≤(au b))∧(∃(x:Nat),(z0=(x:Int)∧Vg.bf (↑(wi b):Int) (31:Int)=S.bz b x)∧S.k8 b x)∧∀(x:Nat),S.k8 b x→(decide ((x:Int)<(↑(q16 b):Int))=true→(z0≤(x:Int)∧(x:Int)<(↑(q16 b):Int))∧q20∧((!decide ((↑(X4 b x):Int)/(2:Int)^(6:Int).toNat=(2:Int)))=true→(65533:Int)=(S.aM b).1∧z1=(S.aM b).2)∧((!decide ((↑(X4 b x):Int)/(2:Int)^(6:Int).toNat=(2:Int)))=false→q19∧(aU (O4 b x))∧z0≤S.bz b x*(2:Int)^(6:Int).toNat∧z0≤Vg.bf (↑(X4 b x):Int) (63:Int)∧(aU ((x:Int)+z1))∧∃(af:Nat),((x:Int)+z1=(af:Int)∧Vg.cG (O4 b x) (Vg.bf (↑(X4 b x):Int) (63:Int))=S.bz b af)∧S.k8 b af∧S.ah (4:Nat) af<S.ah (4:Nat) x))∧(decide ((x:Int)<(↑(q16 b):Int))=false→True∧(q14 b x)∧((q21 b x)=true→(65533:Int)=(S.aM b).1∧z1=(S.aM b).2)∧((q21 b x)=false→S.bz b x=(S.aM b).1∧(2:Int)=(S.aM b).2))))∧(decide ((↑(wi b):Int)/(2:Int)^(5:Int).toNat=(6:Int))=false→(z0≤(4:Int)∧(4:Int)≤(64:Int))∧(decide ((↑(wi b):Int)/(2:Int)^(4:Int).toNat=(14:Int))=true→z0≤(↑(wi b):Int)∧z0≤(15:Int)∧(decide ((au b)<(3:Int))=true→(65533:Int)=(S.aM b).1∧z1=(S.aM b).2)∧(decide ((au b)<(3:Int))=false→(z0≤z1∧z1≤(3:Int)∧(3:Int)≤(au b))∧(∃(x:Nat),(z0=(x:Int)∧Vg.bf (↑(wi b):Int) (15:Int)=S.bz b x)∧S.k8 b x)∧∀(x:Nat),S.k8 b x→(decide ((x:Int)<(↑(q17 b):Int))=true→(z0≤(x:Int)∧(x:Int)<(↑(q17 b):Int))∧q20∧((!decide ((↑(X5 b x):Int)/(2:Int)^(6:Int).toNat=(2:Int)))=true→(65533:Int)=(S.aM b).1∧z1=(S.aM b).2)∧((!decide ((↑(X5 b x):Int)/(2:Int)^(6:Int).toNat=(2:Int)))=false→q19∧(aU (O4 b x))∧z0≤S.bz b x*(2:Int)^(6:Int).toNat∧z0≤Vg.bf (↑(X5 b x):Int) (63:Int)∧(aU ((x:Int)+z1))∧∃(af:Nat),((x:Int)+z1=(af:Int)∧Vg.cG (O4 b x) (Vg.bf (↑(X5 b x):Int) (63:Int))=S.bz b af)∧S.k8 b af∧S.ah (4:Nat) af<S.ah (4:Nat) x))∧(decide ((x:Int)<(↑(q17 b):Int))=false→True∧(q14 b x)∧((q22 b x)=true→(65533:Int)=(S.aM b).1∧z1=(S.aM b).2)∧((q22 b x)=false→S.bz b x=(S.aM b).1∧(3:Int)=(S.aM b).2))))∧(decide ((↑(wi b):Int)/(2:Int)^(4:Int).toNat=(14:Int))=false→(z0≤(3:Int)∧(3:Int)≤(64:Int))∧(decide ((↑(wi b):Int)/(2:Int)^(3:Int).toNat=(30:Int))=true→z0≤(↑(wi b):Int)∧z0≤(7:Int)∧(decide ((au b)<(4:Int))=true→(65533:Int)=(S.aM b).1∧z1=(S.aM b).2)∧(decide ((au b)<(4:Int))=false→(z0≤z1∧z1≤(4:Int)∧(4:Int)≤(au b))∧(∃(x:Nat),(z0=(x:Int)∧Vg.bf (↑(wi b):Int) (7:Int)=S.bz b x)∧S.k8 b x)∧∀(x:Nat),S.k8 b x→(decide ((x:Int)<(↑(q18 b):Int))=true→(z0≤(x:Int)∧(x:Int)<(↑(q18 b):Int))∧q20∧((!decide ((↑(X6 b x):Int)/(2:Int)^(6:Int).toNat=(2:Int)))=true→(65533:Int)=(S.aM b).1∧z1=(S.aM b).2)∧((!decide ((↑(X6 b x):Int)/(2:Int)^(6:Int).toNat=(2:Int)))=false→q19∧(aU (O4 b x))∧z0≤S.bz b x*(2:Int)^(6:Int).toNat∧z0≤Vg.bf (↑(X6 b x):Int) (63:Int)∧(aU ((x:Int)+z1))∧∃(af:Nat),((x:Int)+z1=(af:Int)∧Vg.cG (O4 b x) (Vg.bf (↑(X6 b x):Int) (63:Int))=S.bz b af)∧S.k8 b af∧S.ah (4:Nat) af<S.ah (4:Nat) x))∧(decide ((x:Int)<(↑(q18 b):Int))=false→True∧(q14 b x)∧((q23 b x)=true→(65533:Int)=(S.aM b).1∧z1=(S.aM b).2)∧((q23 b x)=false→S.bz b x=(S.aM b).1∧(4:Int)=(S.aM b).2))))∧(decide ((↑(wi b):Int)/(2:Int)^(3:Int).toNat=(30:Int))=false→(65533:Int)=(S.aM b).1∧z1=(S.aM b).2))))
def X8(b:List UInt8):Prop :=
 (∃(x:List UInt8×List Int),(b=x.1∧ []=x.2)∧S.om b x.1 x.2)∧∀(x:List UInt8×List Int),S.om b x.1 x.2→(decide (z0<(↑(List.length x.1):Int))=true→(0:Nat)<List.length x.1∧List.length x.2+List.length [(S.aM x.1).1]≤(17592186044416:Nat)∧(z0≤(S.aM x.1).2∧(S.aM x.1).2≤(↑(List.length x.1):Int))∧∃(af:List UInt8×List Int),(List.drop (Int.toNat ((S.aM x.1).2)) x.1=af.1∧x.2++ [(S.aM x.1).1]=af.2)∧S.om b af.1 af.2∧S.len af.1<S.len x.1)∧(decide (z0<(↑(List.length x.1):Int))=false→x.2=S.decode b)
def q24(x:Nat)(c:Int):=bif decide (List.getD [(65:Int),(97:Int),(192:Int),(216:Int),(248:Int),(913:Int),(931:Int),(945:Int),(1024:Int)] ((x:Int).toNat) z0≤c) then decide (c≤List.getD [(90:Int),(122:Int),(214:Int),(246:Int),(255:Int),(929:Int),(937:Int),(969:Int),(1119:Int)] ((x:Int).toNat) z0) else false
def X9(c:Int):Prop :=
 (∃(x:Nat),z0=(x:Int)∧S.k7 c x)∧∀(x:Nat),S.k7 c x→(decide ((x:Int)<(9:Int))=true→(z0≤(x:Int)∧(x:Int)<(↑(9:Nat):Int))∧((q24 x c)=true→true=S.letter c)∧((q24 x c)=false→(aU ((x:Int)+z1))∧∃(af:Nat),(x:Int)+z1=(af:Int)∧S.k7 c af∧S.ah (9:Nat) af<S.ah (9:Nat) x))∧(decide ((x:Int)<(9:Int))=false→false=S.letter c)
def Ya(c:Int):Prop :=
 (bif decide ((48:Int)≤c) then decide (c≤(57:Int)) else false)=S.digit c
def q25(x:Nat)(c:Int):=bif decide (List.getD [(65:Int),(192:Int),(216:Int),(913:Int),(931:Int),(1024:Int),(1040:Int)] ((x:Int).toNat) z0≤c) then decide (c≤List.getD [(90:Int),(214:Int),(222:Int),(929:Int),(937:Int),(1039:Int),(1071:Int)] ((x:Int).toNat) z0) else false
def Yb(c:Int):Prop :=
 (∃(x:Nat),z0=(x:Int)∧S.lF c x)∧∀(x:Nat),S.lF c x→(decide ((x:Int)<(7:Int))=true→(z0≤(x:Int)∧(x:Int)<(↑(7:Nat):Int))∧((q25 x c)=true→(aU (c+List.getD [(32:Int),(32:Int),(32:Int),(32:Int),(32:Int),(80:Int),(32:Int)] ((x:Int).toNat) z0))∧c+List.getD [(32:Int),(32:Int),(32:Int),(32:Int),(32:Int),(80:Int),(32:Int)] ((x:Int).toNat) z0=S.br c)∧((q25 x c)=false→(aU ((x:Int)+z1))∧∃(af:Nat),(x:Int)+z1=(af:Int)∧S.lF c af∧S.ah (7:Nat) af<S.ah (7:Nat) x))∧(decide ((x:Int)<(7:Int))=false→c=S.br c)
def U1(u:List Int)(x:Nat×List UInt8):=S.br (List.getD u ((x.1:Int).toNat) z0)
def Yc(u:List Int):Prop :=
 (∃(x:Nat×List UInt8),(z0=(x.1:Int)∧ []=x.2)∧S.lG u x.1 x.2)∧∀(x:Nat×List UInt8),S.lG u x.1 x.2→(decide ((x.1:Int)<(au u))=true→(z0≤(x.1:Int)∧(x.1:Int)<(au u))∧True∧True∧(aU ((↑(List.length x.2):Int)+(↑(List.length (S.fg (U1 u x))):Int)))∧(decide ((64:Int)<(↑(List.length x.2):Int)+(↑(List.length (S.fg (U1 u x))):Int))=true→x.2=S.gf u)∧(decide ((64:Int)<(↑(List.length x.2):Int)+(↑(List.length (S.fg (U1 u x))):Int))=false→List.length x.2+List.length (S.fg (U1 u x))≤lZ∧(aU ((x.1:Int)+z1))∧∃(af:Nat×List UInt8),((x.1:Int)+z1=(af.1:Int)∧x.2++S.fg (U1 u x)=af.2)∧S.lG u af.1 af.2∧S.ah (S.len u) af.1<S.ah (S.len u) x.1))∧(decide ((x.1:Int)<(au u))=false→x.2=S.gf u)
def J5(b:List UInt8)(x:Nat×List (List UInt8)×List Int):=List.getD (S.decode b) ((x.1:Int).toNat) z0
def O5(b:List UInt8):=S.len (S.decode b)
def Yd(b:List UInt8):Prop :=
 S.small b∧(∃(x:Nat×List (List UInt8)×List Int),(z0=(x.1:Int)∧ []=x.2.1∧ []=x.2.2)∧S.gY (S.decode b) x.1 x.2.1 x.2.2)∧∀(x:Nat×List (List UInt8)×List Int),S.gY (S.decode b) x.1 x.2.1 x.2.2→(decide ((x.1:Int)<(au (S.decode b)))=true→(z0≤(x.1:Int)∧(x.1:Int)<(au (S.decode b)))∧(x.1:Int).toNat<List.length (S.decode b)∧True∧((S.letter (J5 b x)=true→True)∧(S.letter (J5 b x)=false→True))∧((bif S.letter (J5 b x) then true else S.digit (J5 b x))=true→List.length x.2.2+List.length [J5 b x]≤(17592186044416:Nat)∧(aU ((x.1:Int)+z1))∧∃(af:Nat×List (List UInt8)×List Int),((x.1:Int)+z1=(af.1:Int)∧x.2.1=af.2.1∧x.2.2++ [J5 b x]=af.2.2)∧S.gY (S.decode b) af.1 af.2.1 af.2.2∧S.ah (O5 b) af.1<S.ah (O5 b) x.1)∧((bif S.letter (J5 b x) then true else S.digit (J5 b x))=false→(decide (z0<(↑(List.length x.2.2):Int))=true→S.Wp x.2.2∧List.length x.2.1+List.length [S.gf x.2.2]≤(8796093022208:Nat)∧(aU ((x.1:Int)+z1))∧∃(af:Nat×List (List UInt8)×List Int),((x.1:Int)+z1=(af.1:Int)∧x.2.1++ [S.gf x.2.2]=af.2.1∧ []=af.2.2)∧S.gY (S.decode b) af.1 af.2.1 af.2.2∧S.ah (O5 b) af.1<S.ah (O5 b) x.1)∧(decide (z0<(↑(List.length x.2.2):Int))=false→(aU ((x.1:Int)+z1))∧∃(af:Nat×List (List UInt8)×List Int),((x.1:Int)+z1=(af.1:Int)∧x.2.1=af.2.1∧x.2.2=af.2.2)∧S.gY (S.decode b) af.1 af.2.1 af.2.2∧S.ah (O5 b) af.1<S.ah (O5 b) x.1)))∧(decide ((x.1:Int)<(au (S.decode b)))=false→(decide (z0<(↑(List.length x.2.2):Int))=true→S.Wp x.2.2∧List.length x.2.1+List.length [S.gf x.2.2]≤(8796093022208:Nat)∧x.2.1++ [S.gf x.2.2]=S.bH b)∧(decide (z0<(↑(List.length x.2.2):Int))=false→x.2.1=S.bH b))
def Ye(s:List UInt8):Prop :=
 S.small s∧((decide ((au (S.bH s))=z1)=true→(z0≤z0∧z0<(au (S.bH s)))∧z0.toNat<List.length (S.bH s))∧(decide ((au (S.bH s))=z1)=false→True))∧(bif decide ((au (S.bH s))=z1) then decide (List.getD (S.bH s) (z0.toNat) []=s) else false)=S.isTerm s
def Yf(s:List UInt8):Prop :=
 (!decide (s=s))=false
def Yg(a:List UInt8)(b:List UInt8):Prop :=
 True∧True∧(false=true→(false=true→z0=S.fY a b)∧(false=false→(-1:Int)=S.fY a b))∧(false=false→(false=true→z1=S.fY a b)∧(false=false→(Op.bytesLess a b=true→(-1:Int)=S.fY a b)∧(Op.bytesLess a b=false→((!(Op.bytesLess a b || decide (a=b)))=true→z1=S.fY a b)∧((!(Op.bytesLess a b || decide (a=b)))=false→z0=S.fY a b))))
def Yh(a:List UInt8)(b:List UInt8):Prop :=
 True∧decide (S.fY a b=z0)=decide (a=b)
def Yi(l:List (List UInt8)):Prop :=
 (decide ((au l)<(2:Int))=true→l=S.bM l)∧(decide ((au l)<(2:Int))=false→(∃(x:Nat),z1=(x:Int)∧S.ou l x)∧∀(x:Nat),S.ou l x→(decide ((x:Int)<(au l))=true→(z0≤(x:Int)∧(x:Int)<(au l))∧(x:Int).toNat<l.length∧(aU ((x:Int)-z1))∧(z0≤(x:Int)-z1∧(x:Int)-z1<(au l))∧Int.toNat ((x:Int)-z1)<l.length∧True∧(decide (List.getD l ((x:Int).toNat) []=List.getD l (Int.toNat ((x:Int)-z1)) [])=true→(z0≤(x:Int)∧(x:Int)≤(au l))∧(∃(af:Nat×Nat×List (List UInt8)×Nat),((x:Int)=(af.1:Int)∧z1=(af.2.1:Int)∧l=af.2.2.1)∧S.jt l af.2.2.2 af.1 af.2.1 af.2.2.1∧(x:Int)=(af.2.2.2:Int))∧∀(af:Nat×Nat×List (List UInt8)×Nat),S.jt l af.2.2.2 af.1 af.2.1 af.2.2.1∧(x:Int)=(af.2.2.2:Int)→(decide ((af.2.1:Int)<(↑(l.length-(x:Int).toNat):Int))=true→(z0≤(af.2.1:Int)∧(af.2.1:Int)<(↑(l.length-(x:Int).toNat):Int))∧(x:Int).toNat+(af.2.1:Int).toNat<List.length af.2.2.1∧(aU ((af.2.1:Int)-z1))∧(z0≤(af.2.1:Int)-z1∧(af.2.1:Int)-z1<(↑(l.length-(x:Int).toNat):Int))∧(x:Int).toNat+Int.toNat ((af.2.1:Int)-z1)<List.length af.2.2.1∧True∧(((!decide (List.getD af.2.2.1 ((x:Int).toNat+(af.2.1:Int).toNat) []=List.getD af.2.2.1 ((x:Int).toNat+Int.toNat ((af.2.1:Int)-z1)) []))=true→(z0≤(af.2.1:Int)∧(af.2.1:Int)<(↑(l.length-(x:Int).toNat):Int))∧(x:Int).toNat+(af.2.1:Int).toNat<List.length af.2.2.1∧(z0≤(af.1:Int)∧(af.1:Int)<(↑(List.length af.2.2.1):Int))∧(af.1:Int).toNat<List.length af.2.2.1∧aU ((af.1:Int)+z1))∧((!decide (List.getD af.2.2.1 ((x:Int).toNat+(af.2.1:Int).toNat) []=List.getD af.2.2.1 ((x:Int).toNat+Int.toNat ((af.2.1:Int)-z1)) []))=false→True))∧(aU ((af.2.1:Int)+z1))∧∃(aS:Nat×Nat×List (List UInt8)×Nat),((bif !decide (List.getD af.2.2.1 ((x:Int).toNat+(af.2.1:Int).toNat) []=List.getD af.2.2.1 ((x:Int).toNat+Int.toNat ((af.2.1:Int)-z1)) []) then(af.1:Int)+z1 else(af.1:Int))=(aS.1:Int)∧(af.2.1:Int)+z1=(aS.2.1:Int)∧(bif !decide (List.getD af.2.2.1 ((x:Int).toNat+(af.2.1:Int).toNat) []=List.getD af.2.2.1 ((x:Int).toNat+Int.toNat ((af.2.1:Int)-z1)) []) then List.set af.2.2.1 ((af.1:Int).toNat) (List.getD af.2.2.1 ((x:Int).toNat+(af.2.1:Int).toNat) []) else af.2.2.1)=aS.2.2.1)∧(S.jt l aS.2.2.2 aS.1 aS.2.1 aS.2.2.1∧(x:Int)=(aS.2.2.2:Int))∧S.ah (S.len l) aS.2.1<S.ah (S.len l) af.2.1)∧(decide ((af.2.1:Int)<(↑(l.length-(x:Int).toNat):Int))=false→(z0≤(af.1:Int)∧(af.1:Int)≤(↑(List.length af.2.2.1):Int))∧(((af.1:Int).toNat)+(List.length af.2.2.1-(af.1:Int).toNat))≤List.length af.2.2.1∧(z0≤(af.1:Int)∧(af.1:Int)≤(↑(List.length (List.take ((af.1:Int).toNat) af.2.2.1++List.replicate (List.length af.2.2.1-(af.1:Int).toNat) (Vg.fb UInt8)++List.drop ((((af.1:Int).toNat)+(List.length af.2.2.1-(af.1:Int).toNat))) af.2.2.1)):Int))∧List.take ((af.1:Int).toNat) (List.take ((af.1:Int).toNat) af.2.2.1++List.replicate (List.length af.2.2.1-(af.1:Int).toNat) (Vg.fb UInt8)++List.drop ((((af.1:Int).toNat)+(List.length af.2.2.1-(af.1:Int).toNat))) af.2.2.1)=S.bM l))∧(decide (List.getD l ((x:Int).toNat) []=List.getD l (Int.toNat ((x:Int)-z1)) [])=false→(aU ((x:Int)+z1))∧∃(af:Nat),(x:Int)+z1=(af:Int)∧S.ou l af∧S.ah (S.len l) af<S.ah (S.len l) x))∧(decide ((x:Int)<(au l))=false→l=S.bM l))
def Yj(l:List (List UInt8)):Prop :=
 S.small l∧S.small l∧S.small (S.fZ l)∧S.bM (S.fZ l)=S.bM (S.fZ l)
def Yk(b:List UInt8):Prop :=
 S.small b∧S.small (S.bH b)∧S.bM (S.fZ (S.bH b))=S.sorted (S.bH b)
def q29(l:List Int)(x:Nat):=bif decide (List.getD l ((x:Int).toNat) z0≤S.mD l x) then true else decide ((1000:Int)≤List.getD l ((x:Int).toNat) z0)
def Yl(l:List Int):Prop :=
 (∃(x:Nat),(z0=(x:Int)∧(-1:Int)=S.mD l x)∧S.kF l x)∧∀(x:Nat),S.kF l x→(decide ((x:Int)<(au l))=true→(z0≤(x:Int)∧(x:Int)<(au l))∧((q29 l x)=true→false=S.fE l)∧((q29 l x)=false→(aU ((x:Int)+z1))∧∃(af:Nat),((x:Int)+z1=(af:Int)∧List.getD l ((x:Int).toNat) z0=S.mD l af)∧S.kF l af∧S.ah (S.len l) af<S.ah (S.len l) x))∧(decide ((x:Int)<(au l))=false→true=S.fE l)
def Ym(n:Int)(p:Bool)(q:Bool)(s1:Int)(s2:Int):Prop :=
 (bif decide (s1≤n) then decide (n<s2) else false)=S.pB n s1 s2∧s1=s1∧s2=s2
def Yn(x:List Int×List Int):=bif bif decide (z0<(↑(List.length S.fF):Int)) then bif decide ((↑(List.length x.1):Int)=z0) then true else decide (List.getD S.fF (z0.toNat) z0≤List.getD x.1 (z0.toNat) z0) else false then List.getD S.fF (z0.toNat) z0 else bif bif decide (z0<(↑(List.length x.1):Int)) then bif decide ((↑(List.length S.fF):Int)=z0) then true else decide (List.getD x.1 (z0.toNat) z0≤List.getD S.fF (z0.toNat) z0) else false then List.getD x.1 (z0.toNat) z0 else z0
def zy:=List.length S.fF
def q32(x:List Int×List Int):=bif bif decide (z0<(zy:Int)) then bif decide ((↑(List.length x.1):Int)=z0) then true else decide (List.getD S.fF (z0.toNat) z0≤List.getD x.1 (z0.toNat) z0) else false then List.drop (z1.toNat) S.fF else S.fF
def q33(x:List Int×List Int):=bif bif decide (z0<(↑(List.length x.1):Int)) then bif decide ((zy:Int)=z0) then true else decide (List.getD x.1 (z0.toNat) z0≤List.getD S.fF (z0.toNat) z0) else false then List.drop (z1.toNat) x.1 else x.1
def q34(x:List Int×List Int):=bif decide (z0<(↑(List.length x.1):Int)) then bif decide ((zy:Int)=z0) then true else decide (List.getD x.1 (z0.toNat) z0≤List.getD S.fF (z0.toNat) z0) else false
def q35(x:List Int×List Int):=bif decide (z0<(zy:Int)) then bif decide ((↑(List.length x.1):Int)=z0) then true else decide (List.getD S.fF (z0.toNat) z0≤List.getD x.1 (z0.toNat) z0) else false
def q36(x:List Int×List Int):=bif decide (z0<(↑(List.length x.1):Int)) then true else decide (z0<(zy:Int))
def Yo(a:List Int)(b:List Int)(s1:Int)(s2:Int):Prop :=
 True∧True∧(∃(x:List Int×List Int),((bif !S.fE a then [] else a)=x.1∧(bif !S.fE b then [] else b)=S.fF∧ []=x.2∧s1=s1∧s2=s2)∧S.ju a s1 s2 x.1 x.2)∧∀(x:List Int×List Int),S.ju a s1 s2 x.1 x.2→((q36 x)=true→((decide (z0<(↑(List.length x.1):Int))=true→(decide ((zy:Int)=z0)=true→True)∧(decide ((zy:Int)=z0)=false→(z0≤z0∧z0<(↑(List.length x.1):Int))∧z0≤z0∧z0<(zy:Int)))∧(decide (z0<(↑(List.length x.1):Int))=false→True))∧((decide (z0<(zy:Int))=true→(decide ((↑(List.length x.1):Int)=z0)=true→True)∧(decide ((↑(List.length x.1):Int)=z0)=false→(z0≤z0∧z0<(zy:Int))∧z0≤z0∧z0<(↑(List.length x.1):Int)))∧(decide (z0<(zy:Int))=false→True))∧(((q34 x)=true→(z0≤z0∧z0<(↑(List.length x.1):Int))∧z0≤z1∧z1≤(↑(List.length x.1):Int))∧((q34 x)=false→True))∧(((q35 x)=true→(z0≤z0∧z0<(zy:Int))∧z0≤z1∧z1≤(zy:Int))∧((q35 x)=false→True))∧True∧(S.pB (Yn x) s1 s2=true→List.length x.2+List.length [Yn x]≤(17592186044416:Nat)∧∃(af:List Int×List Int),((q33 x)=af.1∧(q32 x)=S.fF∧x.2++ [Yn x]=af.2∧s1=s1∧s2=s2)∧S.ju a s1 s2 af.1 af.2∧S.len af.1<S.len x.1)∧(S.pB (Yn x) s1 s2=false→∃(af:List Int×List Int),((q33 x)=af.1∧(q32 x)=S.fF∧x.2=af.2∧s1=s1∧s2=s2)∧S.ju a s1 s2 af.1 af.2∧S.len af.1<S.len x.1))∧((q36 x)=false→s1=s1∧s2=s2∧x.2=S.En a s1 s2)
def Yp(l:List Int)(s1:Int)(s2:Int):Prop :=
 List.length (Vg.fb Int)=(0:Nat)∧S.En l s1 s2=S.En l s1 s2
def E7(d:List (List UInt8×List Int))(x:Nat):=List.getD d ((x:Int).toNat) ([],[])
def q38(x:Nat)(d:List (List UInt8×List Int)):=bif decide (z0<(x:Int)) then Op.bytesLess ((E7 d x).1) ((List.getD d (Int.toNat ((x:Int)-z1)) ([],[])).1) || decide ((E7 d x).1=(List.getD d (Int.toNat ((x:Int)-z1)) ([],[])).1) else false
def q39(d:List (List UInt8×List Int))(x:Nat):=bif decide ((↑(List.length ((E7 d x).2)):Int)=z0) then true else bif !S.fE ((E7 d x).2) then true else !S.isTerm ((E7 d x).1)
def Yq(d:List (List UInt8×List Int)):Prop :=
 (∃(x:Nat),z0=(x:Int)∧S.Bo d x)∧∀(x:Nat),S.Bo d x→(decide ((x:Int)<(au d))=true→(z0≤(x:Int)∧(x:Int)<(au d))∧((decide (z0<(x:Int))=true→(aU ((x:Int)-z1))∧z0≤(x:Int)-z1∧(x:Int)-z1<(au d))∧(decide (z0<(x:Int))=false→True))∧((q38 x d)=true→false=S.dH d)∧((q38 x d)=false→((decide ((↑(List.length ((E7 d x).2)):Int)=z0)=true→True)∧(decide ((↑(List.length ((E7 d x).2)):Int)=z0)=false→True∧((!S.fE ((E7 d x).2))=true→True)∧((!S.fE ((E7 d x).2))=false→S.small ((E7 d x).1))))∧((q39 d x)=true→false=S.dH d)∧((q39 d x)=false→(aU ((x:Int)+z1))∧∃(af:Nat),(x:Int)+z1=(af:Int)∧S.Bo d af∧S.ah (S.len d) af<S.ah (S.len d) x)))∧(decide ((x:Int)<(au d))=false→true=S.dH d)
def Yr(a:List (List UInt8))(b:List (List UInt8)):Prop :=
 ((!decide ((au a)=(au b)))=true→false=S.ga a b)∧((!decide ((au a)=(au b)))=false→(∃(x:Nat),z0=(x:Int)∧S.nG a b x)∧∀(x:Nat),S.nG a b x→(decide ((x:Int)<(au a))=true→(z0≤(x:Int)∧(x:Int)<(au a))∧(z0≤(x:Int)∧(x:Int)<(au b))∧((!decide (List.getD a ((x:Int).toNat) []=List.getD b ((x:Int).toNat) []))=true→false=S.ga a b)∧((!decide (List.getD a ((x:Int).toNat) []=List.getD b ((x:Int).toNat) []))=false→(aU ((x:Int)+z1))∧∃(af:Nat),(x:Int)+z1=(af:Int)∧S.nG a b af∧S.ah (S.len a) af<S.ah (S.len a) x))∧(decide ((x:Int)<(au a))=false→true=S.ga a b))
def Ys(s1:Int)(s2:Int):Prop :=
 (bif decide (z0≤s1) then bif decide (s1<s2) then decide (s2≤(1000:Int)) else false else false)=S.iP s1 s2
def q40(s3:List (List UInt8×List Int))(x:Nat)(s1 s2:Int):= !decide ((↑(List.length (S.En ((List.getD s3 ((x:Int).toNat) ([],[])).2) s1 s2)):Int)=(↑(List.length ((List.getD s3 ((x:Int).toNat) ([],[])).2)):Int))
def Yt(s1:Int)(s2:Int)(s3:List (List UInt8×List Int)):Prop :=
 True∧(((!S.iP s1 s2)=true→True)∧((!S.iP s1 s2)=false→S.jv s3))∧((bif !S.iP s1 s2 then true else !S.dH s3)=true→false=S.gZ s1 s2 s3)∧((bif !S.iP s1 s2 then true else !S.dH s3)=false→(∃(x:Nat),z0=(x:Int)∧S.qk s1 s2 s3 x)∧∀(x:Nat),S.qk s1 s2 s3 x→(decide ((x:Int)<(au s3))=true→(z0≤(x:Int)∧(x:Int)<(au s3))∧True∧((q40 s3 x s1 s2)=true→false=S.gZ s1 s2 s3)∧((q40 s3 x s1 s2)=false→(aU ((x:Int)+z1))∧∃(af:Nat),(x:Int)+z1=(af:Int)∧S.qk s1 s2 s3 af∧S.ah (S.len s3) af<S.ah (S.len s3) x))∧(decide ((x:Int)<(au s3))=false→true=S.gZ s1 s2 s3))
def Yu(docs:List (List UInt8))(s1:Int)(s2:Int):Prop :=
 True∧((!decide ((S.gn docs s1 s2).2=z0))=true→z0=((S.cv docs s1 s2).1).1∧z0=(((S.cv docs s1 s2).1).2).1∧ []=(((S.cv docs s1 s2).1).2).2∧(S.gn docs s1 s2).2=(S.cv docs s1 s2).2)∧((!decide ((S.gn docs s1 s2).2=z0))=false→(decide (s1=s2)=true→z0=((S.cv docs s1 s2).1).1∧z0=(((S.cv docs s1 s2).1).2).1∧ []=(((S.cv docs s1 s2).1).2).2∧z1=(S.cv docs s1 s2).2)∧(decide (s1=s2)=false→s1=((S.cv docs s1 s2).1).1∧s2=(((S.cv docs s1 s2).1).2).1∧(S.gn docs s1 s2).1=(((S.cv docs s1 s2).1).2).2∧z0=(S.cv docs s1 s2).2))
def Yv(l:List (Int×Int×List (List UInt8×List Int)))(aS:Nat×Nat):=List.getD (((List.getD l ((aS.1:Int).toNat) (z0,z0,[])).2).2) (Int.toNat (List.getD (S.aX l aS.2 aS.1) ((aS.1:Int).toNat) z0)) ([],[])
def E8(l:List (Int×Int×List (List UInt8×List Int)))(af:Nat×Nat):=Int.toNat (S.cK l (S.az l af.2) af.1)
def O6(l:List (Int×Int×List (List UInt8×List Int)))(aS:Nat×Nat):=List.length (((List.getD l ((aS.1:Int).toNat) (z0,z0,[])).2).2)
def U2(aS:Nat×Nat)(l:List (Int×Int×List (List UInt8×List Int))):=z0≤(aS.1:Int)∧(aS.1:Int)<(au (S.aX l aS.2 aS.1))
def u6(l:List (Int×Int×List (List UInt8×List Int)))(aS:Nat×Nat):=S.aX l aS.2 aS.1
def Cc(aS:Nat×Nat):=(aS.1:Int).toNat
def GC(af:Nat×Nat):=(af.1:Int).toNat
def Yw(l:List (Int×Int×List (List UInt8×List Int))):Prop :=
 (z0≤(au l)∧(au l)≤(au l)∧(au l)≤Cb/(↑(8:Nat):Int))∧(∃(x:Nat),([]=S.cw l x∧List.replicate (Int.toNat (au l)) z0=S.az l x)∧x≤S.uL l)∧∀(x:Nat),x≤S.uL l→(∃(af:Nat×Nat),(z0=(af.1:Int)∧(-1:Int)=S.cK l (S.az l af.2) af.1)∧(af.1≤l.length∧af.2≤S.uL l)∧S.az l x=S.az l af.2)∧∀(af:Nat×Nat),(af.1≤l.length∧af.2≤S.uL l)∧S.az l x=S.az l af.2→(decide ((af.1:Int)<(au l))=true→(z0≤(af.1:Int)∧(af.1:Int)<(au l))∧(z0≤(af.1:Int)∧(af.1:Int)<(au (S.az l x)))∧(af.1:Int).toNat<List.length (S.az l x)∧(decide (List.getD (S.az l x) (GC af) z0=(↑(List.length (((List.getD l (GC af) (z0,z0,[])).2).2)):Int))=true→(aU ((af.1:Int)+z1))∧∃(aS:Nat×Nat),((af.1:Int)+z1=(aS.1:Int)∧S.cK l (S.az l af.2) af.1=S.cK l (S.az l aS.2) aS.1)∧((aS.1≤l.length∧aS.2≤S.uL l)∧S.az l x=S.az l aS.2)∧S.ah (S.len l) aS.1<S.ah (S.len l) af.1)∧(decide (List.getD (S.az l x) (GC af) z0=(↑(List.length (((List.getD l (GC af) (z0,z0,[])).2).2)):Int))=false→((decide (S.cK l (S.az l af.2) af.1<z0)=true→True)∧(decide (S.cK l (S.az l af.2) af.1<z0)=false→(z0≤(af.1:Int)∧(af.1:Int)<(au (S.az l x)))∧(af.1:Int).toNat<List.length (S.az l x)∧(z0≤List.getD (S.az l x) (GC af) z0∧List.getD (S.az l x) (GC af) z0<(↑(List.length (((List.getD l (GC af) (z0,z0,[])).2).2)):Int))∧(z0≤S.cK l (S.az l af.2) af.1∧S.cK l (S.az l af.2) af.1<(au l))∧(z0≤S.cK l (S.az l af.2) af.1∧S.cK l (S.az l af.2) af.1<(au (S.az l x)))∧Int.toNat (S.cK l (S.az l af.2) af.1)<List.length (S.az l x)∧z0≤List.getD (S.az l x) (E8 l af) z0∧List.getD (S.az l x) (E8 l af) z0<(↑(List.length (((List.getD l (E8 l af) (z0,z0,[])).2).2)):Int)))∧(aU ((af.1:Int)+z1))∧∃(aS:Nat×Nat),((af.1:Int)+z1=(aS.1:Int)∧(bif bif decide (S.cK l (S.az l af.2) af.1<z0) then true else Op.bytesLess ((List.getD (((List.getD l (GC af) (z0,z0,[])).2).2) (Int.toNat (List.getD (S.az l x) (GC af) z0)) ([],[])).1) ((List.getD (((List.getD l (E8 l af) (z0,z0,[])).2).2) (Int.toNat (List.getD (S.az l x) (E8 l af) z0)) ([],[])).1) then(af.1:Int) else S.cK l (S.az l af.2) af.1)=S.cK l (S.az l aS.2) aS.1)∧((aS.1≤l.length∧aS.2≤S.uL l)∧S.az l x=S.az l aS.2)∧S.ah (S.len l) aS.1<S.ah (S.len l) af.1))∧(decide ((af.1:Int)<(au l))=false→(decide (S.cK l (S.az l af.2) af.1<z0)=true→S.cw l x=S.nc l)∧(decide (S.cK l (S.az l af.2) af.1<z0)=false→(z0≤S.cK l (S.az l af.2) af.1∧S.cK l (S.az l af.2) af.1<(au l))∧(z0≤S.cK l (S.az l af.2) af.1∧S.cK l (S.az l af.2) af.1<(au (S.az l x)))∧Int.toNat (S.cK l (S.az l af.2) af.1)<List.length (S.az l x)∧(z0≤List.getD (S.az l x) (E8 l af) z0∧List.getD (S.az l x) (E8 l af) z0<(↑(List.length (((List.getD l (E8 l af) (z0,z0,[])).2).2)):Int))∧(∃(aS:Nat×Nat),(z0=(aS.1:Int)∧S.az l x=S.aX l aS.2 aS.1∧(List.getD (((List.getD l (E8 l af) (z0,z0,[])).2).2) (Int.toNat (List.getD (S.az l x) (E8 l af) z0)) ([],[])).1=S.lh l aS.2∧ []=S.cN l (S.lh l aS.2) aS.1)∧(aS.1≤l.length∧aS.2<S.uL l)∧S.cw l x=S.cw l aS.2)∧∀(aS:Nat×Nat),(aS.1≤l.length∧aS.2<S.uL l)∧S.cw l x=S.cw l aS.2→(decide ((aS.1:Int)<(au l))=true→(z0≤(aS.1:Int)∧(aS.1:Int)<(au l))∧(U2 aS l)∧(aS.1:Int).toNat<List.length (u6 l aS)∧((decide (List.getD (u6 l aS) (Cc aS) z0<(↑(O6 l aS):Int))=true→(U2 aS l)∧(aS.1:Int).toNat<List.length (u6 l aS)∧z0≤List.getD (u6 l aS) (Cc aS) z0∧List.getD (u6 l aS) (Cc aS) z0<(↑(O6 l aS):Int))∧(decide (List.getD (u6 l aS) (Cc aS) z0<(↑(O6 l aS):Int))=false→True))∧((bif decide (List.getD (u6 l aS) (Cc aS) z0<(↑(O6 l aS):Int)) then decide ((Yv l aS).1=S.lh l aS.2) else false)=true→(U2 aS l)∧(aS.1:Int).toNat<List.length (u6 l aS)∧(z0≤List.getD (u6 l aS) (Cc aS) z0∧List.getD (u6 l aS) (Cc aS) z0<(↑(O6 l aS):Int))∧List.length (S.cN l (S.lh l aS.2) aS.1)+List.length ((Yv l aS).2)≤(17592186044416:Nat)∧(U2 aS l)∧(aS.1:Int).toNat<List.length (u6 l aS)∧(aU (List.getD (u6 l aS) (Cc aS) z0+z1))∧(U2 aS l)∧(aS.1:Int).toNat<List.length (u6 l aS)∧(aU ((aS.1:Int)+z1))∧∃(nL:Nat×Nat),((aS.1:Int)+z1=(nL.1:Int)∧List.set (u6 l aS) (Cc aS) (List.getD (u6 l aS) (Cc aS) z0+z1)=S.aX l nL.2 nL.1∧S.lh l aS.2=S.lh l nL.2∧S.cN l (S.lh l aS.2) aS.1++(Yv l aS).2=S.cN l (S.lh l nL.2) nL.1)∧((nL.1≤l.length∧nL.2<S.uL l)∧S.cw l x=S.cw l nL.2)∧S.ah (S.len l) nL.1<S.ah (S.len l) aS.1)∧((bif decide (List.getD (u6 l aS) (Cc aS) z0<(↑(O6 l aS):Int)) then decide ((Yv l aS).1=S.lh l aS.2) else false)=false→(aU ((aS.1:Int)+z1))∧∃(nL:Nat×Nat),((aS.1:Int)+z1=(nL.1:Int)∧S.aX l aS.2 aS.1=S.aX l nL.2 nL.1∧S.lh l aS.2=S.lh l nL.2∧S.cN l (S.lh l aS.2) aS.1=S.cN l (S.lh l nL.2) nL.1)∧((nL.1≤l.length∧nL.2<S.uL l)∧S.cw l x=S.cw l nL.2)∧S.ah (S.len l) nL.1<S.ah (S.len l) aS.1))∧(decide ((aS.1:Int)<(au l))=false→List.length (S.cw l x)+List.length [(S.lh l aS.2,S.cN l (S.lh l aS.2) aS.1)]≤(3518437208883:Nat)∧∃(nL:Nat),(S.cw l x++ [(S.lh l aS.2,S.cN l (S.lh l aS.2) aS.1)]=S.cw l nL∧S.aX l aS.2 aS.1=S.az l nL)∧nL≤S.uL l∧S.ah (S.uL l) nL<S.ah (S.uL l) x)))
def Mz(l:List (Int×Int×List (List UInt8×List Int)))(x:Nat):=List.getD l ((x:Int).toNat) (z0,z0,[])
def q49(l:List (Int×Int×List (List UInt8×List Int)))(x:Nat):= !decide ((List.getD l (Int.toNat ((x:Int)+z1)) (z0,z0,[])).1=((List.getD l (Int.toNat ((x:Int)+z1-z1)) (z0,z0,[])).2).1)
def Yx(l:List (Int×Int×List (List UInt8×List Int))):Prop :=
 (decide ((au l)=z0)=true→z0=((S.dm l).1).1∧z0=(((S.dm l).1).2).1∧ []=(((S.dm l).1).2).2∧z1=(S.dm l).2)∧(decide ((au l)=z0)=false→(∃(x:Nat),z0=(x:Int)∧S.ow l x)∧∀(x:Nat),S.ow l x→(decide ((x:Int)<(au l))=true→(z0≤(x:Int)∧(x:Int)<(au l))∧S.jv (((Mz l x).2).2)∧((!S.gZ ((Mz l x).1) (((Mz l x).2).1) (((Mz l x).2).2))=true→z0=((S.dm l).1).1∧z0=(((S.dm l).1).2).1∧ []=(((S.dm l).1).2).2∧z1=(S.dm l).2)∧((!S.gZ ((Mz l x).1) (((Mz l x).2).1) (((Mz l x).2).2))=false→(aU ((x:Int)+z1))∧∃(af:Nat),(x:Int)+z1=(af:Int)∧S.ow l af∧S.ah (S.len l) af<S.ah (S.len l) x))∧(decide ((x:Int)<(au l))=false→(∃(x:Nat),z1=(x:Int)+z1∧S.qQ l x)∧∀(x:Nat),S.qQ l x→(decide ((x:Int)+z1<(au l))=true→(z0≤(x:Int)+z1∧(x:Int)+z1<(au l))∧(aU ((x:Int)+z1-z1))∧(z0≤(x:Int)+z1-z1∧(x:Int)+z1-z1<(au l))∧((q49 l x)=true→z0=((S.dm l).1).1∧z0=(((S.dm l).1).2).1∧ []=(((S.dm l).1).2).2∧(7:Int)=(S.dm l).2)∧((q49 l x)=false→(aU ((x:Int)+z1+z1))∧∃(af:Nat),(x:Int)+z1+z1=(af:Int)+z1∧S.qQ l af∧S.ah (S.len l) af<S.ah (S.len l) x))∧(decide ((x:Int)+z1<(au l))=false→(z0≤z0∧z0<(au l))∧(aU ((au l)-z1))∧(z0≤(au l)-z1∧(au l)-z1<(au l))∧S.nI l∧(List.getD l (z0.toNat) (z0,z0,[])).1=((S.dm l).1).1∧((List.getD l (Int.toNat ((au l)-z1)) (z0,z0,[])).2).1=(((S.dm l).1).2).1∧S.nc l=(((S.dm l).1).2).2∧z0=(S.dm l).2)))
def q50(s1 s2:Int):=bif decide (s1<z0) then true else bif decide (s2<z0) then true else decide (s2≤s1)
def Yy(s1:Int)(s2:Int):Prop :=
 ((q50 s1 s2)=true→(-1:Int)=S.j8 s1 s2)∧((q50 s1 s2)=false→(aU (s2-s1))∧(∃(x:Nat),(s2-s1=(x:Int)∧z0=S.lg (s2-s1)-S.lg (x:Int))∧S.lJ s1 s2 x)∧∀(x:Nat),S.lJ s1 s2 x→(decide (z1<(x:Int))=true→(aU (S.lg (s2-s1)-S.lg (x:Int)+z1))∧z0≤(x:Int)∧z0<(2:Int)∧∃(af:Nat),((x:Int)/(2:Int)=(af:Int)∧S.lg (s2-s1)-S.lg (x:Int)+z1=S.lg (s2-s1)-S.lg (af:Int))∧S.lJ s1 s2 af∧af<x)∧(decide (z1<(x:Int))=false→S.lg (s2-s1)-S.lg (x:Int)=S.j8 s1 s2))
def Yz(l:List (Int×Int))(x:Nat):=List.getD l (Int.toNat ((↑(S.len l):Int)-(2:Int)-(x:Int)+z1)) (z0,z0)
def YA(l:List (Int×Int))(x:Nat):=List.getD l (Int.toNat ((↑(S.len l):Int)-(2:Int)-(x:Int))) (z0,z0)
def YB(l:List (Int×Int)):Prop :=
 (aU ((au l)-(2:Int)))∧(∃(x:Nat),(au l)-(2:Int)=(↑(S.len l):Int)-(2:Int)-(x:Int)∧S.kI l x)∧∀(x:Nat),S.kI l x→(decide (z0≤(↑(S.len l):Int)-(2:Int)-(x:Int))=true→(z0≤(↑(S.len l):Int)-(2:Int)-(x:Int)∧(↑(S.len l):Int)-(2:Int)-(x:Int)<(au l))∧True∧(aU ((↑(S.len l):Int)-(2:Int)-(x:Int)+z1))∧(z0≤(↑(S.len l):Int)-(2:Int)-(x:Int)+z1∧(↑(S.len l):Int)-(2:Int)-(x:Int)+z1<(au l))∧True∧(decide (S.j8 ((YA l x).1) ((YA l x).2)≤S.j8 ((Yz l x).1) ((Yz l x).2))=true→(↑(S.len l):Int)-(2:Int)-(x:Int)=(S.dE l).1∧true=(S.dE l).2)∧(decide (S.j8 ((YA l x).1) ((YA l x).2)≤S.j8 ((Yz l x).1) ((Yz l x).2))=false→(aU ((↑(S.len l):Int)-(2:Int)-(x:Int)-z1))∧∃(af:Nat),(↑(S.len l):Int)-(2:Int)-(x:Int)-z1=(↑(S.len l):Int)-(2:Int)-(af:Int)∧S.kI l af∧S.ah (S.len l) af<S.ah (S.len l) x))∧(decide (z0≤(↑(S.len l):Int)-(2:Int)-(x:Int))=false→z0=(S.dE l).1∧false=(S.dE l).2)
def YC(l:List (Int×Int×List (List UInt8×List Int))):Prop :=
 (∃(x:Nat),(z0=(x:Int)∧ []=S.gH l x)∧x≤l.length)∧∀(x:Nat),x≤l.length→(decide ((x:Int)<(au l))=true→(z0≤(x:Int)∧(x:Int)<(au l))∧List.length (S.gH l x)+List.length [((List.getD l ((x:Int).toNat) (z0,z0,[])).1,((List.getD l ((x:Int).toNat) (z0,z0,[])).2).1)]≤(8796093022208:Nat)∧(aU ((x:Int)+z1))∧∃(af:Nat),((x:Int)+z1=(af:Int)∧S.gH l x++ [((List.getD l ((x:Int).toNat) (z0,z0,[])).1,((List.getD l ((x:Int).toNat) (z0,z0,[])).2).1)]=S.gH l af)∧af≤l.length∧S.ah (S.len l) af<S.ah (S.len l) x)∧(decide ((x:Int)<(au l))=false→S.gH l x=S.cr l)
def YD(l:List UInt8):Prop :=
 (l= []→ []=l)∧List.length (Vg.fb UInt8)+l.length≤lZ∧ []++l=l
def YE(l:List (List UInt8×List Int)):Prop :=
 (l= []→ []=l)∧List.length (Vg.fb (List UInt8×List Int))+l.length≤(3518437208883:Nat)∧ []++l=l
def YF(a:List Int)(b:List Int):Prop :=
 ((!decide ((au a)=(au b)))=true→false=S.Aq a b)∧((!decide ((au a)=(au b)))=false→(∃(x:Nat),z0=(x:Int)∧S.zg a b x)∧∀(x:Nat),S.zg a b x→(decide ((x:Int)<(au a))=true→(z0≤(x:Int)∧(x:Int)<(au a))∧(z0≤(x:Int)∧(x:Int)<(au b))∧((!decide (List.getD a ((x:Int).toNat) z0=List.getD b ((x:Int).toNat) z0))=true→false=S.Aq a b)∧((!decide (List.getD a ((x:Int).toNat) z0=List.getD b ((x:Int).toNat) z0))=false→(aU ((x:Int)+z1))∧∃(af:Nat),(x:Int)+z1=(af:Int)∧S.zg a b af∧S.ah (S.len a) af<S.ah (S.len a) x))∧(decide ((x:Int)<(au a))=false→true=S.Aq a b))
def YG(a1:List UInt8)(a2:List Int)(b1:List UInt8)(b2:List Int):Prop :=
 ((decide (a1=b1)=true→True)∧(decide (a1=b1)=false→True))∧(bif decide (a1=b1) then S.Aq a2 b2 else false)=S.uO a1 a2 b1 b2
def q53(a:List (List UInt8×List Int))(x:Nat)(b:List (List UInt8×List Int)):= !S.uO ((List.getD a ((x:Int).toNat) ([],[])).1) ((List.getD a ((x:Int).toNat) ([],[])).2) ((List.getD b ((x:Int).toNat) ([],[])).1) ((List.getD b ((x:Int).toNat) ([],[])).2)
def YH(a:List (List UInt8×List Int))(b:List (List UInt8×List Int)):Prop :=
 ((!decide ((au a)=(au b)))=true→false=S.mF a b)∧((!decide ((au a)=(au b)))=false→(∃(x:Nat),z0=(x:Int)∧S.zb a b x)∧∀(x:Nat),S.zb a b x→(decide ((x:Int)<(au a))=true→(z0≤(x:Int)∧(x:Int)<(au a))∧(z0≤(x:Int)∧(x:Int)<(au b))∧True∧((q53 a x b)=true→false=S.mF a b)∧((q53 a x b)=false→(aU ((x:Int)+z1))∧∃(af:Nat),(x:Int)+z1=(af:Int)∧S.zb a b af∧S.ah (S.len a) af<S.ah (S.len a) x))∧(decide ((x:Int)<(au a))=false→true=S.mF a b))
def YI(a:List (List UInt8×List Int))(b:List (List UInt8×List Int)):Prop :=
 True∧S.mF a b=S.mF a b
def J6(y2:List (Int×Int×List (List UInt8×List Int)))(x:Nat):=List.getD y2 ((x:Int).toNat) (z0,z0,[])
def O7(y1:List (List UInt8))(y2:List (Int×Int×List (List UInt8×List Int)))(x:Nat):=S.cv y1 ((J6 y2 x).1) (((J6 y2 x).2).1)
def q56(y2:List (Int×Int×List (List UInt8×List Int)))(x:Nat)(y1:List (List UInt8)):=bif !decide ((J6 y2 x).1=S.eR y2 x) then true else bif decide (((J6 y2 x).2).1≤S.eR y2 x) then true else decide ((au y1)<((J6 y2 x).2).1)
def YJ(y1:List (List UInt8))(y2:List (Int×Int×List (List UInt8×List Int))):Prop :=
 ((bif decide ((1000:Int)<(au y1)) then true else decide ((64:Int)<(au y2)))=true→false=S.aW y1 y2)∧((bif decide ((1000:Int)<(au y1)) then true else decide ((64:Int)<(au y2)))=false→(∃(x:Nat),z0=(x:Int)∧S.EG y1 y2 x)∧∀(x:Nat),S.EG y1 y2 x→(decide ((x:Int)<(au y1))=true→(z0≤(x:Int)∧(x:Int)<(au y1))∧(decide ((2000:Int)<(↑(List.length (List.getD y1 ((x:Int).toNat) [])):Int))=true→false=S.aW y1 y2)∧(decide ((2000:Int)<(↑(List.length (List.getD y1 ((x:Int).toNat) [])):Int))=false→(aU ((x:Int)+z1))∧∃(af:Nat),(x:Int)+z1=(af:Int)∧S.EG y1 y2 af∧S.ah (S.len y1) af<S.ah (S.len y1) x))∧(decide ((x:Int)<(au y1))=false→(∃(x:Nat),(z0=(x:Int)∧z0=S.eR y2 x)∧S.uK y1 y2 x)∧∀(x:Nat),S.uK y1 y2 x→(decide ((x:Int)<(au y2))=true→(z0≤(x:Int)∧(x:Int)<(au y2))∧((q56 y2 x y1)=true→false=S.aW y1 y2)∧((q56 y2 x y1)=false→True∧(((!decide ((O7 y1 y2 x).2=z0))=true→True)∧((!decide ((O7 y1 y2 x).2=z0))=false→True))∧((bif !decide ((O7 y1 y2 x).2=z0) then true else !S.mF ((((O7 y1 y2 x).1).2).2) (((J6 y2 x).2).2))=true→false=S.aW y1 y2)∧((bif !decide ((O7 y1 y2 x).2=z0) then true else !S.mF ((((O7 y1 y2 x).1).2).2) (((J6 y2 x).2).2))=false→(aU ((x:Int)+z1))∧∃(af:Nat),((x:Int)+z1=(af:Int)∧((J6 y2 x).2).1=S.eR y2 af)∧S.uK y1 y2 af∧S.ah (S.len y2) af<S.ah (S.len y2) x)))∧(decide ((x:Int)<(au y2))=false→true=S.aW y1 y2)))
def YK(y1:List (List UInt8))(y2:List (Int×Int×List (List UInt8×List Int))):Prop :=
 True∧((!S.aW y1 y2)=true→ []=(S.ao y1 y2).1∧ []=(S.ao y1 y2).2)∧((!S.aW y1 y2)=false→y1=(S.ao y1 y2).1∧y2=(S.ao y1 y2).2)
def YL(y1:List (List UInt8))(y2:List (Int×Int×List (List UInt8×List Int))):Prop :=
 (decide ((au y2)=z0)=true→z0=S.cg y2)∧(decide ((au y2)=z0)=false→(aU ((au y2)-z1))∧(z0≤(au y2)-z1∧(au y2)-z1<(au y2))∧((List.getD y2 (Int.toNat ((au y2)-z1)) (z0,z0,[])).2).1=S.cg y2)
def GF(y2:List (Int×Int×List (List UInt8×List Int)))(af:Nat):=List.getD y2 ((af:Int).toNat) (z0,z0,[])
def YM(y1:List (List UInt8))(y2:List (Int×Int×List (List UInt8×List Int))):Prop :=
 (z0≤(au y1)∧(au y1)≤(au y1)∧(au y1)≤Cb/(↑(24:Nat):Int))∧(z0≤(au y2)∧(au y2)≤(au y2)∧(au y2)≤Cb/(↑(40:Nat):Int))∧(∃(x:Nat),(z0=(x:Int)∧List.replicate (Int.toNat (au y1)) (Vg.fb UInt8)=S.cU (Vg.fb UInt8) y1 x)∧S.gh y1 x)∧∀(x:Nat),S.gh y1 x→(decide ((x:Int)<(au y1))=true→(z0≤(x:Int)∧(x:Int)<(au y1))∧S.small (List.getD y1 ((x:Int).toNat) [])∧(z0≤(x:Int)∧(x:Int)<(↑(List.length (S.cU (Vg.fb UInt8) y1 x)):Int))∧(x:Int).toNat<List.length (S.cU (Vg.fb UInt8) y1 x)∧(aU ((x:Int)+z1))∧∃(af:Nat),((x:Int)+z1=(af:Int)∧List.set (S.cU (Vg.fb UInt8) y1 x) ((x:Int).toNat) (List.getD y1 ((x:Int).toNat) [])=S.cU (Vg.fb UInt8) y1 af)∧S.gh y1 af∧S.ah (S.len y1) af<S.ah (S.len y1) x)∧(decide ((x:Int)<(au y1))=false→(∃(x:Nat),(z0=(x:Int)∧List.replicate (Int.toNat (au y2)) (z0,z0,[])=S.cU (z0,z0,[]) y2 x)∧S.gh y2 x)∧∀(af:Nat),S.gh y2 af→(decide ((af:Int)<(au y2))=true→(z0≤(af:Int)∧(af:Int)<(au y2))∧S.small (((GF y2 af).2).2)∧(z0≤(af:Int)∧(af:Int)<(↑(List.length (S.cU (z0,z0,[]) y2 af)):Int))∧(af:Int).toNat<List.length (S.cU (z0,z0,[]) y2 af)∧(∃(x:Nat×Nat×List S.aA),(z0=(x.1:Int)∧List.set (S.cU (z0,z0,[]) y2 af) ((af:Int).toNat) ((GF y2 af).1,((GF y2 af).2).1,[])=x.2.2∧(af:Int).toNat=x.2.1∧((GF y2 af).2).2=((S.ar y2 x.2.1).2).2)∧S.qs y2 x.2.2 x.2.1 x.1∧(af:Int)=(x.2.1:Int))∧∀(x:Nat×Nat×List S.aA),S.qs y2 x.2.2 x.2.1 x.1∧(af:Int)=(x.2.1:Int)→(decide ((x.1:Int)<(↑(List.length (((GF y2 af).2).2)):Int))=true→(z0≤(x.1:Int)∧(x.1:Int)<(↑(List.length (((GF y2 af).2).2)):Int))∧(z0≤(af:Int)∧(af:Int)<(↑(List.length x.2.2):Int))∧(af:Int).toNat<List.length x.2.2∧(af:Int).toNat=x.2.1∧S.small ((List.getD (((GF y2 af).2).2) ((x.1:Int).toNat) ([],[])).2)∧(z0≤(x.1:Int)∧(x.1:Int)<(↑(List.length (((S.ar y2 x.2.1).2).2)):Int))∧(x.1:Int).toNat<List.length (((S.ar y2 x.2.1).2).2)∧(aU ((x.1:Int)+z1))∧∃(aS:Nat×Nat×List S.aA),((x.1:Int)+z1=(aS.1:Int)∧x.2.2=aS.2.2∧x.2.1=aS.2.1∧List.set (((S.ar y2 x.2.1).2).2) ((x.1:Int).toNat) ((List.getD (((S.ar y2 x.2.1).2).2) ((x.1:Int).toNat) ([],[])).1,(List.getD (((GF y2 af).2).2) ((x.1:Int).toNat) ([],[])).2)=((S.ar y2 aS.2.1).2).2)∧(S.qs y2 aS.2.2 aS.2.1 aS.1∧(af:Int)=(aS.2.1:Int))∧S.ah (S.gS y2 aS.2.1) aS.1<S.ah (S.gS y2 x.2.1) x.1)∧(decide ((x.1:Int)<(↑(List.length (((GF y2 af).2).2)):Int))=false→x.2.1<List.length x.2.2∧(aU ((af:Int)+z1))∧∃(aS:Nat),((af:Int)+z1=(aS:Int)∧List.set x.2.2 x.2.1 ((List.getD x.2.2 x.2.1 (z0,z0,[])).1,((List.getD x.2.2 x.2.1 (z0,z0,[])).2).1,((S.ar y2 x.2.1).2).2)=S.cU (z0,z0,[]) y2 aS)∧S.gh y2 aS∧S.ah (S.len y2) aS<S.ah (S.len y2) af))∧(decide ((af:Int)<(au y2))=false→S.cU (Vg.fb UInt8) y1 x=y1∧S.cU (z0,z0,[]) y2 af=y2))
def YN(l:List (Int×Int×List (List UInt8×List Int)))(i:Int)(m:Int)(s1:Int)(s2:Int)(s3:List (List UInt8×List Int)):Prop :=
 (z0≤i∧i=i∧i≤(au l))∧(0:Nat)<List.length [(s1,s2,s3)]∧List.length (List.take (Int.toNat i) l)+List.length [(s1,s2,s3)]≤(3518437208883:Nat)∧(aU (i+m))∧(z0≤i+m∧i+m≤(au l))∧List.length (List.take (Int.toNat i) l++ [(s1,s2,s3)])+List.length (List.drop (Int.toNat (i+m)) l)≤(3518437208883:Nat)∧List.take (Int.toNat i) l++ [(s1,s2,s3)]++List.drop (Int.toNat (i+m)) l=S.pF l (Int.toNat i) (Int.toNat m) (s1,s2,s3)
def YO(y1:List (List UInt8))(y2:List (Int×Int×List (List UInt8×List Int)))(d:List UInt8):Prop :=
 True∧(decide ((2000:Int)<(au d))=true→(S.ao y1 y2).1=((S.bq y1 y2 d).1).1∧(S.ao y1 y2).2=((S.bq y1 y2 d).1).2∧z1=(S.bq y1 y2 d).2)∧(decide ((2000:Int)<(au d))=false→(decide ((1000:Int)≤(↑(List.length ((S.ao y1 y2).1)):Int))=true→(S.ao y1 y2).1=((S.bq y1 y2 d).1).1∧(S.ao y1 y2).2=((S.bq y1 y2 d).1).2∧(3:Int)=(S.bq y1 y2 d).2)∧(decide ((1000:Int)≤(↑(List.length ((S.ao y1 y2).1)):Int))=false→S.lL ((S.ao y1 y2).1) ((S.ao y1 y2).2)∧S.small d∧List.length ((S.ao y1 y2).1)+List.length [d]≤(5864062014805:Nat)∧(S.ao y1 y2).1++ [d]=((S.bq y1 y2 d).1).1∧(S.ao y1 y2).2=((S.bq y1 y2 d).1).2∧z0=(S.bq y1 y2 d).2))
def GG(y1:List (List UInt8))(y2:List (Int×Int×List (List UInt8×List Int))):=S.cv ((S.ao y1 y2).1) (S.cg ((S.ao y1 y2).2)) (↑(List.length ((S.ao y1 y2).1)):Int)
def YP(y1:List (List UInt8))(y2:List (Int×Int×List (List UInt8×List Int))):Prop :=
 True∧True∧(decide (S.cg ((S.ao y1 y2).2)=(↑(List.length ((S.ao y1 y2).1)):Int))=true→(S.ao y1 y2).1=((S.aY y1 y2).1).1∧(S.ao y1 y2).2=((S.aY y1 y2).1).2∧(5:Int)=(S.aY y1 y2).2)∧(decide (S.cg ((S.ao y1 y2).2)=(↑(List.length ((S.ao y1 y2).1)):Int))=false→(decide ((64:Int)≤(↑(List.length ((S.ao y1 y2).2)):Int))=true→(S.ao y1 y2).1=((S.aY y1 y2).1).1∧(S.ao y1 y2).2=((S.aY y1 y2).1).2∧(3:Int)=(S.aY y1 y2).2)∧(decide ((64:Int)≤(↑(List.length ((S.ao y1 y2).2)):Int))=false→True∧((!decide ((GG y1 y2).2=z0))=true→(S.ao y1 y2).1=((S.aY y1 y2).1).1∧(S.ao y1 y2).2=((S.aY y1 y2).1).2∧(GG y1 y2).2=(S.aY y1 y2).2)∧((!decide ((GG y1 y2).2=z0))=false→S.lL ((S.ao y1 y2).1) ((S.ao y1 y2).2)∧List.length ((S.ao y1 y2).2)+List.length [(((GG y1 y2).1).1,(((GG y1 y2).1).2).1,(((GG y1 y2).1).2).2)]≤(3518437208883:Nat)∧(S.ao y1 y2).1=((S.aY y1 y2).1).1∧(S.ao y1 y2).2++ [(((GG y1 y2).1).1,(((GG y1 y2).1).2).1,(((GG y1 y2).1).2).2)]=((S.aY y1 y2).1).2∧z0=(S.aY y1 y2).2)))
def MA(i m:Int)(y1:List (List UInt8))(y2:List (Int×Int×List (List UInt8×List Int))):=List.drop (Int.toNat i) (List.take (Int.toNat (i+m)) ((S.ao y1 y2).2))
def q60(m i:Int)(y1:List (List UInt8))(y2:List (Int×Int×List (List UInt8×List Int))):=bif decide (m<(2:Int)) then true else bif decide (i<z0) then true else bif decide ((↑(List.length ((S.ao y1 y2).2)):Int)<m) then true else decide ((↑(List.length ((S.ao y1 y2).2)):Int)-m<i)
def YQ(y1:List (List UInt8))(y2:List (Int×Int×List (List UInt8×List Int)))(i:Int)(m:Int):Prop :=
 True∧((decide (m<(2:Int))=true→True)∧(decide (m<(2:Int))=false→(decide (i<z0)=true→True)∧(decide (i<z0)=false→(decide ((↑(List.length ((S.ao y1 y2).2)):Int)<m)=true→True)∧(decide ((↑(List.length ((S.ao y1 y2).2)):Int)<m)=false→aU ((↑(List.length ((S.ao y1 y2).2)):Int)-m)))))∧((q60 m i y1 y2)=true→(S.ao y1 y2).1=((S.cn y1 y2 i m).1).1∧(S.ao y1 y2).2=((S.cn y1 y2 i m).1).2∧z1=(S.cn y1 y2 i m).2)∧((q60 m i y1 y2)=false→(aU (i+m))∧(z0≤i∧i≤i+m∧i+m≤(↑(List.length ((S.ao y1 y2).2)):Int))∧S.rC (MA i m y1 y2)∧((!decide ((S.dm (MA i m y1 y2)).2=z0))=true→(S.ao y1 y2).1=((S.cn y1 y2 i m).1).1∧(S.ao y1 y2).2=((S.cn y1 y2 i m).1).2∧(S.dm (MA i m y1 y2)).2=(S.cn y1 y2 i m).2)∧((!decide ((S.dm (MA i m y1 y2)).2=z0))=false→S.lL ((S.ao y1 y2).1) ((S.ao y1 y2).2)∧S.rF ((S.ao y1 y2).2) i m∧(S.ao y1 y2).1=((S.cn y1 y2 i m).1).1∧S.pF ((S.ao y1 y2).2) (Int.toNat i) (Int.toNat m) (((S.dm (MA i m y1 y2)).1).1,(((S.dm (MA i m y1 y2)).1).2).1,(((S.dm (MA i m y1 y2)).1).2).2)=((S.cn y1 y2 i m).1).2∧z0=(S.cn y1 y2 i m).2))
def O8(y1:List (List UInt8))(y2:List (Int×Int×List (List UInt8×List Int)))(x:List (Int×Int)):=List.take (Int.toNat ((S.dE (S.cr (S.aB ((S.ao y1 y2).1) x))).1+(2:Int))-Int.toNat ((S.dE (S.cr (S.aB ((S.ao y1 y2).1) x))).1)) (List.drop (Int.toNat ((S.dE (S.cr (S.aB ((S.ao y1 y2).1) x))).1)) (S.aB ((S.ao y1 y2).1) x))
def GH(y1:List (List UInt8))(y2:List (Int×Int×List (List UInt8×List Int)))(x:List (Int×Int)):=S.dE (S.cr (S.aB ((S.ao y1 y2).1) x))
def YR(y1:List (List UInt8))(y2:List (Int×Int×List (List UInt8×List Int))):Prop :=
 True∧S.lL ((S.ao y1 y2).1) ((S.ao y1 y2).2)∧(∃(x:List (Int×Int)),(S.ao y1 y2).2=S.aB ((S.ao y1 y2).1) x∧S.nd y1 y2 x)∧∀(x:List (Int×Int)),S.nd y1 y2 x→S.small (S.aB ((S.ao y1 y2).1) x)∧True∧((!(GH y1 y2 x).2)=true→(S.ao y1 y2).1=(S.c5 y1 y2).1∧S.aB ((S.ao y1 y2).1) x=(S.c5 y1 y2).2)∧((!(GH y1 y2 x).2)=false→(aU ((GH y1 y2 x).1+(2:Int)))∧(z0≤(GH y1 y2 x).1∧(GH y1 y2 x).1≤(GH y1 y2 x).1+(2:Int)∧(GH y1 y2 x).1+(2:Int)≤(↑(List.length (S.aB ((S.ao y1 y2).1) x)):Int))∧S.rC (O8 y1 y2 x)∧((!decide ((S.dm (O8 y1 y2 x)).2=z0))=true→(S.ao y1 y2).1=(S.c5 y1 y2).1∧(S.ao y1 y2).2=(S.c5 y1 y2).2)∧((!decide ((S.dm (O8 y1 y2 x)).2=z0))=false→S.rF (S.aB ((S.ao y1 y2).1) x) ((GH y1 y2 x).1) (2:Int)∧∃(af:List (Int×Int)),S.pF (S.aB ((S.ao y1 y2).1) x) (Int.toNat ((GH y1 y2 x).1)) ((2:Int).toNat) (((S.dm (O8 y1 y2 x)).1).1,(((S.dm (O8 y1 y2 x)).1).2).1,(((S.dm (O8 y1 y2 x)).1).2).2)=S.aB ((S.ao y1 y2).1) af∧S.nd y1 y2 af∧af.length<x.length))
def q63:=List.replicate ((64:Int).toNat) (0:UInt8)
def Qm(b:List UInt8):Prop :=
 (z0≤(64:Int)∧(64:Int)≤(64:Int)∧(64:Int)≤Cb/(↑(1:Nat):Int))∧List.take q63.length b++List.drop b.length q63=S.copied b
def q64(n:Int):=List.replicate (Int.toNat n) (Vg.fb UInt8)
def J7(x:Nat):=(x:Int)+z1
def Qn(n:Int):Prop :=
 (aU (n*(64:Int)))∧(z0≤n*(64:Int)∧n*(64:Int)≤n*(64:Int)∧n*(64:Int)≤Cb/(↑(1:Nat):Int))∧(z0≤n∧n≤n∧n≤Cb/(↑(24:Nat):Int))∧(∃(x:Nat),(z0=(x:Int)∧List.length (q64 n)=Int.toNat n∧x=(0:Nat))∧S.uR x (Int.toNat n))∧∀(x:Nat),S.uR x (Int.toNat n)→(decide ((x:Int)<(↑(List.length (q64 n)):Int))=true→(aU ((x:Int)*(64:Int)))∧(aU (J7 x))∧(aU ((J7 x)*(64:Int)))∧(z0≤(x:Int)*(64:Int)∧(x:Int)*(64:Int)≤(J7 x)*(64:Int)∧(J7 x)*(64:Int)≤(J7 x)*(64:Int)∧(J7 x)*(64:Int)≤(↑(List.length (List.replicate (Int.toNat (n*(64:Int))) (0:UInt8))):Int))∧(z0≤(x:Int)∧(x:Int)<(↑(Int.toNat n):Int))∧((x:Int).toNat=x∧x<Int.toNat n∧Int.toNat ((x:Int)*(64:Int))=x*(64:Nat)∧Int.toNat ((J7 x)*(64:Int))-Int.toNat ((x:Int)*(64:Int))=(64:Nat))∧(aU (J7 x))∧∃(af:Nat),((x:Int)+z1=(af:Int)∧Int.toNat n=Int.toNat n∧x+(1:Nat)=af∧(64:Nat)=(64:Nat))∧S.uR af (Int.toNat n)∧S.ah (Int.toNat n) af<S.ah (Int.toNat n) x)∧(decide ((x:Int)<(↑(List.length (q64 n)):Int))=false→Int.toNat n=Int.toNat n∧x=Int.toNat n∧(64:Nat)=(64:Nat)∧List.replicate (Int.toNat (n*(64:Int))) (0:UInt8)=S.pH n)
def Qo(d1:List (List UInt8))(d2:List (Int×List UInt8)):Prop :=
 S.rG (au d1)∧(∃(x:Nat),(z0=(x:Int)∧S.pH (au d1)=S.fR d1 x)∧S.fe d1 x)∧∀(x:Nat),S.fe d1 x→(decide ((x:Int)<(au d1))=true→(z0≤(x:Int)∧(x:Int)<(au d1))∧(z0≤(x:Int)∧(x:Int)<(↑(Int.toNat (au d1)):Int))∧(x:Int).toNat<Int.toNat (au d1)∧(x:Int).toNat*(64:Nat)+(64:Nat)≤List.length (S.fR d1 x)∧(aU ((x:Int)+z1))∧∃(af:Nat),((x:Int)+z1=(af:Int)∧List.take ((x:Int).toNat*(64:Nat)) (S.fR d1 x)++List.take (64:Nat) (List.getD d1 ((x:Int).toNat) [])++List.drop ((x:Int).toNat*(64:Nat)+Min.min (List.length (List.getD d1 ((x:Int).toNat) [])) (64:Nat)) (S.fR d1 x)=S.fR d1 af)∧S.fe d1 af∧S.ah (S.len d1) af<S.ah (S.len d1) x)∧(decide ((x:Int)<(au d1))=false→Int.toNat (au d1)=S.len d1∧Int.toNat (au d1)=S.len d1∧(64:Nat)=(64:Nat)∧S.fR d1 x=S.flat d1)
def q66(d2:List (Int×List UInt8))(x:Nat)(d1:List (List UInt8)):=bif decide ((List.getD d2 ((x:Int).toNat) (z0,[])).1<z0) then true else bif decide ((au d1)≤(List.getD d2 ((x:Int).toNat) (z0,[])).1) then true else !decide ((↑(List.length ((List.getD d2 ((x:Int).toNat) (z0,[])).2)):Int)=(64:Int))
def Qp(d1:List (List UInt8))(d2:List (Int×List UInt8)):Prop :=
 ((bif decide ((4096:Int)<(au d1)) then true else decide ((1000:Int)<(au d2)))=true→false=S.aJ d1 d2)∧((bif decide ((4096:Int)<(au d1)) then true else decide ((1000:Int)<(au d2)))=false→(∃(x:Nat),z0=(x:Int)∧S.Mh d1 x)∧∀(x:Nat),S.Mh d1 x→(decide ((x:Int)<(au d1))=true→(z0≤(x:Int)∧(x:Int)<(au d1))∧((!decide ((↑(List.length (List.getD d1 ((x:Int).toNat) [])):Int)=(64:Int)))=true→false=S.aJ d1 d2)∧((!decide ((↑(List.length (List.getD d1 ((x:Int).toNat) [])):Int)=(64:Int)))=false→(aU ((x:Int)+z1))∧∃(af:Nat),(x:Int)+z1=(af:Int)∧S.Mh d1 af∧S.ah (S.len d1) af<S.ah (S.len d1) x))∧(decide ((x:Int)<(au d1))=false→(∃(x:Nat),z0=(x:Int)∧S.Mi d1 d2 x)∧∀(x:Nat),S.Mi d1 d2 x→(decide ((x:Int)<(au d2))=true→(z0≤(x:Int)∧(x:Int)<(au d2))∧((q66 d2 x d1)=true→false=S.aJ d1 d2)∧((q66 d2 x d1)=false→(aU ((x:Int)+z1))∧∃(af:Nat),(x:Int)+z1=(af:Int)∧S.Mi d1 d2 af∧S.ah (S.len d2) af<S.ah (S.len d2) x))∧(decide ((x:Int)<(au d2))=false→true=S.aJ d1 d2)))
def Qq(d1:List (List UInt8))(d2:List (Int×List UInt8)):Prop :=
 True∧((!S.aJ d1 d2)=true→ []=S.vB d1 d2∧ []=S.vW d1 d2)∧((!S.aJ d1 d2)=false→d1=S.vB d1 d2∧d2=S.vW d1 d2)
def Qr(d1:List (List UInt8))(d2:List (Int×List UInt8)):Prop :=
 True∧(au (S.vB d1 d2))=S.kA (S.vB d1 d2)
def q67(n:Int):=bif decide (n<z0) then true else decide ((4096:Int)<n)
def Qs(n:Int):Prop :=
 ((q67 n)=true→ []=S.j1 n∧z1=S.nZ n)∧((q67 n)=false→S.rG n∧Int.toNat n=Int.toNat n∧Vg.gX (64:Nat) (Int.toNat n) (S.pH n)=S.j1 n∧z0=S.nZ n)
def Qt(d1:List (List UInt8))(d2:List (Int×List UInt8))(i:Int):Prop :=
 True∧((bif decide (i<z0) then true else decide ((au (S.vB d1 d2))≤i))=true→z1=S.gj d1 d2 i∧ []=S.dP d1 d2 i)∧((bif decide (i<z0) then true else decide ((au (S.vB d1 d2))≤i))=false→(z0≤i∧i<(au (S.vB d1 d2)))∧(∃(x:Nat),(z0=(x:Int)∧List.getD (S.vB d1 d2) (Int.toNat i) []=S.qu (S.vW d1 d2) i (S.bN (S.vB d1 d2) i) x)∧S.fe (S.vW d1 d2) x)∧∀(x:Nat),S.fe (S.vW d1 d2) x→(decide ((x:Int)<(au (S.vW d1 d2)))=true→(z0≤(x:Int)∧(x:Int)<(au (S.vW d1 d2)))∧(aU ((x:Int)+z1))∧∃(af:Nat),((x:Int)+z1=(af:Int)∧(bif decide ((List.getD (S.vW d1 d2) ((x:Int).toNat) (z0,[])).1=i) then(List.getD (S.vW d1 d2) ((x:Int).toNat) (z0,[])).2 else S.qu (S.vW d1 d2) i (S.bN (S.vB d1 d2) i) x)=S.qu (S.vW d1 d2) i (S.bN (S.vB d1 d2) i) af)∧S.fe (S.vW d1 d2) af∧S.ah (S.len (S.vW d1 d2)) af<S.ah (S.len (S.vW d1 d2)) x)∧(decide ((x:Int)<(au (S.vW d1 d2)))=false→True∧z0=S.gj d1 d2 i∧S.copied (S.qu (S.vW d1 d2) i (S.bN (S.vB d1 d2) i) x)=S.dP d1 d2 i))
def Qu(d1:List (List UInt8))(d2:List (Int×List UInt8))(i:Int)(b:List UInt8):Prop :=
 True∧((bif decide (i<z0) then true else bif decide ((au (S.vB d1 d2))≤i) then true else !decide ((au b)=(64:Int)))=true→S.vB d1 d2=S.wB d1 d2∧S.vW d1 d2=S.wW d1 d2 i b∧z1=S.kL d1 d2 i b)∧((bif decide (i<z0) then true else bif decide ((au (S.vB d1 d2))≤i) then true else !decide ((au b)=(64:Int)))=false→(decide ((1000:Int)≤(au (S.vW d1 d2)))=true→S.vB d1 d2=S.wB d1 d2∧S.vW d1 d2=S.wW d1 d2 i b∧(3:Int)=S.kL d1 d2 i b)∧(decide ((1000:Int)≤(au (S.vW d1 d2)))=false→S.pI (S.vB d1 d2)∧(∃(x:Nat),(z0=(x:Int)∧ []=S.kK (S.vW d1 d2) x)∧S.fe (S.vW d1 d2) x)∧∀(x:Nat),S.fe (S.vW d1 d2) x→(decide ((x:Int)<(au (S.vW d1 d2)))=true→(z0≤(x:Int)∧(x:Int)<(au (S.vW d1 d2)))∧True∧List.length (S.kK (S.vW d1 d2) x)+List.length [((List.getD (S.vW d1 d2) ((x:Int).toNat) (z0,[])).1,S.copied ((List.getD (S.vW d1 d2) ((x:Int).toNat) (z0,[])).2))]≤(4398046511104:Nat)∧(aU ((x:Int)+z1))∧∃(af:Nat),((x:Int)+z1=(af:Int)∧S.kK (S.vW d1 d2) x++ [((List.getD (S.vW d1 d2) ((x:Int).toNat) (z0,[])).1,S.copied ((List.getD (S.vW d1 d2) ((x:Int).toNat) (z0,[])).2))]=S.kK (S.vW d1 d2) af)∧S.fe (S.vW d1 d2) af∧S.ah (S.len (S.vW d1 d2)) af<S.ah (S.len (S.vW d1 d2)) x)∧(decide ((x:Int)<(au (S.vW d1 d2)))=false→True∧List.length (S.kK (S.vW d1 d2) x)+List.length [(i,S.copied b)]≤(4398046511104:Nat)∧S.len (S.vB d1 d2)=S.len (S.vB d1 d2)∧Vg.gX (64:Nat) (S.len (S.vB d1 d2)) (S.flat (S.vB d1 d2))=S.wB d1 d2∧S.kK (S.vW d1 d2) x++ [(i,S.copied b)]=S.wW d1 d2 i b∧z0=S.kL d1 d2 i b)))
def J8(d1:List (List UInt8))(d2:List (Int×List UInt8))(x:Nat):=List.getD (S.vW d1 d2) ((x:Int).toNat) (z0,[])
def Qv(d1:List (List UInt8))(d2:List (Int×List UInt8)):Prop :=
 True∧S.pI (S.vB d1 d2)∧(∃(x:Nat),(z0=(x:Int)∧S.flat (S.vB d1 d2)=S.lN (S.vB d1 d2) (S.vW d1 d2) x)∧S.fe (S.vW d1 d2) x)∧∀(x:Nat),S.fe (S.vW d1 d2) x→(decide ((x:Int)<(au (S.vW d1 d2)))=true→(z0≤(x:Int)∧(x:Int)<(au (S.vW d1 d2)))∧(z0≤(J8 d1 d2 x).1∧(J8 d1 d2 x).1<(↑(S.len (S.vB d1 d2)):Int))∧Int.toNat ((J8 d1 d2 x).1)<S.len (S.vB d1 d2)∧Int.toNat ((J8 d1 d2 x).1)*(64:Nat)+(64:Nat)≤List.length (S.lN (S.vB d1 d2) (S.vW d1 d2) x)∧(aU ((x:Int)+z1))∧∃(af:Nat),((x:Int)+z1=(af:Int)∧List.take (Int.toNat ((J8 d1 d2 x).1)*(64:Nat)) (S.lN (S.vB d1 d2) (S.vW d1 d2) x)++List.take (64:Nat) ((J8 d1 d2 x).2)++List.drop (Int.toNat ((J8 d1 d2 x).1)*(64:Nat)+Min.min (List.length ((J8 d1 d2 x).2)) (64:Nat)) (S.lN (S.vB d1 d2) (S.vW d1 d2) x)=S.lN (S.vB d1 d2) (S.vW d1 d2) af)∧S.fe (S.vW d1 d2) af∧S.ah (S.len (S.vW d1 d2)) af<S.ah (S.len (S.vW d1 d2)) x)∧(decide ((x:Int)<(au (S.vW d1 d2)))=false→S.len (S.vB d1 d2)=S.len (S.vB d1 d2)∧Vg.gX (64:Nat) (S.len (S.vB d1 d2)) (S.lN (S.vB d1 d2) (S.vW d1 d2) x)=S.jE (d1,d2))
def GI(d1:List (List UInt8))(d2:List (Int×List UInt8))(x:Nat):=List.getD (S.vW d1 d2) ((x:Int).toNat) (z0,[])
def q70(x:Nat)(keep:List Int):=bif decide ((x:Int)<(au keep)) then Min.min (Max.max (List.getD keep ((x:Int).toNat) z0) z0) (64:Int) else z0
def Qw(d1:List (List UInt8))(d2:List (Int×List UInt8))(keep:List Int):Prop :=
 True∧S.pI (S.vB d1 d2)∧(∃(x:Nat),(z0=(x:Int)∧S.flat (S.vB d1 d2)=S.jB keep (S.vB d1 d2) (S.vW d1 d2) x)∧S.fe (S.vW d1 d2) x)∧∀(x:Nat),S.fe (S.vW d1 d2) x→(decide ((x:Int)<(au (S.vW d1 d2)))=true→(z0≤(x:Int)∧(x:Int)<(au (S.vW d1 d2)))∧((decide ((x:Int)<(au keep))=true→z0≤(x:Int)∧(x:Int)<(au keep))∧(decide ((x:Int)<(au keep))=false→True))∧(z0≤(GI d1 d2 x).1∧(GI d1 d2 x).1<(↑(S.len (S.vB d1 d2)):Int))∧Int.toNat ((GI d1 d2 x).1)<S.len (S.vB d1 d2)∧((z0≤bif decide ((x:Int)<(au keep)) then Min.min (Max.max (List.getD keep ((x:Int).toNat) z0) z0) (64:Int) else z0)∧(q70 x keep)≤(↑(List.length ((GI d1 d2 x).2)):Int))∧Int.toNat ((GI d1 d2 x).1)*(64:Nat)+(64:Nat)≤List.length (S.jB keep (S.vB d1 d2) (S.vW d1 d2) x)∧(aU ((x:Int)+z1))∧∃(af:Nat),((x:Int)+z1=(af:Int)∧List.take (Int.toNat ((GI d1 d2 x).1)*(64:Nat)) (S.jB keep (S.vB d1 d2) (S.vW d1 d2) x)++List.take (64:Nat) (List.take (Int.toNat (q70 x keep)) ((GI d1 d2 x).2))++List.drop (Int.toNat ((GI d1 d2 x).1)*(64:Nat)+Min.min (List.length (List.take (Int.toNat (q70 x keep)) ((GI d1 d2 x).2))) (64:Nat)) (S.jB keep (S.vB d1 d2) (S.vW d1 d2) x)=S.jB keep (S.vB d1 d2) (S.vW d1 d2) af)∧S.fe (S.vW d1 d2) af∧S.ah (S.len (S.vW d1 d2)) af<S.ah (S.len (S.vW d1 d2)) x)∧(decide ((x:Int)<(au (S.vW d1 d2)))=false→S.len (S.vB d1 d2)=S.len (S.vB d1 d2)∧Vg.gX (64:Nat) (S.len (S.vB d1 d2)) (S.jB keep (S.vB d1 d2) (S.vW d1 d2) x)=S.vY (d1,d2) keep)
def Qx(a:List UInt8)(b:List UInt8):Prop :=
 decide (a=b)=S.JT a b
def q71(b:List UInt8):=List.length (List.take ((8:Int).toNat) b)
def Qy(b:List UInt8):Prop :=
 (z0≤(8:Int)∧(8:Int)≤(au b))∧(∃(x:Nat),(z0=(x:Int)∧z0=(↑(S.dS b x):Int))∧S.oh x (8:Nat))∧∀(x:Nat),S.oh x (8:Nat)→(decide ((x:Int)<(↑(q71 b):Int))=true→(z0≤(x:Int)∧(x:Int)<(↑(q71 b):Int))∧(z0≤(8:Int)∧(8:Int)≤(64:Int))∧(aU ((x:Int)+z1))∧∃(af:Nat),((x:Int)+z1=(af:Int)∧Vg.cG ((↑(S.dS b x):Int)*(2:Int)^(8:Int).toNat%(18446744073709551616:Int)) (↑(UInt8.toNat (List.getD (List.take ((8:Int).toNat) b) ((x:Int).toNat) (0:UInt8))):Int)=(↑(S.dS b af):Int))∧S.oh af (8:Nat)∧S.ah (8:Nat) af<S.ah (8:Nat) x)∧(decide ((x:Int)<(↑(q71 b):Int))=false→(decide ((4611686018427387904:Int)<(↑(S.dS b x):Int))=true→z0=(S.eU b).1∧false=(S.eU b).2)∧(decide ((4611686018427387904:Int)<(↑(S.dS b x):Int))=false→(aU ((↑(S.dS b x):Int)))∧(↑(S.dS b x):Int)=(S.eU b).1∧true=(S.eU b).2))
def q72(m1 m2:Int)(x:Nat):=List.set (S.eb m1 m2 x) ((x:Int).toNat) (UInt8.ofNat (Int.toNat (m1%(18446744073709551616:Int)/(2:Int)^Int.toNat ((8:Int)*((7:Int)-(x:Int)))%(256:Int))))
def E9:=(32:Int).toNat
def q74(x:Nat):=z0≤(8:Int)*((7:Int)-(x:Int))∧(8:Int)*((7:Int)-(x:Int))≤(64:Int)
def q75(m1 m2:Int)(x:Nat):=List.length (S.eb m1 m2 x)-(E9:Int).toNat
def Qz(m1:Int)(m2:Int):Prop :=
 (z0≤(64:Int)∧(64:Int)≤(64:Int)∧(64:Int)≤Cb/(↑(1:Nat):Int))∧(z0≤(32:Int)∧(32:Int)≤(↑(List.length (List.replicate ((64:Int).toNat) (0:UInt8))):Int))∧(∃(x:Nat),(z0=(x:Int)∧List.replicate ((64:Int).toNat) (0:UInt8)=S.eb m1 m2 x)∧S.oh x (8:Nat))∧∀(x:Nat),S.oh x (8:Nat)→(decide ((x:Int)<(8:Int))=true→(aU ((7:Int)-(x:Int)))∧(aU ((8:Int)*((7:Int)-(x:Int))))∧(q74 x)∧(z0≤(x:Int)∧(x:Int)<(E9:Int))∧(x:Int).toNat<List.length (S.eb m1 m2 x)∧(aU ((8:Int)+(x:Int)))∧(q74 x)∧(z0≤(8:Int)+(x:Int)∧(8:Int)+(x:Int)<(E9:Int))∧Int.toNat ((8:Int)+(x:Int))<List.length (q72 m1 m2 x)∧(aU ((x:Int)+z1))∧∃(af:Nat),((x:Int)+z1=(af:Int)∧List.set (q72 m1 m2 x) (Int.toNat ((8:Int)+(x:Int))) (UInt8.ofNat (Int.toNat (m2%(18446744073709551616:Int)/(2:Int)^Int.toNat ((8:Int)*((7:Int)-(x:Int)))%(256:Int))))=S.eb m1 m2 af)∧S.oh af (8:Nat)∧S.ah (8:Nat) af<S.ah (8:Nat) x)∧(decide ((x:Int)<(8:Int))=false→(z0≤(E9:Int)∧(E9:Int)≤(au (S.eb m1 m2 x)))∧(E9:Int).toNat+(q75 m1 m2 x)≤List.length (S.eb m1 m2 x)∧List.take ((E9:Int).toNat) (S.eb m1 m2 x)++List.take (q75 m1 m2 x) (List.take E9 (S.eb m1 m2 x))++List.drop ((E9:Int).toNat+Min.min (List.length (List.take E9 (S.eb m1 m2 x))) (q75 m1 m2 x)) (S.eb m1 m2 x)=S.dQ m1 m2)
def GJ(b:List UInt8):=S.eU (List.drop ((8:Int).toNat) b)
def q77(b:List UInt8)(m:Int):=bif !(S.eU b).2 then true else bif !(GJ b).2 then true else bif decide (m<(GJ b).1) then true else !S.JT b (S.dQ ((S.eU b).1) ((GJ b).1))
def QA(b:List UInt8)(m:Int):Prop :=
 ((!decide ((au b)=(64:Int)))=true→z0=((S.cF b m).1).1∧z0=((S.cF b m).1).2∧false=(S.cF b m).2)∧((!decide ((au b)=(64:Int)))=false→S.eS b∧(z0≤(8:Int)∧(8:Int)≤(au b))∧S.eS (List.drop ((8:Int).toNat) b)∧(((!(S.eU b).2)=true→True)∧((!(S.eU b).2)=false→((!(GJ b).2)=true→True)∧((!(GJ b).2)=false→(decide (m<(GJ b).1)=true→True)∧(decide (m<(GJ b).1)=false→S.lQ ((S.eU b).1) ((GJ b).1)∧True))))∧((q77 b m)=true→z0=((S.cF b m).1).1∧z0=((S.cF b m).1).2∧false=(S.cF b m).2)∧((q77 b m)=false→(S.eU b).1=((S.cF b m).1).1∧(GJ b).1=((S.cF b m).1).2∧true=(S.cF b m).2))
def QB(d1:List (List UInt8))(d2:List (Int×List UInt8)):Prop :=
 True∧(aU (S.kA (S.vB d1 d2)-(2:Int)))∧(aU ((S.kA (S.vB d1 d2)-(2:Int))*(64:Int)))∧(S.kA (S.vB d1 d2)-(2:Int))*(64:Int)=S.dG d1 d2
def QC(d1:List (List UInt8))(d2:List (Int×List UInt8)):Prop :=
 (∃(x:Nat),(z0=(x:Int)∧false=(S.c6 d1 d2 x).2∧z0=((S.c6 d1 d2 x).1).1∧z0=((S.c6 d1 d2 x).1).2)∧S.oh x (2:Nat))∧∀(x:Nat),S.oh x (2:Nat)→(decide ((x:Int)<(2:Int))=true→True∧((!decide (S.gj d1 d2 (x:Int)=z0))=true→(aU ((x:Int)+z1))∧∃(af:Nat),((x:Int)+z1=(af:Int)∧(S.c6 d1 d2 x).2=(S.c6 d1 d2 af).2∧((S.c6 d1 d2 x).1).1=((S.c6 d1 d2 af).1).1∧((S.c6 d1 d2 x).1).2=((S.c6 d1 d2 af).1).2)∧S.oh af (2:Nat)∧S.ah (2:Nat) af<S.ah (2:Nat) x)∧((!decide (S.gj d1 d2 (x:Int)=z0))=false→True∧True∧(aU ((x:Int)+z1))∧∃(af:Nat),((x:Int)+z1=(af:Int)∧(bif bif (S.cF (S.dP d1 d2 (x:Int)) (S.dG d1 d2)).2 then bif !(S.c6 d1 d2 x).2 then true else decide (((S.c6 d1 d2 x).1).1<((S.cF (S.dP d1 d2 (x:Int)) (S.dG d1 d2)).1).1) else false then true else(S.c6 d1 d2 x).2)=(S.c6 d1 d2 af).2∧(bif bif (S.cF (S.dP d1 d2 (x:Int)) (S.dG d1 d2)).2 then bif !(S.c6 d1 d2 x).2 then true else decide (((S.c6 d1 d2 x).1).1<((S.cF (S.dP d1 d2 (x:Int)) (S.dG d1 d2)).1).1) else false then((S.cF (S.dP d1 d2 (x:Int)) (S.dG d1 d2)).1).1 else((S.c6 d1 d2 x).1).1)=((S.c6 d1 d2 af).1).1∧(bif bif (S.cF (S.dP d1 d2 (x:Int)) (S.dG d1 d2)).2 then bif !(S.c6 d1 d2 x).2 then true else decide (((S.c6 d1 d2 x).1).1<((S.cF (S.dP d1 d2 (x:Int)) (S.dG d1 d2)).1).1) else false then((S.cF (S.dP d1 d2 (x:Int)) (S.dG d1 d2)).1).2 else((S.c6 d1 d2 x).1).2)=((S.c6 d1 d2 af).1).2)∧S.oh af (2:Nat)∧S.ah (2:Nat) af<S.ah (2:Nat) x))∧(decide ((x:Int)<(2:Int))=false→((S.c6 d1 d2 x).1).1=((S.fy d1 d2).1).1∧((S.c6 d1 d2 x).1).2=((S.fy d1 d2).1).2∧(S.c6 d1 d2 x).2=(S.fy d1 d2).2)
def QD(d1:List (List UInt8))(d2:List (Int×List UInt8))(n:Int):Prop :=
 (∃(x:Nat),((2:Int)=(x:Int)+(2:Int)∧ []=S.dU d1 d2 x)∧S.nj d1 d2 n x)∧∀(x:Nat),S.nj d1 d2 n x→(decide ((au (S.dU d1 d2 x))<n)=true→True∧((!decide (S.gj d1 d2 ((x:Int)+(2:Int))=z0))=true→S.dU d1 d2 x=List.take (Int.toNat n) (S.uX d1 d2))∧((!decide (S.gj d1 d2 ((x:Int)+(2:Int))=z0))=false→List.length (S.dU d1 d2 x)+List.length (S.dP d1 d2 ((x:Int)+(2:Int)))≤lZ∧(aU ((x:Int)+(2:Int)+z1))∧∃(af:Nat),((x:Int)+(2:Int)+z1=(af:Int)+(2:Int)∧S.dU d1 d2 x++S.dP d1 d2 ((x:Int)+(2:Int))=S.dU d1 d2 af)∧S.nj d1 d2 n af∧S.ah (5000:Nat) af<S.ah (5000:Nat) x))∧(decide ((au (S.dU d1 d2 x))<n)=false→(z0≤n∧n≤(au (S.dU d1 d2 x)))∧List.take (Int.toNat n) (S.dU d1 d2 x)=List.take (Int.toNat n) (S.uX d1 d2))
def U3(r1:List UInt8)(r2 r3:Int):=S.ag (((S.ag r1 r2 r3).1).1) ((((S.ag r1 r2 r3).1).2).1) ((((S.ag r1 r2 r3).1).2).2)
def YS(r1:List UInt8)(r2 r3:Int):=S.bj (((S.ag r1 r2 r3).1).1) ((((S.ag r1 r2 r3).1).2).1) ((((S.ag r1 r2 r3).1).2).2) (2000:Int)
def YT(r1:List UInt8)(r2 r3:Int):=S.ag (((U3 r1 r2 r3).1).1) ((((U3 r1 r2 r3).1).2).1) ((((U3 r1 r2 r3).1).2).2)
def nM(r1:List UInt8)(r2 r3:Int):=S.ag r1 r2 r3
def QE(r1:List UInt8)(r2:Int)(r3:Int):Prop :=
 r1.length≤lZ∧((decide ((nM r1 r2 r3).2=z0)=true→List.length (((nM r1 r2 r3).1).1)≤lZ)∧(decide ((nM r1 r2 r3).2=z0)=false→(decide ((nM r1 r2 r3).2=(2:Int))=true→List.length (((nM r1 r2 r3).1).1)≤lZ∧List.length (((U3 r1 r2 r3).1).1)≤lZ)∧(decide ((nM r1 r2 r3).2=(2:Int))=false→True)))∧(bif decide ((nM r1 r2 r3).2=z0) then((YS r1 r2 r3).1).1 else bif decide ((nM r1 r2 r3).2=(2:Int)) then((YT r1 r2 r3).1).1 else((nM r1 r2 r3).1).1)=r1∧(bif decide ((nM r1 r2 r3).2=z0) then(((YS r1 r2 r3).1).2).1 else bif decide ((nM r1 r2 r3).2=(2:Int)) then(((YT r1 r2 r3).1).2).1 else(((nM r1 r2 r3).1).2).1)=((S.cm r1 r2 r3).1).1∧(bif decide ((nM r1 r2 r3).2=z0) then(((YS r1 r2 r3).1).2).2 else bif decide ((nM r1 r2 r3).2=(2:Int)) then(((YT r1 r2 r3).1).2).2 else(((nM r1 r2 r3).1).2).2)=((S.cm r1 r2 r3).1).2∧(bif decide ((nM r1 r2 r3).2=z0) then(nM r1 r2 r3).2 else bif decide ((nM r1 r2 r3).2=(2:Int)) then(nM r1 r2 r3).2 else(nM r1 r2 r3).2)=((S.cm r1 r2 r3).2).1∧(bif decide ((nM r1 r2 r3).2=z0) then z0 else bif decide ((nM r1 r2 r3).2=(2:Int)) then(U3 r1 r2 r3).2 else z0)=(((S.cm r1 r2 r3).2).2).1∧(bif decide ((nM r1 r2 r3).2=z0) then z0 else bif decide ((nM r1 r2 r3).2=(2:Int)) then(YT r1 r2 r3).2 else z0)=((((S.cm r1 r2 r3).2).2).2).1∧(bif decide ((nM r1 r2 r3).2=z0) then(YS r1 r2 r3).2 else [])=((((S.cm r1 r2 r3).2).2).2).2
def QF(y1:List (List UInt8))(y2:List (Int×Int×List (List UInt8×List Int)))(e1:Int)(e2:Int)(e3:Int)(e4:List UInt8):Prop :=
 True∧((S.bq y1 y2 e4).1).1=((S.bq y1 y2 e4).1).1∧((S.bq y1 y2 e4).1).2=((S.bq y1 y2 e4).1).2∧(S.bq y1 y2 e4).2=(S.bq y1 y2 e4).2
def QG(y1:List (List UInt8))(y2:List (Int×Int×List (List UInt8×List Int)))(e1:Int)(e2:Int)(e3:Int)(e4:List UInt8):Prop :=
 True∧((S.aY y1 y2).1).1=((S.aY y1 y2).1).1∧((S.aY y1 y2).1).2=((S.aY y1 y2).1).2∧(S.aY y1 y2).2=(S.aY y1 y2).2
def QH(y1:List (List UInt8))(y2:List (Int×Int×List (List UInt8×List Int)))(e1:Int)(e2:Int)(e3:Int)(e4:List UInt8):Prop :=
 True∧((S.cn y1 y2 e2 e3).1).1=((S.cn y1 y2 e2 e3).1).1∧((S.cn y1 y2 e2 e3).1).2=((S.cn y1 y2 e2 e3).1).2∧(S.cn y1 y2 e2 e3).2=(S.cn y1 y2 e2 e3).2
def QI(y1:List (List UInt8))(y2:List (Int×Int×List (List UInt8×List Int)))(e1:Int)(e2:Int)(e3:Int)(e4:List UInt8):Prop :=
 True∧(S.c5 y1 y2).1=(S.c5 y1 y2).1∧(S.c5 y1 y2).2=(S.c5 y1 y2).2∧z0=z0
def QJ:Prop :=
 True
def QK(y1:List (List UInt8))(y2:List (Int×Int×List (List UInt8×List Int)))(e1:Int)(e2:Int)(e3:Int)(e4:List UInt8):Prop :=
 (e1=z0→True∧e1=z0∧True∧((S.bq y1 y2 e4).1).1=((S.dA y1 y2 e1 e2 e3 e4).1).1∧((S.bq y1 y2 e4).1).2=((S.dA y1 y2 e1 e2 e3 e4).1).2∧(S.bq y1 y2 e4).2=(S.dA y1 y2 e1 e2 e3 e4).2)∧(e1=z1→True∧e1=z1∧True∧((S.aY y1 y2).1).1=((S.dA y1 y2 e1 e2 e3 e4).1).1∧((S.aY y1 y2).1).2=((S.dA y1 y2 e1 e2 e3 e4).1).2∧(S.aY y1 y2).2=(S.dA y1 y2 e1 e2 e3 e4).2)∧(e1=(2:Int)→True∧e1=(2:Int)∧True∧((S.cn y1 y2 e2 e3).1).1=((S.dA y1 y2 e1 e2 e3 e4).1).1∧((S.cn y1 y2 e2 e3).1).2=((S.dA y1 y2 e1 e2 e3 e4).1).2∧(S.cn y1 y2 e2 e3).2=(S.dA y1 y2 e1 e2 e3 e4).2)∧(e1=(3:Int)→True∧e1=(3:Int)∧True∧(S.c5 y1 y2).1=((S.dA y1 y2 e1 e2 e3 e4).1).1∧(S.c5 y1 y2).2=((S.dA y1 y2 e1 e2 e3 e4).1).2∧z0=(S.dA y1 y2 e1 e2 e3 e4).2)∧((e1=z0→False)∧(e1=z1→False)∧(e1=(2:Int)→False)∧(e1=(3:Int)→False)∧True→True∧((e1=z0→False)∧(e1=z1→False)∧(e1=(2:Int)→False)∧(e1=(3:Int)→False)∧True)∧True∧(bif !S.aW y1 y2 then [] else y1)=((S.dA y1 y2 e1 e2 e3 e4).1).1∧(bif !S.aW y1 y2 then [] else y2)=((S.dA y1 y2 e1 e2 e3 e4).1).2∧z1=(S.dA y1 y2 e1 e2 e3 e4).2)
def q82(e1:Int):=bif decide (e1<z0) then true else decide ((3:Int)<e1)
def QL(e1:Int)(e2:Int)(e3:Int)(e4:List UInt8):Prop :=
 ((q82 e1)=true→ []=(S.ba e1 e2 e3 e4).1∧z1=(S.ba e1 e2 e3 e4).2)∧((q82 e1)=false→List.length (Vg.fb UInt8)≤(35184372088832:Nat)∧(decide (e1=z0)=true→(decide ((2000:Int)<(au e4))=true→ []=(S.ba e1 e2 e3 e4).1∧z1=(S.ba e1 e2 e3 e4).2)∧(decide ((2000:Int)<(au e4))=false→S.lE (S.iS (Vg.fb UInt8) e1) e4∧((!decide (S.ij e1=z0))=true→ []=(S.ba e1 e2 e3 e4).1∧S.ij e1=(S.ba e1 e2 e3 e4).2)∧((!decide (S.ij e1=z0))=false→S.iS (Vg.fb UInt8) e1++S.text e4=(S.ba e1 e2 e3 e4).1∧z0=(S.ba e1 e2 e3 e4).2)))∧(decide (e1=z0)=false→(decide (e1=(2:Int))=true→(∃(x:Nat),(z0=(x:Int)∧S.ij e1=(S.jD e1 e2 e3 x).2∧S.iS (Vg.fb UInt8) e1=(S.jD e1 e2 e3 x).1)∧S.oh x (2:Nat))∧∀(x:Nat),S.oh x (2:Nat)→(decide ((x:Int)<(↑(List.length [e2,e3]):Int))=true→(z0≤(x:Int)∧(x:Int)<(↑(List.length [e2,e3]):Int))∧(x:Int).toNat<List.length [e2,e3]∧(decide ((S.jD e1 e2 e3 x).2=z0)=true→List.length ((S.jD e1 e2 e3 x).1)≤(35184372088832:Nat)∧(aU ((x:Int)+z1))∧∃(af:Nat),((x:Int)+z1=(af:Int)∧S.ij (List.getD [e2,e3] ((x:Int).toNat) z0)=(S.jD e1 e2 e3 af).2∧S.iS ((S.jD e1 e2 e3 x).1) (List.getD [e2,e3] ((x:Int).toNat) z0)=(S.jD e1 e2 e3 af).1)∧S.oh af (2:Nat)∧S.ah (2:Nat) af<S.ah (2:Nat) x)∧(decide ((S.jD e1 e2 e3 x).2=z0)=false→(aU ((x:Int)+z1))∧∃(af:Nat),((x:Int)+z1=(af:Int)∧(S.jD e1 e2 e3 x).2=(S.jD e1 e2 e3 af).2∧(S.jD e1 e2 e3 x).1=(S.jD e1 e2 e3 af).1)∧S.oh af (2:Nat)∧S.ah (2:Nat) af<S.ah (2:Nat) x))∧(decide ((x:Int)<(↑(List.length [e2,e3]):Int))=false→((!decide ((S.jD e1 e2 e3 x).2=z0))=true→ []=(S.ba e1 e2 e3 e4).1∧(S.jD e1 e2 e3 x).2=(S.ba e1 e2 e3 e4).2)∧((!decide ((S.jD e1 e2 e3 x).2=z0))=false→(S.jD e1 e2 e3 x).1=(S.ba e1 e2 e3 e4).1∧z0=(S.ba e1 e2 e3 e4).2)))∧(decide (e1=(2:Int))=false→((!decide (S.ij e1=z0))=true→ []=(S.ba e1 e2 e3 e4).1∧S.ij e1=(S.ba e1 e2 e3 e4).2)∧((!decide (S.ij e1=z0))=false→S.iS (Vg.fb UInt8) e1=(S.ba e1 e2 e3 e4).1∧z0=(S.ba e1 e2 e3 e4).2))))
def YU(x:Int×List (List UInt8)×List S.aA)(d1:List (List UInt8))(d2:List (Int×List UInt8)):=S.dA x.2.1 x.2.2 (((S.cm (S.aV d1 d2) x.1 z0).2).1) ((((S.cm (S.aV d1 d2) x.1 z0).2).2).1) (((((S.cm (S.aV d1 d2) x.1 z0).2).2).2).1) (((((S.cm (S.aV d1 d2) x.1 z0).2).2).2).2)
def wj(d1:List (List UInt8))(d2:List (Int×List UInt8)):=((S.bp (d1,d2)).1).2
def QM(d1:List (List UInt8))(d2:List (Int×List UInt8)):Prop :=
 True∧(((!S.aJ d1 d2)=true→True)∧((!S.aJ d1 d2)=false→True))∧((bif !S.aJ d1 d2 then true else decide (S.kA (S.vB d1 d2)≤(2:Int)))=true→z0=((S.bp (d1,d2)).1).1∧z0=(wj d1 d2).1∧ []=((wj d1 d2).2).1∧ []=((wj d1 d2).2).2∧z1=(S.bp (d1,d2)).2)∧((bif !S.aJ d1 d2 then true else decide (S.kA (S.vB d1 d2)≤(2:Int)))=false→True∧((!(S.fy d1 d2).2)=true→z0=((S.bp (d1,d2)).1).1∧z0=(wj d1 d2).1∧ []=((wj d1 d2).2).1∧ []=((wj d1 d2).2).2∧(7:Int)=(S.bp (d1,d2)).2)∧((!(S.fy d1 d2).2)=false→S.qv d1 d2 (((S.fy d1 d2).1).2)∧(∃(x:Int×List (List UInt8)×List S.aA),(List.take (Int.toNat (((S.fy d1 d2).1).2)) (S.uX d1 d2)=S.aV d1 d2∧z0=x.1∧z0=z0∧ []=x.2.1∧ []=x.2.2)∧S.pM (S.aV d1 d2) x)∧∀(x:Int×List (List UInt8)×List S.aA),S.pM (S.aV d1 d2) x→(decide (x.1<(au (S.aV d1 d2)))=true→S.JV (S.aV d1 d2)∧((!decide (((S.cm (S.aV d1 d2) x.1 z0).1).2=z0))=true→z0=((S.bp (d1,d2)).1).1∧z0=(wj d1 d2).1∧ []=((wj d1 d2).2).1∧ []=((wj d1 d2).2).2∧(2:Int)=(S.bp (d1,d2)).2)∧((!decide (((S.cm (S.aV d1 d2) x.1 z0).1).2=z0))=false→True∧((!decide ((YU x d1 d2).2=z0))=true→z0=((S.bp (d1,d2)).1).1∧z0=(wj d1 d2).1∧ []=((wj d1 d2).2).1∧ []=((wj d1 d2).2).2∧(2:Int)=(S.bp (d1,d2)).2)∧((!decide ((YU x d1 d2).2=z0))=false→∃(af:Int×List (List UInt8)×List S.aA),(S.aV d1 d2=S.aV d1 d2∧((S.cm (S.aV d1 d2) x.1 z0).1).1=af.1∧((S.cm (S.aV d1 d2) x.1 z0).1).2=z0∧((YU x d1 d2).1).1=af.2.1∧((YU x d1 d2).1).2=af.2.2)∧S.pM (S.aV d1 d2) af∧List.length (S.aV d1 d2)-Int.toNat af.1<List.length (S.aV d1 d2)-Int.toNat x.1)))∧(decide (x.1<(au (S.aV d1 d2)))=false→((S.fy d1 d2).1).1=((S.bp (d1,d2)).1).1∧((S.fy d1 d2).1).2=(wj d1 d2).1∧x.2.1=((wj d1 d2).2).1∧x.2.2=((wj d1 d2).2).2∧z0=(S.bp (d1,d2)).2)))
def J9(d1:List (List UInt8))(d2:List (Int×List UInt8))(x:Int×List UInt8×S.Ws):=List.length (S.dP d1 d2 ((2:Int)+x.1/(64:Int)))-Int.toNat (x.1%(64:Int))
def q86(x:Int×List UInt8×S.Ws)(d1:List (List UInt8))(d2:List (Int×List UInt8)):=(false,(2:Int)+x.1/(64:Int),List.take (Int.toNat (x.1%(64:Int))) (S.dP d1 d2 ((2:Int)+x.1/(64:Int)))++List.take (J9 d1 d2 x) x.2.1++List.drop (Int.toNat (x.1%(64:Int))+Min.min (List.length x.2.1) (J9 d1 d2 x)) (S.dP d1 d2 ((2:Int)+x.1/(64:Int))))
def U4(x:Int×List UInt8×S.Ws):=(2:Int)+x.1/(64:Int)
def QN(d1:List (List UInt8))(d2:List (Int×List UInt8))(a:Int)(b:List UInt8):Prop :=
 (aU (a+(au b)))∧(∃(x:Int×List UInt8×S.Ws),(a=x.1∧b=x.2.1∧ []=S.mh x.2.2)∧S.sL d1 d2 a b x)∧∀(x:Int×List UInt8×S.Ws),S.sL d1 d2 a b x→(decide (x.1<a+(au b))=true→z0≤x.1∧z0<(64:Int)∧(aU (U4 x))∧True∧((!decide (S.gj d1 d2 (U4 x)=z0))=true→S.mh x.2.2=S.mh (S.dZ d1 d2 a b))∧((!decide (S.gj d1 d2 (U4 x)=z0))=false→z0≤x.1∧z0<(64:Int)∧(z0≤x.1%(64:Int)∧x.1%(64:Int)≤(↑(List.length (S.dP d1 d2 (U4 x))):Int))∧Int.toNat (x.1%(64:Int))+(J9 d1 d2 x)≤List.length (S.dP d1 d2 (U4 x))∧List.length (S.mh x.2.2)+List.length [q86 x d1 d2]≤(3518437208883:Nat)∧(aU (x.1+(↑(Min.min (List.length x.2.1) (J9 d1 d2 x)):Int)))∧(z0≤(↑(Min.min (List.length x.2.1) (J9 d1 d2 x)):Int)∧(↑(Min.min (List.length x.2.1) (J9 d1 d2 x)):Int)≤(↑(List.length x.2.1):Int))∧∃(af:Int×List UInt8×S.Ws),(x.1+(↑(Min.min (List.length x.2.1) (J9 d1 d2 x)):Int)=af.1∧List.drop (Int.toNat (↑(Min.min (List.length x.2.1) (J9 d1 d2 x)):Int)) x.2.1=af.2.1∧S.mh x.2.2++ [q86 x d1 d2]=S.mh af.2.2)∧S.sL d1 d2 a b af∧List.length af.2.1<List.length x.2.1))∧(decide (x.1<a+(au b))=false→S.mh x.2.2=S.mh (S.dZ d1 d2 a b))
def kY(d1:List (List UInt8))(d2:List (Int×List UInt8))(s1 s2:Int)(s3:List (List UInt8))(s4:List (Int×Int×List (List UInt8×List Int)))(e1 e2 e3:Int)(e4:List UInt8):=(S.cW (d1,d2) (s1,s2,s3,s4) (e1,e2,e3,e4)).2
def l9(d1:List (List UInt8))(d2:List (Int×List UInt8)):=(S.bp (d1,d2)).1
def MB(e1 e2 e3:Int)(e4:List UInt8):=List.length ((S.ba e1 e2 e3 e4).1)
def QO(d1:List (List UInt8))(d2:List (Int×List UInt8))(s1:Int)(s2:Int)(s3:List (List UInt8))(s4:List (Int×Int×List (List UInt8×List Int)))(e1:Int)(e2:Int)(e3:Int)(e4:List UInt8):Prop :=
 (decide (s1=(4611686018427387904:Int))=true→ []=(S.cW (d1,d2) (s1,s2,s3,s4) (e1,e2,e3,e4)).1∧z0=((kY d1 d2 s1 s2 s3 s4 e1 e2 e3 e4).1).1∧z0=(((kY d1 d2 s1 s2 s3 s4 e1 e2 e3 e4).1).2).1∧ []=((((kY d1 d2 s1 s2 s3 s4 e1 e2 e3 e4).1).2).2).1∧ []=((((kY d1 d2 s1 s2 s3 s4 e1 e2 e3 e4).1).2).2).2∧z1=(kY d1 d2 s1 s2 s3 s4 e1 e2 e3 e4).2)∧(decide (s1=(4611686018427387904:Int))=false→True∧((bif !decide ((S.bp (d1,d2)).2=z0) then true else bif !decide ((l9 d1 d2).1=s1) then true else !decide (((l9 d1 d2).2).1=s2))=true→ []=(S.cW (d1,d2) (s1,s2,s3,s4) (e1,e2,e3,e4)).1∧z0=((kY d1 d2 s1 s2 s3 s4 e1 e2 e3 e4).1).1∧z0=(((kY d1 d2 s1 s2 s3 s4 e1 e2 e3 e4).1).2).1∧ []=((((kY d1 d2 s1 s2 s3 s4 e1 e2 e3 e4).1).2).2).1∧ []=((((kY d1 d2 s1 s2 s3 s4 e1 e2 e3 e4).1).2).2).2∧z1=(kY d1 d2 s1 s2 s3 s4 e1 e2 e3 e4).2)∧((bif !decide ((S.bp (d1,d2)).2=z0) then true else bif !decide ((l9 d1 d2).1=s1) then true else !decide (((l9 d1 d2).2).1=s2))=false→True∧((!decide ((S.ba e1 e2 e3 e4).2=z0))=true→ []=(S.cW (d1,d2) (s1,s2,s3,s4) (e1,e2,e3,e4)).1∧z0=((kY d1 d2 s1 s2 s3 s4 e1 e2 e3 e4).1).1∧z0=(((kY d1 d2 s1 s2 s3 s4 e1 e2 e3 e4).1).2).1∧ []=((((kY d1 d2 s1 s2 s3 s4 e1 e2 e3 e4).1).2).2).1∧ []=((((kY d1 d2 s1 s2 s3 s4 e1 e2 e3 e4).1).2).2).2∧(S.ba e1 e2 e3 e4).2=(kY d1 d2 s1 s2 s3 s4 e1 e2 e3 e4).2)∧((!decide ((S.ba e1 e2 e3 e4).2=z0))=false→True∧((!decide ((S.dA s3 s4 e1 e2 e3 e4).2=z0))=true→ []=(S.cW (d1,d2) (s1,s2,s3,s4) (e1,e2,e3,e4)).1∧z0=((kY d1 d2 s1 s2 s3 s4 e1 e2 e3 e4).1).1∧z0=(((kY d1 d2 s1 s2 s3 s4 e1 e2 e3 e4).1).2).1∧ []=((((kY d1 d2 s1 s2 s3 s4 e1 e2 e3 e4).1).2).2).1∧ []=((((kY d1 d2 s1 s2 s3 s4 e1 e2 e3 e4).1).2).2).2∧(S.dA s3 s4 e1 e2 e3 e4).2=(kY d1 d2 s1 s2 s3 s4 e1 e2 e3 e4).2)∧((!decide ((S.dA s3 s4 e1 e2 e3 e4).2=z0))=false→True∧(aU (S.dG d1 d2-((l9 d1 d2).2).1))∧(decide (S.dG d1 d2-((l9 d1 d2).2).1<(↑(MB e1 e2 e3 e4):Int))=true→ []=(S.cW (d1,d2) (s1,s2,s3,s4) (e1,e2,e3,e4)).1∧z0=((kY d1 d2 s1 s2 s3 s4 e1 e2 e3 e4).1).1∧z0=(((kY d1 d2 s1 s2 s3 s4 e1 e2 e3 e4).1).2).1∧ []=((((kY d1 d2 s1 s2 s3 s4 e1 e2 e3 e4).1).2).2).1∧ []=((((kY d1 d2 s1 s2 s3 s4 e1 e2 e3 e4).1).2).2).2∧(3:Int)=(kY d1 d2 s1 s2 s3 s4 e1 e2 e3 e4).2)∧(decide (S.dG d1 d2-((l9 d1 d2).2).1<(↑(MB e1 e2 e3 e4):Int))=false→(aU ((l9 d1 d2).1+z1))∧(aU (((l9 d1 d2).2).1+(↑(MB e1 e2 e3 e4):Int)))∧z0≤(l9 d1 d2).1+z1∧z0<(2:Int)∧S.JU [(255:UInt8)] (64:Int)∧S.JW (((l9 d1 d2).2).1) ((S.ba e1 e2 e3 e4).1)∧List.length [(false,((l9 d1 d2).1+z1)%(2:Int),S.clean)]+List.length (S.mh (S.dZ d1 d2 (((l9 d1 d2).2).1) ((S.ba e1 e2 e3 e4).1)))≤(3518437208883:Nat)∧S.lQ ((l9 d1 d2).1+z1) (((l9 d1 d2).2).1+(↑(MB e1 e2 e3 e4):Int))∧List.length ([(false,((l9 d1 d2).1+z1)%(2:Int),S.clean)]++S.mh (S.dZ d1 d2 (((l9 d1 d2).2).1) ((S.ba e1 e2 e3 e4).1)))+List.length [(true,z0,[]),(false,((l9 d1 d2).1+z1)%(2:Int),S.dQ ((l9 d1 d2).1+z1) (((l9 d1 d2).2).1+(↑(MB e1 e2 e3 e4):Int))),(true,z0,[])]≤(3518437208883:Nat)∧ [(false,((l9 d1 d2).1+z1)%(2:Int),S.clean)]++S.mh (S.dZ d1 d2 (((l9 d1 d2).2).1) ((S.ba e1 e2 e3 e4).1))++ [(true,z0,[]),(false,((l9 d1 d2).1+z1)%(2:Int),S.dQ ((l9 d1 d2).1+z1) (((l9 d1 d2).2).1+(↑(MB e1 e2 e3 e4):Int))),(true,z0,[])]=(S.cW (d1,d2) (s1,s2,s3,s4) (e1,e2,e3,e4)).1∧(l9 d1 d2).1+z1=((kY d1 d2 s1 s2 s3 s4 e1 e2 e3 e4).1).1∧((l9 d1 d2).2).1+(↑(MB e1 e2 e3 e4):Int)=(((kY d1 d2 s1 s2 s3 s4 e1 e2 e3 e4).1).2).1∧((S.dA s3 s4 e1 e2 e3 e4).1).1=((((kY d1 d2 s1 s2 s3 s4 e1 e2 e3 e4).1).2).2).1∧((S.dA s3 s4 e1 e2 e3 e4).1).2=((((kY d1 d2 s1 s2 s3 s4 e1 e2 e3 e4).1).2).2).2∧z0=(kY d1 d2 s1 s2 s3 s4 e1 e2 e3 e4).2)))))
def Ka(l:List (Bool×Int×List UInt8))(x:Nat×S.Bs×S.Ws):=List.getD l ((x.1:Int).toNat) (false,z0,[])
def QP(d1:List (List UInt8))(d2:List (Int×List UInt8))(l:List (Bool×Int×List UInt8))(f:Int):Prop :=
 (∃(x:Nat×S.Bs×S.Ws),(z0=(x.1:Int)∧d1=x.2.1∧d2=x.2.2)∧S.mL d1 d2 l f x)∧∀(x:Nat×S.Bs×S.Ws),S.mL d1 d2 l f x→(decide ((x.1:Int)<(au l))=true→(z0≤(x.1:Int)∧(x.1:Int)<(au l))∧(decide (f≤(x.1:Int))=true→x.2.1=((S.lY (d1,d2) l f).1).1∧x.2.2=((S.lY (d1,d2) l f).1).2∧(x.1:Int)=(S.lY (d1,d2) l f).2)∧(decide (f≤(x.1:Int))=false→((Ka l x).1=true→True∧(aU ((x.1:Int)+z1))∧∃(af:Nat×S.Bs×S.Ws),((x.1:Int)+z1=(af.1:Int)∧S.jE (x.2.1,x.2.2)=af.2.1∧ []=af.2.2)∧S.mL d1 d2 l f af∧S.ah (S.len l) af.1<S.ah (S.len l) x.1)∧((Ka l x).1=false→True∧((!decide (S.kL x.2.1 x.2.2 (((Ka l x).2).1) (((Ka l x).2).2)=z0))=true→x.2.1=((S.lY (d1,d2) l f).1).1∧x.2.2=((S.lY (d1,d2) l f).1).2∧(x.1:Int)=(S.lY (d1,d2) l f).2)∧((!decide (S.kL x.2.1 x.2.2 (((Ka l x).2).1) (((Ka l x).2).2)=z0))=false→(aU ((x.1:Int)+z1))∧∃(af:Nat×S.Bs×S.Ws),((x.1:Int)+z1=(af.1:Int)∧S.wB x.2.1 x.2.2=af.2.1∧S.wW x.2.1 x.2.2 (((Ka l x).2).1) (((Ka l x).2).2)=af.2.2)∧S.mL d1 d2 l f af∧S.ah (S.len l) af.1<S.ah (S.len l) x.1))))∧(decide ((x.1:Int)<(au l))=false→x.2.1=((S.lY (d1,d2) l f).1).1∧x.2.2=((S.lY (d1,d2) l f).1).2∧(au l)=(S.lY (d1,d2) l f).2)
def QQ(e1:Int)(e2:Int)(e3:Int)(e4:List UInt8):Prop :=
 decide ((au e4)≤(2500:Int))=decide ((↑(S.len e4):Int)≤(2500:Int))
def QR(l:List (List UInt8)):Prop :=
 (l= []→ []=l)∧List.length (Vg.fb (List UInt8))+l.length≤(5864062014805:Nat)∧ []++l=l
def QS(l:List (Int×List UInt8)):Prop :=
 (l= []→ []=l)∧List.length (Vg.fb (Int×List UInt8))+l.length≤(4398046511104:Nat)∧ []++l=l
def QT(l:List (Int×Int×List (List UInt8×List Int))):Prop :=
 (l= []→ []=l)∧List.length (Vg.fb (Int×Int×List (List UInt8×List Int)))+l.length≤(3518437208883:Nat)∧ []++l=l
def Cd(x:Nat):=(x:Int).toNat
def O9(l6:List (Int×Int×List (List UInt8×List Int)))(x:Nat):=List.getD l6 (Cd x) (z0,z0,[])
def QU(l1:List (List UInt8))(l2:List (Int×List UInt8))(l3:Int)(l4:Int)(l5:List (List UInt8))(l6:List (Int×Int×List (List UInt8×List Int)))(l7:Bool)(l8:Int):Prop :=
 S.small l1∧(∃(x:Nat),(z0=(x:Int)∧l1=l1)∧S.gh l1 x)∧∀(x:Nat),S.gh l1 x→(decide ((x:Int)<(au l1))=true→(z0≤(x:Int)∧(x:Int)<(au l1))∧(x:Int).toNat<l1.length∧S.small (List.getD l1 (Cd x) [])∧(z0≤(x:Int)∧(x:Int)<(au l1))∧(x:Int).toNat<l1.length∧(aU ((x:Int)+z1))∧∃(af:Nat),((x:Int)+z1=(af:Int)∧List.set l1 (Cd x) (List.getD l1 (Cd x) [])=l1)∧S.gh l1 af∧S.ah (S.len l1) af<S.ah (S.len l1) x)∧(decide ((x:Int)<(au l1))=false→S.small l2∧(∃(x:Nat),(z0=(x:Int)∧l2=l2)∧S.gh l2 x)∧∀(x:Nat),S.gh l2 x→(decide ((x:Int)<(au l2))=true→(z0≤(x:Int)∧(x:Int)<(au l2))∧(x:Int).toNat<l2.length∧S.small ((List.getD l2 (Cd x) (z0,[])).2)∧(z0≤(x:Int)∧(x:Int)<(au l2))∧(x:Int).toNat<l2.length∧(aU ((x:Int)+z1))∧∃(af:Nat),((x:Int)+z1=(af:Int)∧List.set l2 (Cd x) (List.getD l2 (Cd x) (z0,[]))=l2)∧S.gh l2 af∧S.ah (S.len l2) af<S.ah (S.len l2) x)∧(decide ((x:Int)<(au l2))=false→S.small l5∧(∃(x:Nat),(z0=(x:Int)∧l5=l5)∧S.gh l5 x)∧∀(x:Nat),S.gh l5 x→(decide ((x:Int)<(au l5))=true→(z0≤(x:Int)∧(x:Int)<(au l5))∧(x:Int).toNat<l5.length∧S.small (List.getD l5 (Cd x) [])∧(z0≤(x:Int)∧(x:Int)<(au l5))∧(x:Int).toNat<l5.length∧(aU ((x:Int)+z1))∧∃(af:Nat),((x:Int)+z1=(af:Int)∧List.set l5 (Cd x) (List.getD l5 (Cd x) [])=l5)∧S.gh l5 af∧S.ah (S.len l5) af<S.ah (S.len l5) x)∧(decide ((x:Int)<(au l5))=false→S.small l6∧(∃(x:Nat),(z0=(x:Int)∧l6=l6)∧S.gh l6 x)∧∀(x:Nat),S.gh l6 x→(decide ((x:Int)<(au l6))=true→(z0≤(x:Int)∧(x:Int)<(au l6))∧(x:Int).toNat<l6.length∧S.small (((O9 l6 x).2).2)∧(∃(af:Nat×Nat),(z0=(af.1:Int)∧((O9 l6 x).2).2=((S.ar l6 af.2).2).2)∧S.sM l6 af∧(x:Int)=(af.2:Int))∧∀(af:Nat×Nat),S.sM l6 af∧(x:Int)=(af.2:Int)→(decide ((af.1:Int)<(↑(List.length (((O9 l6 x).2).2)):Int))=true→(z0≤(af.1:Int)∧(af.1:Int)<(↑(List.length (((S.ar l6 af.2).2).2)):Int))∧(af.1:Int).toNat<List.length (((S.ar l6 af.2).2).2)∧S.small ((List.getD (((S.ar l6 af.2).2).2) ((af.1:Int).toNat) ([],[])).2)∧(z0≤(af.1:Int)∧(af.1:Int)<(↑(List.length (((S.ar l6 af.2).2).2)):Int))∧(af.1:Int).toNat<List.length (((S.ar l6 af.2).2).2)∧(aU ((af.1:Int)+z1))∧∃(aS:Nat×Nat),((af.1:Int)+z1=(aS.1:Int)∧List.set (((S.ar l6 af.2).2).2) ((af.1:Int).toNat) (List.getD (((S.ar l6 af.2).2).2) ((af.1:Int).toNat) ([],[]))=((S.ar l6 aS.2).2).2)∧(S.sM l6 aS∧(x:Int)=(aS.2:Int))∧S.ah (S.len (((S.ar l6 aS.2).2).2)) aS.1<S.ah (S.len (((S.ar l6 af.2).2).2)) af.1)∧(decide ((af.1:Int)<(↑(List.length (((O9 l6 x).2).2)):Int))=false→(z0≤(x:Int)∧(x:Int)<(au l6))∧(x:Int).toNat<l6.length∧(aU ((x:Int)+z1))∧∃(aS:Nat),((x:Int)+z1=(aS:Int)∧List.set l6 (Cd x) ((O9 l6 x).1,((O9 l6 x).2).1,((S.ar l6 af.2).2).2)=l6)∧S.gh l6 aS∧S.ah (S.len l6) aS<S.ah (S.len l6) x))∧(decide ((x:Int)<(au l6))=false→(0:Nat)=(0:Nat)∧l1=l1∧l2=l2∧l3=l3∧l4=l4∧l5=l5∧l6=l6∧l7=l7∧l8=l8))))
def QV(d1:List (List UInt8))(d2:List (Int×List UInt8))(s1:Int)(s2:Int)(s3:List (List UInt8))(s4:List (Int×Int×List (List UInt8×List Int)))(up:Bool)(fu:Int):Prop :=
 d1=d1∧d2=d2∧s1=s1∧s2=s2∧s3=s3∧s4=s4∧false=false∧(-1:Int)=(-1:Int)
def MC(d1:List (List UInt8))(d2:List (Int×List UInt8))(l:List (Bool×Int×List UInt8))(fu:Int):=S.lY (d1,d2) l (bif decide (fu<z0) then(au l) else fu)
def QW(l:List (Bool×Int×List UInt8))(d1:List (List UInt8))(d2:List (Int×List UInt8))(s1:Int)(s2:Int)(s3:List (List UInt8))(s4:List (Int×Int×List (List UInt8×List Int)))(up:Bool)(fu:Int):Prop :=
 True∧((decide (z0≤fu)=true→aU (fu-(MC d1 d2 l fu).2))∧(decide (z0≤fu)=false→True))∧decide ((MC d1 d2 l fu).2=(au l))=S.iT (d1,d2,s1,s2,s3,s4,up,fu) l∧(bif decide (z0≤fu) then((MC d1 d2 l fu).1).1 else((MC d1 d2 l fu).1).1)=(S.eJ (d1,d2,s1,s2,s3,s4,up,fu) l).1∧(bif decide (z0≤fu) then((MC d1 d2 l fu).1).2 else((MC d1 d2 l fu).1).2)=((S.eJ (d1,d2,s1,s2,s3,s4,up,fu) l).2).1∧(bif decide (z0≤fu) then s1 else s1)=(((S.eJ (d1,d2,s1,s2,s3,s4,up,fu) l).2).2).1∧(bif decide (z0≤fu) then s2 else s2)=((((S.eJ (d1,d2,s1,s2,s3,s4,up,fu) l).2).2).2).1∧(bif decide (z0≤fu) then s3 else s3)=(((((S.eJ (d1,d2,s1,s2,s3,s4,up,fu) l).2).2).2).2).1∧(bif decide (z0≤fu) then s4 else s4)=((((((S.eJ (d1,d2,s1,s2,s3,s4,up,fu) l).2).2).2).2).2).1∧(bif decide (z0≤fu) then up else up)=(((((((S.eJ (d1,d2,s1,s2,s3,s4,up,fu) l).2).2).2).2).2).2).1∧(bif decide (z0≤fu) then fu-(MC d1 d2 l fu).2 else fu)=(((((((S.eJ (d1,d2,s1,s2,s3,s4,up,fu) l).2).2).2).2).2).2).2
def Fa(n:Int):=((((S.cx n).1).2).2).2
def Pa(n:Int):=S.bp (S.j1 n,[])
def Pb(n:Int):=(((Fa n).2).2).2
def QX(n:Int):Prop :=
 True∧((!decide (S.nZ n=z0))=true→ []=((S.cx n).1).1∧ []=(((S.cx n).1).2).1∧z0=((((S.cx n).1).2).2).1∧z0=(Fa n).1∧ []=((Fa n).2).1∧ []=(((Fa n).2).2).1∧false=(Pb n).1∧z0=(Pb n).2∧S.nZ n=(S.cx n).2)∧((!decide (S.nZ n=z0))=false→True∧((!decide ((Pa n).2=z0))=true→ []=((S.cx n).1).1∧ []=(((S.cx n).1).2).1∧z0=((((S.cx n).1).2).2).1∧z0=(Fa n).1∧ []=((Fa n).2).1∧ []=(((Fa n).2).2).1∧false=(Pb n).1∧z0=(Pb n).2∧z1=(S.cx n).2)∧((!decide ((Pa n).2=z0))=false→S.j1 n=((S.cx n).1).1∧ []=(((S.cx n).1).2).1∧((Pa n).1).1=((((S.cx n).1).2).2).1∧(((Pa n).1).2).1=(Fa n).1∧((((Pa n).1).2).2).1=((Fa n).2).1∧((((Pa n).1).2).2).2=(((Fa n).2).2).1∧true=(Pb n).1∧(-1:Int)=(Pb n).2∧z0=(S.cx n).2))
def lU(l1:List (List UInt8))(l2:List (Int×List UInt8))(l3 l4:Int)(l5:List (List UInt8))(l6:List (Int×Int×List (List UInt8×List Int)))(l7:Bool)(l8 e1 e2 e3:Int)(e4:List UInt8):=((S.dB (l1,l2,l3,l4,l5,l6,l7,l8) (e1,e2,e3,e4)).1).2
def Fb(l1:List (List UInt8))(l2:List (Int×List UInt8))(l3 l4:Int)(l5:List (List UInt8))(l6:List (Int×Int×List (List UInt8×List Int)))(l7:Bool)(l8 e1 e2 e3:Int)(e4:List UInt8):=S.eJ (l1,l2,l3,l4,l5,l6,l7,l8) ((S.cW (l1,l2) (l3,l4,l5,l6) (e1,e2,e3,e4)).1)
def QY(l1:List (List UInt8))(l2:List (Int×List UInt8))(l3:Int)(l4:Int)(l5:List (List UInt8))(l6:List (Int×Int×List (List UInt8×List Int)))(l7:Bool)(l8:Int)(e1:Int)(e2:Int)(e3:Int)(e4:List UInt8):Prop :=
 ((!l7)=true→l1=((S.dB (l1,l2,l3,l4,l5,l6,l7,l8) (e1,e2,e3,e4)).1).1∧l2=(lU l1 l2 l3 l4 l5 l6 l7 l8 e1 e2 e3 e4).1∧l3=((lU l1 l2 l3 l4 l5 l6 l7 l8 e1 e2 e3 e4).2).1∧l4=(((lU l1 l2 l3 l4 l5 l6 l7 l8 e1 e2 e3 e4).2).2).1∧l5=((((lU l1 l2 l3 l4 l5 l6 l7 l8 e1 e2 e3 e4).2).2).2).1∧l6=(((((lU l1 l2 l3 l4 l5 l6 l7 l8 e1 e2 e3 e4).2).2).2).2).1∧l7=((((((lU l1 l2 l3 l4 l5 l6 l7 l8 e1 e2 e3 e4).2).2).2).2).2).1∧l8=((((((lU l1 l2 l3 l4 l5 l6 l7 l8 e1 e2 e3 e4).2).2).2).2).2).2∧(7:Int)=(S.dB (l1,l2,l3,l4,l5,l6,l7,l8) (e1,e2,e3,e4)).2)∧((!l7)=false→True∧((!decide (((S.cW (l1,l2) (l3,l4,l5,l6) (e1,e2,e3,e4)).2).2=z0))=true→l1=((S.dB (l1,l2,l3,l4,l5,l6,l7,l8) (e1,e2,e3,e4)).1).1∧l2=(lU l1 l2 l3 l4 l5 l6 l7 l8 e1 e2 e3 e4).1∧l3=((lU l1 l2 l3 l4 l5 l6 l7 l8 e1 e2 e3 e4).2).1∧l4=(((lU l1 l2 l3 l4 l5 l6 l7 l8 e1 e2 e3 e4).2).2).1∧l5=((((lU l1 l2 l3 l4 l5 l6 l7 l8 e1 e2 e3 e4).2).2).2).1∧l6=(((((lU l1 l2 l3 l4 l5 l6 l7 l8 e1 e2 e3 e4).2).2).2).2).1∧l7=((((((lU l1 l2 l3 l4 l5 l6 l7 l8 e1 e2 e3 e4).2).2).2).2).2).1∧l8=((((((lU l1 l2 l3 l4 l5 l6 l7 l8 e1 e2 e3 e4).2).2).2).2).2).2∧((S.cW (l1,l2) (l3,l4,l5,l6) (e1,e2,e3,e4)).2).2=(S.dB (l1,l2,l3,l4,l5,l6,l7,l8) (e1,e2,e3,e4)).2)∧((!decide (((S.cW (l1,l2) (l3,l4,l5,l6) (e1,e2,e3,e4)).2).2=z0))=false→S.dj (l1,l2,l3,l4,l5,l6,l7,l8)∧True∧((!S.iT (l1,l2,l3,l4,l5,l6,l7,l8) ((S.cW (l1,l2) (l3,l4,l5,l6) (e1,e2,e3,e4)).1))=true→True∧(Fb l1 l2 l3 l4 l5 l6 l7 l8 e1 e2 e3 e4).1=((S.dB (l1,l2,l3,l4,l5,l6,l7,l8) (e1,e2,e3,e4)).1).1∧((Fb l1 l2 l3 l4 l5 l6 l7 l8 e1 e2 e3 e4).2).1=(lU l1 l2 l3 l4 l5 l6 l7 l8 e1 e2 e3 e4).1∧(((Fb l1 l2 l3 l4 l5 l6 l7 l8 e1 e2 e3 e4).2).2).1=((lU l1 l2 l3 l4 l5 l6 l7 l8 e1 e2 e3 e4).2).1∧((((Fb l1 l2 l3 l4 l5 l6 l7 l8 e1 e2 e3 e4).2).2).2).1=(((lU l1 l2 l3 l4 l5 l6 l7 l8 e1 e2 e3 e4).2).2).1∧(((((Fb l1 l2 l3 l4 l5 l6 l7 l8 e1 e2 e3 e4).2).2).2).2).1=((((lU l1 l2 l3 l4 l5 l6 l7 l8 e1 e2 e3 e4).2).2).2).1∧((((((Fb l1 l2 l3 l4 l5 l6 l7 l8 e1 e2 e3 e4).2).2).2).2).2).1=(((((lU l1 l2 l3 l4 l5 l6 l7 l8 e1 e2 e3 e4).2).2).2).2).1∧false=((((((lU l1 l2 l3 l4 l5 l6 l7 l8 e1 e2 e3 e4).2).2).2).2).2).1∧(-1:Int)=((((((lU l1 l2 l3 l4 l5 l6 l7 l8 e1 e2 e3 e4).2).2).2).2).2).2∧(7:Int)=(S.dB (l1,l2,l3,l4,l5,l6,l7,l8) (e1,e2,e3,e4)).2)∧((!S.iT (l1,l2,l3,l4,l5,l6,l7,l8) ((S.cW (l1,l2) (l3,l4,l5,l6) (e1,e2,e3,e4)).1))=false→(Fb l1 l2 l3 l4 l5 l6 l7 l8 e1 e2 e3 e4).1=((S.dB (l1,l2,l3,l4,l5,l6,l7,l8) (e1,e2,e3,e4)).1).1∧((Fb l1 l2 l3 l4 l5 l6 l7 l8 e1 e2 e3 e4).2).1=(lU l1 l2 l3 l4 l5 l6 l7 l8 e1 e2 e3 e4).1∧(((S.cW (l1,l2) (l3,l4,l5,l6) (e1,e2,e3,e4)).2).1).1=((lU l1 l2 l3 l4 l5 l6 l7 l8 e1 e2 e3 e4).2).1∧((((S.cW (l1,l2) (l3,l4,l5,l6) (e1,e2,e3,e4)).2).1).2).1=(((lU l1 l2 l3 l4 l5 l6 l7 l8 e1 e2 e3 e4).2).2).1∧(((((S.cW (l1,l2) (l3,l4,l5,l6) (e1,e2,e3,e4)).2).1).2).2).1=((((lU l1 l2 l3 l4 l5 l6 l7 l8 e1 e2 e3 e4).2).2).2).1∧(((((S.cW (l1,l2) (l3,l4,l5,l6) (e1,e2,e3,e4)).2).1).2).2).2=(((((lU l1 l2 l3 l4 l5 l6 l7 l8 e1 e2 e3 e4).2).2).2).2).1∧(((((((Fb l1 l2 l3 l4 l5 l6 l7 l8 e1 e2 e3 e4).2).2).2).2).2).2).1=((((((lU l1 l2 l3 l4 l5 l6 l7 l8 e1 e2 e3 e4).2).2).2).2).2).1∧(((((((Fb l1 l2 l3 l4 l5 l6 l7 l8 e1 e2 e3 e4).2).2).2).2).2).2).2=((((((lU l1 l2 l3 l4 l5 l6 l7 l8 e1 e2 e3 e4).2).2).2).2).2).2∧z0=(S.dB (l1,l2,l3,l4,l5,l6,l7,l8) (e1,e2,e3,e4)).2)))
def QZ(l1:List (List UInt8))(l2:List (Int×List UInt8))(l3:Int)(l4:Int)(l5:List (List UInt8))(l6:List (Int×Int×List (List UInt8×List Int)))(l7:Bool)(l8:Int)(f:List Int):Prop :=
 S.dj (l1,l2,l3,l4,l5,l6,l7,l8)∧True∧True∧S.vY (l1,l2) f=(S.ax (l1,l2,l3,l4,l5,l6,l7,l8) f).1∧ []=((S.ax (l1,l2,l3,l4,l5,l6,l7,l8) f).2).1∧l3=(((S.ax (l1,l2,l3,l4,l5,l6,l7,l8) f).2).2).1∧l4=((((S.ax (l1,l2,l3,l4,l5,l6,l7,l8) f).2).2).2).1∧l5=(((((S.ax (l1,l2,l3,l4,l5,l6,l7,l8) f).2).2).2).2).1∧l6=((((((S.ax (l1,l2,l3,l4,l5,l6,l7,l8) f).2).2).2).2).2).1∧false=(((((((S.ax (l1,l2,l3,l4,l5,l6,l7,l8) f).2).2).2).2).2).2).1∧(-1:Int)=(((((((S.ax (l1,l2,l3,l4,l5,l6,l7,l8) f).2).2).2).2).2).2).2
def lV(l1:List (List UInt8))(l2:List (Int×List UInt8))(l3 l4:Int)(l5:List (List UInt8))(l6:List (Int×Int×List (List UInt8×List Int)))(l7:Bool)(l8:Int):=(((S.al (l1,l2,l3,l4,l5,l6,l7,l8)).1).2).2
def BI(l1:List (List UInt8))(l2:List (Int×List UInt8)):=S.bp (S.jE (l1,l2),[])
def Q0(l1:List (List UInt8))(l2:List (Int×List UInt8))(l3:Int)(l4:Int)(l5:List (List UInt8))(l6:List (Int×Int×List (List UInt8×List Int)))(l7:Bool)(l8:Int):Prop :=
 (l7=true→l1=((S.al (l1,l2,l3,l4,l5,l6,l7,l8)).1).1∧l2=(((S.al (l1,l2,l3,l4,l5,l6,l7,l8)).1).2).1∧l3=(lV l1 l2 l3 l4 l5 l6 l7 l8).1∧l4=((lV l1 l2 l3 l4 l5 l6 l7 l8).2).1∧l5=(((lV l1 l2 l3 l4 l5 l6 l7 l8).2).2).1∧l6=((((lV l1 l2 l3 l4 l5 l6 l7 l8).2).2).2).1∧l7=(((((lV l1 l2 l3 l4 l5 l6 l7 l8).2).2).2).2).1∧l8=(((((lV l1 l2 l3 l4 l5 l6 l7 l8).2).2).2).2).2∧z0=(S.al (l1,l2,l3,l4,l5,l6,l7,l8)).2)∧(l7=false→True∧True∧((!decide ((BI l1 l2).2=z0))=true→l1=((S.al (l1,l2,l3,l4,l5,l6,l7,l8)).1).1∧l2=(((S.al (l1,l2,l3,l4,l5,l6,l7,l8)).1).2).1∧l3=(lV l1 l2 l3 l4 l5 l6 l7 l8).1∧l4=((lV l1 l2 l3 l4 l5 l6 l7 l8).2).1∧l5=(((lV l1 l2 l3 l4 l5 l6 l7 l8).2).2).1∧l6=((((lV l1 l2 l3 l4 l5 l6 l7 l8).2).2).2).1∧l7=(((((lV l1 l2 l3 l4 l5 l6 l7 l8).2).2).2).2).1∧l8=(((((lV l1 l2 l3 l4 l5 l6 l7 l8).2).2).2).2).2∧(BI l1 l2).2=(S.al (l1,l2,l3,l4,l5,l6,l7,l8)).2)∧((!decide ((BI l1 l2).2=z0))=false→S.jE (l1,l2)=((S.al (l1,l2,l3,l4,l5,l6,l7,l8)).1).1∧ []=(((S.al (l1,l2,l3,l4,l5,l6,l7,l8)).1).2).1∧((BI l1 l2).1).1=(lV l1 l2 l3 l4 l5 l6 l7 l8).1∧(((BI l1 l2).1).2).1=((lV l1 l2 l3 l4 l5 l6 l7 l8).2).1∧((((BI l1 l2).1).2).2).1=(((lV l1 l2 l3 l4 l5 l6 l7 l8).2).2).1∧((((BI l1 l2).1).2).2).2=((((lV l1 l2 l3 l4 l5 l6 l7 l8).2).2).2).1∧true=(((((lV l1 l2 l3 l4 l5 l6 l7 l8).2).2).2).2).1∧(-1:Int)=(((((lV l1 l2 l3 l4 l5 l6 l7 l8).2).2).2).2).2∧z0=(S.al (l1,l2,l3,l4,l5,l6,l7,l8)).2))
def Fc:=S.dB (((S.cx (9:Int)).1).1,(((S.cx (9:Int)).1).2).1,((((S.cx (9:Int)).1).2).2).1,(((((S.cx (9:Int)).1).2).2).2).1,((((((S.cx (9:Int)).1).2).2).2).2).1,(((((((S.cx (9:Int)).1).2).2).2).2).2).1,((((((((S.cx (9:Int)).1).2).2).2).2).2).2).1,z1) (z0,z0,z0,[(104:UInt8),(97:UInt8),(121:UInt8)])
def HJ:=S.dB ((S.cx (9:Int)).1) (z0,z0,z0,[(104:UInt8),(97:UInt8),(121:UInt8)])
def HK:=S.al (S.ax (HJ.1) (Vg.fb Int))
def MD:=S.al (S.ax (Fc.1) (Vg.fb Int))
def BJ:=((((S.cx (9:Int)).1).2).2).2
def ME:=List.length ((((((HK.1).2).2).2).2).1)
def Q1:=List.length ((((((MD.1).2).2).2).2).1)
def BK:=S.cx (9:Int)
def Q2:=((((((Fc.1).2).2).2).2).2).2
def Q3:Prop :=
 True∧(0:Nat)<List.length [(104:UInt8),(97:UInt8),(121:UInt8)]∧S.dj ((BK.1).1,((BK.1).2).1,(((BK.1).2).2).1,BJ.1,(BJ.2).1,((BJ.2).2).1,(((BJ.2).2).2).1,z1)∧S.dj (Fc.1)∧True∧(0:Nat)<List.length [(104:UInt8),(97:UInt8),(121:UInt8)]∧S.dj (BK.1)∧S.dj (HJ.1)∧True∧((decide (BK.2=z0)=true→((((BJ.2).2).2).1=true→(decide (Fc.2=(7:Int))=true→((!Q2.1)=true→(decide (MD.2=z0)=true→(decide ((Q1:Int)=z0)=true→(decide (HJ.2=z0)=true→(decide (HK.2=z0)=true→(decide ((ME:Int)=z1)=true→z0≤z0∧z0<(ME:Int))∧(decide ((ME:Int)=z1)=false→True))∧(decide (HK.2=z0)=false→True))∧(decide (HJ.2=z0)=false→True))∧(decide ((Q1:Int)=z0)=false→True))∧(decide (MD.2=z0)=false→True))∧((!Q2.1)=false→True))∧(decide (Fc.2=(7:Int))=false→True))∧((((BJ.2).2).2).1=false→True))∧(decide (BK.2=z0)=false→True))∧(bif decide (BK.2=z0) then bif (((BJ.2).2).2).1 then bif decide (Fc.2=(7:Int)) then bif !Q2.1 then bif decide (MD.2=z0) then bif decide ((Q1:Int)=z0) then bif decide (HJ.2=z0) then bif decide (HK.2=z0) then bif decide ((ME:Int)=z1) then decide (List.getD ((((((HK.1).2).2).2).2).1) (z0.toNat) []= [(104:UInt8),(97:UInt8),(121:UInt8)]) else false else false else false else false else false else false else false else false else false)=true
def Q4(a1:Int)(a2:Int)(a3:Int)(a4:Int)(a5:Int)(a6:List UInt8)(a7:List Int):Prop :=
 True∧(bif decide ((↑(S.len a6):Int)≤(2500:Int)) then decide ((au a7)≤(300:Int)) else false)=S.v7 (a1,a2,a3,a4,a5,a6,a7)
def gK(y1:List (List UInt8))(y2:List (Int×List UInt8))(y3 y4:Int)(y5:List (List UInt8))(y6:List (Int×Int×List (List UInt8×List Int)))(y7:Bool)(y8 a1 a2 a3 a4 a5:Int)(a6:List UInt8)(a7:List Int):=((S.bc (y1,y2,y3,y4,y5,y6,y7,y8) (a1,a2,a3,a4,a5,a6,a7)).1).2
def Q5(y1:List (List UInt8))(y2:List (Int×List UInt8))(y3:Int)(y4:Int)(y5:List (List UInt8))(y6:List (Int×Int×List (List UInt8×List Int)))(y7:Bool)(y8:Int)(a1:Int)(a2:Int)(a3:Int)(a4:Int)(a5:Int)(a6:List UInt8)(a7:List Int):Prop :=
 (decide (a1=z0)=true→S.dj (y1,y2,y3,y4,y5,y6,y7,y8)∧((S.dB (y1,y2,y3,y4,y5,y6,y7,y8) (a3,a4,a5,a6)).1).1=((S.bc (y1,y2,y3,y4,y5,y6,y7,y8) (a1,a2,a3,a4,a5,a6,a7)).1).1∧(((S.dB (y1,y2,y3,y4,y5,y6,y7,y8) (a3,a4,a5,a6)).1).2).1=(gK y1 y2 y3 y4 y5 y6 y7 y8 a1 a2 a3 a4 a5 a6 a7).1∧((((S.dB (y1,y2,y3,y4,y5,y6,y7,y8) (a3,a4,a5,a6)).1).2).2).1=((gK y1 y2 y3 y4 y5 y6 y7 y8 a1 a2 a3 a4 a5 a6 a7).2).1∧(((((S.dB (y1,y2,y3,y4,y5,y6,y7,y8) (a3,a4,a5,a6)).1).2).2).2).1=(((gK y1 y2 y3 y4 y5 y6 y7 y8 a1 a2 a3 a4 a5 a6 a7).2).2).1∧((((((S.dB (y1,y2,y3,y4,y5,y6,y7,y8) (a3,a4,a5,a6)).1).2).2).2).2).1=((((gK y1 y2 y3 y4 y5 y6 y7 y8 a1 a2 a3 a4 a5 a6 a7).2).2).2).1∧(((((((S.dB (y1,y2,y3,y4,y5,y6,y7,y8) (a3,a4,a5,a6)).1).2).2).2).2).2).1=(((((gK y1 y2 y3 y4 y5 y6 y7 y8 a1 a2 a3 a4 a5 a6 a7).2).2).2).2).1∧((((((((S.dB (y1,y2,y3,y4,y5,y6,y7,y8) (a3,a4,a5,a6)).1).2).2).2).2).2).2).1=((((((gK y1 y2 y3 y4 y5 y6 y7 y8 a1 a2 a3 a4 a5 a6 a7).2).2).2).2).2).1∧((((((((S.dB (y1,y2,y3,y4,y5,y6,y7,y8) (a3,a4,a5,a6)).1).2).2).2).2).2).2).2=((((((gK y1 y2 y3 y4 y5 y6 y7 y8 a1 a2 a3 a4 a5 a6 a7).2).2).2).2).2).2∧(S.dB (y1,y2,y3,y4,y5,y6,y7,y8) (a3,a4,a5,a6)).2=(S.bc (y1,y2,y3,y4,y5,y6,y7,y8) (a1,a2,a3,a4,a5,a6,a7)).2)∧(decide (a1=z0)=false→(decide (a1=z1)=true→S.dj (y1,y2,y3,y4,y5,y6,y7,y8)∧(S.ax (y1,y2,y3,y4,y5,y6,y7,y8) a7).1=((S.bc (y1,y2,y3,y4,y5,y6,y7,y8) (a1,a2,a3,a4,a5,a6,a7)).1).1∧((S.ax (y1,y2,y3,y4,y5,y6,y7,y8) a7).2).1=(gK y1 y2 y3 y4 y5 y6 y7 y8 a1 a2 a3 a4 a5 a6 a7).1∧(((S.ax (y1,y2,y3,y4,y5,y6,y7,y8) a7).2).2).1=((gK y1 y2 y3 y4 y5 y6 y7 y8 a1 a2 a3 a4 a5 a6 a7).2).1∧((((S.ax (y1,y2,y3,y4,y5,y6,y7,y8) a7).2).2).2).1=(((gK y1 y2 y3 y4 y5 y6 y7 y8 a1 a2 a3 a4 a5 a6 a7).2).2).1∧(((((S.ax (y1,y2,y3,y4,y5,y6,y7,y8) a7).2).2).2).2).1=((((gK y1 y2 y3 y4 y5 y6 y7 y8 a1 a2 a3 a4 a5 a6 a7).2).2).2).1∧((((((S.ax (y1,y2,y3,y4,y5,y6,y7,y8) a7).2).2).2).2).2).1=(((((gK y1 y2 y3 y4 y5 y6 y7 y8 a1 a2 a3 a4 a5 a6 a7).2).2).2).2).1∧(((((((S.ax (y1,y2,y3,y4,y5,y6,y7,y8) a7).2).2).2).2).2).2).1=((((((gK y1 y2 y3 y4 y5 y6 y7 y8 a1 a2 a3 a4 a5 a6 a7).2).2).2).2).2).1∧(((((((S.ax (y1,y2,y3,y4,y5,y6,y7,y8) a7).2).2).2).2).2).2).2=((((((gK y1 y2 y3 y4 y5 y6 y7 y8 a1 a2 a3 a4 a5 a6 a7).2).2).2).2).2).2∧z0=(S.bc (y1,y2,y3,y4,y5,y6,y7,y8) (a1,a2,a3,a4,a5,a6,a7)).2)∧(decide (a1=z1)=false→(decide (a1=(2:Int))=true→True∧((S.al (y1,y2,y3,y4,y5,y6,y7,y8)).1).1=((S.bc (y1,y2,y3,y4,y5,y6,y7,y8) (a1,a2,a3,a4,a5,a6,a7)).1).1∧(((S.al (y1,y2,y3,y4,y5,y6,y7,y8)).1).2).1=(gK y1 y2 y3 y4 y5 y6 y7 y8 a1 a2 a3 a4 a5 a6 a7).1∧((((S.al (y1,y2,y3,y4,y5,y6,y7,y8)).1).2).2).1=((gK y1 y2 y3 y4 y5 y6 y7 y8 a1 a2 a3 a4 a5 a6 a7).2).1∧(((((S.al (y1,y2,y3,y4,y5,y6,y7,y8)).1).2).2).2).1=(((gK y1 y2 y3 y4 y5 y6 y7 y8 a1 a2 a3 a4 a5 a6 a7).2).2).1∧((((((S.al (y1,y2,y3,y4,y5,y6,y7,y8)).1).2).2).2).2).1=((((gK y1 y2 y3 y4 y5 y6 y7 y8 a1 a2 a3 a4 a5 a6 a7).2).2).2).1∧(((((((S.al (y1,y2,y3,y4,y5,y6,y7,y8)).1).2).2).2).2).2).1=(((((gK y1 y2 y3 y4 y5 y6 y7 y8 a1 a2 a3 a4 a5 a6 a7).2).2).2).2).1∧((((((((S.al (y1,y2,y3,y4,y5,y6,y7,y8)).1).2).2).2).2).2).2).1=((((((gK y1 y2 y3 y4 y5 y6 y7 y8 a1 a2 a3 a4 a5 a6 a7).2).2).2).2).2).1∧((((((((S.al (y1,y2,y3,y4,y5,y6,y7,y8)).1).2).2).2).2).2).2).2=((((((gK y1 y2 y3 y4 y5 y6 y7 y8 a1 a2 a3 a4 a5 a6 a7).2).2).2).2).2).2∧(S.al (y1,y2,y3,y4,y5,y6,y7,y8)).2=(S.bc (y1,y2,y3,y4,y5,y6,y7,y8) (a1,a2,a3,a4,a5,a6,a7)).2)∧(decide (a1=(2:Int))=false→y1=((S.bc (y1,y2,y3,y4,y5,y6,y7,y8) (a1,a2,a3,a4,a5,a6,a7)).1).1∧y2=(gK y1 y2 y3 y4 y5 y6 y7 y8 a1 a2 a3 a4 a5 a6 a7).1∧y3=((gK y1 y2 y3 y4 y5 y6 y7 y8 a1 a2 a3 a4 a5 a6 a7).2).1∧y4=(((gK y1 y2 y3 y4 y5 y6 y7 y8 a1 a2 a3 a4 a5 a6 a7).2).2).1∧y5=((((gK y1 y2 y3 y4 y5 y6 y7 y8 a1 a2 a3 a4 a5 a6 a7).2).2).2).1∧y6=(((((gK y1 y2 y3 y4 y5 y6 y7 y8 a1 a2 a3 a4 a5 a6 a7).2).2).2).2).1∧y7=((((((gK y1 y2 y3 y4 y5 y6 y7 y8 a1 a2 a3 a4 a5 a6 a7).2).2).2).2).2).1∧a2=((((((gK y1 y2 y3 y4 y5 y6 y7 y8 a1 a2 a3 a4 a5 a6 a7).2).2).2).2).2).2∧z0=(S.bc (y1,y2,y3,y4,y5,y6,y7,y8) (a1,a2,a3,a4,a5,a6,a7)).2)))
def gL(l:List (Int×Int×Int×Int×Int×List UInt8×List Int))(x:Nat×(List (List UInt8)×List (Int×List UInt8)×Int×Int×List (List UInt8)×List (Int×Int×List (List UInt8×List Int))×Bool×Int)×List (List UInt8)):=List.getD l ((x.1:Int).toNat) (z0,z0,z0,z0,z0,[],[])
def eG(x:Nat×(List (List UInt8)×List (Int×List UInt8)×Int×Int×List (List UInt8)×List (Int×Int×List (List UInt8×List Int))×Bool×Int)×List (List UInt8))(l:List (Int×Int×Int×Int×Int×List UInt8×List Int))(f:List Int):=((((S.al (S.ax ((S.bc x.2.1 (gL l x)).1) f)).1).2).2).2
def jF:=List (List UInt8)×List (Int×List UInt8)×Int×Int×List (List UInt8)×List (Int×Int×List (List UInt8×List Int))×Bool×Int
def sZ(x:Nat×jF×List (List UInt8))(l:List (Int×Int×Int×Int×Int×List UInt8×List Int)):=List.length (x.2.2++ [((((((gL l x).2).2).2).2).2).1])
def lW(x:Nat×jF×List (List UInt8))(l:List (Int×Int×Int×Int×Int×List UInt8×List Int))(f:List Int):=S.al (S.ax ((S.bc x.2.1 (gL l x)).1) f)
def pO(x:Nat×jF×List (List UInt8))(l:List (Int×Int×Int×Int×Int×List UInt8×List Int)):=((((S.bc x.2.1 (gL l x)).1).2).2).2
def pP(x:Nat×jF×List (List UInt8))(l:List (Int×Int×Int×Int×Int×List UInt8×List Int))(f:List Int):=List.length (((eG x l f).2).1)
def YV(x:Nat×jF×List (List UInt8))(l:List (Int×Int×Int×Int×Int×List UInt8×List Int)):=((!x.2.1.2.2.2.2.2.2.1)=true→True)∧((!x.2.1.2.2.2.2.2.2.1)=false→(z0≤(x.1:Int)∧(x.1:Int)<(au l))∧((!decide ((gL l x).1=z0))=true→True)∧((!decide ((gL l x).1=z0))=false→z0≤(x.1:Int)∧(x.1:Int)<(au l)))
def Fe(x:Nat×jF×List (List UInt8)):=Int.toNat (↑(List.length x.2.2):Int)
def rJ(l:List (Int×Int×Int×Int×Int×List UInt8×List Int))(x:Nat×jF×List (List UInt8)):=(((((gL l x).2).2).2).2).2
def YW(n:Int)(f:List Int):=bif decide (n<(3:Int)) then true else bif decide ((150:Int)<n) then true else decide ((300:Int)<(au f))
def YX(x:Nat×jF×List (List UInt8))(l:List (Int×Int×Int×Int×Int×List UInt8×List Int))(f:List Int):=bif !decide ((lW x l f).2=z0) then true else bif decide ((↑(pP x l f):Int)<(↑(List.length x.2.2):Int)) then true else decide ((↑(List.length x.2.2):Int)+z1<(↑(pP x l f):Int))
def HL(n:Int):=((((S.cx n).1).2).2).2
def BL(x:Nat×jF×List (List UInt8)):=aU ((x.1:Int)+z1)
def YY(x:Nat×jF×List (List UInt8))(l:List (Int×Int×Int×Int×Int×List UInt8×List Int))(f:List Int):=bif !decide ((lW x l f).2=z0) then true else bif decide ((↑(pP x l f):Int)<(↑(sZ x l):Int)) then true else decide ((↑(sZ x l):Int)+z1<(↑(pP x l f):Int))
def Ff(x:Nat×jF×List (List UInt8))(f:List Int):=S.al (S.ax x.2.1 f)
def YZ(x:Nat×jF×List (List UInt8))(l:List (Int×Int×Int×Int×Int×List UInt8×List Int))(f:List Int):=bif !x.2.1.2.2.2.2.2.2.1 then true else bif !decide ((gL l x).1=z0) then true else !decide (List.getD (((eG x l f).2).1) (Int.toNat (↑(sZ x l):Int)) []=(rJ l x).1)
def MF(x:Nat×jF×List (List UInt8))(l:List (Int×Int×Int×Int×Int×List UInt8×List Int))(f:List Int):=List.getD (((eG x l f).2).1) (Int.toNat (↑(sZ x l):Int)) []
def Q6(n:Int)(l:List (Int×Int×Int×Int×Int×List UInt8×List Int))(f:List Int):Prop :=
 ((YW n f)=true→True∧true=true)∧((YW n f)=false→True∧((!decide ((S.cx n).2=z0))=true→false=true)∧((!decide ((S.cx n).2=z0))=false→(∃(x:Nat×jF×List (List UInt8)),(z0=(x.1:Int)∧ []=x.2.2∧((S.cx n).1).1=x.2.1.1∧(((S.cx n).1).2).1=x.2.1.2.1∧((((S.cx n).1).2).2).1=x.2.1.2.2.1∧(HL n).1=x.2.1.2.2.2.1∧((HL n).2).1=x.2.1.2.2.2.2.1∧(((HL n).2).2).1=x.2.1.2.2.2.2.2.1∧((((HL n).2).2).2).1=x.2.1.2.2.2.2.2.2.1∧((((HL n).2).2).2).2=x.2.1.2.2.2.2.2.2.2)∧S.gr x)∧∀(x:Nat×jF×List (List UInt8)),S.gr x→((bif decide ((x.1:Int)<(au l)) then decide ((x.1:Int)<(40:Int)) else false)=true→(z0≤(x.1:Int)∧(x.1:Int)<(au l))∧True∧((!S.v7 (gL l x))=true→(BL x)∧∃(af:Nat×jF×List (List UInt8)),((x.1:Int)+z1=(af.1:Int)∧x.2.2=af.2.2∧x.2.1.1=af.2.1.1∧x.2.1.2.1=af.2.1.2.1∧x.2.1.2.2.1=af.2.1.2.2.1∧x.2.1.2.2.2.1=af.2.1.2.2.2.1∧x.2.1.2.2.2.2.1=af.2.1.2.2.2.2.1∧x.2.1.2.2.2.2.2.1=af.2.1.2.2.2.2.2.1∧x.2.1.2.2.2.2.2.2.1=af.2.1.2.2.2.2.2.2.1∧x.2.1.2.2.2.2.2.2.2=af.2.1.2.2.2.2.2.2.2)∧S.gr af∧S.ah (S.len l) af.1<S.ah (S.len l) x.1)∧((!S.v7 (gL l x))=false→(z0≤(x.1:Int)∧(x.1:Int)<(au l))∧S.dj x.2.1∧(z0≤(x.1:Int)∧(x.1:Int)<(au l))∧((decide ((gL l x).1=z0)=true→z0≤(x.1:Int)∧(x.1:Int)<(au l))∧(decide ((gL l x).1=z0)=false→True))∧((bif decide ((gL l x).1=z0) then bif decide ((((gL l x).2).2).1=z0) then decide ((S.bc x.2.1 (gL l x)).2=z0) else false else false)=true→(z0≤(x.1:Int)∧(x.1:Int)<(au l))∧List.length x.2.2+List.length [(rJ l x).1]≤(5864062014805:Nat)∧((!((((pO x l).2).2).2).1)=true→S.dj ((S.bc x.2.1 (gL l x)).1)∧True∧(((!decide ((lW x l f).2=z0))=true→True)∧((!decide ((lW x l f).2=z0))=false→(decide ((↑(pP x l f):Int)<(↑(sZ x l):Int))=true→True)∧(decide ((↑(pP x l f):Int)<(↑(sZ x l):Int))=false→aU ((↑(sZ x l):Int)+z1))))∧((YY x l f)=true→false=true)∧((YY x l f)=false→(decide ((↑(sZ x l):Int)<(↑(pP x l f):Int))=true→(z0≤(↑(sZ x l):Int)∧(↑(sZ x l):Int)<(↑(pP x l f):Int))∧(YV x l)∧((YZ x l f)=true→false=true)∧((YZ x l f)=false→List.length (x.2.2++ [(rJ l x).1])+List.length [MF x l f]≤(5864062014805:Nat)∧True∧((!S.ga (((eG x l f).2).1) (x.2.2++ [(rJ l x).1]++ [MF x l f]))=true→false=true)∧((!S.ga (((eG x l f).2).1) (x.2.2++ [(rJ l x).1]++ [MF x l f]))=false→(BL x)∧∃(af:Nat×jF×List (List UInt8)),((x.1:Int)+z1=(af.1:Int)∧x.2.2++ [(rJ l x).1]++ [MF x l f]=af.2.2∧((lW x l f).1).1=af.2.1.1∧(((lW x l f).1).2).1=af.2.1.2.1∧((((lW x l f).1).2).2).1=af.2.1.2.2.1∧(eG x l f).1=af.2.1.2.2.2.1∧((eG x l f).2).1=af.2.1.2.2.2.2.1∧(((eG x l f).2).2).1=af.2.1.2.2.2.2.2.1∧((((eG x l f).2).2).2).1=af.2.1.2.2.2.2.2.2.1∧((((eG x l f).2).2).2).2=af.2.1.2.2.2.2.2.2.2)∧S.gr af∧S.ah (S.len l) af.1<S.ah (S.len l) x.1)))∧(decide ((↑(sZ x l):Int)<(↑(pP x l f):Int))=false→True∧((!S.ga (((eG x l f).2).1) (x.2.2++ [(rJ l x).1]))=true→false=true)∧((!S.ga (((eG x l f).2).1) (x.2.2++ [(rJ l x).1]))=false→(BL x)∧∃(af:Nat×jF×List (List UInt8)),((x.1:Int)+z1=(af.1:Int)∧x.2.2++ [(rJ l x).1]=af.2.2∧((lW x l f).1).1=af.2.1.1∧(((lW x l f).1).2).1=af.2.1.2.1∧((((lW x l f).1).2).2).1=af.2.1.2.2.1∧(eG x l f).1=af.2.1.2.2.2.1∧((eG x l f).2).1=af.2.1.2.2.2.2.1∧(((eG x l f).2).2).1=af.2.1.2.2.2.2.2.1∧((((eG x l f).2).2).2).1=af.2.1.2.2.2.2.2.2.1∧((((eG x l f).2).2).2).2=af.2.1.2.2.2.2.2.2.2)∧S.gr af∧S.ah (S.len l) af.1<S.ah (S.len l) x.1))))∧((!((((pO x l).2).2).2).1)=false→(BL x)∧∃(af:Nat×jF×List (List UInt8)),((x.1:Int)+z1=(af.1:Int)∧x.2.2++ [(rJ l x).1]=af.2.2∧((S.bc x.2.1 (gL l x)).1).1=af.2.1.1∧(((S.bc x.2.1 (gL l x)).1).2).1=af.2.1.2.1∧((((S.bc x.2.1 (gL l x)).1).2).2).1=af.2.1.2.2.1∧(pO x l).1=af.2.1.2.2.2.1∧((pO x l).2).1=af.2.1.2.2.2.2.1∧(((pO x l).2).2).1=af.2.1.2.2.2.2.2.1∧((((pO x l).2).2).2).1=af.2.1.2.2.2.2.2.2.1∧((((pO x l).2).2).2).2=af.2.1.2.2.2.2.2.2.2)∧S.gr af∧S.ah (S.len l) af.1<S.ah (S.len l) x.1))∧((bif decide ((gL l x).1=z0) then bif decide ((((gL l x).2).2).1=z0) then decide ((S.bc x.2.1 (gL l x)).2=z0) else false else false)=false→((!((((pO x l).2).2).2).1)=true→S.dj ((S.bc x.2.1 (gL l x)).1)∧True∧(((!decide ((lW x l f).2=z0))=true→True)∧((!decide ((lW x l f).2=z0))=false→(decide ((↑(pP x l f):Int)<(↑(List.length x.2.2):Int))=true→True)∧(decide ((↑(pP x l f):Int)<(↑(List.length x.2.2):Int))=false→aU ((↑(List.length x.2.2):Int)+z1))))∧((YX x l f)=true→false=true)∧((YX x l f)=false→(decide ((↑(List.length x.2.2):Int)<(↑(pP x l f):Int))=true→(z0≤(↑(List.length x.2.2):Int)∧(↑(List.length x.2.2):Int)<(↑(pP x l f):Int))∧(YV x l)∧((bif !x.2.1.2.2.2.2.2.2.1 then true else bif !decide ((gL l x).1=z0) then true else !decide (List.getD (((eG x l f).2).1) (Fe x) []=(rJ l x).1))=true→false=true)∧((bif !x.2.1.2.2.2.2.2.2.1 then true else bif !decide ((gL l x).1=z0) then true else !decide (List.getD (((eG x l f).2).1) (Fe x) []=(rJ l x).1))=false→List.length x.2.2+List.length [List.getD (((eG x l f).2).1) (Fe x) []]≤(5864062014805:Nat)∧True∧((!S.ga (((eG x l f).2).1) (x.2.2++ [List.getD (((eG x l f).2).1) (Fe x) []]))=true→false=true)∧((!S.ga (((eG x l f).2).1) (x.2.2++ [List.getD (((eG x l f).2).1) (Fe x) []]))=false→(BL x)∧∃(af:Nat×jF×List (List UInt8)),((x.1:Int)+z1=(af.1:Int)∧x.2.2++ [List.getD (((eG x l f).2).1) (Fe x) []]=af.2.2∧((lW x l f).1).1=af.2.1.1∧(((lW x l f).1).2).1=af.2.1.2.1∧((((lW x l f).1).2).2).1=af.2.1.2.2.1∧(eG x l f).1=af.2.1.2.2.2.1∧((eG x l f).2).1=af.2.1.2.2.2.2.1∧(((eG x l f).2).2).1=af.2.1.2.2.2.2.2.1∧((((eG x l f).2).2).2).1=af.2.1.2.2.2.2.2.2.1∧((((eG x l f).2).2).2).2=af.2.1.2.2.2.2.2.2.2)∧S.gr af∧S.ah (S.len l) af.1<S.ah (S.len l) x.1)))∧(decide ((↑(List.length x.2.2):Int)<(↑(pP x l f):Int))=false→True∧((!S.ga (((eG x l f).2).1) x.2.2)=true→false=true)∧((!S.ga (((eG x l f).2).1) x.2.2)=false→(BL x)∧∃(af:Nat×jF×List (List UInt8)),((x.1:Int)+z1=(af.1:Int)∧x.2.2=af.2.2∧((lW x l f).1).1=af.2.1.1∧(((lW x l f).1).2).1=af.2.1.2.1∧((((lW x l f).1).2).2).1=af.2.1.2.2.1∧(eG x l f).1=af.2.1.2.2.2.1∧((eG x l f).2).1=af.2.1.2.2.2.2.1∧(((eG x l f).2).2).1=af.2.1.2.2.2.2.2.1∧((((eG x l f).2).2).2).1=af.2.1.2.2.2.2.2.2.1∧((((eG x l f).2).2).2).2=af.2.1.2.2.2.2.2.2.2)∧S.gr af∧S.ah (S.len l) af.1<S.ah (S.len l) x.1))))∧((!((((pO x l).2).2).2).1)=false→(BL x)∧∃(af:Nat×jF×List (List UInt8)),((x.1:Int)+z1=(af.1:Int)∧x.2.2=af.2.2∧((S.bc x.2.1 (gL l x)).1).1=af.2.1.1∧(((S.bc x.2.1 (gL l x)).1).2).1=af.2.1.2.1∧((((S.bc x.2.1 (gL l x)).1).2).2).1=af.2.1.2.2.1∧(pO x l).1=af.2.1.2.2.2.1∧((pO x l).2).1=af.2.1.2.2.2.2.1∧(((pO x l).2).2).1=af.2.1.2.2.2.2.2.1∧((((pO x l).2).2).2).1=af.2.1.2.2.2.2.2.2.1∧((((pO x l).2).2).2).2=af.2.1.2.2.2.2.2.2.2)∧S.gr af∧S.ah (S.len l) af.1<S.ah (S.len l) x.1))))∧((bif decide ((x.1:Int)<(au l)) then decide ((x.1:Int)<(40:Int)) else false)=false→S.dj x.2.1∧True∧((decide ((Ff x f).2=z0)=true→True∧(S.ga (((((((Ff x f).1).2).2).2).2).1) x.2.2=true→True)∧(S.ga (((((((Ff x f).1).2).2).2).2).1) x.2.2=false→True))∧(decide ((Ff x f).2=z0)=false→True))∧(bif decide ((Ff x f).2=z0) then bif S.ga (((((((Ff x f).1).2).2).2).2).1) x.2.2 then true else false else false)=true)))
end Go

end
