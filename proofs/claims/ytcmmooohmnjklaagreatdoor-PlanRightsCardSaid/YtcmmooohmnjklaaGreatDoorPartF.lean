/- PlanRights: for every input the given Go function returns true and leaves its arguments as they were. Conditions: none. -/
import Derived.Test.YtcmmooohmnjklaaGreatDoorPartE
import Derived.Test.YtcmmooohmnjklaaGreatDoorCards
import Derived.Test.YtcmmooohmnjklaaGreatDoorTie
import Derived.Deep.DeepHandedRow
import Derived.ProofKit
import Derived.OpenShut
set_option linter.unusedVariables false
set_option linter.unusedSimpArgs false
section
namespace Go.S
theorem KI {docs:List (List UInt8)} {a:Int} {j:Nat}:∀s∈ed docs a j,s.length≤maxLen:=fun s hs=>by
 have h1:=(fk _ _).1 hs
 simp only [aS,List.mem_map] at h1
 obtain⟨w,_,rfl⟩:=h1
 have :=uu w [] (by simp)
 unfold c9 maxLen
 omega
theorem Su {docs:List (List UInt8)} {f t:Int}(h:cJ docs f t=true):ec docs f t∧∀j,(docs.getD j []).length≤2000:=by
 simp only [cJ,Bool.and_eq_true,List.all_eq_true,decide_eq_true_eq] at h
 obtain⟨h1,h2,h3,h4,h5⟩:=h
 refine⟨⟨h3,h4,h5,by omega,fun d hd=>by have :=h1 d hd;omega⟩,fun j=> ?_⟩
 by_cases hj:j<docs.length
 · have :=h1 _ (bQ docs j [] hj)
   omega
 · rw [List.getD_eq_getElem?_getD,List.getElem?_eq_none (by omega)];simp
end Go.S
namespace Go.DM
open Go Go.Vg Go.Maps Go.RowKit Go.Proofs
theorem QN {w:World} {A:Nat→Prop} {τ:Ty}:∀(l:List (D τ)) (cs:List Value),bW (bg w A [τ]) cs l→cs.length=l.length∧∀(j:Nat) (x:D τ),l[j]? =some x→Rd w A τ (cs.getD j undef) x
 | [],cs,h=>by simp only [bW] at h;subst h;exact⟨rfl,fun j x hx=>by simp at hx⟩
 |y::l,cs,⟨c1,c2,hc,h1,h2⟩=>by
  subst hc
  simp only [bg] at h1
  obtain⟨v,bX,rfl,hv,rfl⟩:=h1
  obtain⟨g1,g2⟩:=QN l c2 h2
  refine⟨by simp [g1],fun j x hx=> ?_⟩
  cases j with
  |zero=>simp at hx;subst hx;exact hv
  |succ j=>simpa using g2 j x (by simpa using hx)
theorem IF(b:List UInt8):BV [.one (.slice [.int .u8])] [.sl [.int .u8] b]=some b:=rfl
set_option maxRecDepth 100000 in
theorem KJ {G:Nat→Option GD} {Fs:Row (PS.flat [.one (.slice [.int .u8])])→Prop×AV×List AB}(uV:Valid Tryz.prog G 131 (au [.one (.slice [.int .u8])] Fs))
  (hFs:∀b:List UInt8,Fs b=(S.small b, .own 0,[.row 9 [.str] (S.sorted (S.aS b)) false]))
  {F:Row (PS.flat [.one (.slice [.slice [.int .u8]]), .agg [.int .i64, .int .i64]])→Prop×AV×List AB}
  (hF:∀(docs:List (List UInt8)) (f t:Int),F (docs,f,t)=(True, .dc [.sl [.str, .slice [.int .i64]] (S.fK docs f t).1, .int .i64 ((S.fK docs f t).2:Int)],[])):
  Valid Tryz.prog G 96 (au [.one (.slice [.slice [.int .u8]]), .agg [.int .i64, .int .i64]] F):=by
 intro w A β args cd pre res bs hA hG bp hs hp
 unfold au at hs
 split at hs
 · rename_i x hx
   obtain⟨docs,f,t⟩:=x
   change List (List UInt8) at docs
   change Int at f
   change Int at t
   have gg:=hs
   rw [hF docs f t] at gg
   simp only [Option.some.injEq,Prod.mk.injEq] at gg
   obtain⟨rfl,rfl,rfl⟩:=gg
   obtain⟨g1,g2⟩:=qY _ hx bp
   clear hs hp hx bp g2
   change ai w A β args [.sl [.slice [.int .u8]] docs, .agg [.int .i64 f, .int .i64 t]] at g1
   simp only [ai,ae] at g1
   obtain⟨vd,bX,rfl,hvd,va,aoU,rfl,⟨arr,rfl,SV⟩,rfl⟩:=g1
   obtain⟨u1,us,e1,⟨rfl,hf⟩,u2,vG,rfl,⟨rfl,ht⟩,rfl⟩:=SV
   obtain rfl :arr= #[.int .i64 f, .int .i64 t]:=by apply Array.ext';simpa using e1
   simp only [Rd] at hvd
   obtain⟨a,cap,cs,rfl,I0,û,KG,aG⟩:=hvd
   obtain⟨fS,cQ⟩:=QN (τ:= .slice [.int .u8]) docs cs KG
   have hd:∀j,j<docs.length→∃b o aj cj,a=some ⟨b,o,none⟩∧b<w.heap.size∧w.cell? ⟨b,o+j,none⟩=some (cs.getD j undef)∧cs.getD j undef= .slice aj (docs.getD j []).length cj:=by
    intro j hj
    obtain⟨b,o,rfl,wc,hr⟩:=aG (by intro h;rw [h] at fS;simp at fS;omega)
    have h1:=cQ j (docs.getD j []) (by rw [List.getD_eq_getElem?_getD,List.getElem?_eq_getElem hj];rfl)
    simp only [Rd] at h1
    obtain⟨aj,cj,ei,h2,_⟩:=h1
    refine⟨b,o,aj,cj,rfl,hA b wc,hr j _ ?_,h2⟩
    rw [List.getD_eq_getElem?_getD,List.getElem?_eq_getElem (by omega)];rfl
   show Calls Tryz.prog 96 #[.slice a docs.length cap, .agg #[.int .i64 f, .int .i64 t]] w _
   have bad:Calls Tryz.prog 96 #[.slice a docs.length cap, .agg #[.int .i64 f, .int .i64 t]] w (fun e w'=>e= .returned (.tuple #[.slice none 0 0, .int .i64 1])∧Below w.heap.size w w')→S.cJ docs f t=false→
     Calls Tryz.prog 96 #[.slice a docs.length cap, .agg #[.int .i64 f, .int .i64 t]] w (fun e w'=>∃v,e= .returned v∧∃A' aJ,jg w A w' v (.dc [.sl [.str, .slice [.int .i64]] (S.fK docs f t).1, .int .i64 ((S.fK docs f t).2:Int)]) [] A' aJ):=by
    intro hc hb
    refine hc.mono fun e w' ⟨he,tp⟩=>⟨_,he,A,β,{os:=tp.os,tape:=tp.tape,output:=tp.output,size:=tp.size,same:=tp.block,mono:=fun _ h=>h,j2:=fun _ _ h=>h,bound:=fun b h=>Nat.lt_of_lt_of_le (hA b h) tp.size,res:= ?_,rows:=fun i ab hi=>by simp at hi,apart:=fun i j b hi=>by simp at hi}⟩
    have e2:S.fK docs f t=([],1):=by unfold S.fK;rw [hb];rfl
    rw [e2]
    simp only [ae,ai]
    refine⟨_,rfl,_,_,rfl,?_,_,_,rfl,⟨rfl,by simp only [lo,hi];omega⟩,rfl⟩
    simp only [Rd]
    exact⟨none,0,[],rfl,Nat.le_refl _,Nat.zero_le _,rfl,fun h=>absurd rfl h⟩
   cases Dm:S.cJ docs f t with
   |false=>
    refine bad ?_ Dm
    by_cases hc:1000<docs.length∨f<0∨t<f∨(docs.length:Int)<t
    · exact Tryz.MQ docs f t a cap w hc
    · refine Tryz.MR docs f t a cap w (by omega) (by omega) (by omega) (by omega) _ hd fun hX=> ?_
      have :S.cJ docs f t=true :=by
       simp only [S.cJ,Bool.and_eq_true,List.all_eq_true,decide_eq_true_eq]
       refine⟨fun d oJ=> ?_,by omega,by omega,by omega,by omega⟩
       obtain⟨i,iE,rfl⟩:=List.getElem_of_mem oJ
       have :=hX i iE
       rw [List.getD_eq_getElem?_getD,List.getElem?_eq_getElem iE] at this
       simp only [Option.getD_some] at this
       omega
      rw [this] at Dm;cases Dm
   |true=>
    obtain⟨hmp,h4⟩:=S.Su Dm
    have alx:∀(j:Nat) (W:World),j<docs.length→Below w.heap.size w W→Calls Tryz.prog 131 #[cs.getD j undef] W fun e w'=>∃v,e= .returned v∧w'.ownsRow W.heap.size 9 1 v (S.ed docs 0 j).length ((S.ed docs 0 j).map Vg.encS)∧Below W.heap.size W w':=by
     intro j W hj hW
     have hk:cy w W A A:=fun b hb=>⟨hb,hW.block b (hA b hb)⟩
     have h1:=wP hk _ _ _ (cQ j (docs.getD j []) (by rw [List.getD_eq_getElem?_getD,List.getElem?_eq_getElem hj];rfl))
     have h2:=uV W A β [cs.getD j undef] [.sl [.int .u8] (docs.getD j [])] (S.small (docs.getD j [])) (.own 0) [.row 9 [.str] (S.sorted (S.aS (docs.getD j []))) false]
      (fun b hb=>Nat.lt_of_lt_of_le (hA b hb) hW.size) (fun i d hi=>(hG i d hi).mono hk) (by simp only [ai,ae];exact⟨_,_,rfl,h1,rfl⟩)
      (by unfold au;rw [IF];simp only [hFs]) (by have :=h4 j;unfold S.small;omega)
     refine h2.mono fun e w' ⟨v,he,A',aJ,nT⟩=>⟨v,he,?_,nT.os,nT.tape,nT.output,nT.size,nT.same⟩
     have hr:=nT.res
     simp only [ae] at hr
     obtain⟨⟨xs,ho,pG,_⟩,hblk⟩:=nT.rows 0 _ rfl
     obtain⟨rfl,_⟩:=yb _ xs pG
     have eK:S.ed docs 0 j=S.sorted (S.aS (docs.getD j [])):=by unfold S.ed;simp
     rw [eK,hr.1]
     refine⟨ho.1,?_⟩
     rcases ho.2 with hn|⟨g,gx,cur,hv,_,rest⟩
     · exact .inl hn
     · exact .inr ⟨g,gx,cur,hv,hblk g (by rw [hv];rfl),rest⟩
    refine(Tryz.MJ (H:=Unit) docs f t a cap w hmp h4 _ hd alx (fun j s hs=>S.KI s hs)).mono fun e w' ⟨v,xs,W1,he,tp,ae4,hW1,ho,pG⟩=> ?_
    have e2:S.fK docs f t=(S.make docs f t,0):=by unfold S.fK;rw [Dm];rfl
    rw [e2]
    refine⟨_,he,fun b=>A b∨(w.heap.size≤b∧b<w'.heap.size),β,{os:=tp.os,tape:=tp.tape,output:=tp.output,size:=tp.size,same:=tp.block,mono:=fun _ h=> .inl h,j2:=fun b hb h=> ?_,bound:=fun b h=> ?_,res:= ?_,rows:=fun i ab hi=>by simp at hi,apart:=fun i j b hi=>by simp at hi}⟩
    · rcases h with h|h
      · exact h
      · omega
    · rcases h with h|h
      · exact Nat.lt_of_lt_of_le (hA b h) tp.size
      · exact h.2
    · simp only [ae,ai]
      refine⟨_,rfl,_,_,rfl,?_,_,_,rfl,⟨rfl,by simp only [lo,hi];omega⟩,rfl⟩
      have hk:cy W1 w' (fun b=>w.heap.size≤b∧b<W1.heap.size) (fun b=>A b∨(w.heap.size≤b∧b<w'.heap.size)):=fun b hb=>⟨.inr ⟨hb.1,Nat.lt_of_lt_of_le hb.2 ae4.size⟩,ae4.block b hb.2⟩
      have ape:=br (fun c x hx=>bt hk _ c x hx) _ _ pG
      simp only [Rd]
      rcases ho.2 with⟨rfl,h0⟩|⟨g,gx,cur,rfl,hg,hh,hn,hc,cz,IU⟩
      · have hm0:S.make docs f t= []:=List.length_eq_zero_iff.1 h0
        rw [hm0]
        exact⟨none,0,[],rfl,Nat.le_refl _,Nat.zero_le _,rfl,fun h=>absurd rfl h⟩
      · refine⟨some ⟨g,0,none⟩,gx,xs,rfl,hn,hc,ape,fun _=>⟨g,0,rfl, .inr ⟨by omega,(Array.getElem?_eq_some_iff.1 hh).1⟩,fun j u hj=> ?_⟩⟩
        have :=ho.cells (g:=g) rfl j u hj
        rwa [Addr.add_mid] at this
 · cases hs
end Go.DM

end
section
set_option linter.unusedVariables false
set_option maxHeartbeats 0
set_option maxRecDepth 100000
namespace Go.J
open Go.Proofs
open Go Vg
theorem mixed:Tryz.prog.follows .mixedOrders=true :=by kernel_rfl
theorem ċ:ak Tryz.prog E0:=ak.none G0 (bw.of Nt)
theorem apf:Valid Tryz.prog G0 170 aeA:=ah ċ mixed aez aoA Tryz.func170 (c:=body Tryz.f170) (by kernel_rfl) (by
 rintro⟨⟩ hp hf
 have h:=aoj hp hf
 with_reducible refine Eq.mp ?_ h
 kernel_rfl)
theorem KK:ak Tryz.prog aeB:=ak.cons ċ apf (aB.of Tryz.func170 (c:=body Tryz.f170) (by kernel_rfl) (by kernel_rfl))
theorem apg:Valid Tryz.prog G0 171 aeD:=ah KK mixed aeC aoC Tryz.func171 (c:=body Tryz.f171) (by kernel_rfl) (by
 rintro⟨x,n⟩ hp hf
 have h:=aok x n hp hf
 with_reducible refine Eq.mp ?_ h
 kernel_rfl)
theorem KL:ak Tryz.prog aeE:=ak.cons KK apg (aB.of Tryz.func171 (c:=body Tryz.f171) (by kernel_rfl) (by kernel_rfl))
theorem aph:Valid Tryz.prog G0 169 aeG:=ah KL mixed aeF aoE Tryz.func169 (c:=body Tryz.f169) (by kernel_rfl) (by
 rintro b hp hf
 have h:=aom b hp hf
 with_reducible refine Eq.mp ?_ h
 kernel_rfl)
theorem KM:ak Tryz.prog aeH:=ak.cons KL aph (aB.of Tryz.func169 (c:=body Tryz.f169) (by kernel_rfl) (by kernel_rfl))
theorem api:Valid Tryz.prog G0 142 aeJ:=ah KM mixed aeI aoG Tryz.func142 (c:=body Tryz.f142) (by kernel_rfl) (by
 rintro⟨l,p⟩ hp hf
 have h:=aon l p hp hf
 with_reducible refine Eq.mp ?_ h
 kernel_rfl)
theorem KN:ak Tryz.prog aeK:=ak.cons KM api (aB.of Tryz.func142 (c:=body Tryz.f142) (by kernel_rfl) (by kernel_rfl))
theorem apj:Valid Tryz.prog G0 141 aeM:=ah KN mixed aeL aoI Tryz.func141 (c:=body Tryz.f141) (by kernel_rfl) (by
 rintro b hp hf
 have h:=aop b hp hf
 with_reducible refine Eq.mp ?_ h
 kernel_rfl)
theorem KO:ak Tryz.prog aeN:=ak.cons KN apj (aB.of Tryz.func141 (c:=body Tryz.f141) (by kernel_rfl) (by kernel_rfl))
theorem apk:Valid Tryz.prog G0 109 aeP:=ah KO mixed aeO aoK Tryz.func109 (c:=body Tryz.f109) (by kernel_rfl) (by
 rintro b hp hf
 have h:=aoq b hp hf
 with_reducible refine Eq.mp ?_ h
 kernel_rfl)
theorem KP:ak Tryz.prog aeQ:=ak.cons KO apk (aB.of Tryz.func109 (c:=body Tryz.f109) (by kernel_rfl) (by kernel_rfl))
theorem apl:Valid Tryz.prog G0 191 aeS:=ah KP mixed aeR aoM Tryz.func191 (c:=body Tryz.f191) (by kernel_rfl) (by
 rintro⟨x,k⟩ hp hf
 have h:=aor x k hp hf
 with_reducible refine Eq.mp ?_ h
 kernel_rfl)
theorem KQ:ak Tryz.prog aeT:=ak.cons KP apl (aB.of Tryz.func191 (c:=body Tryz.f191) (by kernel_rfl) (by kernel_rfl))
theorem apm:Valid Tryz.prog G0 107 aeV:=ah KQ mixed aeU aoO Tryz.func107 (c:=body Tryz.f107) (by kernel_rfl) (by
 rintro⟨⟩ hp hf
 have h:=aos hp hf
 with_reducible refine Eq.mp ?_ h
 kernel_rfl)
theorem KR:ak Tryz.prog aeW:=ak.cons KQ apm (aB.of Tryz.func107 (c:=body Tryz.f107) (by kernel_rfl) (by kernel_rfl))
theorem apn:Valid Tryz.prog G0 138 aeY:=ah KR mixed aeX aoQ Tryz.func138 (c:=body Tryz.f138) (by kernel_rfl) (by
 rintro⟨s1,s2,s3,s4,s5,s6,s7,s8,s9,aI⟩ hp hf
 have h:=aot s1 s2 s3 s4 s5 s6 s7 s8 s9 aI hp hf
 with_reducible refine Eq.mp ?_ h
 kernel_rfl)
theorem KT:ak Tryz.prog aeZ:=ak.cons KR apn (aB.of Tryz.func138 (c:=body Tryz.f138) (by kernel_rfl) (by kernel_rfl))
theorem apo:Valid Tryz.prog G0 167 ae1:=ah KT mixed ae0 aoS Tryz.func167 (c:=body Tryz.f167) (by kernel_rfl) (by
 rintro⟨u1,u2,u3,u4,u5,u6,u7,u8,p⟩ hp hf
 have h:=aou u1 u2 u3 u4 u5 u6 u7 u8 p hp hf
 with_reducible refine Eq.mp ?_ h
 kernel_rfl)
theorem KU:ak Tryz.prog ae2:=ak.cons KT apo (aB.of Tryz.func167 (c:=body Tryz.f167) (by kernel_rfl) (by kernel_rfl))
theorem aly:Valid Tryz.prog G0 139 WQ:=ah KU mixed WO aiG Tryz.func139 (c:=body Tryz.f139) (by kernel_rfl) (by
 rintro⟨u1,u2,u3,u4,u5,u6,u7,u8,b⟩ hp hf
 have h:=ahd u1 u2 u3 u4 u5 u6 u7 u8 b hp hf
 with_reducible refine Eq.mp ?_ h
 kernel_rfl)
theorem FK:ak Tryz.prog WR:=ak.cons KU aly (aB.of Tryz.func139 (c:=body Tryz.f139) (by kernel_rfl) (by kernel_rfl))
theorem alz:Valid Tryz.prog G0 106 WT:=ah FK mixed WS aiI Tryz.func106 (c:=body Tryz.f106) (by kernel_rfl) (by
 rintro⟨s1,s2,s3,s4,s5,s6,s7,s8,s9,aI,b⟩ hp hf
 have h:=ahe s1 s2 s3 s4 s5 s6 s7 s8 s9 aI b hp hf
 with_reducible refine Eq.mp ?_ h
 kernel_rfl)
theorem FL:ak Tryz.prog WU:=ak.cons FK alz (aB.of Tryz.func106 (c:=body Tryz.f106) (by kernel_rfl) (by kernel_rfl))
theorem alA:Valid Tryz.prog G0 105 WW:=ah FL mixed WV aiK Tryz.func105 (c:=body Tryz.f105) (by kernel_rfl) (by
 rintro⟨s1,s2,s3,s4,s5,s6,s7,s8,s9,aI⟩ hp hf
 have h:=ahf s1 s2 s3 s4 s5 s6 s7 s8 s9 aI hp hf
 with_reducible refine Eq.mp ?_ h
 kernel_rfl)
theorem FM:ak Tryz.prog WX:=ak.cons FL alA (aB.of Tryz.func105 (c:=body Tryz.f105) (by kernel_rfl) (by kernel_rfl))
theorem alB:Valid Tryz.prog G0 67 WZ:=ah FM mixed WY aiM Tryz.func67 (c:=body Tryz.f67) (by kernel_rfl) (by
 rintro b hp hf
 have h:=ahg b hp hf
 with_reducible refine Eq.mp ?_ h
 kernel_rfl)
theorem FN:ak Tryz.prog MB:=ak.cons FM alB (aB.of Tryz.func67 (c:=body Tryz.f67) (by kernel_rfl) (by kernel_rfl))
theorem alC:Valid Tryz.prog G0 177 W3:=BX Is W2 fun m ih=>ah (E:=aiO m) (ak.cons FN ih (aB.of Tryz.func177 (c:=body Tryz.f177) (by kernel_rfl) (by kernel_rfl))) mixed Is aiN Tryz.func177 (c:=body Tryz.f177) (by kernel_rfl) (by
 rintro v hp hf
 have h:=ahh m v hp.1 hp.2 hf
 with_reducible refine Eq.mp ?_ h
 kernel_rfl)
theorem FO:ak Tryz.prog W4:=ak.cons FN alC (aB.of Tryz.func177 (c:=body Tryz.f177) (by kernel_rfl) (by kernel_rfl))
theorem alD:Valid Tryz.prog G0 158 W6:=ah FO mixed W5 aiQ Tryz.func158 (c:=body Tryz.f158) (by kernel_rfl) (by
 rintro s hp hf
 have h:=ahi s hp hf
 with_reducible refine Eq.mp ?_ h
 kernel_rfl)
theorem FP:ak Tryz.prog W7:=ak.cons FO alD (aB.of Tryz.func158 (c:=body Tryz.f158) (by kernel_rfl) (by kernel_rfl))
theorem alE:Valid Tryz.prog G0 113 W9:=ah FP mixed W8 aiS Tryz.func113 (c:=body Tryz.f113) (by kernel_rfl) (by
 rintro b hp hf
 have h:=ahj b hp hf
 with_reducible refine Eq.mp ?_ h
 kernel_rfl)
theorem FQ:ak Tryz.prog Xa:=ak.cons FP alE (aB.of Tryz.func113 (c:=body Tryz.f113) (by kernel_rfl) (by kernel_rfl))
theorem alF:ca Tryz.prog G0 112 Xd:=dF FQ mixed Xb Xc aiU Tryz.func112 (c:=body Tryz.f112) (by kernel_rfl) (by
 rintro v ⟨l,⟨⟩⟩ hp hf hg
 have h:=ahk v l hp hf hg
 with_reducible refine Eq.mp ?_ h
 kernel_rfl)
theorem acS:ca Tryz.prog G0 112 Xe:=alF
theorem FR:ak Tryz.prog Xf:=ak.eP FQ acS (aB.of Tryz.func112 (c:=body Tryz.f112) (by kernel_rfl) (by kernel_rfl))
theorem alG:ca Tryz.prog G0 194 Xi:=dF FR mixed Xg Xh aiW Tryz.func194 (c:=body Tryz.f194) (by kernel_rfl) (by
 rintro s ⟨l,⟨⟩⟩ hp hf hg
 have h:=ahl s l hp hf hg
 with_reducible refine Eq.mp ?_ h
 kernel_rfl)
theorem acT:ca Tryz.prog G0 194 Xj:=alG
theorem FT:ak Tryz.prog Xk:=ak.eP FR acT (aB.of Tryz.func194 (c:=body Tryz.f194) (by kernel_rfl) (by kernel_rfl))
theorem alH:Valid Tryz.prog G0 71 Xm:=ah FT mixed Xl aiY Tryz.func71 (c:=body Tryz.f71) (by kernel_rfl) (by
 rintro⟨b,v⟩ hp hf
 have h:=ahm b v hp hf
 with_reducible refine Eq.mp ?_ h
 kernel_rfl)
theorem FU:ak Tryz.prog Xn:=ak.cons FT alH (aB.of Tryz.func71 (c:=body Tryz.f71) (by kernel_rfl) (by kernel_rfl))
theorem alI:Valid Tryz.prog G0 176 Xp:=ah FU mixed Xo ai0 Tryz.func176 (c:=body Tryz.f176) (by kernel_rfl) (by
 rintro⟨b,s⟩ hp hf
 have h:=ahn b s hp hf
 with_reducible refine Eq.mp ?_ h
 kernel_rfl)
theorem FV:ak Tryz.prog Xq:=ak.cons FU alI (aB.of Tryz.func176 (c:=body Tryz.f176) (by kernel_rfl) (by kernel_rfl))
theorem alJ:Valid Tryz.prog G0 152 Xs:=ah FV mixed Xr ai2 Tryz.func152 (c:=body Tryz.f152) (by kernel_rfl) (by
 rintro⟨kind,b⟩ hp hf
 have h:=aho kind b hp hf
 with_reducible refine Eq.mp ?_ h
 kernel_rfl)
theorem FW:ak Tryz.prog Xt:=ak.cons FV alJ (aB.of Tryz.func152 (c:=body Tryz.f152) (by kernel_rfl) (by kernel_rfl))
theorem alK:Valid Tryz.prog G0 124 Xv:=ah FW mixed Xu ai4 Tryz.func124 (c:=body Tryz.f124) (by kernel_rfl) (by
 rintro⟨kind,b⟩ hp hf
 have h:=ahp kind b hp hf
 with_reducible refine Eq.mp ?_ h
 kernel_rfl)
theorem FX:ak Tryz.prog Xw:=ak.cons FW alK (aB.of Tryz.func124 (c:=body Tryz.f124) (by kernel_rfl) (by kernel_rfl))
theorem alL:Valid Tryz.prog G0 87 Xy:=ah FX mixed Xx ai6 Tryz.func87 (c:=body Tryz.f87) (by kernel_rfl) (by
 rintro b hp hf
 have h:=ahq b hp hf
 with_reducible refine Eq.mp ?_ h
 kernel_rfl)
theorem FY:ak Tryz.prog Xz:=ak.cons FX alL (aB.of Tryz.func87 (c:=body Tryz.f87) (by kernel_rfl) (by kernel_rfl))
theorem alM:Valid Tryz.prog G0 111 XB:=ah FY mixed XA ai8 Tryz.func111 (c:=body Tryz.f111) (by kernel_rfl) (by
 rintro⟨l,r⟩ hp hf
 have h:=ahr l r hp hf
 with_reducible refine Eq.mp ?_ h
 kernel_rfl)
theorem FZ:ak Tryz.prog XC:=ak.cons FY alM (aB.of Tryz.func111 (c:=body Tryz.f111) (by kernel_rfl) (by kernel_rfl))
theorem alN:Valid Tryz.prog G0 168 XE:=ah FZ mixed XD aja Tryz.func168 (c:=body Tryz.f168) (by kernel_rfl) (by
 rintro⟨kind,parts⟩ hp hf
 have h:=ahs kind parts hp hf
 with_reducible refine Eq.mp ?_ h
 kernel_rfl)
theorem F0:ak Tryz.prog XF:=ak.cons FZ alN (aB.of Tryz.func168 (c:=body Tryz.f168) (by kernel_rfl) (by kernel_rfl))
theorem alO:Valid Tryz.prog G0 140 XH:=ah F0 mixed XG ajc Tryz.func140 (c:=body Tryz.f140) (by kernel_rfl) (by
 rintro b hp hf
 have h:=aht b hp hf
 with_reducible refine Eq.mp ?_ h
 kernel_rfl)
theorem F1:ak Tryz.prog XI:=ak.cons F0 alO (aB.of Tryz.func140 (c:=body Tryz.f140) (by kernel_rfl) (by kernel_rfl))
theorem alP:Valid Tryz.prog G0 192 XK:=ah F1 mixed XJ aje Tryz.func192 (c:=body Tryz.f192) (by kernel_rfl) (by
 rintro⟨l,r⟩ hp hf
 have h:=ahu l r hp hf
 with_reducible refine Eq.mp ?_ h
 kernel_rfl)
theorem F2:ak Tryz.prog XL:=ak.cons F1 alP (aB.of Tryz.func192 (c:=body Tryz.f192) (by kernel_rfl) (by kernel_rfl))
theorem alQ:Valid Tryz.prog G0 193 XN:=ah F2 mixed XM ajg Tryz.func193 (c:=body Tryz.f193) (by kernel_rfl) (by
 rintro b hp hf
 have h:=ahv b hp hf
 with_reducible refine Eq.mp ?_ h
 kernel_rfl)
theorem F3:ak Tryz.prog XO:=ak.cons F2 alQ (aB.of Tryz.func193 (c:=body Tryz.f193) (by kernel_rfl) (by kernel_rfl))
theorem alR:Valid Tryz.prog G0 108 XQ:=ah F3 mixed XP aji Tryz.func108 (c:=body Tryz.f108) (by kernel_rfl) (by
 rintro b hp hf
 have h:=ahw b hp hf
 with_reducible refine Eq.mp ?_ h
 kernel_rfl)
theorem F4:ak Tryz.prog XR:=ak.cons F3 alR (aB.of Tryz.func108 (c:=body Tryz.f108) (by kernel_rfl) (by kernel_rfl))
theorem alS:Valid Tryz.prog G0 173 XT:=ah F4 mixed XS ajk Tryz.func173 (c:=body Tryz.f173) (by kernel_rfl) (by
 rintro⟨l,r⟩ hp hf
 have h:=ahx l r hp hf
 with_reducible refine Eq.mp ?_ h
 kernel_rfl)
theorem F5:ak Tryz.prog XU:=ak.cons F4 alS (aB.of Tryz.func173 (c:=body Tryz.f173) (by kernel_rfl) (by kernel_rfl))
theorem alT:Valid Tryz.prog G0 175 XW:=ah F5 mixed XV ajm Tryz.func175 (c:=body Tryz.f175) (by kernel_rfl) (by
 rintro b hp hf
 have h:=ahy b hp hf
 with_reducible refine Eq.mp ?_ h
 kernel_rfl)
theorem F6:ak Tryz.prog XX:=ak.cons F5 alT (aB.of Tryz.func175 (c:=body Tryz.f175) (by kernel_rfl) (by kernel_rfl))
theorem alU:Valid Tryz.prog G0 218 XZ:=ah F6 mixed XY ajo Tryz.func218 (c:=body Tryz.f218) (by kernel_rfl) (by
 rintro c hp hf
 have h:=ahz c hp hf
 with_reducible refine Eq.mp ?_ h
 kernel_rfl)
theorem F7:ak Tryz.prog X0:=ak.cons F6 alU (aB.of Tryz.func218 (c:=body Tryz.f218) (by kernel_rfl) (by kernel_rfl))
theorem alV:Valid Tryz.prog G0 219 X2:=ah F7 mixed X1 ajq Tryz.func219 (c:=body Tryz.f219) (by kernel_rfl) (by
 rintro c hp hf
 have h:=ahA c hp hf
 with_reducible refine Eq.mp ?_ h
 kernel_rfl)
theorem F8:ak Tryz.prog X3:=ak.cons F7 alV (aB.of Tryz.func219 (c:=body Tryz.f219) (by kernel_rfl) (by kernel_rfl))
theorem alW:Valid Tryz.prog G0 220 X5:=ah F8 mixed X4 ajs Tryz.func220 (c:=body Tryz.f220) (by kernel_rfl) (by
 rintro c hp hf
 have h:=ahB c hp hf
 with_reducible refine Eq.mp ?_ h
 kernel_rfl)
theorem F9:ak Tryz.prog X6:=ak.cons F8 alW (aB.of Tryz.func220 (c:=body Tryz.f220) (by kernel_rfl) (by kernel_rfl))
theorem alX:Valid Tryz.prog G0 197 X8:=ah F9 mixed X7 aju Tryz.func197 (c:=body Tryz.f197) (by kernel_rfl) (by
 rintro c hp hf
 have h:=ahC c hp hf
 with_reducible refine Eq.mp ?_ h
 kernel_rfl)
theorem Ga:ak Tryz.prog X9:=ak.cons F9 alX (aB.of Tryz.func197 (c:=body Tryz.f197) (by kernel_rfl) (by kernel_rfl))
theorem alY:Valid Tryz.prog G0 196 Yb:=ah Ga mixed Ya ajw Tryz.func196 (c:=body Tryz.f196) (by kernel_rfl) (by
 rintro b hp hf
 have h:=ahD b hp hf
 with_reducible refine Eq.mp ?_ h
 kernel_rfl)
theorem Gb:ak Tryz.prog Yc:=ak.cons Ga alY (aB.of Tryz.func196 (c:=body Tryz.f196) (by kernel_rfl) (by kernel_rfl))
theorem alZ:Valid Tryz.prog G0 182 Ye:=ah Gb mixed Yd ajy Tryz.func182 (c:=body Tryz.f182) (by kernel_rfl) (by
 rintro b hp hf
 have h:=ahI b hp hf
 with_reducible refine Eq.mp ?_ h
 kernel_rfl)
theorem Gc:ak Tryz.prog Yf:=ak.cons Gb alZ (aB.of Tryz.func182 (c:=body Tryz.f182) (by kernel_rfl) (by kernel_rfl))
theorem al0:Valid Tryz.prog G0 183 Yh:=ah Gc mixed Yg ajA Tryz.func183 (c:=body Tryz.f183) (by kernel_rfl) (by
 rintro c hp hf
 have h:=ahJ c hp hf
 with_reducible refine Eq.mp ?_ h
 kernel_rfl)
theorem Gd:ak Tryz.prog Yi:=ak.cons Gc al0 (aB.of Tryz.func183 (c:=body Tryz.f183) (by kernel_rfl) (by kernel_rfl))
theorem al1:Valid Tryz.prog G0 184 Yk:=ah Gd mixed Yj ajC Tryz.func184 (c:=body Tryz.f184) (by kernel_rfl) (by
 rintro c hp hf
 have h:=ahK c hp hf
 with_reducible refine Eq.mp ?_ h
 kernel_rfl)
theorem Ge:ak Tryz.prog Yl:=ak.cons Gd al1 (aB.of Tryz.func184 (c:=body Tryz.f184) (by kernel_rfl) (by kernel_rfl))
theorem al2:Valid Tryz.prog G0 198 Yn:=ah Ge mixed Ym ajE Tryz.func198 (c:=body Tryz.f198) (by kernel_rfl) (by
 rintro c hp hf
 have h:=ahL c hp hf
 with_reducible refine Eq.mp ?_ h
 kernel_rfl)
theorem Gf:ak Tryz.prog Yo:=ak.cons Ge al2 (aB.of Tryz.func198 (c:=body Tryz.f198) (by kernel_rfl) (by kernel_rfl))
theorem al3:Valid Tryz.prog G0 172 Yq:=ah Gf mixed Yp ajG Tryz.func172 (c:=body Tryz.f172) (by kernel_rfl) (by
 rintro⟨c,a,b⟩ hp hf
 have h:=ahM c a b hp hf
 with_reducible refine Eq.mp ?_ h
 kernel_rfl)
theorem Gg:ak Tryz.prog Yr:=ak.cons Gf al3 (aB.of Tryz.func172 (c:=body Tryz.f172) (by kernel_rfl) (by kernel_rfl))
theorem al4:Valid Tryz.prog G0 146 Yt:=ah Gg mixed Ys ajI Tryz.func146 (c:=body Tryz.f146) (by kernel_rfl) (by
 rintro c hp hf
 have h:=ahN c hp hf
 with_reducible refine Eq.mp ?_ h
 kernel_rfl)
theorem Gh:ak Tryz.prog Yu:=ak.cons Gg al4 (aB.of Tryz.func146 (c:=body Tryz.f146) (by kernel_rfl) (by kernel_rfl))
theorem al5:Valid Tryz.prog G0 147 Yw:=ah Gh mixed Yv ajK Tryz.func147 (c:=body Tryz.f147) (by kernel_rfl) (by
 rintro c hp hf
 have h:=ahO c hp hf
 with_reducible refine Eq.mp ?_ h
 kernel_rfl)
theorem Gi:ak Tryz.prog Yx:=ak.cons Gh al5 (aB.of Tryz.func147 (c:=body Tryz.f147) (by kernel_rfl) (by kernel_rfl))
theorem al6:Valid Tryz.prog G0 148 Yz:=ah Gi mixed Yy ajM Tryz.func148 (c:=body Tryz.f148) (by kernel_rfl) (by
 rintro⟨a,b⟩ hp hf
 have h:=ahP a b hp hf
 with_reducible refine Eq.mp ?_ h
 kernel_rfl)
theorem Gj:ak Tryz.prog YA:=ak.cons Gi al6 (aB.of Tryz.func148 (c:=body Tryz.f148) (by kernel_rfl) (by kernel_rfl))
theorem al7:Valid Tryz.prog G0 149 YC:=ah Gj mixed YB ajO Tryz.func149 (c:=body Tryz.f149) (by kernel_rfl) (by
 rintro c hp hf
 have h:=ahQ c hp hf
 with_reducible refine Eq.mp ?_ h
 kernel_rfl)
theorem Gk:ak Tryz.prog YD:=ak.cons Gj al7 (aB.of Tryz.func149 (c:=body Tryz.f149) (by kernel_rfl) (by kernel_rfl))
theorem al8:Valid Tryz.prog G0 150 YF:=ah Gk mixed YE ajQ Tryz.func150 (c:=body Tryz.f150) (by kernel_rfl) (by
 rintro c hp hf
 have h:=ahR c hp hf
 with_reducible refine Eq.mp ?_ h
 kernel_rfl)
theorem Gl:ak Tryz.prog YG:=ak.cons Gk al8 (aB.of Tryz.func150 (c:=body Tryz.f150) (by kernel_rfl) (by kernel_rfl))
theorem al9:Valid Tryz.prog G0 145 YI:=ah Gl mixed YH ajS Tryz.func145 (c:=body Tryz.f145) (by kernel_rfl) (by
 rintro⟨b,n⟩ hp hf
 have h:=ahS b n hp hf
 with_reducible refine Eq.mp ?_ h
 kernel_rfl)
theorem Gm:ak Tryz.prog YJ:=ak.cons Gl al9 (aB.of Tryz.func145 (c:=body Tryz.f145) (by kernel_rfl) (by kernel_rfl))
theorem ama:Valid Tryz.prog G0 119 YL:=ah Gm mixed YK ajU Tryz.func119 (c:=body Tryz.f119) (by kernel_rfl) (by
 rintro b hp hf
 have h:=ahT b hp hf
 with_reducible refine Eq.mp ?_ h
 kernel_rfl)
theorem Gn:ak Tryz.prog YM:=ak.cons Gm ama (aB.of Tryz.func119 (c:=body Tryz.f119) (by kernel_rfl) (by kernel_rfl))
theorem amb:Valid Tryz.prog G0 185 YO:=ah Gn mixed YN ajW Tryz.func185 (c:=body Tryz.f185) (by kernel_rfl) (by
 rintro u hp hf
 have h:=ahU u hp hf
 with_reducible refine Eq.mp ?_ h
 kernel_rfl)
theorem Gp:ak Tryz.prog YP:=ak.cons Gn amb (aB.of Tryz.func185 (c:=body Tryz.f185) (by kernel_rfl) (by kernel_rfl))
theorem amc:Valid Tryz.prog G0 160 YR:=ah Gp mixed YQ ajY Tryz.func160 (c:=body Tryz.f160) (by kernel_rfl) (by
 rintro b hp hf
 have h:=ahV b hp hf
 with_reducible refine Eq.mp ?_ h
 kernel_rfl)
theorem Gq:ak Tryz.prog YS:=ak.cons Gp amc (aB.of Tryz.func160 (c:=body Tryz.f160) (by kernel_rfl) (by kernel_rfl))
theorem amd:Valid Tryz.prog G0 144 YU:=ah Gq mixed YT aj0 Tryz.func144 (c:=body Tryz.f144) (by kernel_rfl) (by
 rintro s hp hf
 have h:=ahW s hp hf
 with_reducible refine Eq.mp ?_ h
 kernel_rfl)
theorem Gr:ak Tryz.prog YV:=ak.cons Gq amd (aB.of Tryz.func144 (c:=body Tryz.f144) (by kernel_rfl) (by kernel_rfl))
theorem ame:Valid Tryz.prog G0 120 YX:=ah Gr mixed YW aj2 Tryz.func120 (c:=body Tryz.f120) (by kernel_rfl) (by
 rintro c hp hf
 have h:=ahX c hp hf
 with_reducible refine Eq.mp ?_ h
 kernel_rfl)
theorem Gs:ak Tryz.prog YY:=ak.cons Gr ame (aB.of Tryz.func120 (c:=body Tryz.f120) (by kernel_rfl) (by kernel_rfl))
theorem amf:Valid Tryz.prog G0 121 Y0:=ah Gs mixed YZ aj4 Tryz.func121 (c:=body Tryz.f121) (by kernel_rfl) (by
 rintro u hp hf
 have h:=ahY u hp hf
 with_reducible refine Eq.mp ?_ h
 kernel_rfl)
theorem Gt:ak Tryz.prog Y1:=ak.cons Gs amf (aB.of Tryz.func121 (c:=body Tryz.f121) (by kernel_rfl) (by kernel_rfl))
theorem amg:Valid Tryz.prog G0 82 Y3:=ah Gt mixed Y2 aj6 Tryz.func82 (c:=body Tryz.f82) (by kernel_rfl) (by
 rintro b hp hf
 have h:=ahZ b hp hf
 with_reducible refine Eq.mp ?_ h
 kernel_rfl)
theorem Gu:ak Tryz.prog Y4:=ak.cons Gt amg (aB.of Tryz.func82 (c:=body Tryz.f82) (by kernel_rfl) (by kernel_rfl))
theorem amh:Valid Tryz.prog G0 165 Y6:=ah Gu mixed Y5 aj8 Tryz.func165 (c:=body Tryz.f165) (by kernel_rfl) (by
 rintro l hp hf
 have h:=ah0 l hp hf
 with_reducible refine Eq.mp ?_ h
 kernel_rfl)
theorem Gv:ak Tryz.prog Y7:=ak.cons Gu amh (aB.of Tryz.func165 (c:=body Tryz.f165) (by kernel_rfl) (by kernel_rfl))
theorem ami:ca Tryz.prog G0 135 Za:=dF Gv mixed Y8 Y9 aka Tryz.func135 (c:=body Tryz.f135) (by kernel_rfl) (by
 rintro⟨⟩ ⟨l,⟨⟩⟩ hp hf hg
 have h:=ah1 l hp hf hg
 with_reducible refine Eq.mp ?_ h
 kernel_rfl)
theorem acU:ca Tryz.prog G0 135 Zb:=ami
theorem Gw:ak Tryz.prog Zc:=ak.eP Gv acU (aB.of Tryz.func135 (c:=body Tryz.f135) (by kernel_rfl) (by kernel_rfl))
theorem amj:Valid Tryz.prog G0 134 Ze:=ah Gw mixed Zd akc Tryz.func134 (c:=body Tryz.f134) (by kernel_rfl) (by
 rintro b hp hf
 have h:=ah2 b hp hf
 with_reducible refine Eq.mp ?_ h
 kernel_rfl)
theorem Gx:ak Tryz.prog Zf:=ak.cons Gw amj (aB.of Tryz.func134 (c:=body Tryz.f134) (by kernel_rfl) (by kernel_rfl))
theorem amk:Valid Tryz.prog G0 41 Zh:=ah Gx mixed Zg ake Tryz.func41 (c:=body Tryz.f41) (by kernel_rfl) (by
 rintro⟨b,t⟩ hp hf
 have h:=ah3 b t hp hf
 with_reducible refine Eq.mp ?_ h
 kernel_rfl)
theorem Gy:ak Tryz.prog Zi:=ak.cons Gx amk (aB.of Tryz.func41 (c:=body Tryz.f41) (by kernel_rfl) (by kernel_rfl))
theorem aml:Valid Tryz.prog G0 186 Zk:=ah Gy mixed Zj akg Tryz.func186 (c:=body Tryz.f186) (by kernel_rfl) (by
 rintro s hp hf
 have h:=ah4 s hp hf
 with_reducible refine Eq.mp ?_ h
 kernel_rfl)
theorem Gz:ak Tryz.prog Zl:=ak.cons Gy aml (aB.of Tryz.func186 (c:=body Tryz.f186) (by kernel_rfl) (by kernel_rfl))
theorem amm:Valid Tryz.prog G0 161 Zn:=ah Gz mixed Zm aki Tryz.func161 (c:=body Tryz.f161) (by kernel_rfl) (by
 rintro⟨a,b⟩ hp hf
 have h:=ah5 a b hp hf
 with_reducible refine Eq.mp ?_ h
 kernel_rfl)
theorem GA:ak Tryz.prog Zo:=ak.cons Gz amm (aB.of Tryz.func161 (c:=body Tryz.f161) (by kernel_rfl) (by kernel_rfl))
theorem amn:ca Tryz.prog G0 181 Zr:=dF GA mixed Zp Zq akk Tryz.func181 (c:=body Tryz.f181) (by kernel_rfl) (by
 rintro⟨a,b⟩ ⟨⟨⟩,⟨⟩⟩ hp hf hg
 have h:=ah6 a b hp hf hg
 with_reducible refine Eq.mp ?_ h
 kernel_rfl)
theorem acV:ca Tryz.prog G0 181 Zs:=amn
theorem GB:ak Tryz.prog Zt:=ak.eP GA acV (aB.of Tryz.func181 (c:=body Tryz.f181) (by kernel_rfl) (by kernel_rfl))
theorem amo:ca Tryz.prog G0 180 Zw:=dF GB mixed Zu Zv akm Tryz.func180 (c:=body Tryz.f180) (by kernel_rfl) (by
 rintro⟨⟩ ⟨l,⟨⟨⟩,⟨⟩⟩⟩ hp hf hg
 have h:=ah7 l hp hf hg
 with_reducible refine Eq.mp ?_ h
 kernel_rfl)
theorem acW:ca Tryz.prog G0 180 Zx:=amo
theorem Sv:ak Tryz.prog Zy:=ak.eP GB acW (aB.of Tryz.func180 (c:=body Tryz.f180) (by kernel_rfl) (by kernel_rfl))
theorem amp:Valid Tryz.prog G0 178 Zz:=Vg.za Tryz.MD (fun _=>rfl)
theorem Sw:ak Tryz.prog ZA:=ak.cons Sv amp (aB.of Tryz.func178 (c:=body Tryz.f178) (by kernel_rfl) (by kernel_rfl))
theorem amq:Valid Tryz.prog G0 81 ZB:=Vg.zb Tryz.ME (fun _=>rfl)
theorem Sx:ak Tryz.prog ZC:=ak.cons Sw amq (aB.of Tryz.func81 (c:=body Tryz.f81) (by kernel_rfl) (by kernel_rfl))
theorem amr:ca Tryz.prog G0 179 ZD:=Tryz.acM (fun _=>rfl)
theorem acX:ca Tryz.prog G0 179 ZE:=amr
theorem GC:ak Tryz.prog ZF:=ak.eP Sx acX (aB.of Tryz.func179 (c:=body Tryz.f179) (by kernel_rfl) (by kernel_rfl))
theorem ams:ca Tryz.prog G0 159 ZI:=dF GC mixed ZG ZH akv Tryz.func159 (c:=body Tryz.f159) (by kernel_rfl) (by
 rintro l ⟨⟩ hp hf hg
 have h:=ah8 l hp hf hg
 with_reducible refine Eq.mp ?_ h
 kernel_rfl)
theorem acY:ca Tryz.prog G0 159 ZJ:=ams
theorem GF:ak Tryz.prog ZK:=ak.eP GC acY (aB.of Tryz.func159 (c:=body Tryz.f159) (by kernel_rfl) (by kernel_rfl))
theorem Č:Valid Tryz.prog G0 131 ZM:=ah GF mixed ZL akx Tryz.func131 (c:=body Tryz.f131) (by kernel_rfl) (by
 rintro b hp hf
 have h:=ah9 b hp hf
 with_reducible refine Eq.mp ?_ h
 kernel_rfl)
theorem GG:ak Tryz.prog ZN:=ak.cons GF Č (aB.of Tryz.func131 (c:=body Tryz.f131) (by kernel_rfl) (by kernel_rfl))
theorem amt:Valid Tryz.prog G0 85 ZP:=ah GG mixed ZO akz Tryz.func85 (c:=body Tryz.f85) (by kernel_rfl) (by
 rintro l hp hf
 have h:=aia l hp hf
 with_reducible refine Eq.mp ?_ h
 kernel_rfl)
theorem GH:ak Tryz.prog ZQ:=ak.cons GG amt (aB.of Tryz.func85 (c:=body Tryz.f85) (by kernel_rfl) (by kernel_rfl))
theorem amu:Valid Tryz.prog G0 151 ZS:=ah GH mixed ZR akB Tryz.func151 (c:=body Tryz.f151) (by kernel_rfl) (by
 rintro⟨a,b⟩ hp hf
 have h:=aib a b hp hf
 with_reducible refine Eq.mp ?_ h
 kernel_rfl)
theorem GI:ak Tryz.prog ZT:=ak.cons GH amu (aB.of Tryz.func151 (c:=body Tryz.f151) (by kernel_rfl) (by kernel_rfl))
theorem amv:ca Tryz.prog G0 123 ZW:=dF GI mixed ZU ZV akD Tryz.func123 (c:=body Tryz.f123) (by kernel_rfl) (by
 rintro⟨⟩ ⟨s,⟨⟩⟩ hp hf hg
 have h:=aic s hp hf hg
 with_reducible refine Eq.mp ?_ h
 kernel_rfl)
theorem acZ:ca Tryz.prog G0 123 ZX:=amv
theorem GJ:ak Tryz.prog ZY:=ak.eP GI acZ (aB.of Tryz.func123 (c:=body Tryz.f123) (by kernel_rfl) (by kernel_rfl))
theorem amw:Valid Tryz.prog G0 68 Z0:=ah GJ mixed ZZ akF Tryz.func68 (c:=body Tryz.f68) (by kernel_rfl) (by
 rintro l hp hf
 have h:=aid l hp hf
 with_reducible refine Eq.mp ?_ h
 kernel_rfl)
theorem GK:ak Tryz.prog Z1:=ak.cons GJ amw (aB.of Tryz.func68 (c:=body Tryz.f68) (by kernel_rfl) (by kernel_rfl))
theorem amx:Valid Tryz.prog G0 86 Z3:=ah GK mixed Z2 akH Tryz.func86 (c:=body Tryz.f86) (by kernel_rfl) (by
 rintro l hp hf
 have h:=aie l hp hf
 with_reducible refine Eq.mp ?_ h
 kernel_rfl)
theorem GL:ak Tryz.prog Z4:=ak.cons GK amx (aB.of Tryz.func86 (c:=body Tryz.f86) (by kernel_rfl) (by kernel_rfl))
theorem amy:Valid Tryz.prog G0 45 Z6:=ah GL mixed Z5 akJ Tryz.func45 (c:=body Tryz.f45) (by kernel_rfl) (by
 rintro l hp hf
 have h:=aif l hp hf
 with_reducible refine Eq.mp ?_ h
 kernel_rfl)
theorem GM:ak Tryz.prog Z7:=ak.cons GL amy (aB.of Tryz.func45 (c:=body Tryz.f45) (by kernel_rfl) (by kernel_rfl))
theorem amz:Valid Tryz.prog G0 110 Z9:=ah GM mixed Z8 akL Tryz.func110 (c:=body Tryz.f110) (by kernel_rfl) (by
 rintro n hp hf
 have h:=aih n hp hf
 with_reducible refine Eq.mp ?_ h
 kernel_rfl)
theorem GN:ak Tryz.prog MC:=ak.cons GM amz (aB.of Tryz.func110 (c:=body Tryz.f110) (by kernel_rfl) (by kernel_rfl))
theorem amA:Valid Tryz.prog G0 69 Â:=BX It Á fun m ih=>ah (E:=akN m) (ak.cons GN ih (aB.of Tryz.func69 (c:=body Tryz.f69) (by kernel_rfl) (by kernel_rfl))) mixed It akM Tryz.func69 (c:=body Tryz.f69) (by kernel_rfl) (by
 rintro l hp hf
 have h:=aii m l hp.1 hp.2 hf
 with_reducible refine Eq.mp ?_ h
 kernel_rfl)
theorem GO:ak Tryz.prog Ã:=ak.cons GN amA (aB.of Tryz.func69 (c:=body Tryz.f69) (by kernel_rfl) (by kernel_rfl))
theorem amB:Valid Tryz.prog G0 46 Å:=ah GO mixed Ä akP Tryz.func46 (c:=body Tryz.f46) (by kernel_rfl) (by
 rintro l hp hf
 have h:=aij l hp hf
 with_reducible refine Eq.mp ?_ h
 kernel_rfl)
theorem GP:ak Tryz.prog Æ:=ak.cons GO amB (aB.of Tryz.func46 (c:=body Tryz.f46) (by kernel_rfl) (by kernel_rfl))
theorem amC:Valid Tryz.prog G0 143 È:=ah GP mixed Ç akR Tryz.func143 (c:=body Tryz.f143) (by kernel_rfl) (by
 rintro l hp hf
 have h:=aik l hp hf
 with_reducible refine Eq.mp ?_ h
 kernel_rfl)
theorem GQ:ak Tryz.prog É:=ak.cons GP amC (aB.of Tryz.func143 (c:=body Tryz.f143) (by kernel_rfl) (by kernel_rfl))
theorem amD:Valid Tryz.prog G0 174 Ë:=ah GQ mixed Ê akT Tryz.func174 (c:=body Tryz.f174) (by kernel_rfl) (by
 rintro l hp hf
 have h:=ail l hp hf
 with_reducible refine Eq.mp ?_ h
 kernel_rfl)
theorem GR:ak Tryz.prog Ì:=ak.cons GQ amD (aB.of Tryz.func174 (c:=body Tryz.f174) (by kernel_rfl) (by kernel_rfl))
theorem amE:Valid Tryz.prog G0 155 Î:=ah GR mixed Í akV Tryz.func155 (c:=body Tryz.f155) (by kernel_rfl) (by
 rintro l hp hf
 have h:=aim l hp hf
 with_reducible refine Eq.mp ?_ h
 kernel_rfl)
theorem GS:ak Tryz.prog Ï:=ak.cons GR amE (aB.of Tryz.func155 (c:=body Tryz.f155) (by kernel_rfl) (by kernel_rfl))
theorem amF:ca Tryz.prog G0 154 Ò:=dF GS mixed Ð Ñ akX Tryz.func154 (c:=body Tryz.f154) (by kernel_rfl) (by
 rintro⟨n,p,q⟩ ⟨⟨s1,s2⟩,⟨⟩⟩ hp hf hg
 have h:=ain n p q s1 s2 hp hf hg
 with_reducible refine Eq.mp ?_ h
 kernel_rfl)
theorem ac0:ca Tryz.prog G0 154 Ó:=amF
theorem GU:ak Tryz.prog Ô:=ak.eP GS ac0 (aB.of Tryz.func154 (c:=body Tryz.f154) (by kernel_rfl) (by kernel_rfl))
theorem amG:ca Tryz.prog G0 153 Ø:=dF GU mixed Õ Ö akZ Tryz.func153 (c:=body Tryz.f153) (by kernel_rfl) (by
 rintro⟨a,b⟩ ⟨⟨s1,s2⟩,⟨⟩⟩ hp hf hg
 have h:=aio a b s1 s2 hp hf hg
 with_reducible refine Eq.mp ?_ h
 kernel_rfl)
theorem ac1:ca Tryz.prog G0 153 Ù:=amG
theorem GV:ak Tryz.prog Ú:=ak.eP GU ac1 (aB.of Tryz.func153 (c:=body Tryz.f153) (by kernel_rfl) (by kernel_rfl))
theorem amH:Valid Tryz.prog G0 127 Ü:=ah GV mixed Û ak1 Tryz.func127 (c:=body Tryz.f127) (by kernel_rfl) (by
 rintro⟨l,s1,s2⟩ hp hf
 have h:=aip l s1 s2 hp hf
 with_reducible refine Eq.mp ?_ h
 kernel_rfl)
theorem GW:ak Tryz.prog Ý:=ak.cons GV amH (aB.of Tryz.func127 (c:=body Tryz.f127) (by kernel_rfl) (by kernel_rfl))
theorem amI:Valid Tryz.prog G0 157 ß:=ah GW mixed Þ ak3 Tryz.func157 (c:=body Tryz.f157) (by kernel_rfl) (by
 rintro l hp hf
 have h:=aiq l hp hf
 with_reducible refine Eq.mp ?_ h
 kernel_rfl)
theorem GX:ak Tryz.prog à:=ak.cons GW amI (aB.of Tryz.func157 (c:=body Tryz.f157) (by kernel_rfl) (by kernel_rfl))
theorem amJ:Valid Tryz.prog G0 129 â:=ah GX mixed á ak5 Tryz.func129 (c:=body Tryz.f129) (by kernel_rfl) (by
 rintro l hp hf
 have h:=air l hp hf
 with_reducible refine Eq.mp ?_ h
 kernel_rfl)
theorem GY:ak Tryz.prog ã:=ak.cons GX amJ (aB.of Tryz.func129 (c:=body Tryz.f129) (by kernel_rfl) (by kernel_rfl))
theorem amK:Valid Tryz.prog G0 42 å:=ah GY mixed ä ak7 Tryz.func42 (c:=body Tryz.f42) (by kernel_rfl) (by
 rintro⟨a,b⟩ hp hf
 have h:=ais a b hp hf
 with_reducible refine Eq.mp ?_ h
 kernel_rfl)
theorem GZ:ak Tryz.prog æ:=ak.cons GY amK (aB.of Tryz.func42 (c:=body Tryz.f42) (by kernel_rfl) (by kernel_rfl))
theorem amL:Valid Tryz.prog G0 118 è:=ah GZ mixed ç ak9 Tryz.func118 (c:=body Tryz.f118) (by kernel_rfl) (by
 rintro d hp hf
 have h:=ait d hp hf
 with_reducible refine Eq.mp ?_ h
 kernel_rfl)
theorem G1:ak Tryz.prog é:=ak.cons GZ amL (aB.of Tryz.func118 (c:=body Tryz.f118) (by kernel_rfl) (by kernel_rfl))
theorem amM:Valid Tryz.prog G0 156 ë:=ah G1 mixed ê alb Tryz.func156 (c:=body Tryz.f156) (by kernel_rfl) (by
 rintro⟨l1,l2,l3⟩ hp hf
 have h:=aiu l1 l2 l3 hp hf
 with_reducible refine Eq.mp ?_ h
 kernel_rfl)
theorem G2:ak Tryz.prog ì:=ak.cons G1 amM (aB.of Tryz.func156 (c:=body Tryz.f156) (by kernel_rfl) (by kernel_rfl))
theorem amN:Valid Tryz.prog G0 128 î:=ah G2 mixed í ald Tryz.func128 (c:=body Tryz.f128) (by kernel_rfl) (by
 rintro d hp hf
 have h:=aiy d hp hf
 with_reducible refine Eq.mp ?_ h
 kernel_rfl)
theorem G3:ak Tryz.prog ï:=ak.cons G2 amN (aB.of Tryz.func128 (c:=body Tryz.f128) (by kernel_rfl) (by kernel_rfl))
theorem amO:Valid Tryz.prog G0 93 ñ:=ah G3 mixed ð alf Tryz.func93 (c:=body Tryz.f93) (by kernel_rfl) (by
 rintro d hp hf
 have h:=aiz d hp hf
 with_reducible refine Eq.mp ?_ h
 kernel_rfl)
theorem Sy:ak Tryz.prog ò:=ak.cons G3 amO (aB.of Tryz.func93 (c:=body Tryz.f93) (by kernel_rfl) (by kernel_rfl))
theorem amP:Valid Tryz.prog G0 96 ó:=Go.DM.KJ Č (fun _=>rfl) (fun _ _ _=>rfl)
theorem G4:ak Tryz.prog ô:=ak.cons Sy amP (aB.of Tryz.func96 (c:=body Tryz.f96) (by kernel_rfl) (by kernel_rfl))
theorem amQ:Valid Tryz.prog G0 57 ö:=ah G4 mixed õ alj Tryz.func57 (c:=body Tryz.f57) (by kernel_rfl) (by
 rintro⟨docs,s1,s2⟩ hp hf
 have h:=aiA docs s1 s2 hp hf
 with_reducible refine Eq.mp ?_ h
 kernel_rfl)
theorem G5:ak Tryz.prog ø:=ak.cons G4 amQ (aB.of Tryz.func57 (c:=body Tryz.f57) (by kernel_rfl) (by kernel_rfl))
theorem ac2:Valid Tryz.prog G0 136 On:=ah G5 mixed Om aa3 Tryz.func136 (c:=body Tryz.f136) (by kernel_rfl) (by
 rintro⟨b,t⟩ hp hf
 have h:=aah b t hp hf
 with_reducible refine Eq.mp ?_ h
 kernel_rfl)
theorem Dn:ak Tryz.prog Oo:=ak.cons G5 ac2 (aB.of Tryz.func136 (c:=body Tryz.f136) (by kernel_rfl) (by kernel_rfl))
theorem ac3:Valid Tryz.prog G0 130 Ot:=ah Dn mixed Oq aa5 Tryz.func130 (c:=body Tryz.f130) (by kernel_rfl) (by
 rintro⟨l1,l2,l3⟩ hp hf
 have h:=aai l1 l2 l3 hp hf
 with_reducible refine Eq.mp ?_ h
 kernel_rfl)
theorem Dp:ak Tryz.prog Ou:=ak.cons Dn ac3 (aB.of Tryz.func130 (c:=body Tryz.f130) (by kernel_rfl) (by kernel_rfl))
theorem ac4:Valid Tryz.prog G0 94 Ow:=ah Dp mixed Ov aa7 Tryz.func94 (c:=body Tryz.f94) (by kernel_rfl) (by
 rintro d hp hf
 have h:=aaj d hp hf
 with_reducible refine Eq.mp ?_ h
 kernel_rfl)
theorem Dq:ak Tryz.prog Ox:=ak.cons Dp ac4 (aB.of Tryz.func94 (c:=body Tryz.f94) (by kernel_rfl) (by kernel_rfl))
theorem ac5:Valid Tryz.prog G0 95 Oz:=ah Dq mixed Oy aa9 Tryz.func95 (c:=body Tryz.f95) (by kernel_rfl) (by
 rintro d hp hf
 have h:=aak d hp hf
 with_reducible refine Eq.mp ?_ h
 kernel_rfl)
theorem Dr:ak Tryz.prog OA:=ak.cons Dq ac5 (aB.of Tryz.func95 (c:=body Tryz.f95) (by kernel_rfl) (by kernel_rfl))
theorem ac6:Valid Tryz.prog G0 100 OC:=ah Dr mixed OB abb Tryz.func100 (c:=body Tryz.f100) (by kernel_rfl) (by
 rintro⟨a,b⟩ hp hf
 have h:=aal a b hp hf
 with_reducible refine Eq.mp ?_ h
 kernel_rfl)
theorem Ds:ak Tryz.prog OD:=ak.cons Dr ac6 (aB.of Tryz.func100 (c:=body Tryz.f100) (by kernel_rfl) (by kernel_rfl))
theorem ac7:Valid Tryz.prog G0 101 OF:=ah Ds mixed OE abd Tryz.func101 (c:=body Tryz.f101) (by kernel_rfl) (by
 rintro⟨docs,s1,s2⟩ hp hf
 have h:=aam docs s1 s2 hp hf
 with_reducible refine Eq.mp ?_ h
 kernel_rfl)
theorem Dt:ak Tryz.prog OG:=ak.cons Ds ac7 (aB.of Tryz.func101 (c:=body Tryz.f101) (by kernel_rfl) (by kernel_rfl))
theorem ac8:Valid Tryz.prog G0 117 OI:=ah Dt mixed OH abf Tryz.func117 (c:=body Tryz.f117) (by kernel_rfl) (by
 rintro⟨s1,s2⟩ hp hf
 have h:=aan s1 s2 hp hf
 with_reducible refine Eq.mp ?_ h
 kernel_rfl)
theorem Du:ak Tryz.prog OJ:=ak.cons Dt ac8 (aB.of Tryz.func117 (c:=body Tryz.f117) (by kernel_rfl) (by kernel_rfl))
theorem ac9:Valid Tryz.prog G0 92 OL:=ah Du mixed OK abh Tryz.func92 (c:=body Tryz.f92) (by kernel_rfl) (by
 rintro⟨s1,s2,s3⟩ hp hf
 have h:=aao s1 s2 s3 hp hf
 with_reducible refine Eq.mp ?_ h
 kernel_rfl)
theorem Dv:ak Tryz.prog OM:=ak.cons Du ac9 (aB.of Tryz.func92 (c:=body Tryz.f92) (by kernel_rfl) (by kernel_rfl))
theorem ada:Valid Tryz.prog G0 51 OO:=ah Dv mixed ON abj Tryz.func51 (c:=body Tryz.f51) (by kernel_rfl) (by
 rintro⟨s1,s2,s3⟩ hp hf
 have h:=aap s1 s2 s3 hp hf
 with_reducible refine Eq.mp ?_ h
 kernel_rfl)
theorem Dw:ak Tryz.prog OP:=ak.cons Dv ada (aB.of Tryz.func51 (c:=body Tryz.f51) (by kernel_rfl) (by kernel_rfl))
theorem adb:Valid Tryz.prog G0 55 OR:=ah Dw mixed OQ abl Tryz.func55 (c:=body Tryz.f55) (by kernel_rfl) (by
 rintro⟨docs,s1,s2⟩ hp hf
 have h:=aaq docs s1 s2 hp hf
 with_reducible refine Eq.mp ?_ h
 kernel_rfl)
theorem Dx:ak Tryz.prog OS:=ak.cons Dw adb (aB.of Tryz.func55 (c:=body Tryz.f55) (by kernel_rfl) (by kernel_rfl))
theorem ade:Valid Tryz.prog G0 58 OU:=ah Dx mixed OT abo Tryz.func58 (c:=body Tryz.f58) (by kernel_rfl) (by
 rintro⟨docs,s1,s2⟩ hp hf
 have h:=aar docs s1 s2 hp hf
 with_reducible refine Eq.mp ?_ h
 kernel_rfl)
theorem Dy:ak Tryz.prog OV:=ak.cons Dx ade (aB.of Tryz.func58 (c:=body Tryz.f58) (by kernel_rfl) (by kernel_rfl))
theorem adf:Valid Tryz.prog G0 60 OX:=ah Dy mixed OW abq Tryz.func60 (c:=body Tryz.f60) (by kernel_rfl) (by
 rintro⟨docs,s1,s2⟩ hp hf
 have h:=aas docs s1 s2 hp hf
 with_reducible refine Eq.mp ?_ h
 kernel_rfl)
theorem Dz:ak Tryz.prog OY:=ak.cons Dy adf (aB.of Tryz.func60 (c:=body Tryz.f60) (by kernel_rfl) (by kernel_rfl))
theorem adg:Valid Tryz.prog G0 53 O0:=ah Dz mixed OZ abt Tryz.func53 (c:=body Tryz.f53) (by kernel_rfl) (by
 rintro⟨s1,s2,s3⟩ hp hf
 have h:=aat s1 s2 s3 hp hf
 with_reducible refine Eq.mp ?_ h
 kernel_rfl)
theorem DA:ak Tryz.prog O1:=ak.cons Dz adg (aB.of Tryz.func53 (c:=body Tryz.f53) (by kernel_rfl) (by kernel_rfl))
theorem adh:Valid Tryz.prog G0 59 O3:=ah DA mixed O2 abv Tryz.func59 (c:=body Tryz.f59) (by kernel_rfl) (by
 rintro⟨a1,a2,a3,b1,b2,b3⟩ hp hf
 have h:=aau a1 a2 a3 b1 b2 b3 hp hf
 with_reducible refine Eq.mp ?_ h
 kernel_rfl)
theorem DB:ak Tryz.prog O4:=ak.cons DA adh (aB.of Tryz.func59 (c:=body Tryz.f59) (by kernel_rfl) (by kernel_rfl))
theorem adi:Valid Tryz.prog G0 47 O6:=ah DB mixed O5 abx Tryz.func47 (c:=body Tryz.f47) (by kernel_rfl) (by
 rintro d hp hf
 have h:=aav d hp hf
 with_reducible refine Eq.mp ?_ h
 kernel_rfl)
theorem DC:ak Tryz.prog O7:=ak.cons DB adi (aB.of Tryz.func47 (c:=body Tryz.f47) (by kernel_rfl) (by kernel_rfl))
theorem adj:Valid Tryz.prog G0 48 O9:=ah DC mixed O8 abz Tryz.func48 (c:=body Tryz.f48) (by kernel_rfl) (by
 rintro docs hp hf
 have h:=aaw docs hp hf
 with_reducible refine Eq.mp ?_ h
 kernel_rfl)
theorem DD:ak Tryz.prog Pa:=ak.cons DC adj (aB.of Tryz.func48 (c:=body Tryz.f48) (by kernel_rfl) (by kernel_rfl))
theorem adk:Valid Tryz.prog G0 54 Pc:=ah DD mixed Pb abB Tryz.func54 (c:=body Tryz.f54) (by kernel_rfl) (by
 rintro⟨s1,s2,s3⟩ hp hf
 have h:=aax s1 s2 s3 hp hf
 with_reducible refine Eq.mp ?_ h
 kernel_rfl)
theorem DE:ak Tryz.prog Pd:=ak.cons DD adk (aB.of Tryz.func54 (c:=body Tryz.f54) (by kernel_rfl) (by kernel_rfl))
theorem adl:Valid Tryz.prog G0 23 Pf:=ah DE mixed Pe abD Tryz.func23 (c:=body Tryz.f23) (by kernel_rfl) (by
 rintro⟨s1,s2,s3,s4⟩ hp hf
 have h:=aay s1 s2 s3 s4 hp hf
 with_reducible refine Eq.mp ?_ h
 kernel_rfl)
theorem DF:ak Tryz.prog Pg:=ak.cons DE adl (aB.of Tryz.func23 (c:=body Tryz.f23) (by kernel_rfl) (by kernel_rfl))
theorem adm:Valid Tryz.prog G0 126 Pj:=ah DF mixed Ph abF Tryz.func126 (c:=body Tryz.f126) (by kernel_rfl) (by
 rintro l hp hf
 have h:=aaz l hp hf
 with_reducible refine Eq.mp ?_ h
 kernel_rfl)
theorem DG:ak Tryz.prog Pk:=ak.cons DF adm (aB.of Tryz.func126 (c:=body Tryz.f126) (by kernel_rfl) (by kernel_rfl))
theorem adn:Valid Tryz.prog G0 90 Pm:=ah DG mixed Pl abH Tryz.func90 (c:=body Tryz.f90) (by kernel_rfl) (by
 rintro l hp hf
 have h:=aaA l hp hf
 with_reducible refine Eq.mp ?_ h
 kernel_rfl)
theorem DH:ak Tryz.prog Pn:=ak.cons DG adn (aB.of Tryz.func90 (c:=body Tryz.f90) (by kernel_rfl) (by kernel_rfl))
theorem ado:Valid Tryz.prog G0 125 Pq:=ah DH mixed Po abJ Tryz.func125 (c:=body Tryz.f125) (by kernel_rfl) (by
 rintro⟨s1,s2⟩ hp hf
 have h:=aaB s1 s2 hp hf
 with_reducible refine Eq.mp ?_ h
 kernel_rfl)
theorem DJ:ak Tryz.prog Pr:=ak.cons DH ado (aB.of Tryz.func125 (c:=body Tryz.f125) (by kernel_rfl) (by kernel_rfl))
theorem adp:Valid Tryz.prog G0 88 Pt:=ah DJ mixed Ps abL Tryz.func88 (c:=body Tryz.f88) (by kernel_rfl) (by
 rintro l hp hf
 have h:=aaC l hp hf
 with_reducible refine Eq.mp ?_ h
 kernel_rfl)
theorem DK:ak Tryz.prog Pu:=ak.cons DJ adp (aB.of Tryz.func88 (c:=body Tryz.f88) (by kernel_rfl) (by kernel_rfl))
theorem adq:Valid Tryz.prog G0 89 Pw:=ah DK mixed Pv abN Tryz.func89 (c:=body Tryz.f89) (by kernel_rfl) (by
 rintro l hp hf
 have h:=aaD l hp hf
 with_reducible refine Eq.mp ?_ h
 kernel_rfl)
theorem DL:ak Tryz.prog Px:=ak.cons DK adq (aB.of Tryz.func89 (c:=body Tryz.f89) (by kernel_rfl) (by kernel_rfl))
theorem adr:Valid Tryz.prog G0 84 Pz:=ah DL mixed Py abP Tryz.func84 (c:=body Tryz.f84) (by kernel_rfl) (by
 rintro l hp hf
 have h:=aaE l hp hf
 with_reducible refine Eq.mp ?_ h
 kernel_rfl)
theorem DN:ak Tryz.prog PA:=ak.cons DL adr (aB.of Tryz.func84 (c:=body Tryz.f84) (by kernel_rfl) (by kernel_rfl))
theorem ads:Valid Tryz.prog G0 122 PC:=ah DN mixed PB abR Tryz.func122 (c:=body Tryz.f122) (by kernel_rfl) (by
 rintro l hp hf
 have h:=aaF l hp hf
 with_reducible refine Eq.mp ?_ h
 kernel_rfl)
theorem DO:ak Tryz.prog PD:=ak.cons DN ads (aB.of Tryz.func122 (c:=body Tryz.f122) (by kernel_rfl) (by kernel_rfl))
theorem adt:Valid Tryz.prog G0 99 PF:=ah DO mixed PE abT Tryz.func99 (c:=body Tryz.f99) (by kernel_rfl) (by
 rintro⟨a,b⟩ hp hf
 have h:=aaG a b hp hf
 with_reducible refine Eq.mp ?_ h
 kernel_rfl)
theorem DP:ak Tryz.prog PG:=ak.cons DO adt (aB.of Tryz.func99 (c:=body Tryz.f99) (by kernel_rfl) (by kernel_rfl))
theorem adu:Valid Tryz.prog G0 98 PI:=ah DP mixed PH abV Tryz.func98 (c:=body Tryz.f98) (by kernel_rfl) (by
 rintro⟨a1,a2,b1,b2⟩ hp hf
 have h:=aaH a1 a2 b1 b2 hp hf
 with_reducible refine Eq.mp ?_ h
 kernel_rfl)
theorem DQ:ak Tryz.prog PJ:=ak.cons DP adu (aB.of Tryz.func98 (c:=body Tryz.f98) (by kernel_rfl) (by kernel_rfl))
theorem adv:ca Tryz.prog G0 97 PM:=dF DQ mixed PK PL abX Tryz.func97 (c:=body Tryz.f97) (by kernel_rfl) (by
 rintro⟨a,b⟩ ⟨⟩ hp hf hg
 have h:=aaI a b hp hf hg
 with_reducible refine Eq.mp ?_ h
 kernel_rfl)
theorem č:ca Tryz.prog G0 97 PN:=adv
theorem DR:ak Tryz.prog PO:=ak.eP DQ č (aB.of Tryz.func97 (c:=body Tryz.f97) (by kernel_rfl) (by kernel_rfl))
theorem adw:Valid Tryz.prog G0 56 PR:=ah DR mixed PQ abZ Tryz.func56 (c:=body Tryz.f56) (by kernel_rfl) (by
 rintro⟨a,b⟩ hp hf
 have h:=aaJ a b hp hf
 with_reducible refine Eq.mp ?_ h
 kernel_rfl)
theorem DS:ak Tryz.prog PT:=ak.cons DR adw (aB.of Tryz.func56 (c:=body Tryz.f56) (by kernel_rfl) (by kernel_rfl))
theorem adx:Valid Tryz.prog G0 19 PV:=ah DS mixed PU ab2 Tryz.func19 (c:=body Tryz.f19) (by kernel_rfl) (by
 rintro⟨y1,y2⟩ hp hf
 have h:=aaK y1 y2 hp hf
 with_reducible refine Eq.mp ?_ h
 kernel_rfl)
theorem DT:ak Tryz.prog PW:=ak.cons DS adx (aB.of Tryz.func19 (c:=body Tryz.f19) (by kernel_rfl) (by kernel_rfl))
theorem ady:Valid Tryz.prog G0 50 PY:=ah DT mixed PX ab4 Tryz.func50 (c:=body Tryz.f50) (by kernel_rfl) (by
 rintro⟨y1,y2⟩ hp hf
 have h:=aaL y1 y2 hp hf
 with_reducible refine Eq.mp ?_ h
 kernel_rfl)
theorem DU:ak Tryz.prog PZ:=ak.cons DT ady (aB.of Tryz.func50 (c:=body Tryz.f50) (by kernel_rfl) (by kernel_rfl))
theorem adz:Valid Tryz.prog G0 61 P1:=ah DU mixed P0 ab6 Tryz.func61 (c:=body Tryz.f61) (by kernel_rfl) (by
 rintro⟨y1,y2⟩ hp hf
 have h:=aaM y1 y2 hp hf
 with_reducible refine Eq.mp ?_ h
 kernel_rfl)
theorem rJ:ak Tryz.prog Iu:=ak.cons DU adz (aB.of Tryz.func61 (c:=body Tryz.f61) (by kernel_rfl) (by kernel_rfl))
theorem adA:Valid Tryz.prog G0 83 P3:=ah (E:=ab9) {fU:=rJ.fU,sig:=rJ.sig,pX:=rJ.pX} mixed P2 ab8 Tryz.func83 (c:=body Tryz.f83) (by kernel_rfl) (by
 rintro⟨y1,y2⟩ hp hf
 have h:=aaN y1 y2 hp hf
 with_reducible refine Eq.mp ?_ h
 kernel_rfl)
theorem DV:ak Tryz.prog P4:=ak.cons rJ adA (aB.of Tryz.func83 (c:=body Tryz.f83) (by kernel_rfl) (by kernel_rfl))
theorem adB:Valid Tryz.prog G0 91 P6:=ah DV mixed P5 acb Tryz.func91 (c:=body Tryz.f91) (by kernel_rfl) (by
 rintro⟨l,i,m,s1,s2,s3⟩ hp hf
 have h:=aaO l i m s1 s2 s3 hp hf
 with_reducible refine Eq.mp ?_ h
 kernel_rfl)
theorem DW:ak Tryz.prog P7:=ak.cons DV adB (aB.of Tryz.func91 (c:=body Tryz.f91) (by kernel_rfl) (by kernel_rfl))
theorem adC:Valid Tryz.prog G0 21 P9:=ah DW mixed P8 ace Tryz.func21 (c:=body Tryz.f21) (by kernel_rfl) (by
 rintro⟨y1,y2⟩ hp hf
 have h:=aaP y1 y2 hp hf
 with_reducible refine Eq.mp ?_ h
 kernel_rfl)
theorem DX:ak Tryz.prog Qa:=ak.cons DW adC (aB.of Tryz.func21 (c:=body Tryz.f21) (by kernel_rfl) (by kernel_rfl))
theorem adD:Valid Tryz.prog G0 44 Qc:=ah DX mixed Qb acg Tryz.func44 (c:=body Tryz.f44) (by kernel_rfl) (by
 rintro⟨y1,y2,d⟩ hp hf
 have h:=aaQ y1 y2 d hp hf
 with_reducible refine Eq.mp ?_ h
 kernel_rfl)
theorem DY:ak Tryz.prog Qd:=ak.cons DX adD (aB.of Tryz.func44 (c:=body Tryz.f44) (by kernel_rfl) (by kernel_rfl))
theorem adE:Valid Tryz.prog G0 43 Qf:=ah DY mixed Qe aci Tryz.func43 (c:=body Tryz.f43) (by kernel_rfl) (by
 rintro⟨y1,y2⟩ hp hf
 have h:=aaR y1 y2 hp hf
 with_reducible refine Eq.mp ?_ h
 kernel_rfl)
theorem DZ:ak Tryz.prog Qg:=ak.cons DY adE (aB.of Tryz.func43 (c:=body Tryz.f43) (by kernel_rfl) (by kernel_rfl))
theorem adF:Valid Tryz.prog G0 49 Qi:=ah DZ mixed Qh ack Tryz.func49 (c:=body Tryz.f49) (by kernel_rfl) (by
 rintro⟨y1,y2⟩ hp hf
 have h:=aaS y1 y2 hp hf
 with_reducible refine Eq.mp ?_ h
 kernel_rfl)
theorem D1:ak Tryz.prog Qj:=ak.cons DZ adF (aB.of Tryz.func49 (c:=body Tryz.f49) (by kernel_rfl) (by kernel_rfl))
theorem adG:Valid Tryz.prog G0 16 Ql:=ah D1 mixed Qk acn Tryz.func16 (c:=body Tryz.f16) (by kernel_rfl) (by
 rintro⟨y1,y2⟩ hp hf
 have h:=aaT y1 y2 hp hf
 with_reducible refine Eq.mp ?_ h
 kernel_rfl)
theorem D3:ak Tryz.prog Qm:=ak.cons D1 adG (aB.of Tryz.func16 (c:=body Tryz.f16) (by kernel_rfl) (by kernel_rfl))
theorem adH:Valid Tryz.prog G0 20 Qo:=ah D3 mixed Qn acp Tryz.func20 (c:=body Tryz.f20) (by kernel_rfl) (by
 rintro⟨y1,y2⟩ hp hf
 have h:=aaU y1 y2 hp hf
 with_reducible refine Eq.mp ?_ h
 kernel_rfl)
theorem D4:ak Tryz.prog Qp:=ak.cons D3 adH (aB.of Tryz.func20 (c:=body Tryz.f20) (by kernel_rfl) (by kernel_rfl))
theorem adI:Valid Tryz.prog G0 52 Qr:=ah D4 mixed Qq acr Tryz.func52 (c:=body Tryz.f52) (by kernel_rfl) (by
 rintro⟨y1,y2⟩ hp hf
 have h:=aaV y1 y2 hp hf
 with_reducible refine Eq.mp ?_ h
 kernel_rfl)
theorem D5:ak Tryz.prog Qs:=ak.cons D4 adI (aB.of Tryz.func52 (c:=body Tryz.f52) (by kernel_rfl) (by kernel_rfl))
theorem adJ:Valid Tryz.prog G0 22 Qu:=ah D5 mixed Qt acu Tryz.func22 (c:=body Tryz.f22) (by kernel_rfl) (by
 rintro⟨y1,y2⟩ hp hf
 have h:=aaW y1 y2 hp hf
 with_reducible refine Eq.mp ?_ h
 kernel_rfl)
theorem D6:ak Tryz.prog Qv:=ak.cons D5 adJ (aB.of Tryz.func22 (c:=body Tryz.f22) (by kernel_rfl) (by kernel_rfl))
theorem adK:Valid Tryz.prog G0 17 Qx:=ah D6 mixed Qw acw Tryz.func17 (c:=body Tryz.f17) (by kernel_rfl) (by
 rintro⟨y1,y2⟩ hp hf
 have h:=aaX y1 y2 hp hf
 with_reducible refine Eq.mp ?_ h
 kernel_rfl)
theorem D7:ak Tryz.prog Qy:=ak.cons D6 adK (aB.of Tryz.func17 (c:=body Tryz.f17) (by kernel_rfl) (by kernel_rfl))
theorem adL:Valid Tryz.prog G0 15 QA:=ah D7 mixed Qz acy Tryz.func15 (c:=body Tryz.f15) (by kernel_rfl) (by
 rintro⟨⟩ hp hf
 have h:=aaY hp hf
 with_reducible refine Eq.mp ?_ h
 kernel_rfl)
theorem D8:ak Tryz.prog QB:=ak.cons D7 adL (aB.of Tryz.func15 (c:=body Tryz.f15) (by kernel_rfl) (by kernel_rfl))
theorem adM:Valid Tryz.prog G0 18 QD:=ah D8 mixed QC acA Tryz.func18 (c:=body Tryz.f18) (by kernel_rfl) (by
 rintro⟨y1,y2⟩ hp hf
 have h:=aaZ y1 y2 hp hf
 with_reducible refine Eq.mp ?_ h
 kernel_rfl)
theorem D9:ak Tryz.prog QE:=ak.cons D8 adM (aB.of Tryz.func18 (c:=body Tryz.f18) (by kernel_rfl) (by kernel_rfl))
theorem adN:Valid Tryz.prog G0 14 QG:=ah D9 mixed QF acC Tryz.func14 (c:=body Tryz.f14) (by kernel_rfl) (by
 rintro⟨y1,y2⟩ hp hf
 have h:=aa0 y1 y2 hp hf
 with_reducible refine Eq.mp ?_ h
 kernel_rfl)
theorem MS:ak Tryz.prog acD:=ak.cons D9 adN (aB.of Tryz.func14 (c:=body Tryz.f14) (by kernel_rfl) (by kernel_rfl))
theorem adO:Valid Tryz.prog G0 3 acG:=ah MS mixed Iv acF Tryz.func3 (c:=body Tryz.f3) (by kernel_rfl) (by
 rintro⟨y1,y2⟩ hp hf
 have h:=aa1 y1 y2 hp hf
 with_reducible refine Eq.mp ?_ h
 kernel_rfl)
end Go.J

end
section
set_option linter.unusedVariables false
namespace Go.Proofs.YtcmmooohmnjklaaGreatDoor
open Go Go.Vg Go.ChangeShapes Go.WideShapes Go.ChangeAt Go.RowKit
theorem own:ownKnob Tryz.prog.godebug=none:=by kernel_rfl
theorem laidOut:laidOutB Tryz.prog=true :=by kernel_rfl
set_option maxRecDepth 100000 in
theorem amR {W:World}(h:laidMet Tryz.prog [("rubrick/sha.begin",Rows.laid_rubrick_sha_begin),("rubrick/sha.rounds",Rows.laid_rubrick_sha_rounds),("rubrick/utf.letters",Rows.laid_rubrick_utf_letters),("rubrick/utf.shifts",Rows.laid_rubrick_utf_shifts)] W):∀i d,Go.J.G0 i=some d→mH W (fun b=>b<W.heap.size) i d:=by
 intro i d hd
 match i,hd with
 |0,hd=>
  cases hd
  exact Da (k:= .u32) (zs:= [1779033703,3144134277,1013904242,2773480762,1359893119,2600822924,528734635,1541459225]) h (.head _) (by kernel_rfl) (by kernel_rfl) Tryz.underlying155 Tryz.underlying154 (by kernel_rfl) (by kernel_rfl) (by decide) (by simp [oI,jv,lo,hi,Row.hd,Row.tl,DI.toInt])
 |1,hd=>
  cases hd
  exact Da (k:= .u32) (zs:= [1116352408,1899447441,3049323471,3921009573,961987163,1508970993,2453635748,2870763221,3624381080,310598401,607225278,1426881987,1925078388,2162078206,2614888103,3248222580,3835390401,4022224774,264347078,604807628,770255983,1249150122,1555081692,1996064986,2554220882,2821834349,2952996808,3210313671,3336571891,3584528711,113926993,338241895,666307205,773529912,1294757372,1396182291,1695183700,1986661051,2177026350,2456956037,2730485921,2820302411,3259730800,3345764771,3516065817,3600352804,4094571909,275423344,430227734,506948616,659060556,883997877,958139571,1322822218,1537002063,1747873779,1955562222,2024104815,2227730452,2361852424,2428436474,2756734187,3204031479,3329325298]) h (.tail _ (.head _)) (by kernel_rfl) (by kernel_rfl) Tryz.underlying227 Tryz.underlying154 (by kernel_rfl) (by kernel_rfl) (by decide) (by simp [oI,jv,lo,hi,Row.hd,Row.tl,DI.toInt,S.rO])
 |2,hd=>
  cases hd
  exact C9 (k:= .i64) (zss:= [[65,90],[97,122],[192,214],[216,246],[248,255],[913,929],[931,937],[945,969],[1024,1119]]) h (.tail _ (.tail _ (.head _))) (by kernel_rfl) (by kernel_rfl) Tryz.underlying234 Tryz.underlying233 (by kernel_rfl) (by kernel_rfl) rfl (fun i f hf=>by
   match i,hf with
   |0,hf=>cases hf;exact⟨rfl,Tryz.underlying3,by kernel_rfl⟩
   |1,hf=>cases hf;exact⟨rfl,Tryz.underlying3,by kernel_rfl⟩
   |i+2,hf=>simp at hf) (by decide) (by decide) (by simp [oI,jv,lo,hi,Row.hd,Row.tl,DI.toInt])
 |3,hd=>
  cases hd
  exact C9 (k:= .i64) (zss:= [[65,90,32],[192,214,32],[216,222,32],[913,929,32],[931,937,32],[1024,1039,80],[1040,1071,32]]) h (.tail _ (.tail _ (.tail _ (.head _)))) (by kernel_rfl) (by kernel_rfl) Tryz.underlying253 Tryz.underlying252 (by kernel_rfl) (by kernel_rfl) rfl (fun i f hf=>by
   match i,hf with
   |0,hf=>cases hf;exact⟨rfl,Tryz.underlying3,by kernel_rfl⟩
   |1,hf=>cases hf;exact⟨rfl,Tryz.underlying3,by kernel_rfl⟩
   |2,hf=>cases hf;exact⟨rfl,Tryz.underlying3,by kernel_rfl⟩
   |i+3,hf=>simp at hf) (by decide) (by decide) (by simp [oI,jv,lo,hi,Row.hd,Row.tl,DI.toInt])
 |_+4,hd=>cases hd
def apq(w:World)(cs:Array Value):World:= {w with heap:=w.heap.modify 0 fun
    | .cells _ t frozen=> .cells cs t frozen
    |o=>o}
def apr(w:World)(cs:Array Value):World:= {w with heap:=w.heap.modify 1 fun
    | .cells _ t frozen=> .cells cs t frozen
    |o=>o}
def aps(w:World)(cs:Array Value):World:= {w with heap:=w.heap.modify 2 fun
    | .cells _ t frozen=> .cells cs t frozen
    |o=>o}
def apt(w:World)(cs:Array Value):World:= {w with heap:=w.heap.modify 3 fun
    | .cells _ t frozen=> .cells cs t frozen
    |o=>o}
noncomputable def wB (os:Os):World:=apt (aps (apr (apq (World.holding Tryz.prog os ⟨#[], #[],[]⟩) #[.int .u32 1779033703, .int .u32 3144134277, .int .u32 1013904242, .int .u32 2773480762, .int .u32 1359893119, .int .u32 2600822924, .int .u32 528734635, .int .u32 1541459225]) #[.int .u32 1116352408, .int .u32 1899447441, .int .u32 3049323471, .int .u32 3921009573, .int .u32 961987163, .int .u32 1508970993, .int .u32 2453635748, .int .u32 2870763221, .int .u32 3624381080, .int .u32 310598401, .int .u32 607225278, .int .u32 1426881987, .int .u32 1925078388, .int .u32 2162078206, .int .u32 2614888103, .int .u32 3248222580, .int .u32 3835390401, .int .u32 4022224774, .int .u32 264347078, .int .u32 604807628, .int .u32 770255983, .int .u32 1249150122, .int .u32 1555081692, .int .u32 1996064986, .int .u32 2554220882, .int .u32 2821834349, .int .u32 2952996808, .int .u32 3210313671, .int .u32 3336571891, .int .u32 3584528711, .int .u32 113926993, .int .u32 338241895, .int .u32 666307205, .int .u32 773529912, .int .u32 1294757372, .int .u32 1396182291, .int .u32 1695183700, .int .u32 1986661051, .int .u32 2177026350, .int .u32 2456956037, .int .u32 2730485921, .int .u32 2820302411, .int .u32 3259730800, .int .u32 3345764771, .int .u32 3516065817, .int .u32 3600352804, .int .u32 4094571909, .int .u32 275423344, .int .u32 430227734, .int .u32 506948616, .int .u32 659060556, .int .u32 883997877, .int .u32 958139571, .int .u32 1322822218, .int .u32 1537002063, .int .u32 1747873779, .int .u32 1955562222, .int .u32 2024104815, .int .u32 2227730452, .int .u32 2361852424, .int .u32 2428436474, .int .u32 2756734187, .int .u32 3204031479, .int .u32 3329325298]) #[.int .i64 65, .int .i64 90, .int .i64 97, .int .i64 122, .int .i64 192, .int .i64 214, .int .i64 216, .int .i64 246, .int .i64 248, .int .i64 255, .int .i64 913, .int .i64 929, .int .i64 931, .int .i64 937, .int .i64 945, .int .i64 969, .int .i64 1024, .int .i64 1119]) #[.int .i64 65, .int .i64 90, .int .i64 32, .int .i64 192, .int .i64 214, .int .i64 32, .int .i64 216, .int .i64 222, .int .i64 32, .int .i64 913, .int .i64 929, .int .i64 32, .int .i64 931, .int .i64 937, .int .i64 32, .int .i64 1024, .int .i64 1039, .int .i64 80, .int .i64 1040, .int .i64 1071, .int .i64 32]
theorem ye:Valid Tryz.prog Go.J.G0 3 (au Go.J.Iv fun _=>(True, .bool true,[])):=Go.J.adO
theorem tV(os:Os):laidMet Tryz.prog Rows.planRightsRow.laid ((wB os).forCall (fun _ _=>0) ⟨#[], #[.agg #[.slice none 0 0, .slice none 0 0]],[]⟩).memory:=
 laidMet_of_run' 8 (by kernel_rfl) (by kernel_rfl)
theorem yf(os:Os) {H:Type}(enc:TypeId×Value→H):∃places,DataW.whole enc Tryz.prog ((wB os).forCall (fun _ _=>0) ⟨#[], #[.agg #[.slice none 0 0, .slice none 0 0]],[]⟩).memory Tryz.f3.params.toList Rows.planRightsSpec.vars false (#[.agg #[.slice none 0 0, .slice none 0 0]]:Array Value).toList 8=some ([.agg [.nil, .nil]],[],places):=
 ⟨[],by kernel_rfl⟩
set_option maxRecDepth 100000 in
theorem wC(os:Os)(started:os.Started)(H:Type)(enc:TypeId×Value→H)(F:Stop.Interp):
  ReturnsInHanded {} Tryz.checked os 3 .any ((OpenSpec.ofChange Rows.planRightsSpec).preRow enc Tryz.prog Tryz.f3 Rows.planRightsRow.domain false Rows.planRightsRow.laid) (((OpenSpec.ofChange Rows.planRightsSpec).at F).post enc Tryz.prog Tryz.f3 false true false false):=by
 obtain⟨places,hx⟩:=yf os enc
 refine returnsInHanded_of_row (C:=Tryz.checked) (s:=OpenSpec.ofChange Rows.planRightsSpec) own started (by kernel_rfl) Tryz.func3
  (witness_row_at (enc:=enc) (C:=Tryz.checked) false (wB os) #[.agg #[.slice none 0 0, .slice none 0 0]] rfl (by kernel_rfl) (by kernel_rfl) (by kernel_rfl)
    (OpenSpec.preRow_of_cond 8 hx (by kernel_rfl) (fun k hk=>by cases hk) (by kernel_rfl) (tV os))) ?_
 intro W base args ds gs before Bk hW _ _ _ hL _ _
 refine Es (s:=Rows.planRightsSpec) (bw.of Nt) laidOut ye (show PS.Q5 fU Tryz.f3.params.toList=_ by kernel_rfl) (by kernel_rfl) (show Tryz.f3.resultTypes= #[4] by kernel_rfl) Tryz.underlying4 rfl ?_ (amR hL) Bk hW
 intro H ds z7
 have hn:Tryz.f3.params.toList.length=1:=by kernel_rfl
 rw [hn] at z7
 match ds,z7 with
 | [d0],_=>rfl
theorem ze:Rows.PlanRightsSaid:=
 OpenClaim.holds_of_cond 3 Tryz.f3 rfl rfl rfl rfl rfl rfl rfl ⟨rfl,rfl,rfl,rfl,rfl⟩ rfl rfl rfl rfl rfl (by kernel_rfl) Tryz.func3 (by kernel_rfl)
  (of_decide_eq_true (by kernel_rfl)) (by unfold Func.isWrapper;first|(rw [if_pos (by decide+kernel)];kernel_rfl)|(rw [if_neg (by decide+kernel)];exact⟨rfl,rfl⟩))
  (fun os started H enc _ F=>by rw [OpenClaim.pre_eq_preRow];exact wC os started H enc F)
theorem yg(f:FuncId)(fn:Func)(hf:Tryz.pinned.checked.prog.funcNamed "rubrick/rubricklaw14.PlanRights"=some f)(Lk:Tryz.pinned.checked.prog.funcs[f]? =some fn):
  false=Tryz.pinned.checked.prog.looks []∧∀(j:Nat) t,fn.params[j]? =some t→Tryz.pinned.checked.prog.wantsStandIn t=false :=by
 obtain rfl :f=3:=Option.some.inj ((show Tryz.prog.funcNamed "rubrick/rubricklaw14.PlanRights"=some 3 by kernel_rfl).symm.trans hf) |>.symm
 obtain rfl :fn=Tryz.f3:=(Option.some.inj (Tryz.func3.symm.trans Lk)).symm
 refine⟨by kernel_rfl,fun j t ht=> ?_⟩
 have h1:(Tryz.f3.params.toList.all fun t=> !Tryz.prog.wantsStandIn t)=true :=by kernel_rfl
 have h2:=List.all_eq_true.1 h1 t (by simpa using Array.mem_of_getElem? ht)
 have h3:Tryz.prog.wantsStandIn t=false :=by simpa using h2
 exact h3
theorem planRights_card:Rows.PlanRightsCardSaid:=
 Claim7.holds_tied_plain_at .later [] _ _ _ _ ze (fun _ h=>by cases h) (by kernel_rfl) (fun _ h=>by cases h) planRights_row_tie rfl ⟨rfl,rfl⟩ (by kernel_rfl) rfl yg (by kernel_rfl)
#print axioms planRights_card
end Go.Proofs.YtcmmooohmnjklaaGreatDoor

end
