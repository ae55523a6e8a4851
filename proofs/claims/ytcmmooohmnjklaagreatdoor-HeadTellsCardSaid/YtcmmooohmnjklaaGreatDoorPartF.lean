import Derived.Test.YtcmmooohmnjklaaGreatDoorPartE
import Derived.Shelf.SlicesG.Clone
import Derived.Shelf.SlSortCmp.NoneTotal
import Derived.Shelf.SlIter.Nil
import Derived.Shelf.SortM.Plain
import Derived.Shelf.SortM.SortNone
import Derived.Test.YtcmmooohmnjklaaGreatDoorProg
import Derived.Lib.Small
import Derived.Lib.Walk
import Derived.Sort.Walk0
import Derived.Laws.Cover1
import Derived.Maps.GroupsBeside
import Derived.Sort.KeysCollected
set_option linter.unusedVariables false
set_option linter.unusedSimpArgs false
section
set_option linter.unusedVariables false
namespace Go
theorem df {p:Prop} [Decidable p]:decide p=false↔¬p:=decide_eq_false_iff_not
theorem dt {p:Prop} [Decidable p]:(decide p=true)=p:=decide_eq_true_eq
theorem lc {α:Type} {a:α} {l:List α}:(a::l).length=l.length+1:=List.length_cons
theorem ln {α:Type}:([]:List α).length=0:=List.length_nil
theorem tn(n:Nat):(n:Int).toNat=n:=Int.toNat_natCast n
theorem nf {b:Bool}:((!b)=false)=(b=true):=Bool.not_eq_false' b
theorem nt {b:Bool}:((!b)=true)=(b=false):=Bool.not_eq_true' b
theorem aoj(hp:True)(hf:Vg.Row.ok (Vg.PS.flat []) ()):aen:=by
 unfold aen
 clear hf
 rfl
theorem aok(x:Int)(n:Int)(hp:S.c7 n)(hf:Vg.Row.ok (Vg.PS.flat [.one (.int .u32), .one (.int .i64)]) (x,n)):aeo x n:=by
 delta aeo aC z0
 have aol:0≤x∧x≤4294967295:=hf.1
 have WB: -9223372036854775808≤n∧n≤9223372036854775807:=hf.2.1
 clear hf
 with_reducible and_intros
 iterate 6
  · simp only [S.c7] at hp;omega
 rfl
theorem aom(b:List UInt8)(hp:b.length=64)(hf:Vg.Row.ok (Vg.PS.flat [.one (.slice [.int .u8])]) b):aep b:=by
 delta aep q0 q1 q2 q3 q4 q5 aC z0 z1 an
 have eF:b.length≤9223372036854775807:=hf.1.1
 clear hf
 refine⟨?_,?_⟩
 · refine⟨0,?_⟩
   try dsimp only
   with_reducible and_intros
   omega
   rfl
   simp only [S.cg,S.bY,S.ag,lc,ln] at *;omega
 intro x1 h2
 refine⟨?_,?_⟩
 · intro h3
   try simp only [dt] at h3
   with_reducible and_intros
   iterate 14 omega
   · simp only [S.cg,S.bY,S.ag,lc,ln] at *;omega
   iterate 2 omega
   refine⟨(x1+1),?_⟩
   try dsimp only
   with_reducible and_intros
   omega
   exact S.Rc b x1 (by omega)
   · simp only [S.cg,S.bY,S.ag,lc,ln] at *;omega
   simp only [S.cg,S.bY,S.ag,lc,ln] at *;omega
 intro h4
 try simp only [df] at h4
 refine⟨?_,?_⟩
 · refine⟨(nat_lit 16:Nat),?_⟩
   try dsimp only
   with_reducible and_intros
   omega
   · rw [show x1=16 by(simp only [S.bY] at *;omega)]
   iterate 2 omega
 intro x5 h6
 refine⟨?_,?_⟩
 · intro h7
   try simp only [dt] at h7
   with_reducible and_intros
   iterate 3 omega
   iterate 2
    · simp only [S.cg,S.bY,S.ag,lc,ln] at *;omega
   · simp only [S.c7];omega
   iterate 3 omega
   iterate 2
    · simp only [S.cg,S.bY,S.ag,lc,ln] at *;omega
   · simp only [S.c7];omega
   iterate 3 omega
   iterate 2
    · simp only [S.cg,S.bY,S.ag,lc,ln] at *;omega
   iterate 5 omega
   iterate 2
    · simp only [S.cg,S.bY,S.ag,lc,ln] at *;omega
   · simp only [S.c7];omega
   iterate 3 omega
   iterate 2
    · simp only [S.cg,S.bY,S.ag,lc,ln] at *;omega
   · simp only [S.c7];omega
   iterate 3 omega
   iterate 2
    · simp only [S.cg,S.bY,S.ag,lc,ln] at *;omega
   iterate 5 omega
   iterate 2
    · simp only [S.cg,S.bY,S.ag,lc,ln] at *;omega
   iterate 3 omega
   iterate 3
    · simp only [S.cg,S.bY,S.ag,lc,ln] at *;omega
   iterate 2 omega
   refine⟨(x5+nat_lit 1),?_⟩
   try dsimp only
   with_reducible and_intros
   omega
   exact S.Re b x5 (by omega)
   iterate 2 omega
   simp only [S.cg,S.bY,S.ag,lc,ln] at *;omega
 intro h8
 try simp only [df] at h8
 rw [show x5=64 by omega]
theorem aon(l:List Int)(p:List UInt8)(hp:S.Cd l p)(hf:Vg.Row.ok (Vg.PS.flat [.one (.slice [.int .u32]), .one (.slice [.int .u8])]) (l,p)):aeq l p:=by
 delta aeq q6 q7 q8 q9 aC z0 z1 an
 have gj:l.length≤9223372036854775807:=hf.1.1
 have aoo:p.length≤9223372036854775807:=hf.2.1.1
 clear hf
 obtain⟨EB,WC,hp3⟩:=hp
 have Er:=S.ļ EB
 with_reducible and_intros
 with_reducible assumption
 trivial
 iterate 16 omega
 · refine⟨(nat_lit 0:Nat),?_⟩
   try dsimp only
   with_reducible and_intros
   omega
   iterate 8 rfl
   simp only [S.cg,S.bY,S.ag] at *;omega
 intro x1 h2
 refine⟨?_,?_⟩
 · intro h3
   try simp only [dt] at h3
   with_reducible and_intros
   iterate 3
    · simp only [S.c7];omega
   omega
   iterate 2
    · rw [←S.yJ];simp only [S.bY] at *;omega
   omega
   iterate 2
    · simp only [S.cg,S.bY,S.ag] at *;omega
   iterate 3
    · simp only [S.c7];omega
   iterate 2 omega
   refine⟨(x1+nat_lit 1),?_⟩
   try dsimp only
   with_reducible and_intros
   omega
   · have hk:=S.sY (S.sched p 64) (S.qd l) Er x1
     have hx:=S.xor_not (hk (S.dg (S.sched p 64) (S.qd l) x1).2.2.2.2.1 (by simp [S.c8]))
     simp only [S.dg,hx,tn]
     rfl
   iterate 3 rfl
   · have hk:=S.sY (S.sched p 64) (S.qd l) Er x1
     have hx:=S.xor_not (hk (S.dg (S.sched p 64) (S.qd l) x1).2.2.2.2.1 (by simp [S.c8]))
     simp only [S.dg,hx,tn]
     rfl
   iterate 3 rfl
   · simp only [S.cg,S.bY,S.ag] at *;omega
   simp only [S.cg,S.bY,S.ag] at *;omega
 intro h4
 try simp only [df] at h4
 with_reducible and_intros
 iterate 16 omega
 simp only [S.bY] at h2
 rw [show x1=64 by omega]
 simp only [S.block,S.Jw,S.c8,S.qd,show Int.toNat 0=0 by rfl,show Int.toNat 1=1 by rfl,show Int.toNat 2=2 by rfl,show Int.toNat 3=3 by rfl,show Int.toNat 4=4 by rfl,show Int.toNat 5=5 by rfl,show Int.toNat 6=6 by rfl,show Int.toNat 7=7 by rfl]
theorem aop(b:List UInt8)(hp:S.small b)(hf:Vg.Row.ok (Vg.PS.flat [.one (.slice [.int .u8])]) b):aer b:=by
 delta aer aC eS z0 z1 an
 have eF:b.length≤9223372036854775807:=hf.1.1
 clear hf
 simp only [S.small] at hp
 with_reducible and_intros
 iterate 2
  · simp only [S.bU,S.bH,S.dL,S.bY,S.ag,S.len,lc,ln,List.length_append] at *;omega
 · refine⟨0,?_⟩
   try dsimp only
   refine⟨?_,?_⟩
   · exact S.JA _
   simp only [S.bU,S.bH,S.dL,S.bY,S.ag,S.len,lc,ln,List.length_append] at *;omega
 intro x1 h2
 with_reducible and_intros
 iterate 2 omega
 · intro h3
   try simp only [nt,df] at h3
   refine⟨?_,?_⟩
   · simp only [S.bU,S.bH,S.dL,S.bY,S.ag,S.len,lc,ln,List.length_append] at *;omega
   refine⟨(x1+1),?_⟩
   try dsimp only
   with_reducible and_intros
   exact S.zF _ _
   exact S.Cg h2 h3
   simp only [S.bU,S.bH,S.dL,S.bY,S.ag,S.len,lc,ln,List.length_append] at *;omega
 intro h4
 try simp only [nf,dt] at h4
 refine⟨?_,?_⟩
 · refine⟨(nat_lit 0:Nat),?_⟩
   try dsimp only
   with_reducible and_intros
   omega
   exact S.Rf b hp
   rfl
   simp only [S.bU,S.bH,S.dL,S.bY,S.ag,S.len,lc,ln,List.length_append] at *;omega
 intro x5 h6
 refine⟨?_,?_⟩
 · intro h7
   try simp only [dt] at h7
   with_reducible and_intros
   omega
   · have hx:x5≤8:=by(simp only [S.bY] at *;omega)
     simp only [S.xy _ _ hx,S.bU,S.bH,lc,ln] at *
     have :=S.Cf b.length
     omega
   iterate 3 omega
   refine⟨(x5+nat_lit 1),?_⟩
   try dsimp only
   with_reducible and_intros
   omega
   exact S.HQ b x5
   exact S.Eu b x5 (by omega)
   · simp only [S.bU,S.bH,S.dL,S.bY,S.ag,S.len,lc,ln,List.length_append] at *;omega
   simp only [S.bU,S.bH,S.dL,S.bY,S.ag,S.len,lc,ln,List.length_append] at *;omega
 intro h8
 try simp only [df] at h8
 refine⟨?_,?_⟩
 · have hx:x5≤8:=by(simp only [S.bY] at *;omega)
   simp only [S.xy _ _ hx,S.bU,S.bH,lc,ln] at *
   have :=S.Cf b.length
   omega
 rw [S.E2 h2 h4,show x5=8 by(simp only [S.bY] at *;omega),S.LM]
 rfl
theorem aoq(b:List UInt8)(hp:S.small b)(hf:Vg.Row.ok (Vg.PS.flat [.one (.slice [.int .u8])]) b):aes b:=by
 delta aes Aj y6 UN q13 q14 q15 Dc q17 Si q19 aC eS z0 z1
 have eF:b.length≤9223372036854775807:=hf.1.1
 clear hf
 have hsm:=hp
 simp only [S.small] at hp
 have ht:=S.TH b (S.jy b)
 have ht2:=S.E3 b (S.jy b)
 have ht3:=S.Cf b.length
 with_reducible and_intros
 exact hsm
 · refine⟨0,?_⟩
   try dsimp only
   with_reducible and_intros
   omega
   rfl
   omega
 intro x1 h2
 refine⟨?_,?_⟩
 · intro h3
   try simp only [dt] at h3
   with_reducible and_intros
   iterate 5 omega
   · exact⟨S.Ce _ _ S.LK _,rfl,by rw [S.TI,List.length_take,List.length_drop];omega⟩
   iterate 2 omega
   refine⟨(x1+1),?_⟩
   try dsimp only
   with_reducible and_intros
   omega
   · rw [S.TI];rfl
   omega
   simp only [S.bY,S.ag] at *;omega
 intro h4
 try simp only [df] at h4
 refine⟨?_,?_⟩
 · refine⟨(nat_lit 0:Nat),?_⟩
   try dsimp only
   with_reducible and_intros
   omega
   rfl
   simp only [S.bY,S.ag] at *;omega
 intro x5 h6
 refine⟨?_,?_⟩
 · intro h7
   try simp only [dt] at h7
   with_reducible and_intros
   omega
   iterate 2
    · simp only [S.c8,lc,ln];omega
   iterate 2 omega
   iterate 2
    · simp only [S.c8,lc,ln];omega
   iterate 3 omega
   iterate 2
    · simp only [S.c8,lc,ln];omega
   iterate 3 omega
   iterate 2
    · simp only [S.c8,lc,ln];omega
   omega
   · rw [S.yL _ _ (by simp only [S.bY] at *;omega)];simp;omega
   iterate 2 omega
   refine⟨(x5+nat_lit 1),?_⟩
   try dsimp only
   with_reducible and_intros
   omega
   · rw [show x1=S.blocks (S.tail b (S.jy b)) by omega];exact S.Ľ _ x5 (by omega)
   · simp only [S.bY,S.ag] at *;omega
   simp only [S.bY,S.ag] at *;omega
 intro h8
 try simp only [df] at h8
 rw [show x5=8 by(simp only [S.bY] at *;omega)];rfl
theorem aor(x:Int)(k:Int)(hp:S.fE x k)(hf:Vg.Row.ok (Vg.PS.flat [.one (.int .u32), .one (.int .i64)]) (x,k)):aet x k:=by
 delta aet UO Ŷ z0
 have aol:0≤x∧x≤4294967295:=hf.1
 have ars: -9223372036854775808≤k∧k≤9223372036854775807:=hf.2.1
 clear hf
 have hb:=S.Ĺ hp
 have WC:=hp
 simp only [S.fE] at WC
 with_reducible and_intros
 iterate 4 omega
 exact S.ĸ hp
theorem aos(hp:True)(hf:Vg.Row.ok (Vg.PS.flat []) ()):aeu:=by
 delta aeu z0
 clear hf
 with_reducible and_intros
 iterate 9 rfl
theorem aot(s1:Int)(s2:Int)(s3:Int)(s4:Int)(s5:Int)(s6:Int)(s7:Int)(s8:Int)(s9:List UInt8)(aI:Int)(hp:True)(hf:Vg.Row.ok (Vg.PS.flat [.agg [.int .u32, .int .u32, .int .u32, .int .u32, .int .u32, .int .u32, .int .u32, .int .u32, .slice [.int .u8], .int .i64]]) (s1,s2,s3,s4,s5,s6,s7,s8,s9,aI)):aev s1 s2 s3 s4 s5 s6 s7 s8 s9 aI:=by
 delta aev z0 an
 have iY:0≤s1∧s1≤4294967295:=hf.1
 have iZ:0≤s2∧s2≤4294967295:=hf.2.1
 have tR:0≤s3∧s3≤4294967295:=hf.2.2.1
 have MA:0≤s4∧s4≤4294967295:=hf.2.2.2.1
 have WD:0≤s5∧s5≤4294967295:=hf.2.2.2.2.1
 have WE:0≤s6∧s6≤4294967295:=hf.2.2.2.2.2.1
 have WG:0≤s7∧s7≤4294967295:=hf.2.2.2.2.2.2.1
 have WH:0≤s8∧s8≤4294967295:=hf.2.2.2.2.2.2.2.1
 have WI:s9.length≤9223372036854775807:=hf.2.2.2.2.2.2.2.2.1.1
 have Ol: -9223372036854775808≤aI∧aI≤9223372036854775807:=hf.2.2.2.2.2.2.2.2.2.1
 clear hf
 with_reducible and_intros
 · intro h1
   try simp only [dt] at h1
   refine⟨?_,?_⟩
   · intro h2
     try simp only [dt] at h2
     refine⟨?_,?_⟩
     · omega
     omega
   intro h3
   try simp only [df] at h3
   trivial
 · intro h4
   try simp only [df] at h4
   trivial
 simp only [S.aU];grind
theorem aou(u1:Int)(u2:Int)(u3:Int)(u4:Int)(u5:Int)(u6:Int)(u7:Int)(u8:Int)(p:List UInt8)(hp:S.HP (u1,u2,u3,u4,u5,u6,u7,u8) p)(hf:Vg.Row.ok (Vg.PS.flat [.agg [.int .u32, .int .u32, .int .u32, .int .u32, .int .u32, .int .u32, .int .u32, .int .u32], .one (.slice [.int .u8])]) (u1,u2,u3,u4,u5,u6,u7,u8,p)):aew u1 u2 u3 u4 u5 u6 u7 u8 p:=by
 delta aew hC q23 UP UQ tN UR q28 q29 q30 q31 q32 q33 aC z0 z1 an
 have ag5:0≤u1∧u1≤4294967295:=hf.1
 have ag6:0≤u2∧u2≤4294967295:=hf.2.1
 have ag7:0≤u3∧u3≤4294967295:=hf.2.2.1
 have ag8:0≤u4∧u4≤4294967295:=hf.2.2.2.1
 have ag9:0≤u5∧u5≤4294967295:=hf.2.2.2.2.1
 have aha:0≤u6∧u6≤4294967295:=hf.2.2.2.2.2.1
 have ahb:0≤u7∧u7≤4294967295:=hf.2.2.2.2.2.2.1
 have ahc:0≤u8∧u8≤4294967295:=hf.2.2.2.2.2.2.2.1
 have aoo:p.length≤9223372036854775807:=hf.2.2.2.2.2.2.2.2.1.1
 clear hf
 obtain⟨EB,WC⟩:=hp
 refine⟨?_,?_⟩
 · refine⟨(nat_lit 0:Nat),?_⟩
   try dsimp only
   with_reducible and_intros
   omega
   rfl
   simp only [S.bY,S.ag] at *;omega
 intro x1 h2
 refine⟨?_,?_⟩
 · intro h3
   try simp only [dt] at h3
   with_reducible and_intros
   iterate 30 omega
   · rw [S.oh _ _ (by omega)];omega
   iterate 2 omega
   refine⟨(x1+nat_lit 1),?_⟩
   try dsimp only
   with_reducible and_intros
   omega
   exact S.ĵ _ _ (by omega)
   · simp only [S.bY,S.ag] at *;omega
   simp only [S.bY,S.ag] at *;omega
 intro h4
 try simp only [df] at h4
 refine⟨?_,?_⟩
 · refine⟨(nat_lit 16:Nat),?_⟩
   try dsimp only
   with_reducible and_intros
   omega
   · simp only [S.bY] at h2
     rw [show x1=16 by omega]
   iterate 2 omega
 intro x5 h6
 refine⟨?_,?_⟩
 · intro h7
   try simp only [dt] at h7
   with_reducible and_intros
   iterate 4 omega
   · rw [S.oh _ _ (by omega)];omega
   iterate 4 omega
   · rw [S.oh _ _ (by omega)];omega
   iterate 2 (with_reducible exact S.Jy _ _ _ _ (by omega))
   iterate 2 omega
   iterate 2 (with_reducible exact S.Jy _ _ _ _ (by omega))
   iterate 6 omega
   · rw [S.oh _ _ (by omega)];omega
   iterate 4 omega
   · rw [S.oh _ _ (by omega)];omega
   iterate 2 omega
   · rw [S.oh _ _ (by omega)];omega
   iterate 2 omega
   refine⟨(x5+nat_lit 1),?_⟩
   try dsimp only
   with_reducible and_intros
   omega
   exact S.Ķ _ _ (by omega) (by omega)
   iterate 2 omega
   simp only [S.bY,S.ag] at *;omega
 intro h8
 try simp only [df] at h8
 with_reducible and_intros
 iterate 16 omega
 · refine⟨(nat_lit 0:Nat),?_⟩
   try dsimp only
   with_reducible and_intros
   omega
   iterate 8 rfl
   simp only [S.bY,S.ag] at *;omega
 intro x9 c5
 refine⟨?_,?_⟩
 · intro fM
   try simp only [dt] at fM
   with_reducible and_intros
   iterate 3 (with_reducible exact S.afW (S.sY _ _ EB _) _ (by omega))
   with_reducible exact S.yJ
   omega
   · rw [←S.yJ];simp only [S.bY] at *;omega
   iterate 2 omega
   · rw [S.oh _ _ (by omega)];omega
   iterate 3 (with_reducible exact S.afV (S.sY _ _ EB _) _ (by omega))
   iterate 2 omega
   refine⟨(x9+nat_lit 1),?_⟩
   try dsimp only
   with_reducible and_intros
   omega
   · rw [show x5=64 by omega,S.M5]
     simp only [S.dg,tn,Nat.zero_add,Nat.mul_one]
     rfl
   iterate 3 rfl
   · rw [show x5=64 by omega,S.M5]
     simp only [S.dg,tn,Nat.zero_add,Nat.mul_one]
     rfl
   iterate 3 rfl
   · simp only [S.bY,S.ag] at *;omega
   simp only [S.bY,S.ag] at *;omega
 intro dB
 try simp only [df] at dB
 with_reducible and_intros
 iterate 16 omega
 iterate 7
  · simp only [S.bY] at c5
    rw [show x9=64 by omega]
    simp only [S.block,S.Jw]
 simp only [S.bY] at c5
 rw [show x9=64 by omega]
 simp only [S.block,S.Jw]
theorem ahd(u1:Int)(u2:Int)(u3:Int)(u4:Int)(u5:Int)(u6:Int)(u7:Int)(u8:Int)(b:List UInt8)(hp:S.pQ (u1,u2,u3,u4,u5,u6,u7,u8))(hf:Vg.Row.ok (Vg.PS.flat [.agg [.int .u32, .int .u32, .int .u32, .int .u32, .int .u32, .int .u32, .int .u32, .int .u32], .one (.slice [.int .u8])]) (u1,u2,u3,u4,u5,u6,u7,u8,b)):US u1 u2 u3 u4 u5 u6 u7 u8 b:=by
 delta US Ik uI z0 an
 have ag5:0≤u1∧u1≤4294967295:=hf.1
 have ag6:0≤u2∧u2≤4294967295:=hf.2.1
 have ag7:0≤u3∧u3≤4294967295:=hf.2.2.1
 have ag8:0≤u4∧u4≤4294967295:=hf.2.2.2.1
 have ag9:0≤u5∧u5≤4294967295:=hf.2.2.2.2.1
 have aha:0≤u6∧u6≤4294967295:=hf.2.2.2.2.2.1
 have ahb:0≤u7∧u7≤4294967295:=hf.2.2.2.2.2.2.1
 have ahc:0≤u8∧u8≤4294967295:=hf.2.2.2.2.2.2.2.1
 have eF:b.length≤9223372036854775807:=hf.2.2.2.2.2.2.2.2.1.1
 clear hf
 refine⟨?_,?_⟩
 · refine⟨0,?_⟩
   try dsimp only
   with_reducible and_intros
   · simp only [S.dM,List.drop_drop];congr 1
   iterate 8 rfl
   omega
 intro x1 h2
 refine⟨?_,?_⟩
 · intro h3
   try simp only [dt] at h3
   with_reducible and_intros
   iterate 2 omega
   · exact⟨S.Ce _ _ hp _,by simp only [S.dM,List.length_take,List.length_drop] at *;omega⟩
   iterate 2 omega
   refine⟨(x1+1),?_⟩
   try dsimp only
   with_reducible and_intros
   · simp only [S.dM,List.drop_drop];congr 1
   iterate 8 (simp only [S.Ļ])
   · simp only [S.dM,List.length_drop,S.ag,S.blocks] at *;omega
   simp only [S.dM,List.length_drop,S.ag,S.blocks] at *;omega
 intro h4
 try simp only [df] at h4
 with_reducible and_intros
 iterate 8
  · rw [show x1=S.blocks b by(simp only [S.dM,List.length_drop,S.blocks] at *;omega)]
    rfl
 rw [show x1=S.blocks b by(simp only [S.dM,List.length_drop,S.blocks] at *;omega)]
 rfl
theorem ahe(s1:Int)(s2:Int)(s3:Int)(s4:Int)(s5:Int)(s6:Int)(s7:Int)(s8:Int)(s9:List UInt8)(aI:Int)(b:List UInt8)(hp:S.HO (s1,s2,s3,s4,s5,s6,s7,s8) s9 aI b)(hf:Vg.Row.ok (Vg.PS.flat [.agg [.int .u32, .int .u32, .int .u32, .int .u32, .int .u32, .int .u32, .int .u32, .int .u32, .slice [.int .u8], .int .i64], .one (.slice [.int .u8])]) (s1,s2,s3,s4,s5,s6,s7,s8,s9,aI,b)):UU s1 s2 s3 s4 s5 s6 s7 s8 s9 aI b:=by
 delta UU Il UT ŷ q39 aC eS Db z0 an
 have iY:0≤s1∧s1≤4294967295:=hf.1
 have iZ:0≤s2∧s2≤4294967295:=hf.2.1
 have tR:0≤s3∧s3≤4294967295:=hf.2.2.1
 have MA:0≤s4∧s4≤4294967295:=hf.2.2.2.1
 have WD:0≤s5∧s5≤4294967295:=hf.2.2.2.2.1
 have WE:0≤s6∧s6≤4294967295:=hf.2.2.2.2.2.1
 have WG:0≤s7∧s7≤4294967295:=hf.2.2.2.2.2.2.1
 have WH:0≤s8∧s8≤4294967295:=hf.2.2.2.2.2.2.2.1
 have WI:s9.length≤9223372036854775807:=hf.2.2.2.2.2.2.2.2.1.1
 have Ol: -9223372036854775808≤aI∧aI≤9223372036854775807:=hf.2.2.2.2.2.2.2.2.2.1
 have eF:b.length≤9223372036854775807:=hf.2.2.2.2.2.2.2.2.2.2.1.1
 clear hf
 obtain⟨Er,rfl,rfl,hs⟩:=hp
 simp only [S.small] at hs
 have hv:S.aU [] 0=true :=by decide
 have hd:decide ((1099511627776:Int)-0<(b.length:Int))=false :=by simp;omega
 simp only [hv,hd,Bool.not_true,cond_false,cond_true,ln,Int.toNat_zero]
 with_reducible and_intros
 trivial
 · intro h1
   try simp only [nt] at h1
   trivial
 · intro h2
   try simp only [nf] at h2
   refine⟨?_,?_⟩
   · omega
   omega
 · intro h3
   try simp only [V.pP,nt,dt] at h3
   trivial
 · intro h4
   try simp only [V.gh,nf,df] at h4
   trivial
 iterate 5 omega
 iterate 2
  · simp only [List.replicate_zero,List.nil_append,List.append_nil,S.mw,S.jy,ln,List.length_append] at *;omega
 omega
 · simp only [List.replicate_zero,List.nil_append,List.append_nil,S.mw,S.jy,ln,List.length_append] at *;omega
 iterate 2 omega
 iterate 9 rfl
 simp only [List.replicate_zero,List.nil_append,List.append_nil,S.mw,S.jy,ln,List.length_append] at *;omega
theorem ahf(s1:Int)(s2:Int)(s3:Int)(s4:Int)(s5:Int)(s6:Int)(s7:Int)(s8:Int)(s9:List UInt8)(aI:Int)(hp:S.AA (s1,s2,s3,s4,s5,s6,s7,s8) s9 aI)(hf:Vg.Row.ok (Vg.PS.flat [.agg [.int .u32, .int .u32, .int .u32, .int .u32, .int .u32, .int .u32, .int .u32, .int .u32, .slice [.int .u8], .int .i64]]) (s1,s2,s3,s4,s5,s6,s7,s8,s9,aI)):UW s1 s2 s3 s4 s5 s6 s7 s8 s9 aI:=by
 delta UW jF q41 q42 q43 q44 q45 aC eS Db z0 z1 an
 have iY:0≤s1∧s1≤4294967295:=hf.1
 have iZ:0≤s2∧s2≤4294967295:=hf.2.1
 have tR:0≤s3∧s3≤4294967295:=hf.2.2.1
 have MA:0≤s4∧s4≤4294967295:=hf.2.2.2.1
 have WD:0≤s5∧s5≤4294967295:=hf.2.2.2.2.1
 have WE:0≤s6∧s6≤4294967295:=hf.2.2.2.2.2.1
 have WG:0≤s7∧s7≤4294967295:=hf.2.2.2.2.2.2.1
 have WH:0≤s8∧s8≤4294967295:=hf.2.2.2.2.2.2.2.1
 have WI:s9.length≤9223372036854775807:=hf.2.2.2.2.2.2.2.2.1.1
 have Ol: -9223372036854775808≤aI∧aI≤9223372036854775807:=hf.2.2.2.2.2.2.2.2.2.1
 clear hf
 have hv:=S.Ra hp
 obtain⟨Er,h01,h02,h03⟩:=hp
 simp only [hv,Bool.not_true,cond_false]
 with_reducible and_intros
 trivial
 · intro h1
   try simp only [nt] at h1
   trivial
 · intro h2
   try simp only [nf] at h2
   trivial
 omega
 · simp only [S.bU,S.eQ,S.bH,S.dL,S.bY,S.ag,S.len,lc,ln] at *;omega
 · refine⟨0,?_⟩
   try dsimp only
   refine⟨?_,?_⟩
   · exact S.JA _
   simp only [S.bU,S.eQ,S.bH,S.dL,S.bY,S.ag,S.len,lc,ln] at *;omega
 intro x3 h4
 with_reducible and_intros
 iterate 2 omega
 · intro h5
   try simp only [nt,df] at h5
   refine⟨?_,?_⟩
   · simp only [S.bU,S.eQ,S.bH,S.dL,S.bY,S.ag,S.len,lc,ln] at *;omega
   refine⟨(x3+1),?_⟩
   try dsimp only
   with_reducible and_intros
   exact S.zF _ _
   exact S.Cg h4 h5
   simp only [S.bU,S.eQ,S.bH,S.dL,S.bY,S.ag,S.len,lc,ln] at *;omega
 intro h6
 try simp only [nf,dt] at h6
 refine⟨?_,?_⟩
 · refine⟨(nat_lit 0:Nat),?_⟩
   try dsimp only
   with_reducible and_intros
   omega
   rw [S.TF,←S.E2 h4 h6]
   simp only [S.bU,S.eQ,S.bH,S.dL,S.bY,S.ag,S.len,lc,ln] at *;omega
 intro x7 h8
 refine⟨?_,?_⟩
 · intro h9
   try simp only [dt] at h9
   with_reducible and_intros
   iterate 6 omega
   · simp only [S.bU,S.eQ,S.bH,S.dL,S.bY,S.ag,S.len,lc,ln] at *;omega
   iterate 2 omega
   refine⟨(x7+nat_lit 1),?_⟩
   try dsimp only
   with_reducible and_intros
   omega
   exact S.JB s9 aI x7 h01 h02 (by omega)
   · simp only [S.bU,S.eQ,S.bH,S.dL,S.bY,S.ag,S.len,lc,ln] at *;omega
   simp only [S.bU,S.eQ,S.bH,S.dL,S.bY,S.ag,S.len,lc,ln] at *;omega
 intro c5
 try simp only [df] at c5
 with_reducible and_intros
 iterate 4 omega
 · refine⟨(nat_lit 0:Nat),?_⟩
   try dsimp only
   with_reducible and_intros
   omega
   rfl
   simp only [S.bU,S.eQ,S.bH,S.dL,S.bY,S.ag,S.len,lc,ln] at *;omega
 intro WJ dB
 refine⟨?_,?_⟩
 · intro kA
   try simp only [dt] at kA
   with_reducible and_intros
   iterate 8 omega
   · rw [S.yL _ _ (by simp only [S.bY] at *;omega)];simp;omega
   iterate 2 omega
   refine⟨(WJ+nat_lit 1),?_⟩
   try dsimp only
   with_reducible and_intros
   omega
   · rw [show x7=8 by(simp only [S.bY] at *;omega)]
     exact S.ĺ _ WJ (by omega)
   · simp only [S.bU,S.eQ,S.bH,S.dL,S.bY,S.ag,S.len,lc,ln] at *;omega
   simp only [S.bU,S.eQ,S.bH,S.dL,S.bY,S.ag,S.len,lc,ln] at *;omega
 intro eX
 try simp only [df] at eX
 rw [show WJ=8 by(simp only [S.bY] at *;omega)]
 rfl
theorem ahg(b:List UInt8)(hp:S.small b)(hf:Vg.Row.ok (Vg.PS.flat [.one (.slice [.int .u8])]) b):UX b:=by
 delta UX EA Im z0
 have eF:b.length≤9223372036854775807:=hf.1.1
 clear hf
 with_reducible and_intros
 trivial
 exact⟨S.LK,rfl,rfl,hp⟩
 · simp only [S.small] at hp
   exact⟨S.Ce _ _ S.LK _,by simp only [S.jy];omega,by simp only [S.jy];omega,by rw [S.mw];simp [S.jy]⟩
 exact congrArg S.Q8 (S.LL b _)
theorem ahh(m:Nat)(v:Int)(hm:v.toNat<m+1)(hp:0≤v)(hf:Vg.Row.ok (Vg.PS.flat [.one (.int .i64)]) v):UY m v:=by
 delta UY q48 aC eS z0
 have aex: -9223372036854775808≤v∧v≤9223372036854775807:=hf.1
 clear hf
 refine⟨?_,?_⟩
 · intro h1
   try simp only [dt] at h1
   rw [S.M6 _ (by omega)];congr 2;omega
 intro h2
 try simp only [df] at h2
 with_reducible and_intros
 iterate 8 omega
 · have :=S.jQ (v/128);simp;omega
 rw [S.M7 v (by omega) (by omega)];simp only [List.singleton_append];congr 2;omega
theorem ahi(s:List UInt8)(hp:S.small s)(hf:Vg.Row.ok (Vg.PS.flat [.one (.str)]) s):UZ s:=by
 delta UZ eS z0 an
 have Kw:s.length≤9223372036854775807:=hf.1
 clear hf
 with_reducible and_intros
 omega
 · have :=S.jQ s.length;simp only [S.small] at hp;omega
 rfl
theorem ahj(b:List UInt8)(hp:b.length≤140737488355328)(hf:Vg.Row.ok (Vg.PS.flat [.one (.slice [.int .u8])]) b):U0 b:=by
 delta U0 eS
 have eF:b.length≤9223372036854775807:=hf.1.1
 clear hf
 refine⟨?_,?_⟩
 · omega
 rfl
theorem ahk(v:Int)(l:List UInt8)(hp:S.xz l v)(hf:Vg.Row.ok (Vg.TA.eI [.own 50000, .iP (.int .i64)]) v)(hg:Vg.fJ.ok [.row 5 [.int .u8]] (l,())):U1 v l:=by
 delta U1 q49 eS z0
 have aex: -9223372036854775808≤v∧v≤9223372036854775807:=hf.1
 have gj:l.length≤9223372036854775807:=hg.1.1
 clear hf hg
 obtain⟨EB,WC⟩:=hp
 refine⟨?_,?_⟩
 · refine⟨((l),(v)),?_⟩
   try dsimp only
   with_reducible and_intros
   omega
   rfl
   exact⟨EB,Int.le_refl _,rfl⟩
 intro x1 h2
 refine⟨?_,?_⟩
 · intro h3
   try simp only [dt] at h3
   with_reducible and_intros
   iterate 2 omega
   · (have hl:=S.ta h2;have hu:=S.xA h2;simp;omega)
   iterate 2 omega
   refine⟨((Prod.fst x1++ [UInt8.ofNat (Int.toNat (Vg.cP (Vg.aZ (Prod.snd x1) (127:Int)%(256:Int)) (128:Int)))]),(Prod.snd x1/(2:Int)^Int.toNat (7:Int))),?_⟩
   try dsimp only
   with_reducible and_intros
   omega
   rfl
   · (have hl:=S.ta h2;have hu:=S.xA h2;exact S.Rg h2 h3 (by omega))
   · (have hl:=S.ta h2;have hu:=S.xA h2;simp;omega)
 intro h4
 try simp only [df] at h4
 refine⟨?_,?_⟩
 · (have hl:=S.ta h2;have hu:=S.xA h2;simp;omega)
 (have hl:=S.ta h2;have hu:=S.xA h2;exact S.TK h2 h4)
theorem ahl(s:List UInt8)(l:List UInt8)(hp:S.kR l s)(hf:Vg.Row.ok (Vg.TA.eI [.own 50000, .iP (.str)]) s)(hg:Vg.fJ.ok [.row 5 [.int .u8]] (l,())):U2 s l:=by
 delta U2 eS an
 have Kw:s.length≤9223372036854775807:=hf.1
 have gj:l.length≤9223372036854775807:=hg.1.1
 clear hf hg
 obtain⟨EB,WC⟩:=hp
 have :=S.jQ s.length
 with_reducible and_intros
 · simp only [S.xz];omega
 · simp only [List.length_append];omega
 simp [S.text]
theorem ahm(b:List UInt8)(v:Int)(hp:b.length≤35184372088832)(hf:Vg.Row.ok (Vg.PS.flat [.one (.slice [.int .u8]), .one (.int .i64)]) (b,v)):U3 b v:=by
 delta U3 q50 eS z0 z1
 have eF:b.length≤9223372036854775807:=hf.1.1
 have aex: -9223372036854775808≤v∧v≤9223372036854775807:=hf.2.1
 clear hf
 refine⟨?_,?_⟩
 · intro h1
   try simp only [V.pP,dt] at h1
   refine⟨?_,?_⟩
   · grind [S.mS,S.Ck,S.rj]
   grind [S.mS,S.Ck,S.rj]
 intro h2
 try simp only [V.gh,df] at h2
 with_reducible and_intros
 omega
 exact⟨by omega,by omega⟩
 iterate 2 (grind [S.mS,S.Ck,S.rj])
theorem ahn(b:List UInt8)(s:List UInt8)(hp:S.kR b s)(hf:Vg.Row.ok (Vg.PS.flat [.one (.slice [.int .u8]), .one (.str)]) (b,s)):U4 b s:=by
 delta U4 eS
 have eF:b.length≤9223372036854775807:=hf.1.1
 have Kw:s.length≤9223372036854775807:=hf.2.1
 clear hf
 with_reducible and_intros
 · simp only [S.kR] at *;omega
 omega
 rfl
theorem aBf(r1:List UInt8)(r2:Int)(r3:Int)(hp:True)(hf:Vg.Row.ok (Vg.PS.flat [.agg [.slice [.int .u8], .int .i64, .int .i64]]) (r1,r2,r3)):axL r1 r2 r3:=by
 delta axL z0 an
 have at3:r1.length≤9223372036854775807:=hf.1.1
 have at4: -9223372036854775808≤r2∧r2≤9223372036854775807:=hf.2.1
 have at6: -9223372036854775808≤r3∧r3≤9223372036854775807:=hf.2.2.1
 clear hf
 simp only [S.inside];cases decide (0≤r2)<;>rfl
theorem aBg(r1:List UInt8)(r2:Int)(r3:Int)(hp:r1.length≤140737488355328)(hf:Vg.Row.ok (Vg.PS.flat [.agg [.slice [.int .u8], .int .i64, .int .i64]]) (r1,r2,r3)):axM r1 r2 r3:=by
 delta axM eS z0 z1
 have at3:r1.length≤9223372036854775807:=hf.1.1
 have at4: -9223372036854775808≤r2∧r2≤9223372036854775807:=hf.2.1
 have at6: -9223372036854775808≤r3∧r3≤9223372036854775807:=hf.2.2.1
 clear hf
 with_reducible and_intros
 omega
 · intro h1
   try simp only [dt] at h1
   trivial
 · intro h2
   try simp only [df] at h2
   trivial
 rfl
 · cases decide (r3=0)<;>cases S.inside r1 r2<;>rfl
 simp only [S.afz];by_cases h:r3=0<;>cases S.inside r1 r2<;>simp [h]
theorem aBh(b:List UInt8)(p:Int)(hp:S.afo b p)(hf:Vg.Row.ok (Vg.PS.flat [.one (.slice [.int .u8]), .one (.int .i64)]) (b,p)):axN b p:=by
 delta axN q51 Ÿ Ź aC z0 z1 an
 have eF:b.length≤9223372036854775807:=hf.1.1
 have aoo: -9223372036854775808≤p∧p≤9223372036854775807:=hf.2.1
 clear hf
 have į:=hp
 simp only [S.afo] at į
 refine⟨?_,?_⟩
 · refine⟨(nat_lit 0:Nat),?_⟩
   try dsimp only
   with_reducible and_intros
   exact(S.ayL b p).symm
   omega
   exact S.ayK hp
 intro x1 h2
 refine⟨?_,?_⟩
 · intro h3
   try simp only [dt] at h3
   with_reducible and_intros
   iterate 3 (grind [S.axI,S.avS])
 intro h4
 try simp only [df] at h4
 with_reducible and_intros
 iterate 2 omega
 · intro h5
   try simp only [dt] at h5
   with_reducible and_intros
   iterate 3 (grind [S.axI,S.avS])
 intro h6
 try simp only [df] at h6
 with_reducible and_intros
 omega
 · (have hg:=S.aww h2;omega)
 omega
 · (have hg:=S.aww h2;omega)
 omega
 · (have hg:=S.aww h2;omega)
 omega
 · (have hg:=S.aww h2;omega)
 iterate 2
  · have hg:=S.aww h2
    have hn:=S.Jv ((b.getD (p+(x1:Int)).toNat 0).toNat:Int) (by omega)
    have hs:=S.awy (Vg.aZ ((b.getD (p+(x1:Int)).toNat 0).toNat:Int) 127) x1 (by omega) (by omega) (by omega)
    try clear h8
    try clear h9
    clear hn
    generalize Vg.aZ ((b.getD (p+(x1:Int)).toNat 0).toNat:Int) 127*2^(7*(x1:Int)).toNat=z at *
    omega
 · (have hg:=S.aww h2;have hv:=S.awx (b:=b) (p:=p) hg.1;have hw:=S.awx (b:=b) (p:=p) (x:=x1+1) (by omega);have hn:=S.Jv ((b.getD (p+(x1:Int)).toNat 0).toNat:Int) (by omega);have hs:=S.awy (Vg.aZ ((b.getD (p+(x1:Int)).toNat 0).toNat:Int) 127) x1 (by omega) (by omega) (by omega);exact hv.1)
 · (have hg:=S.aww h2;have hv:=S.awx (b:=b) (p:=p) hg.1;have hw:=S.awx (b:=b) (p:=p) (x:=x1+1) (by omega);have hn:=S.Jv ((b.getD (p+(x1:Int)).toNat 0).toNat:Int) (by omega);have hs:=S.awy (Vg.aZ ((b.getD (p+(x1:Int)).toNat 0).toNat:Int) 127) x1 (by omega) (by omega) (by omega);exact hs.1)
 omega
 · (have hg:=S.aww h2;omega)
 · intro h7
   try simp only [dt] at h7
   with_reducible and_intros
   · intro h8
     try simp only [dt] at h8
     with_reducible and_intros
     omega
     · have hg:=S.aww h2
       have hn:=S.Jv ((b.getD (p+(x1:Int)).toNat 0).toNat:Int) (by omega)
       have hs:=S.awy (Vg.aZ ((b.getD (p+(x1:Int)).toNat 0).toNat:Int) 127) x1 (by omega) (by omega) (by omega)
       try clear h8
       try clear h9
       clear hn
       generalize Vg.aZ ((b.getD (p+(x1:Int)).toNat 0).toNat:Int) 127*2^(7*(x1:Int)).toNat=z at *
       omega
     omega
     · have hg:=S.aww h2
       have hn:=S.Jv ((b.getD (p+(x1:Int)).toNat 0).toNat:Int) (by omega)
       have hs:=S.awy (Vg.aZ ((b.getD (p+(x1:Int)).toNat 0).toNat:Int) 127) x1 (by omega) (by omega) (by omega)
       try clear h8
       try clear h9
       clear hn
       generalize Vg.aZ ((b.getD (p+(x1:Int)).toNat 0).toNat:Int) 127*2^(7*(x1:Int)).toNat=z at *
       omega
     omega
     have hg:=S.aww h2
     have hn:=S.Jv ((b.getD (p+(x1:Int)).toNat 0).toNat:Int) (by omega)
     have hs:=S.awy (Vg.aZ ((b.getD (p+(x1:Int)).toNat 0).toNat:Int) 127) x1 (by omega) (by omega) (by omega)
     try clear h8
     try clear h9
     clear hn
     generalize Vg.aZ ((b.getD (p+(x1:Int)).toNat 0).toNat:Int) 127*2^(7*(x1:Int)).toNat=z at *
     omega
   · intro h9
     try simp only [df] at h9
     trivial
   · intro c5
     with_reducible and_intros
     · exact(S.ave hp h2 (by have hg:=S.aww h2;omega) (by omega) (by omega) c5).1
     · exact(S.ave hp h2 (by have hg:=S.aww h2;omega) (by omega) (by omega) c5).2.1
     · exact(S.ave hp h2 (by have hg:=S.aww h2;omega) (by omega) (by omega) c5).2.2
   intro fM
   with_reducible and_intros
   omega
   · clear fM
     have hg:=S.aww h2
     omega
   · exact(S.avf hp h2 (by have hg:=S.aww h2;omega) (by omega) (by omega) fM).1
   · exact(S.avf hp h2 (by have hg:=S.aww h2;omega) (by omega) (by omega) fM).2.1
   · exact(S.avf hp h2 (by have hg:=S.aww h2;omega) (by omega) (by omega) fM).2.2
 intro dB
 try simp only [df] at dB
 refine⟨(x1+nat_lit 1),?_⟩
 try dsimp only
 with_reducible and_intros
 · (have hg:=S.aww h2;have hv:=S.awx (b:=b) (p:=p) hg.1;have hw:=S.awx (b:=b) (p:=p) (x:=x1+1) (by omega);have hn:=S.Jv ((b.getD (p+(x1:Int)).toNat 0).toNat:Int) (by omega);have hs:=S.awy (Vg.aZ ((b.getD (p+(x1:Int)).toNat 0).toNat:Int) 127) x1 (by omega) (by omega) (by omega);exact S.asf hp h2 (by omega))
 omega
 · (have hg:=S.aww h2;exact S.avd hp h2 (by omega) (by omega) (by omega))
 · (have hg:=S.aww h2;simp only [S.ag];omega)
theorem aBi(r1:List UInt8)(r2:Int)(r3:Int)(hp:r1.length≤140737488355328)(hf:Vg.Row.ok (Vg.PS.flat [.agg [.slice [.int .u8], .int .i64, .int .i64]]) (r1,r2,r3)):axO r1 r2 r3:=by
 delta axO eS z0
 have at3:r1.length≤9223372036854775807:=hf.1.1
 have at4: -9223372036854775808≤r2∧r2≤9223372036854775807:=hf.2.1
 have at6: -9223372036854775808≤r3∧r3≤9223372036854775807:=hf.2.2.1
 clear hf
 with_reducible and_intros
 omega
 · intro h1
   try simp only [nt,df] at h1
   with_reducible and_intros
   iterate 4 (grind [S.aab,S.afo,S.afz,S.inside])
 intro h2
 try simp only [nf,dt] at h2
 with_reducible and_intros
 grind [S.aab,S.afo,S.afz,S.inside]
 · intro h3
   try simp only [nt,df] at h3
   with_reducible and_intros
   iterate 4 (grind [S.aab,S.afo,S.afz,S.inside])
 intro h4
 try simp only [nf,dt] at h4
 with_reducible and_intros
 iterate 4 (grind [S.aab,S.afo,S.afz,S.inside])
theorem aBj(r1:List UInt8)(r2:Int)(r3:Int)(hp:r1.length≤140737488355328)(hf:Vg.Row.ok (Vg.PS.flat [.agg [.slice [.int .u8], .int .i64, .int .i64]]) (r1,r2,r3)):axP r1 r2 r3:=by
 delta axP q54 aC eS z0 an
 have at3:r1.length≤9223372036854775807:=hf.1.1
 have at4: -9223372036854775808≤r2∧r2≤9223372036854775807:=hf.2.1
 have at6: -9223372036854775808≤r3∧r3≤9223372036854775807:=hf.2.2.1
 clear hf
 with_reducible and_intros
 omega
 · intro h1
   try simp only [nt,df] at h1
   with_reducible and_intros
   iterate 4 (grind [S.aac,S.afo,S.afz,S.inside])
 intro h2
 try simp only [nf,dt] at h2
 with_reducible and_intros
 omega
 grind [S.aac,S.afo,S.afz,S.inside]
 · intro h3
   try simp only [dt] at h3
   with_reducible and_intros
   iterate 4 (grind [S.aac,S.afo,S.afz,S.inside])
 intro h4
 try simp only [df] at h4
 with_reducible and_intros
 iterate 2 omega
 grind [S.aac,S.afo,S.afz,S.inside]
 iterate 4 omega
 iterate 3 (grind [S.aac,S.afo,S.afz,S.inside])
 have h0:=S.avg h2
 simp only [S.aac,List.drop_take,show(r2+32).toNat-r2.toNat=32 by omega]
 (repeat' split)<;>first|rfl|omega|contradiction
theorem aBk(r1:List UInt8)(r2:Int)(r3:Int)(hp:True)(hf:Vg.Row.ok (Vg.PS.flat [.agg [.slice [.int .u8], .int .i64, .int .i64]]) (r1,r2,r3)):axQ r1 r2 r3:=by
 delta axQ z0 z1 an
 have at3:r1.length≤9223372036854775807:=hf.1.1
 have at4: -9223372036854775808≤r2∧r2≤9223372036854775807:=hf.2.1
 have at6: -9223372036854775808≤r3∧r3≤9223372036854775807:=hf.2.2.1
 clear hf
 refine⟨?_,?_⟩
 · intro h1
   try simp only [nt,df] at h1
   grind [S.done]
 intro h2
 try simp only [nf,dt] at h2
 with_reducible and_intros
 trivial
 · intro h3
   try simp only [nt] at h3
   grind [S.done]
 intro h4
 try simp only [nf] at h4
 refine⟨?_,?_⟩
 · intro h5
   try simp only [dt] at h5
   grind [S.done]
 intro h6
 try simp only [df] at h6
 grind [S.done]
theorem aho(kind:Int)(b:List UInt8)(hp:S.bj b)(hf:Vg.Row.ok (Vg.PS.flat [.one (.int .i64), .one (.slice [.int .u8])]) (kind,b)):U5 kind b:=by
 delta U5 q55 aC eS z0 z1 an
 have WK: -9223372036854775808≤kind∧kind≤9223372036854775807:=hf.1
 have eF:b.length≤9223372036854775807:=hf.2.1.1
 clear hf
 refine⟨?_,?_⟩
 · refine⟨(nat_lit 0:Nat),?_⟩
   try dsimp only
   with_reducible and_intros
   omega
   · simp only [S.fF,S.dY] at *;grind [List.take_add_one]
   simp only [S.dY,S.ag,S.len,S.bj,S.fF,lc,List.length_take,ln] at *;omega
 intro x1 h2
 refine⟨?_,?_⟩
 · intro h3
   try simp only [dt] at h3
   with_reducible and_intros
   iterate 2 omega
   · simp only [S.dY,S.ag,S.len,S.bj,S.fF,lc,List.length_take,ln] at *;omega
   iterate 2 omega
   refine⟨(x1+nat_lit 1),?_⟩
   try dsimp only
   with_reducible and_intros
   omega
   simp only [S.fF,List.cons_append,S.Tw b x1 (by omega)]
   · simp only [S.dY,S.ag,S.len,S.bj,S.fF,lc,List.length_take,ln] at *;omega
   simp only [S.dY,S.ag,S.len,S.bj,S.fF,lc,List.length_take,ln] at *;omega
 intro h4
 try simp only [df] at h4
 simp only [S.fF,S.dY] at *;grind [List.take_add_one]
theorem ahp(kind:Int)(b:List UInt8)(hp:S.bj b)(hf:Vg.Row.ok (Vg.PS.flat [.one (.int .i64), .one (.slice [.int .u8])]) (kind,b)):U6 kind b:=by
 unfold U6
 have WK: -9223372036854775808≤kind∧kind≤9223372036854775807:=hf.1
 have eF:b.length≤9223372036854775807:=hf.2.1.1
 clear hf
 with_reducible and_intros
 iterate 2 exact hp
 rfl
theorem ahq(b:List UInt8)(hp:S.bj b)(hf:Vg.Row.ok (Vg.PS.flat [.one (.slice [.int .u8])]) b):U7 b:=by
 delta U7 z0
 have eF:b.length≤9223372036854775807:=hf.1.1
 clear hf
 refine⟨?_,?_⟩
 · exact hp
 rfl
theorem ahr(l:List UInt8)(r:List UInt8)(hp:S.bj (l++r))(hf:Vg.Row.ok (Vg.PS.flat [.one (.str), .one (.str)]) (l,r)):U8 l r:=by
 delta U8 z1
 have gj:l.length≤9223372036854775807:=hf.1
 have aey:r.length≤9223372036854775807:=hf.2.1
 clear hf
 with_reducible and_intros
 · simp only [S.bj,List.length_append] at *;omega
 exact hp
 rfl
theorem ahs(kind:UInt8)(parts:List (List UInt8))(hp:S.iQ parts)(hf:Vg.Row.ok (Vg.PS.flat [.one (.int .u8), .one (.slice [.slice [.int .u8]])]) (kind,parts)):U9 kind parts:=by
 delta U9 aC eS z0 z1 an
 have amS:parts.length≤9223372036854775807:=hf.2.1.1
 clear hf
 refine⟨?_,?_⟩
 · refine⟨(nat_lit 0:Nat),?_⟩
   try dsimp only
   with_reducible and_intros
   omega
   exact S.Ri _ _
   simp only [S.dY,S.ag,S.len] at *;omega
 intro x1 h2
 refine⟨?_,?_⟩
 · intro h3
   try simp only [dt] at h3
   with_reducible and_intros
   iterate 2 omega
   exact S.LN kind hp (by omega)
   iterate 2 omega
   refine⟨(x1+nat_lit 1),?_⟩
   try dsimp only
   with_reducible and_intros
   omega
   exact S.HT _ _ _ (by omega)
   · simp only [S.dY,S.ag,S.len] at *;omega
   simp only [S.dY,S.ag,S.len] at *;omega
 intro h4
 try simp only [df] at h4
 exact S.JC _ _ _ (by omega)
theorem aht(b:List UInt8)(hp:S.bj b)(hf:Vg.Row.ok (Vg.PS.flat [.one (.slice [.int .u8])]) b):Va b:=by
 unfold Va
 have eF:b.length≤9223372036854775807:=hf.1.1
 clear hf
 refine⟨?_,?_⟩
 · simp only [S.iQ,S.bj] at *;simp;omega
 simp [S.dN,S.iR]
theorem ahu(l:List UInt8)(r:List UInt8)(hp:S.bj (l++r))(hf:Vg.Row.ok (Vg.PS.flat [.one (.str), .one (.str)]) (l,r)):Vb l r:=by
 unfold Vb
 have gj:l.length≤9223372036854775807:=hf.1
 have aey:r.length≤9223372036854775807:=hf.2.1
 clear hf
 refine⟨?_,?_⟩
 · simp only [S.iQ,S.bj,List.length_append] at *;simp;omega
 simp [S.dN,S.iR]
theorem ahv(b:List UInt8)(hp:S.bj b)(hf:Vg.Row.ok (Vg.PS.flat [.one (.slice [.int .u8])]) b):Vc b:=by
 unfold Vc
 have eF:b.length≤9223372036854775807:=hf.1.1
 clear hf
 refine⟨?_,?_⟩
 · simp only [S.iQ,S.bj] at *;simp;omega
 simp [S.dN,S.iR]
theorem ahw(b:List UInt8)(hp:S.bj b)(hf:Vg.Row.ok (Vg.PS.flat [.one (.slice [.int .u8])]) b):Vd b:=by
 unfold Vd
 have eF:b.length≤9223372036854775807:=hf.1.1
 clear hf
 with_reducible and_intros
 iterate 2 exact hp
 rfl
theorem ahx(l:List UInt8)(r:List UInt8)(hp:True)(hf:Vg.Row.ok (Vg.PS.flat [.one (.str), .one (.str)]) (l,r)):Ve l r:=by
 delta Ve z0 z1 an
 have gj:l.length≤9223372036854775807:=hf.1
 have aey:r.length≤9223372036854775807:=hf.2.1
 clear hf
 refine⟨?_,?_⟩
 · intro h1
   try simp only [V.pP,nt,df] at h1
   refine⟨?_,?_⟩
   · grind [S.cM,S.j8,S.Cm,S.HS,S.oi]
   grind [S.cM,S.j8,S.Cm,S.HS,S.oi]
 intro h2
 try simp only [V.gh,nf,dt] at h2
 with_reducible and_intros
 iterate 2
  · simp only [S.small,S.iR,S.bj,lc,List.length_append] at *;omega
 iterate 2 (grind [S.cM,S.j8,S.Cm,S.HS,S.oi])
theorem ahy(b:List UInt8)(hp:S.bj b)(hf:Vg.Row.ok (Vg.PS.flat [.one (.slice [.int .u8])]) b):Vf b:=by
 unfold Vf
 have eF:b.length≤9223372036854775807:=hf.1.1
 clear hf
 with_reducible and_intros
 iterate 2 exact hp
 rfl
theorem ahz(c:Int)(hp:True)(hf:Vg.Row.ok (Vg.PS.flat [.one (.int .i64)]) c):Vh c:=by
 delta Vh z0
 have rS: -9223372036854775808≤c∧c≤9223372036854775807:=hf.1
 clear hf
 simp only [S.bh];grind
theorem ahA(c:Int)(hp:True)(hf:Vg.Row.ok (Vg.PS.flat [.one (.int .i64)]) c):Vi c:=by
 delta Vi z1
 have rS: -9223372036854775808≤c∧c≤9223372036854775807:=hf.1
 clear hf
 refine⟨?_,?_⟩
 · intro h1
   try simp only [dt] at h1
   grind [S.cI]
 intro h2
 try simp only [df] at h2
 refine⟨?_,?_⟩
 · intro h3
   try simp only [dt] at h3
   grind [S.cI]
 intro h4
 try simp only [df] at h4
 refine⟨?_,?_⟩
 · intro h5
   try simp only [dt] at h5
   grind [S.cI]
 intro h6
 try simp only [df] at h6
 grind [S.cI]
theorem ahB(c:Int)(hp:0≤c)(hf:Vg.Row.ok (Vg.PS.flat [.one (.int .i64)]) c):Vj c:=by
 delta Vj z0
 have rS: -9223372036854775808≤c∧c≤9223372036854775807:=hf.1
 clear hf
 have e:Vg.aZ c 63%256=c%64:=by rw [S.Cb _ hp];omega
 with_reducible and_intros
 iterate 2 omega
 rw [e,S.zE]
 exact S.Ŀ c
theorem ahC(c:Int)(hp:True)(hf:Vg.Row.ok (Vg.PS.flat [.one (.int .i64)]) c):Vk c:=by
 delta Vk uJ Vl Vm Vn z0 z1
 have rS: -9223372036854775808≤c∧c≤9223372036854775807:=hf.1
 clear hf
 with_reducible and_intros
 trivial
 · intro h1
   try simp only [nt] at h1
   refine⟨?_,?_⟩
   · simp only [S.rP,nt] at *
     grind
   simp only [S.dZ,nt] at *
   grind
 intro h2
 try simp only [nf] at h2
 with_reducible and_intros
 trivial
 · intro h3
   try simp only [dt] at h3
   refine⟨?_,?_⟩
   · (have hc:=S.cZ h2;simp only [S.rP,h2];rfl)
   (have hc:=S.cZ h2;(simp only [S.dZ,h2,if_true];exact S.M8 c hc.1 (by simp only [S.cI] at *;grind)))
 intro h4
 try simp only [df] at h4
 refine⟨?_,?_⟩
 · intro h5
   try simp only [dt] at h5
   with_reducible and_intros
   iterate 2 omega
   · (have hc:=S.cZ h2;omega)
   · (have hc:=S.cZ h2;simp only [S.rP,h2];rfl)
   · (have hc:=S.cZ h2;(simp only [S.dZ,h2,if_true];exact S.Ń c hc.1 (by simp only [S.cI] at *;grind)))
 intro h6
 try simp only [df] at h6
 refine⟨?_,?_⟩
 · intro h7
   try simp only [dt] at h7
   with_reducible and_intros
   iterate 4 omega
   · (have hc:=S.cZ h2;simp only [show Int.toNat 6=6 by rfl,show Int.toNat 12=12 by rfl,show Int.toNat 18=18 by rfl];omega)
   · (have hc:=S.cZ h2;omega)
   · (have hc:=S.cZ h2;simp only [S.rP,h2];rfl)
   · (have hc:=S.cZ h2;(simp only [S.dZ,h2,if_true];exact S.ń c hc.1 (by simp only [S.cI] at *;grind)))
 intro h8
 try simp only [df] at h8
 with_reducible and_intros
 iterate 4 omega
 · (have hc:=S.cZ h2;simp only [show Int.toNat 6=6 by rfl,show Int.toNat 12=12 by rfl,show Int.toNat 18=18 by rfl];omega)
 iterate 2 omega
 · (have hc:=S.cZ h2;simp only [show Int.toNat 6=6 by rfl,show Int.toNat 12=12 by rfl,show Int.toNat 18=18 by rfl];omega)
 · (have hc:=S.cZ h2;omega)
 · (have hc:=S.cZ h2;simp only [S.rP,h2];rfl)
 · (have hc:=S.cZ h2;(simp only [S.dZ,h2,if_true];exact S.Ņ c hc.1 hc.2 (by simp only [S.cI] at *;grind)))
theorem ahD(b:List UInt8)(hp:0<b.length)(hf:Vg.Row.ok (Vg.PS.flat [.one (.slice [.int .u8])]) b):Vo b:=by
 delta Vo ź Mx Ż ż Ž ž ſ q67 q68 q69 q70 q71 q72 Vv aC z0 z1 an
 have eF:b.length≤9223372036854775807:=hf.1.1
 clear hf
 have į:(0:Int)<b.length:=by omega
 with_reducible and_intros
 iterate 2 omega
 · intro h1
   try simp only [dt] at h1
   refine⟨?_,?_⟩
   · rw [S.uf1 (b:=b) (by with_reducible assumption)]
   rw [S.uf1 (b:=b) (by with_reducible assumption)]
 intro h2
 try simp only [df] at h2
 with_reducible and_intros
 iterate 2 omega
 · intro h3
   try simp only [dt] at h3
   with_reducible and_intros
   iterate 2 omega
   · intro h4
     try simp only [dt] at h4
     refine⟨?_,?_⟩
     · (have hn:=S.oq (b:=b) (by with_reducible assumption) (by with_reducible assumption);rw [S.nC hn (by omega) (by omega)])
     (have hn:=S.oq (b:=b) (by with_reducible assumption) (by with_reducible assumption);rw [S.nC hn (by omega) (by omega)])
   intro h5
   try simp only [df] at h5
   with_reducible and_intros
   iterate 3 omega
   · refine⟨(nat_lit 0:Nat),?_⟩
     try dsimp only
     with_reducible and_intros
     omega
     · (have hn:=S.oq (b:=b) (by with_reducible assumption) (by with_reducible assumption);exact S.anM (by with_reducible assumption))
     · (have hn:=S.oq (b:=b) (by with_reducible assumption) (by with_reducible assumption);exact S.LO hn (by omega) (by omega))
   intro x6 h7
   refine⟨?_,?_⟩
   · intro h8
     try simp only [dt] at h8
     with_reducible and_intros
     iterate 4 omega
     · intro h9
       try simp only [nt,df,tn] at h9
       refine⟨?_,?_⟩
       · have hn:=S.oq (b:=b) (by with_reducible assumption) (by with_reducible assumption)
         have hb:=S.bn h7
         have hx:(x6:Int)+1<2:=by(have hc:=S.bI b 2 (by omega) (by omega);simp only [hc,show Int.toNat 2=2 by rfl] at *;omega)
         simp only [S.gH b 2 x6 hx,S.jr b 2 x6 hx] at *
         rw [S.qe hn h7 (by omega) (by with_reducible assumption)]
       have hn:=S.oq (b:=b) (by with_reducible assumption) (by with_reducible assumption)
       have hb:=S.bn h7
       have hx:(x6:Int)+1<2:=by(have hc:=S.bI b 2 (by omega) (by omega);simp only [hc,show Int.toNat 2=2 by rfl] at *;omega)
       simp only [S.gH b 2 x6 hx,S.jr b 2 x6 hx] at *
       rw [S.qe hn h7 (by omega) (by with_reducible assumption)]
     intro c5
     try simp only [nf,dt,tn] at c5
     with_reducible and_intros
     iterate 2 omega
     iterate 3
      · (have hn:=S.oq (b:=b) (by with_reducible assumption) (by with_reducible assumption);(have hb:=S.bn h7;(try simp only [S.bI b 2 (by omega) (by omega),show Int.toNat 2=2 by rfl] at *);simp only [show Int.toNat 6=6 by rfl,S.ag] at *;omega))
     exact Int.natCast_nonneg _
     omega
     · (have hn:=S.oq (b:=b) (by with_reducible assumption) (by with_reducible assumption);(have hb:=S.bn h7;(try simp only [S.bI b 2 (by omega) (by omega),show Int.toNat 2=2 by rfl] at *);omega))
     refine⟨(x6+nat_lit 1),?_⟩
     try dsimp only
     with_reducible and_intros
     omega
     · have hn:=S.oq (b:=b) (by with_reducible assumption) (by with_reducible assumption)
       have hb:=S.bn h7
       have hx:(x6:Int)+1<2:=by(have hc:=S.bI b 2 (by omega) (by omega);simp only [hc,show Int.toNat 2=2 by rfl] at *;omega)
       rw [S.gH b 2 x6 hx]
       exact S.LQ h7 (by omega)
     · have hn:=S.oq (b:=b) (by with_reducible assumption) (by with_reducible assumption)
       have hb:=S.bn h7
       have hx:(x6:Int)+1<2:=by(have hc:=S.bI b 2 (by omega) (by omega);simp only [hc,show Int.toNat 2=2 by rfl] at *;omega)
       simp only [S.gH b 2 x6 hx,S.jr b 2 x6 hx] at *
       exact S.HV h7 (by with_reducible assumption) (by omega)
     · (have hn:=S.oq (b:=b) (by with_reducible assumption) (by with_reducible assumption);(have hb:=S.bn h7;(try simp only [S.bI b 2 (by omega) (by omega),show Int.toNat 2=2 by rfl] at *);simp only [show Int.toNat 6=6 by rfl,S.ag] at *;omega))
   intro fM
   try simp only [df] at fM
   with_reducible and_intros
   trivial
   · intro dB
     try simp only [nt] at dB
     trivial
   · intro kA
     try simp only [nf] at kA
     trivial
   · intro eX
     try simp only [V.pP,nt,df] at eX
     refine⟨?_,?_⟩
     · have hn:=S.oq (b:=b) (by with_reducible assumption) (by with_reducible assumption)
       have hb:=S.bn h7
       have hc:=S.bI b 2 (by omega) (by omega)
       rw [hc] at fM
       have hx:x6+1=2:=by omega
       rw [S.qg hn h7 hx eX rfl]
     have hn:=S.oq (b:=b) (by with_reducible assumption) (by with_reducible assumption)
     have hb:=S.bn h7
     have hc:=S.bI b 2 (by omega) (by omega)
     rw [hc] at fM
     have hx:x6+1=2:=by omega
     rw [S.qg hn h7 hx eX rfl]
   intro k9
   try simp only [V.gh,nf,dt] at k9
   refine⟨?_,?_⟩
   · have hn:=S.oq (b:=b) (by with_reducible assumption) (by with_reducible assumption)
     have hb:=S.bn h7
     have hc:=S.bI b 2 (by omega) (by omega)
     rw [hc] at fM
     have hx:x6+1=2:=by omega
     rw [S.qh hn h7 hx k9 rfl]
   have hn:=S.oq (b:=b) (by with_reducible assumption) (by with_reducible assumption)
   have hb:=S.bn h7
   have hc:=S.bI b 2 (by omega) (by omega)
   rw [hc] at fM
   have hx:x6+1=2:=by omega
   rw [S.qh hn h7 hx k9 rfl]
 intro EC
 try simp only [df] at EC
 with_reducible and_intros
 iterate 2 omega
 · intro Kx
   try simp only [dt] at Kx
   with_reducible and_intros
   iterate 2 omega
   · intro y7
     try simp only [dt] at y7
     refine⟨?_,?_⟩
     · (have hn:=S.ot (b:=b) (by with_reducible assumption) (by with_reducible assumption) (by with_reducible assumption);rw [S.nC hn (by omega) (by omega)])
     (have hn:=S.ot (b:=b) (by with_reducible assumption) (by with_reducible assumption) (by with_reducible assumption);rw [S.nC hn (by omega) (by omega)])
   intro Ky
   try simp only [df] at Ky
   with_reducible and_intros
   iterate 3 omega
   · refine⟨(nat_lit 0:Nat),?_⟩
     try dsimp only
     with_reducible and_intros
     omega
     · (have hn:=S.ot (b:=b) (by with_reducible assumption) (by with_reducible assumption) (by with_reducible assumption);exact S.anN (by with_reducible assumption) (by with_reducible assumption))
     · (have hn:=S.ot (b:=b) (by with_reducible assumption) (by with_reducible assumption) (by with_reducible assumption);exact S.LO hn (by omega) (by omega))
   intro uK oK
   refine⟨?_,?_⟩
   · intro h22
     try simp only [dt] at h22
     with_reducible and_intros
     iterate 4 omega
     · intro h23
       try simp only [nt,df,tn] at h23
       refine⟨?_,?_⟩
       · have hn:=S.ot (b:=b) (by with_reducible assumption) (by with_reducible assumption) (by with_reducible assumption)
         have hb:=S.bn oK
         have hx:(uK:Int)+1<3:=by(have hc:=S.bI b 3 (by omega) (by omega);simp only [hc,show Int.toNat 3=3 by rfl] at *;omega)
         simp only [S.gH b 3 uK hx,S.jr b 3 uK hx] at *
         rw [S.qe hn oK (by omega) (by with_reducible assumption)]
       have hn:=S.ot (b:=b) (by with_reducible assumption) (by with_reducible assumption) (by with_reducible assumption)
       have hb:=S.bn oK
       have hx:(uK:Int)+1<3:=by(have hc:=S.bI b 3 (by omega) (by omega);simp only [hc,show Int.toNat 3=3 by rfl] at *;omega)
       simp only [S.gH b 3 uK hx,S.jr b 3 uK hx] at *
       rw [S.qe hn oK (by omega) (by with_reducible assumption)]
     intro h24
     try simp only [nf,dt,tn] at h24
     with_reducible and_intros
     iterate 2 omega
     iterate 3
      · (have hn:=S.ot (b:=b) (by with_reducible assumption) (by with_reducible assumption) (by with_reducible assumption);(have hb:=S.bn oK;(try simp only [S.bI b 3 (by omega) (by omega),show Int.toNat 3=3 by rfl] at *);simp only [show Int.toNat 6=6 by rfl,S.ag] at *;omega))
     exact Int.natCast_nonneg _
     omega
     · (have hn:=S.ot (b:=b) (by with_reducible assumption) (by with_reducible assumption) (by with_reducible assumption);(have hb:=S.bn oK;(try simp only [S.bI b 3 (by omega) (by omega),show Int.toNat 3=3 by rfl] at *);omega))
     refine⟨(uK+nat_lit 1),?_⟩
     try dsimp only
     with_reducible and_intros
     omega
     · have hn:=S.ot (b:=b) (by with_reducible assumption) (by with_reducible assumption) (by with_reducible assumption)
       have hb:=S.bn oK
       have hx:(uK:Int)+1<3:=by(have hc:=S.bI b 3 (by omega) (by omega);simp only [hc,show Int.toNat 3=3 by rfl] at *;omega)
       rw [S.gH b 3 uK hx]
       exact S.LQ oK (by omega)
     · have hn:=S.ot (b:=b) (by with_reducible assumption) (by with_reducible assumption) (by with_reducible assumption)
       have hb:=S.bn oK
       have hx:(uK:Int)+1<3:=by(have hc:=S.bI b 3 (by omega) (by omega);simp only [hc,show Int.toNat 3=3 by rfl] at *;omega)
       simp only [S.gH b 3 uK hx,S.jr b 3 uK hx] at *
       exact S.HV oK (by with_reducible assumption) (by omega)
     · (have hn:=S.ot (b:=b) (by with_reducible assumption) (by with_reducible assumption) (by with_reducible assumption);(have hb:=S.bn oK;(try simp only [S.bI b 3 (by omega) (by omega),show Int.toNat 3=3 by rfl] at *);simp only [show Int.toNat 6=6 by rfl,S.ag] at *;omega))
   intro WL
   try simp only [df] at WL
   with_reducible and_intros
   trivial
   · intro h26
     try simp only [nt] at h26
     trivial
   · intro h27
     try simp only [nf] at h27
     trivial
   · intro h28
     try simp only [V.pP,nt,df] at h28
     refine⟨?_,?_⟩
     · have hn:=S.ot (b:=b) (by with_reducible assumption) (by with_reducible assumption) (by with_reducible assumption)
       have hb:=S.bn oK
       have hc:=S.bI b 3 (by omega) (by omega)
       rw [hc] at WL
       have hx:uK+1=3:=by omega
       rw [S.qg hn oK hx h28 rfl]
     have hn:=S.ot (b:=b) (by with_reducible assumption) (by with_reducible assumption) (by with_reducible assumption)
     have hb:=S.bn oK
     have hc:=S.bI b 3 (by omega) (by omega)
     rw [hc] at WL
     have hx:uK+1=3:=by omega
     rw [S.qg hn oK hx h28 rfl]
   intro h29
   try simp only [V.gh,nf,dt] at h29
   refine⟨?_,?_⟩
   · have hn:=S.ot (b:=b) (by with_reducible assumption) (by with_reducible assumption) (by with_reducible assumption)
     have hb:=S.bn oK
     have hc:=S.bI b 3 (by omega) (by omega)
     rw [hc] at WL
     have hx:uK+1=3:=by omega
     rw [S.qh hn oK hx h29 rfl]
   have hn:=S.ot (b:=b) (by with_reducible assumption) (by with_reducible assumption) (by with_reducible assumption)
   have hb:=S.bn oK
   have hc:=S.bI b 3 (by omega) (by omega)
   rw [hc] at WL
   have hx:uK+1=3:=by omega
   rw [S.qh hn oK hx h29 rfl]
 intro h30
 try simp only [df] at h30
 with_reducible and_intros
 iterate 2 omega
 · intro h31
   try simp only [dt] at h31
   with_reducible and_intros
   iterate 2 omega
   · intro h32
     try simp only [dt] at h32
     refine⟨?_,?_⟩
     · (have hn:=S.ou (b:=b) (by with_reducible assumption) (by with_reducible assumption) (by with_reducible assumption) (by with_reducible assumption);rw [S.nC hn (by omega) (by omega)])
     (have hn:=S.ou (b:=b) (by with_reducible assumption) (by with_reducible assumption) (by with_reducible assumption) (by with_reducible assumption);rw [S.nC hn (by omega) (by omega)])
   intro h33
   try simp only [df] at h33
   with_reducible and_intros
   iterate 3 omega
   · refine⟨(nat_lit 0:Nat),?_⟩
     try dsimp only
     with_reducible and_intros
     omega
     · (have hn:=S.ou (b:=b) (by with_reducible assumption) (by with_reducible assumption) (by with_reducible assumption) (by with_reducible assumption);exact S.anO (by with_reducible assumption) (by with_reducible assumption))
     · (have hn:=S.ou (b:=b) (by with_reducible assumption) (by with_reducible assumption) (by with_reducible assumption) (by with_reducible assumption);exact S.LO hn (by omega) (by omega))
   intro uM rI
   refine⟨?_,?_⟩
   · intro h36
     try simp only [dt] at h36
     with_reducible and_intros
     iterate 4 omega
     · intro h37
       try simp only [nt,df,tn] at h37
       refine⟨?_,?_⟩
       · have hn:=S.ou (b:=b) (by with_reducible assumption) (by with_reducible assumption) (by with_reducible assumption) (by with_reducible assumption)
         have hb:=S.bn rI
         have hx:(uM:Int)+1<4:=by(have hc:=S.bI b 4 (by omega) (by omega);simp only [hc,show Int.toNat 4=4 by rfl] at *;omega)
         simp only [S.gH b 4 uM hx,S.jr b 4 uM hx] at *
         rw [S.qe hn rI (by omega) (by with_reducible assumption)]
       have hn:=S.ou (b:=b) (by with_reducible assumption) (by with_reducible assumption) (by with_reducible assumption) (by with_reducible assumption)
       have hb:=S.bn rI
       have hx:(uM:Int)+1<4:=by(have hc:=S.bI b 4 (by omega) (by omega);simp only [hc,show Int.toNat 4=4 by rfl] at *;omega)
       simp only [S.gH b 4 uM hx,S.jr b 4 uM hx] at *
       rw [S.qe hn rI (by omega) (by with_reducible assumption)]
     intro h38
     try simp only [nf,dt,tn] at h38
     with_reducible and_intros
     iterate 2 omega
     iterate 3
      · (have hn:=S.ou (b:=b) (by with_reducible assumption) (by with_reducible assumption) (by with_reducible assumption) (by with_reducible assumption);(have hb:=S.bn rI;(try simp only [S.bI b 4 (by omega) (by omega),show Int.toNat 4=4 by rfl] at *);simp only [show Int.toNat 6=6 by rfl,S.ag] at *;omega))
     exact Int.natCast_nonneg _
     omega
     · (have hn:=S.ou (b:=b) (by with_reducible assumption) (by with_reducible assumption) (by with_reducible assumption) (by with_reducible assumption);(have hb:=S.bn rI;(try simp only [S.bI b 4 (by omega) (by omega),show Int.toNat 4=4 by rfl] at *);omega))
     refine⟨(uM+nat_lit 1),?_⟩
     try dsimp only
     with_reducible and_intros
     omega
     · have hn:=S.ou (b:=b) (by with_reducible assumption) (by with_reducible assumption) (by with_reducible assumption) (by with_reducible assumption)
       have hb:=S.bn rI
       have hx:(uM:Int)+1<4:=by(have hc:=S.bI b 4 (by omega) (by omega);simp only [hc,show Int.toNat 4=4 by rfl] at *;omega)
       rw [S.gH b 4 uM hx]
       exact S.LQ rI (by omega)
     · have hn:=S.ou (b:=b) (by with_reducible assumption) (by with_reducible assumption) (by with_reducible assumption) (by with_reducible assumption)
       have hb:=S.bn rI
       have hx:(uM:Int)+1<4:=by(have hc:=S.bI b 4 (by omega) (by omega);simp only [hc,show Int.toNat 4=4 by rfl] at *;omega)
       simp only [S.gH b 4 uM hx,S.jr b 4 uM hx] at *
       exact S.HV rI (by with_reducible assumption) (by omega)
     · (have hn:=S.ou (b:=b) (by with_reducible assumption) (by with_reducible assumption) (by with_reducible assumption) (by with_reducible assumption);(have hb:=S.bn rI;(try simp only [S.bI b 4 (by omega) (by omega),show Int.toNat 4=4 by rfl] at *);simp only [show Int.toNat 6=6 by rfl,S.ag] at *;omega))
   intro WM
   try simp only [df] at WM
   with_reducible and_intros
   trivial
   · intro Ě
     try simp only [nt] at Ě
     trivial
   · intro h41
     try simp only [nf] at h41
     trivial
   · intro h42
     try simp only [V.pP,nt,df] at h42
     refine⟨?_,?_⟩
     · have hn:=S.ou (b:=b) (by with_reducible assumption) (by with_reducible assumption) (by with_reducible assumption) (by with_reducible assumption)
       have hb:=S.bn rI
       have hc:=S.bI b 4 (by omega) (by omega)
       rw [hc] at WM
       have hx:uM+1=4:=by omega
       rw [S.qg hn rI hx h42 rfl]
     have hn:=S.ou (b:=b) (by with_reducible assumption) (by with_reducible assumption) (by with_reducible assumption) (by with_reducible assumption)
     have hb:=S.bn rI
     have hc:=S.bI b 4 (by omega) (by omega)
     rw [hc] at WM
     have hx:uM+1=4:=by omega
     rw [S.qg hn rI hx h42 rfl]
   intro h43
   try simp only [V.gh,nf,dt] at h43
   refine⟨?_,?_⟩
   · have hn:=S.ou (b:=b) (by with_reducible assumption) (by with_reducible assumption) (by with_reducible assumption) (by with_reducible assumption)
     have hb:=S.bn rI
     have hc:=S.bI b 4 (by omega) (by omega)
     rw [hc] at WM
     have hx:uM+1=4:=by omega
     rw [S.qh hn rI hx h43 rfl]
   have hn:=S.ou (b:=b) (by with_reducible assumption) (by with_reducible assumption) (by with_reducible assumption) (by with_reducible assumption)
   have hb:=S.bn rI
   have hc:=S.bI b 4 (by omega) (by omega)
   rw [hc] at WM
   have hx:uM+1=4:=by omega
   rw [S.qh hn rI hx h43 rfl]
 intro h44
 try simp only [df] at h44
 refine⟨?_,?_⟩
 · rw [S.uf0 (b:=b) (by with_reducible assumption) (by with_reducible assumption) (by with_reducible assumption) (by with_reducible assumption)]
 rw [S.uf0 (b:=b) (by with_reducible assumption) (by with_reducible assumption) (by with_reducible assumption) (by with_reducible assumption)]
theorem ahI(b:List UInt8)(hp:S.small b)(hf:Vg.Row.ok (Vg.PS.flat [.one (.slice [.int .u8])]) b):Vp b:=by
 delta Vp z0
 have eF:b.length≤9223372036854775807:=hf.1.1
 clear hf
 simp only [S.small] at hp
 refine⟨?_,?_⟩
 · refine⟨((b),([])),?_⟩
   try dsimp only
   with_reducible and_intros
   iterate 2 with_reducible rfl
   exact S.afY b
 intro x1 h2
 refine⟨?_,?_⟩
 · intro h3
   try simp only [dt] at h3
   with_reducible and_intros
   omega
   · (have hd:=S.HW h2 (by with_reducible assumption);simp only [S.len,List.length_drop,lc,ln] at *;omega)
   iterate 2
    · (have hd:=S.HW h2 (by with_reducible assumption);omega)
   refine⟨((List.drop (Int.toNat (Prod.snd (S.aK (Prod.fst x1)))) (Prod.fst x1)),(Prod.snd x1++ [Prod.fst (S.aK (Prod.fst x1))])),?_⟩
   try dsimp only
   with_reducible and_intros
   iterate 2 with_reducible rfl
   exact S.E5 h2 h3
   · (have hd:=S.HW h2 (by with_reducible assumption);simp only [S.len,List.length_drop,lc,ln] at *;omega)
 intro h4
 try simp only [df] at h4
 exact(S.JG h2 (by with_reducible assumption))
theorem ahJ(c:Int)(hp:True)(hf:Vg.Row.ok (Vg.PS.flat [.one (.int .i64)]) c):Vq c:=by
 delta Vq q74 aC z0 z1
 have rS: -9223372036854775808≤c∧c≤9223372036854775807:=hf.1
 clear hf
 refine⟨?_,?_⟩
 · refine⟨(nat_lit 0:Nat),?_⟩
   try dsimp only
   refine⟨?_,?_⟩
   · omega
   simp [S.kt]
 intro x1 h2
 refine⟨?_,?_⟩
 · intro h3
   try simp only [dt] at h3
   with_reducible and_intros
   iterate 2 omega
   · intro h4
     try simp only [V.Jt,dt,tn] at h4
     exact S.LS (x:=x1) (by omega) (S.LW h4)
   intro h5
   try simp only [V.xw,df,tn] at h5
   with_reducible and_intros
   iterate 2 omega
   refine⟨(x1+nat_lit 1),?_⟩
   try dsimp only
   with_reducible and_intros
   omega
   exact S.LU (x:=x1) h2 (by omega) (S.TL h5)
   simp only [S.ag];omega
 intro h6
 try simp only [df] at h6
 exact S.LV h2 (by omega)
theorem ahK(c:Int)(hp:True)(hf:Vg.Row.ok (Vg.PS.flat [.one (.int .i64)]) c):Vr c:=by
 unfold Vr
 have rS: -9223372036854775808≤c∧c≤9223372036854775807:=hf.1
 clear hf
 simp only [S.digit];grind
theorem ahL(c:Int)(hp:True)(hf:Vg.Row.ok (Vg.PS.flat [.one (.int .i64)]) c):Vs c:=by
 delta Vs q75 aC z0 z1
 have rS: -9223372036854775808≤c∧c≤9223372036854775807:=hf.1
 clear hf
 refine⟨?_,?_⟩
 · refine⟨(nat_lit 0:Nat),?_⟩
   try dsimp only
   refine⟨?_,?_⟩
   · omega
   simp [S.kS]
 intro x1 h2
 refine⟨?_,?_⟩
 · intro h3
   try simp only [dt] at h3
   with_reducible and_intros
   iterate 2 omega
   · intro h4
     try simp only [V.Jt,dt,tn] at h4
     with_reducible and_intros
     iterate 2
      · have hs:=(S.E7 (c:=c) (x:=x1) h2 h3 (S.LW h4)).2
        clear h4
        generalize List.getD [32,32,32,32,32,80,32] (Int.toNat (x1:Int)) (0:Int)=X at *
        omega
     exact(S.E7 (x:=x1) h2 (by omega) (S.LW h4)).1
   intro h5
   try simp only [V.xw,df,tn] at h5
   with_reducible and_intros
   iterate 2 omega
   refine⟨(x1+nat_lit 1),?_⟩
   try dsimp only
   with_reducible and_intros
   omega
   exact S.Rk (x:=x1) h2 (by omega) (S.TL h5)
   simp only [S.ag];omega
 intro h6
 try simp only [df] at h6
 exact S.Rl h2 (by omega)
theorem ahM(c:Int)(a:Int)(b:Int)(hp:True)(hf:Vg.Row.ok (Vg.PS.flat [.one (.int .i64), .one (.int .i64), .one (.int .i64)]) (c,a,b)):Vt c a b:=by
 unfold Vt
 have rS: -9223372036854775808≤c∧c≤9223372036854775807:=hf.1
 have ya: -9223372036854775808≤a∧a≤9223372036854775807:=hf.2.1
 have eF: -9223372036854775808≤b∧b≤9223372036854775807:=hf.2.2.1
 clear hf
 simp only [S.bz];grind
theorem ahN(c:Int)(hp:True)(hf:Vg.Row.ok (Vg.PS.flat [.one (.int .i64)]) c):Vu c:=by
 delta Vu z0
 have rS: -9223372036854775808≤c∧c≤9223372036854775807:=hf.1
 clear hf
 simp only [S.gY];grind
theorem ahO(c:Int)(hp:0≤c∧c≤1114111)(hf:Vg.Row.ok (Vg.PS.flat [.one (.int .i64)]) c):Vw c:=by
 delta Vw q76 My Io aC z0
 have rS: -9223372036854775808≤c∧c≤9223372036854775807:=hf.1
 clear hf
 refine⟨?_,?_⟩
 · intro h1
   try simp only [dt] at h1
   exact S.ņ c (by omega) (by omega)
 intro h2
 try simp only [df] at h2
 refine⟨?_,?_⟩
 · intro h3
   try simp only [dt] at h3
   with_reducible and_intros
   iterate 8 omega
   exact S.Ň c (by omega) (by omega)
 intro h4
 try simp only [df] at h4
 refine⟨?_,?_⟩
 · intro h5
   try simp only [dt] at h5
   with_reducible and_intros
   iterate 14 omega
   exact S.ň c (by omega) (by omega)
 intro h6
 try simp only [df] at h6
 with_reducible and_intros
 iterate 20 omega
 exact S.ŉ c (by omega) (by omega) (by omega)
theorem ahP(a:Int)(b:Int)(hp:True)(hf:Vg.Row.ok (Vg.PS.flat [.one (.int .i64), .one (.int .i64)]) (a,b)):Vx a b:=by
 unfold Vx
 have ya: -9223372036854775808≤a∧a≤9223372036854775807:=hf.1
 have eF: -9223372036854775808≤b∧b≤9223372036854775807:=hf.2.1
 clear hf
 refine⟨?_,?_⟩
 · intro h1
   try simp only [dt] at h1
   simp only [S.iA];grind
 intro h2
 try simp only [df] at h2
 simp only [S.iA];grind
theorem ahQ(c:Int)(hp:True)(hf:Vg.Row.ok (Vg.PS.flat [.one (.int .i64)]) c):Vy c:=by
 unfold Vy
 have rS: -9223372036854775808≤c∧c≤9223372036854775807:=hf.1
 clear hf
 with_reducible and_intros
 trivial
 · intro h1
   trivial
 · intro h2
   with_reducible and_intros
   trivial
   · intro h3
     trivial
   intro h4
   with_reducible and_intros
   trivial
   · intro h5
     trivial
   intro h6
   with_reducible and_intros
   trivial
   · intro h7
     trivial
   intro h8
   with_reducible and_intros
   trivial
   · intro h9
     trivial
   intro c5
   with_reducible and_intros
   trivial
   · intro fM
     trivial
   intro dB
   with_reducible and_intros
   trivial
   · intro kA
     trivial
   intro eX
   with_reducible and_intros
   trivial
   · intro k9
     trivial
   intro EC
   trivial
 rw [S.Cr];grind
theorem ahR(c:Int)(hp:True)(hf:Vg.Row.ok (Vg.PS.flat [.one (.int .i64)]) c):Vz c:=by
 delta Vz Ak aC
 have rS: -9223372036854775808≤c∧c≤9223372036854775807:=hf.1
 clear hf
 with_reducible and_intros
 trivial
 · intro h1
   with_reducible and_intros
   iterate 2
    · have :=S.qj (by with_reducible assumption);omega
   have :=S.qj (by with_reducible assumption);omega
 intro h2
 with_reducible and_intros
 trivial
 · intro h3
   trivial
 · intro h4
   with_reducible and_intros
   trivial
   · intro h5
     trivial
   intro h6
   with_reducible and_intros
   trivial
   · intro h7
     trivial
   intro h8
   with_reducible and_intros
   trivial
   · intro h9
     trivial
   intro c5
   with_reducible and_intros
   trivial
   · intro fM
     trivial
   intro dB
   trivial
 · intro kA
   try simp only [V.pP] at kA
   with_reducible and_intros
   iterate 2
    · have :=S.qk (by with_reducible assumption) (by grind);omega
   have :=S.qk (by with_reducible assumption) (by grind);omega
 intro eX
 try simp only [V.gh] at eX
 exact S.ql (by with_reducible assumption) (by grind)
theorem ahS(b:List UInt8)(n:Int)(hp:S.ur b n)(hf:Vg.Row.ok (Vg.PS.flat [.one (.slice [.int .u8]), .one (.int .i64)]) (b,n)):VA b n:=by
 delta VA Sj aC z0 z1 an
 have eF:b.length≤9223372036854775807:=hf.1.1
 have WB: -9223372036854775808≤n∧n≤9223372036854775807:=hf.2.1
 clear hf
 have la:=hp
 simp only [S.ur] at la
 refine⟨?_,?_⟩
 · intro h1
   try simp only [dt] at h1
   exact S.JL (by omega)
 intro h2
 try simp only [df] at h2
 with_reducible and_intros
 iterate 3 omega
 iterate 2
  · simp only [lc,ln];omega
 iterate 2
  · have h1:=S.Cs b n 0 (by omega);have h2:=S.E9 (b:=b) (n:=n);rw [h2];omega
 · refine⟨(nat_lit 1:Nat),?_⟩
   try dsimp only
   with_reducible and_intros
   omega
   exact S.E9
   simp only [S.lY,S.ag] at *;omega
 intro x3 h4
 refine⟨?_,?_⟩
 · intro h5
   try simp only [dt] at h5
   with_reducible and_intros
   iterate 2
    · have hq:=S.M9 (by with_reducible assumption) hp;have :=(List.getD b (Int.toNat (x3:Int)) 0).toNat_lt;omega
   iterate 2 omega
   iterate 4
    · have hq:=S.M9 (by with_reducible assumption) hp;have :=(List.getD b (Int.toNat (x3:Int)) 0).toNat_lt;omega
   iterate 2 omega
   refine⟨(x3+nat_lit 1),?_⟩
   try dsimp only
   with_reducible and_intros
   omega
   exact S.Rp (by with_reducible assumption)
   · simp only [S.lY,S.ag] at *;omega
   simp only [S.lY,S.ag] at *;omega
 intro h6
 try simp only [df] at h6
 exact S.TT (by with_reducible assumption) (by omega)
theorem ahT(b:List UInt8)(hp:S.small b)(hf:Vg.Row.ok (Vg.PS.flat [.one (.slice [.int .u8])]) b):VB b:=by
 delta VB Sk Ip Mz Kt aC z0 z1 an
 have eF:b.length≤9223372036854775807:=hf.1.1
 clear hf
 have la:b.length≤1099511627776:=by have :=hp;simp only [S.small] at this;omega
 refine⟨?_,?_⟩
 · refine⟨((nat_lit 0:Nat),([])),?_⟩
   try dsimp only
   with_reducible and_intros
   omega
   rfl
   exact S.Ŋ b
   omega
 intro x1 h2
 refine⟨?_,?_⟩
 · intro h3
   try simp only [dt] at h3
   refine⟨?_,?_⟩
   · refine⟨(0,x1.1),?_⟩
     try dsimp only
     with_reducible and_intros
     omega
     iterate 2 rfl
     iterate 2 omega
   intro x4 h5
   refine⟨?_,?_⟩
   · intro h6
     try simp only [dt] at h6
     with_reducible and_intros
     iterate 2 omega
     · simp only [S.ur,List.length_drop];omega
     trivial
     · intro h7
       with_reducible and_intros
       iterate 2
        · have :=S.LZ h7;omega
       iterate 2 omega
       trivial
       omega
       · simp only [S.iA];split<;>omega
       simp only [S.iA];split<;>omega
     · intro h8
       trivial
     iterate 2 omega
     refine⟨(x4.1+1,x1.1),?_⟩
     try dsimp only
     with_reducible and_intros
     omega
     rw [S.Fa (x4:=x4) h3 h5,S.Rr]
     rw [S.Fa (x4:=x4) h3 h5,S.Rs]
     iterate 2 omega
     simp only [S.ag];omega
   intro h9
   try simp only [df] at h9
   with_reducible and_intros
   · have hq:=S.lK h2 h3 h5 h9
     simp only [lc,ln];omega
   iterate 2
    · have hq:=S.lK h2 h3 h5 h9
      omega
   refine⟨((Int.toNat ((↑(Prod.fst x1):Int)+Prod.snd (S.eD (List.drop (Prod.snd x4) b) (Prod.fst x4)))),(Prod.snd x1++ [Prod.fst (S.eD (List.drop (Prod.snd x4) b) (Prod.fst x4))])),?_⟩
   try dsimp only
   with_reducible and_intros
   · have hq:=S.lK h2 h3 h5 h9
     omega
   rfl
   · have hq:=S.lK h2 h3 h5 h9
     exact hq.2.2.1
   · have hq:=S.lK h2 h3 h5 h9
     omega
   have hq:=S.lK h2 h3 h5 h9
   simp only [S.ag,S.len];omega
 intro c5
 try simp only [df] at c5
 have hq:=S.JG h2.1 (by rw [List.length_drop];omega)
 exact hq
theorem ahU(u:List Int)(hp:S.Ew u)(hf:Vg.Row.ok (Vg.PS.flat [.one (.slice [.int .i64])]) u):VC u:=by
 delta VC q85 aC eS z0 z1 an
 have aov:u.length≤9223372036854775807:=hf.1.1
 clear hf
 have hq:=hp.1
 refine⟨?_,?_⟩
 · refine⟨((nat_lit 0:Nat),([])),?_⟩
   try dsimp only
   with_reducible and_intros
   omega
   rfl
   exact S.Na u
 intro x1 h2
 refine⟨?_,?_⟩
 · intro h3
   try simp only [dt] at h3
   with_reducible and_intros
   iterate 2 omega
   iterate 2 trivial
   omega
   · have :=h2.2.2;have :=S.Fc (S.aR (List.getD u (Int.toNat (x1.1:Int)) 0));omega
   · intro h4
     try simp only [dt,tn] at h4
     exact S.Cu h2 h3 h4
   intro h5
   try simp only [df,tn] at h5
   with_reducible and_intros
   · have :=h2.2.2;have :=S.Fc (S.aR (List.getD u (Int.toNat (x1.1:Int)) 0));omega
   iterate 2 omega
   refine⟨((Prod.fst x1+nat_lit 1),(Prod.snd x1++S.dZ (S.aR (List.getD u (Int.toNat (↑(Prod.fst x1):Int)) (0:Int))))),?_⟩
   try dsimp only
   with_reducible and_intros
   omega
   rfl
   exact S.Ct h2 h3 h5
   simp only [S.ag,S.len];omega
 intro h6
 try simp only [df] at h6
 exact S.Fb h2 (by with_reducible assumption)
theorem ahV(b:List UInt8)(hp:S.small b)(hf:Vg.Row.ok (Vg.PS.flat [.one (.slice [.int .u8])]) b):VD b:=by
 delta VD q86 VH aC z0 z1 an
 have eF:b.length≤9223372036854775807:=hf.1.1
 clear hf
 have la:b.length≤1099511627776:=hp
 with_reducible and_intros
 omega
 · refine⟨((nat_lit 0:Nat),(([]),([]))),?_⟩
   try dsimp only
   with_reducible and_intros
   omega
   iterate 2 with_reducible rfl
   exact S.af0 _
 intro x1 h2
 refine⟨?_,?_⟩
 · intro h3
   try simp only [dt] at h3
   with_reducible and_intros
   iterate 3 omega
   trivial
   · intro h4
     trivial
   · intro h5
     trivial
   · intro h6
     try simp only [V.pP] at h6
     with_reducible and_intros
     · (have hq:=S.kT h2 la;simp only [lc,ln];omega)
     omega
     · (have hq:=S.kT h2 la;omega)
     refine⟨((Prod.fst x1+nat_lit 1),((Prod.fst (Prod.snd x1)),(Prod.snd (Prod.snd x1)++ [List.getD (S.decode b) (Int.toNat (↑(Prod.fst x1):Int)) (0:Int)]))),?_⟩
     try dsimp only
     with_reducible and_intros
     omega
     iterate 2 with_reducible rfl
     exact S.Rt h2 h3 (S.TV (by with_reducible assumption))
     · (have hq:=S.kT h2 la;simp only [S.ag,S.len];omega)
   intro h7
   try simp only [V.gh] at h7
   refine⟨?_,?_⟩
   · intro h8
     try simp only [dt] at h8
     with_reducible and_intros
     · (have hq:=S.kT h2 la;exact hq.1)
     · (have hq:=S.kT h2 la;simp only [lc,ln];omega)
     omega
     · (have hq:=S.kT h2 la;omega)
     refine⟨((Prod.fst x1+nat_lit 1),((Prod.fst (Prod.snd x1)++ [S.c9 (Prod.snd (Prod.snd x1))]),([]))),?_⟩
     try dsimp only
     with_reducible and_intros
     omega
     iterate 2 with_reducible rfl
     exact S.TU h2 h3 (S.JN (by with_reducible assumption)) (by with_reducible assumption)
     · (have hq:=S.kT h2 la;simp only [S.ag,S.len];omega)
   intro h9
   try simp only [df] at h9
   with_reducible and_intros
   omega
   · (have hq:=S.kT h2 la;omega)
   refine⟨((Prod.fst x1+nat_lit 1),((Prod.fst (Prod.snd x1)),(Prod.snd (Prod.snd x1)))),?_⟩
   try dsimp only
   with_reducible and_intros
   omega
   iterate 2 with_reducible rfl
   exact S.Ru h2 h3 (S.JN (by with_reducible assumption)) (by with_reducible assumption)
   · (have hq:=S.kT h2 la;simp only [S.ag,S.len];omega)
 intro c5
 try simp only [df] at c5
 refine⟨?_,?_⟩
 · intro fM
   try simp only [dt] at fM
   with_reducible and_intros
   · (have hq:=S.kT h2 la;exact hq.1)
   · (have hq:=S.kT h2 la;simp only [lc,ln];omega)
   exact S.Rv h2 (by with_reducible assumption) (by with_reducible assumption)
 intro dB
 try simp only [df] at dB
 exact S.Rw h2 (by with_reducible assumption) (by with_reducible assumption)
theorem ahW(s:List UInt8)(hp:S.small s)(hf:Vg.Row.ok (Vg.PS.flat [.one (.str)]) s):VE s:=by
 delta VE z0 z1 an
 have Kw:s.length≤9223372036854775807:=hf.1
 clear hf
 with_reducible and_intros
 omega
 · intro h1
   try simp only [dt] at h1
   with_reducible and_intros
   iterate 3 omega
 · intro h2
   try simp only [df] at h2
   trivial
 exact S.RA s
theorem ahX(c:Int)(hp:True)(hf:Vg.Row.ok (Vg.PS.flat [.one (.int .i64)]) c):VF c:=by
 unfold VF
 have rS: -9223372036854775808≤c∧c≤9223372036854775807:=hf.1
 clear hf
 refine⟨?_,?_⟩
 · trivial
 exact S.RB c
theorem ahY(u:List Int)(hp:S.Ew u)(hf:Vg.Row.ok (Vg.PS.flat [.one (.slice [.int .i64])]) u):VG u:=by
 delta VG Iq aC z0 z1 an
 have aov:u.length≤9223372036854775807:=hf.1.1
 clear hf
 have hq:=hp.1
 refine⟨?_,?_⟩
 · refine⟨((nat_lit 0:Nat),([])),?_⟩
   try dsimp only
   with_reducible and_intros
   omega
   with_reducible rfl
   exact S.Na u
 intro x1 h2
 refine⟨?_,?_⟩
 · intro h3
   try simp only [dt] at h3
   with_reducible and_intros
   iterate 2 omega
   trivial
   · (have he:=S.ow hp h3;exact he.2.1)
   · (have he:=S.ow hp h3;exact he.2.2)
   omega
   · (have he:=S.ow hp h3;have :=h2.2.2;have :=S.Cv (S.aR (List.getD u (Int.toNat (x1.1:Int)) 0));omega)
   · intro h4
     try simp only [dt,tn] at h4
     have he:=(S.ow hp h3).1
     simp only [tn] at *
     rw [←he] at h4
     exact S.Cu h2 h3 h4
   intro h5
   try simp only [df,tn] at h5
   with_reducible and_intros
   · (have he:=S.ow hp h3;have :=h2.2.2;have :=S.Cv (S.aR (List.getD u (Int.toNat (x1.1:Int)) 0));omega)
   iterate 2 omega
   refine⟨((Prod.fst x1+nat_lit 1),(Prod.snd x1++S.enc (S.aR (List.getD u (Int.toNat (↑(Prod.fst x1):Int)) (0:Int))))),?_⟩
   try dsimp only
   with_reducible and_intros
   omega
   with_reducible rfl
   · have he:=(S.ow hp h3).1
     simp only [tn] at *
     rw [←he] at h5 ⊢
     exact S.Ct h2 h3 h5
   · (have he:=S.ow hp h3;simp only [S.ag,S.len];omega)
 intro h6
 try simp only [df] at h6
 exact S.Fb h2 (by with_reducible assumption)
theorem ahZ(b:List UInt8)(hp:S.small b)(hf:Vg.Row.ok (Vg.PS.flat [.one (.slice [.int .u8])]) b):VI b:=by
 delta VI q89 q90 q91 aC z0 z1 an
 have eF:b.length≤9223372036854775807:=hf.1.1
 clear hf
 have la:b.length≤1099511627776:=hp
 have SB:=S.my b
 with_reducible and_intros
 omega
 · refine⟨((nat_lit 0:Nat),([])),?_⟩
   try dsimp only
   with_reducible and_intros
   omega
   with_reducible rfl
   exact S.ŋ _
 intro x1 h2
 refine⟨?_,?_⟩
 · intro h3
   try simp only [dt] at h3
   refine⟨?_,?_⟩
   · refine⟨((Prod.fst x1),(Prod.fst x1)),?_⟩
     try dsimp only
     with_reducible and_intros
     omega
     exact S.af1 h3
     omega
   intro x4 h5
   with_reducible and_intros
   · intro h6
     try simp only [dt] at h6
     with_reducible and_intros
     iterate 3 omega
     trivial
   · intro h7
     try simp only [df] at h7
     trivial
   · intro h8
     try simp only [V.Jt,dt] at h8
     with_reducible and_intros
     iterate 2 omega
     refine⟨((Prod.fst x4+nat_lit 1),(Prod.fst x1)),?_⟩
     try dsimp only
     with_reducible and_intros
     omega
     · rw [show x4.2=x1.1 by omega] at h5
       exact S.Rx h5.1 h8.1 h8.2
     omega
     · (have :=h2.2.1;have :=h2.2.2;simp only [S.ag,S.len];omega)
   intro h9
   try simp only [V.xw,df] at h9
   refine⟨?_,?_⟩
   · intro c5
     try simp only [dt] at c5
     with_reducible and_intros
     iterate 2 omega
     · have hr:=h5.1.1
       have ĭ:=h5.1.2.1
       omega
     exact S.Ō la
     · (have :=h2.2.1;have :=h2.2.2;simp only [lc,ln];omega)
     omega
     · have hr:=h5.1.1
       have ĭ:=h5.1.2.1
       omega
     refine⟨((Prod.fst x4+nat_lit 1),(Prod.snd x1++ [S.c9 (List.take (Int.toNat (↑(Prod.fst x4):Int)-Int.toNat (↑(Prod.fst x1):Int)) (List.drop (Int.toNat (↑(Prod.fst x1):Int)) (S.decode b)))])),?_⟩
     try dsimp only
     with_reducible and_intros
     omega
     with_reducible rfl
     · rw [show x4.2=x1.1 by omega] at h5
       exact S.Ry h2 h5.1 h9 c5
     · (have :=h2.2.1;have :=h2.2.2;simp only [S.ag,S.len];omega)
   intro fM
   try simp only [df] at fM
   with_reducible and_intros
   iterate 2 omega
   refine⟨((Prod.fst x4+nat_lit 1),(Prod.snd x1)),?_⟩
   try dsimp only
   with_reducible and_intros
   omega
   with_reducible rfl
   · rw [show x4.2=x1.1 by omega] at h5
     exact S.L0 h2 h3 h5.1 h9 fM
   have hr:=h5.1.1
   have ĭ:=h5.1.2.1
   simp only [S.ag,S.len];omega
 intro dB
 try simp only [df] at dB
 exact S.Rz h2 (by with_reducible assumption)
theorem ah0(l:List (List UInt8))(hp:True)(hf:Vg.Row.ok (Vg.PS.flat [.one (.slice [.str])]) l):VJ l:=by
 delta VJ aC z0 z1 an
 have gj:l.length≤9223372036854775807:=hf.1.1
 clear hf
 refine⟨?_,?_⟩
 · refine⟨(nat_lit 1:Nat),?_⟩
   try dsimp only
   with_reducible and_intros
   omega
   · rw [S.JM];rfl
   exact⟨Nat.le_refl _, .inr rfl⟩
 intro x1 h2
 refine⟨?_,?_⟩
 · intro h3
   try simp only [dt] at h3
   with_reducible and_intros
   iterate 3 omega
   · have :=S.tf (l:=l) x1 (by omega) (by have :=h2.2;omega);omega
   iterate 2 omega
   refine⟨(x1+nat_lit 1),?_⟩
   try dsimp only
   with_reducible and_intros
   omega
   exact S.JO l x1
   · simp only [S.nD] at *;omega
   simp only [S.ag,S.len];omega
 intro h4
 try simp only [df] at h4
 rw [S.L1 h2 h4]
theorem ah1(l:List (List UInt8))(hp:S.small l)(hf:Vg.Row.ok (Vg.TA.eI [.own 50000]) ())(hg:Vg.fJ.ok [.row 9 [.str]] (l,())):VK l:=by
 delta VK Ir aC z0 z1
 have gj:l.length≤9223372036854775807:=hg.1.1
 clear hf hg
 have la:l.length≤1099511627776:=hp
 refine⟨?_,?_⟩
 · refine⟨((l),([])),?_⟩
   try dsimp only
   with_reducible and_intros
   iterate 2 with_reducible rfl
   exact S.ō l
 intro x1 h2
 refine⟨?_,?_⟩
 · intro h3
   try simp only [dt] at h3
   with_reducible and_intros
   trivial
   omega
   iterate 2
    · have :=S.tg (l:=x1.1) (by omega);omega
   · have :=h2.2;simp only [lc,ln];omega
   · refine⟨((nat_lit 0:Nat),(([]),((Prod.fst x1),(List.getD (Prod.fst x1) (Int.toNat (↑(S.cm (Prod.fst x1)):Int)) [])))),?_⟩
     try dsimp only
     with_reducible and_intros
     omega
     with_reducible rfl
     exact S.Ŏ _ _
     iterate 2 with_reducible rfl
   intro x4 h5
   refine⟨?_,?_⟩
   · intro h6
     try simp only [dt] at h6
     with_reducible and_intros
     iterate 3 omega
     · intro h7
       try simp only [nt,df,tn] at h7
       with_reducible and_intros
       iterate 3 omega
       · have hr:=S.RD h5.1;have :=h2.2;simp only [lc,ln];omega
       omega
       · have :=h2.2;omega
       refine⟨((Prod.fst x4+nat_lit 1),((Prod.fst (Prod.snd x4)++ [List.getD (Prod.fst x1) (Int.toNat (↑(Prod.fst x4):Int)) []]),((Prod.fst x1),(List.getD (Prod.fst x1) (Int.toNat (↑(S.cm (Prod.fst x1)):Int)) [])))),?_⟩
       try dsimp only
       with_reducible and_intros
       omega
       with_reducible rfl
       exact S.L4 (S.xE h5) h6 (by simpa using h7)
       iterate 2 with_reducible rfl
       have e:x1.1=x4.2.2.1:=h5.2.1;simp only [S.ag,S.len,←e];omega
     intro h8
     try simp only [nf,dt,tn] at h8
     with_reducible and_intros
     omega
     · have :=h2.2;omega
     refine⟨((Prod.fst x4+nat_lit 1),((Prod.fst (Prod.snd x4)),((Prod.fst x1),(List.getD (Prod.fst x1) (Int.toNat (↑(S.cm (Prod.fst x1)):Int)) [])))),?_⟩
     try dsimp only
     with_reducible and_intros
     omega
     with_reducible rfl
     exact S.L5 (S.xE h5) h6 (by simpa using h8)
     iterate 2 with_reducible rfl
     have e:x1.1=x4.2.2.1:=h5.2.1;simp only [S.ag,S.len,←e];omega
   intro h9
   try simp only [df] at h9
   refine⟨((Prod.fst (Prod.snd x4)),(Prod.snd x1++ [List.getD (Prod.fst x1) (Int.toNat (↑(S.cm (Prod.fst x1)):Int)) []])),?_⟩
   try dsimp only
   with_reducible and_intros
   iterate 2 with_reducible rfl
   exact(S.Cx h2 h3 (S.xE h5) h9).1
   exact(S.Cx h2 h3 (S.xE h5) h9).2
 intro c5
 try simp only [df] at c5
 exact S.RC h2 c5
theorem ah2(b:List UInt8)(hp:S.small b)(hf:Vg.Row.ok (Vg.PS.flat [.one (.slice [.int .u8])]) b):VL b:=by
 unfold VL
 have eF:b.length≤9223372036854775807:=hf.1.1
 clear hf
 with_reducible and_intros
 exact hp
 · have hq:=S.rm b;simp only [S.small] at *;omega
 rfl
theorem ah3(b:List UInt8)(t:List UInt8)(hp:S.small b)(hf:Vg.Row.ok (Vg.PS.flat [.one (.slice [.int .u8]), .one (.str)]) (b,t)):VM b t:=by
 delta VM aC z0 z1 an
 have eF:b.length≤9223372036854775807:=hf.1.1
 have aow:t.length≤9223372036854775807:=hf.2.1
 clear hf
 have hq:=S.rm b
 have la:b.length≤1099511627776:=hp
 with_reducible and_intros
 omega
 · refine⟨((nat_lit 0:Nat),([])),?_⟩
   try dsimp only
   with_reducible and_intros
   omega
   with_reducible rfl
   exact S.RE _ _
 intro x1 h2
 refine⟨?_,?_⟩
 · intro h3
   try simp only [dt] at h3
   with_reducible and_intros
   iterate 3 omega
   · intro h4
     try simp only [dt,tn] at h4
     with_reducible and_intros
     · (have :=h2.2.2;simp only [lc,ln];omega)
     iterate 2 omega
     refine⟨((Prod.fst x1+nat_lit 1),(Prod.snd x1++ [(↑(Prod.fst x1):Int)])),?_⟩
     try dsimp only
     with_reducible and_intros
     omega
     with_reducible rfl
     exact S.HZ h2 h3 h4
     · (have :=h2.2.2;simp only [S.ag,S.len];omega)
   intro h5
   try simp only [df,tn] at h5
   with_reducible and_intros
   iterate 2 omega
   refine⟨((Prod.fst x1+nat_lit 1),(Prod.snd x1)),?_⟩
   try dsimp only
   with_reducible and_intros
   omega
   with_reducible rfl
   exact S.H2 h2 h3 h5
   · (have :=h2.2.2;simp only [S.ag,S.len];omega)
 intro h6
 try simp only [df] at h6
 exact S.JP h2 (by with_reducible assumption)
theorem ah4(s:List UInt8)(hp:True)(hf:Vg.Row.ok (Vg.PS.flat [.one (.str)]) s):VN s:=by
 unfold VN
 have Kw:s.length≤9223372036854775807:=hf.1
 clear hf
 simp
theorem ah5(a:List UInt8)(b:List UInt8)(hp:True)(hf:Vg.Row.ok (Vg.PS.flat [.one (.str), .one (.str)]) (a,b)):VO a b:=by
 delta VO z0 z1
 have ya:a.length≤9223372036854775807:=hf.1
 have eF:b.length≤9223372036854775807:=hf.2.1
 clear hf
 with_reducible and_intros
 iterate 2 trivial
 · intro h1
   refine⟨?_,?_⟩
   · intro h2
     simp only [S.fA] at *;grind [S.bO,S.fX,S.gM]
   intro h3
   simp only [S.fA] at *;grind [S.bO,S.fX,S.gM]
 intro h4
 refine⟨?_,?_⟩
 · intro h5
   simp only [S.fA] at *;grind [S.bO,S.fX,S.gM]
 intro h6
 refine⟨?_,?_⟩
 · intro h7
   simp only [S.fA] at *;grind [S.bO,S.fX,S.gM]
 intro h8
 refine⟨?_,?_⟩
 · intro h9
   try simp only [nt] at h9
   simp only [S.fA] at *;grind [S.bO,S.fX,S.gM]
 intro c5
 try simp only [nf] at c5
 simp only [S.fA] at *;grind [S.bO,S.fX,S.gM]
theorem ah6(a:List UInt8)(b:List UInt8)(hp:True)(hf:Vg.Row.ok (Vg.TA.eI [.iP (.str), .iP (.str), .ref 50000 0]) (a,b))(hg:Vg.fJ.ok [.cells [.fn (.func 161) [] []]] ((),())):VP a b:=by
 delta VP z0
 have ya:a.length≤9223372036854775807:=hf.1
 have eF:b.length≤9223372036854775807:=hf.2.1
 clear hf hg
 refine⟨?_,?_⟩
 · trivial
 exact S.ŏ a b
theorem ah7(l:List (List UInt8))(hp:S.small l)(hf:Vg.Row.ok (Vg.TA.eI [.own 50000, .fn (.func 181) [] [.ref 50001 0]]) ())(hg:Vg.fJ.ok [.row 9 [.str], .cells [.fn (.func 161) [] []]] (l,((),()))):VQ l:=by
 delta VQ aC z0 z1 an
 have gj:l.length≤9223372036854775807:=hg.1.1
 clear hf hg
 have la:l.length≤1099511627776:=hp
 refine⟨?_,?_⟩
 · intro h1
   try simp only [dt] at h1
   exact S.L8 h1
 intro h2
 try simp only [df] at h2
 refine⟨?_,?_⟩
 · refine⟨(nat_lit 1:Nat),?_⟩
   try dsimp only
   refine⟨?_,?_⟩
   · omega
   exact S.af3 h2
 intro x3 h4
 refine⟨?_,?_⟩
 · intro h5
   try simp only [dt] at h5
   with_reducible and_intros
   iterate 5 omega
   · have :=h4.1;omega
   iterate 2 omega
   trivial
   · intro h6
     try simp only [dt,tn] at h6
     with_reducible and_intros
     iterate 2 omega
     · refine⟨((x3),((nat_lit 1:Nat),((l),(x3)))),?_⟩
       try dsimp only
       with_reducible and_intros
       iterate 2 omega
       trivial
       exact S.Ő h4 h5 h6
       omega
     intro x7 h8
     refine⟨?_,?_⟩
     · intro h9
       try simp only [dt,tn] at h9
       with_reducible and_intros
       iterate 2 omega
       · have q1:=h8.1.1;have q2:=h8.1.2.1;have q3:=h8.1.2.2.2.1;have q4:=h8.1.2.2.2.2.1;have q5:=h8.2;omega
       iterate 2 omega
       · have q1:=h8.1.1;have q2:=h8.1.2.1;have q3:=h8.1.2.2.2.1;have q4:=h8.1.2.2.2.2.1;have q5:=h8.2;omega
       omega
       · have q1:=h8.1.1;have q2:=h8.1.2.1;have q3:=h8.1.2.2.2.1;have q4:=h8.1.2.2.2.2.1;have q5:=h8.2;omega
       trivial
       · intro c5
         try simp only [nt,df,tn] at c5
         with_reducible and_intros
         iterate 2 omega
         · have q1:=h8.1.1;have q2:=h8.1.2.1;have q3:=h8.1.2.2.2.1;have q4:=h8.1.2.2.2.2.1;have q5:=h8.2;omega
         omega
         iterate 2
          · have q1:=h8.1.1;have q2:=h8.1.2.1;have q3:=h8.1.2.2.2.1;have q4:=h8.1.2.2.2.2.1;have q5:=h8.2;omega
         omega
         have q1:=h8.1.1;have q2:=h8.1.2.1;have q3:=h8.1.2.2.2.1;have q4:=h8.1.2.2.2.2.1;have q5:=h8.2;omega
       · intro fM
         try simp only [nf,dt,tn] at fM
         trivial
       iterate 2 omega
       refine⟨((Int.toNat (bif !Decidable.decide (List.getD (Prod.fst (Prod.snd (Prod.snd x7))) (Int.toNat (↑x3:Int)+Int.toNat (↑(Prod.fst (Prod.snd x7)):Int)) []=List.getD (Prod.fst (Prod.snd (Prod.snd x7))) (Int.toNat (↑x3:Int)+Int.toNat ((↑(Prod.fst (Prod.snd x7)):Int)-(1:Int))) []) then(↑(Prod.fst x7):Int)+(1:Int) else(↑(Prod.fst x7):Int))),((Prod.fst (Prod.snd x7)+nat_lit 1),((bif !Decidable.decide (List.getD (Prod.fst (Prod.snd (Prod.snd x7))) (Int.toNat (↑x3:Int)+Int.toNat (↑(Prod.fst (Prod.snd x7)):Int)) []=List.getD (Prod.fst (Prod.snd (Prod.snd x7))) (Int.toNat (↑x3:Int)+Int.toNat ((↑(Prod.fst (Prod.snd x7)):Int)-(1:Int))) []) then List.set (Prod.fst (Prod.snd (Prod.snd x7))) (Int.toNat (↑(Prod.fst x7):Int)) (List.getD (Prod.fst (Prod.snd (Prod.snd x7))) (Int.toNat (↑x3:Int)+Int.toNat (↑(Prod.fst (Prod.snd x7)):Int)) []) else Prod.fst (Prod.snd (Prod.snd x7))),(x3)))),?_⟩
       try dsimp only
       with_reducible and_intros
       · generalize (!decide (List.getD x7.2.2.1 (Int.toNat (x3:Int)+Int.toNat (x7.2.1:Int)) []=List.getD x7.2.2.1 (Int.toNat (x3:Int)+Int.toNat ((x7.2.1:Int)-1)) []))=c
         cases c<;>simp only [cond_true,cond_false]<;>omega
       omega
       trivial
       · have q1:=h8.1.1
         have e3:x7.2.2.2=x3:=by have :=h8.2;omega
         have hi:=h8.1
         rw [e3] at hi
         have e1:Int.toNat (x3:Int)+Int.toNat (x7.2.1:Int)=x3+x7.2.1:=by omega
         have e2:Int.toNat (x3:Int)+Int.toNat ((x7.2.1:Int)-1)=x3+x7.2.1-1:=by omega
         rw [e1,e2]
         by_cases hd:List.getD x7.2.2.1 (x3+x7.2.1) []=List.getD x7.2.2.1 (x3+x7.2.1-1) []
         · rw [decide_eq_true hd]
           exact S.L9 hi (by omega) hd
         rw [decide_eq_false hd]
         exact S.RH hi (by omega) hd
       omega
       simp only [S.ag,S.len]
       have q2:=h8.1.2.1
       omega
     intro dB
     try simp only [df,tn] at dB
     with_reducible and_intros
     omega
     iterate 2
      · have q1:=h8.1.2.1
        have q2:=h8.1.2.2.2.1
        have q3:=h8.1.2.2.2.2.1
        omega
     omega
     · have q1:=h8.1.2.1
       have q2:=h8.1.2.2.2.1
       have q3:=h8.1.2.2.2.2.1
       simp only [List.length_append,List.length_take]
       omega
     have q1:=h8.1.2.1
     have q2:=h8.1.2.2.2.1
     have q3:=h8.1.2.2.2.2.1
     have e1:Int.toNat (x7.1:Int)=x7.1:=by omega
     rw [e1,S.J2 (by omega)]
     exact S.RJ h8.1 (by have :=h8.2;omega)
   intro kA
   try simp only [df,tn] at kA
   with_reducible and_intros
   iterate 2 omega
   refine⟨(x3+nat_lit 1),?_⟩
   try dsimp only
   with_reducible and_intros
   omega
   exact S.RG h4 h5 kA
   simp only [S.ag,S.len]
   omega
 intro eX
 try simp only [df] at eX
 exact S.TW h4 eX
theorem ah8(l:List (List UInt8))(hp:S.small l)(hf:Vg.Row.ok (Vg.TA.eI [.iP (.slice [.str]), .fn (.func 161) [] []]) l)(hg:Vg.fJ.ok [] ()):VR l:=by
 unfold VR
 have gj:l.length≤9223372036854775807:=hf.1.1
 clear hf hg
 with_reducible and_intros
 iterate 2 exact hp
 exact S.H7 hp
 rfl
theorem ah9(b:List UInt8)(hp:S.small b)(hf:Vg.Row.ok (Vg.PS.flat [.one (.slice [.int .u8])]) b):VS b:=by
 unfold VS
 have eF:b.length≤9223372036854775807:=hf.1.1
 clear hf
 with_reducible and_intros
 exact hp
 exact S.H6 hp
 exact S.TX _
theorem aia(l:List (List UInt8))(hp:True)(hf:Vg.Row.ok (Vg.PS.flat [.one (.slice [.str])]) l):VT l:=by
 delta VT q93 aC z0 z1 an
 have gj:l.length≤9223372036854775807:=hf.1.1
 clear hf
 refine⟨?_,?_⟩
 · refine⟨(nat_lit 0:Nat),?_⟩
   try dsimp only
   refine⟨?_,?_⟩
   · omega
   exact S.Ŕ l
 intro x1 h2
 refine⟨?_,?_⟩
 · intro h3
   try simp only [dt] at h3
   with_reducible and_intros
   iterate 2 omega
   · intro h4
     try simp only [nt,df,tn] at h4
     exact S.RN h3 h4
   intro h5
   try simp only [nf,dt,tn] at h5
   with_reducible and_intros
   iterate 2 omega
   refine⟨(x1+nat_lit 1),?_⟩
   try dsimp only
   with_reducible and_intros
   omega
   exact S.Mb h2 h3 h5
   simp only [S.ag,S.len];omega
 intro h6
 try simp only [df] at h6
 exact S.RO h2 (by with_reducible assumption)
theorem aib(a:List UInt8)(b:List UInt8)(hp:True)(hf:Vg.Row.ok (Vg.PS.flat [.one (.str), .one (.str)]) (a,b)):VU a b:=by
 unfold VU
 have ya:a.length≤9223372036854775807:=hf.1
 have eF:b.length≤9223372036854775807:=hf.2.1
 clear hf
 refine⟨?_,?_⟩
 · trivial
 rfl
theorem aic(s:List (List UInt8))(hp:S.qn s)(hf:Vg.Row.ok (Vg.TA.eI [.own 50000]) ())(hg:Vg.fJ.ok [.row 9 [.str]] (s,())):VV s:=by
 delta VV q94 aC z0 z1 an
 have Kw:s.length≤9223372036854775807:=hg.1.1
 clear hf hg
 have h1:=hp.1
 have h2:=hp.2
 with_reducible and_intros
 iterate 10 omega
 trivial
 iterate 6 omega
 · rw [List.length_set];omega
 exact S.œ hp
theorem aid(l:List (List UInt8))(hp:S.iU l)(hf:Vg.Row.ok (Vg.PS.flat [.one (.slice [.slice [.int .u8]])]) l):VW l:=by
 delta VW aC z0 z1 an
 have gj:l.length≤9223372036854775807:=hf.1.1
 clear hf
 have h1:=hp.1
 refine⟨?_,?_⟩
 · refine⟨(nat_lit 0:Nat),?_⟩
   try dsimp only
   with_reducible and_intros
   omega
   rfl
   simp only [S.dY,S.ag,S.len] at *;omega
 intro x1 h2
 refine⟨?_,?_⟩
 · intro h3
   try simp only [dt] at h3
   with_reducible and_intros
   iterate 2 omega
   exact S.zJ hp (by with_reducible assumption)
   · have :=S.vt l x1;simp only [lc,ln];omega
   iterate 2 omega
   refine⟨(x1+nat_lit 1),?_⟩
   try dsimp only
   with_reducible and_intros
   omega
   exact S.xJ (by with_reducible assumption)
   · simp only [S.dY,S.ag,S.len] at *;omega
   simp only [S.dY,S.ag,S.len] at *;omega
 intro h4
 try simp only [df] at h4
 exact S.zI (by with_reducible assumption)
theorem aie(l:List (List UInt8))(hp:S.eb l)(hf:Vg.Row.ok (Vg.PS.flat [.one (.slice [.str])]) l):VX l:=by
 delta VX aC z0 z1 an
 have gj:l.length≤9223372036854775807:=hf.1.1
 clear hf
 have la:=hp.2
 refine⟨?_,?_⟩
 · intro h1
   try simp only [dt] at h1
   refine⟨?_,?_⟩
   · exact Nat.zero_le _
   exact S.Fi h1
 intro h2
 try simp only [df] at h2
 refine⟨?_,?_⟩
 · refine⟨((nat_lit 0:Nat),([])),?_⟩
   try dsimp only
   with_reducible and_intros
   omega
   with_reducible rfl
   exact S.ő l
 intro x3 h4
 refine⟨?_,?_⟩
 · intro h5
   try simp only [dt] at h5
   with_reducible and_intros
   iterate 2 omega
   · have :=S.JV h4;simp only [lc,ln];omega
   · refine⟨(0,x3.1,x3.2++ [List.getD l (Int.toNat (x3.1:Int)) []],x3.1),?_⟩
     try dsimp only
     with_reducible and_intros
     omega
     with_reducible rfl
     exact S.af5 h4 h5
     omega
   intro x6 h7
   with_reducible and_intros
   iterate 2 omega
   · intro h8
     try simp only [dt] at h8
     with_reducible and_intros
     exact S.T4 (S.AD h7) h8 hp
     iterate 2 omega
     refine⟨(x6.1+1,x6.2.1/2,S.comb x6.2.2.1,x3.1),?_⟩
     try dsimp only
     with_reducible and_intros
     · simp only [show Int.toNat 1=1 by rfl];omega
     with_reducible rfl
     exact(S.yS (S.AD h7) h8).1
     omega
     exact(S.yS (S.AD h7) h8).2.1
   intro h9
   try simp only [df] at h9
   with_reducible and_intros
   iterate 2 omega
   refine⟨((Prod.fst x3+nat_lit 1),(Prod.fst (Prod.snd (Prod.snd x6)))),?_⟩
   try dsimp only
   with_reducible and_intros
   omega
   with_reducible rfl
   exact S.TZ (S.AD h7) h9
   simp only [S.ag,S.len];omega
 intro c5
 try simp only [df] at c5
 refine⟨?_,?_⟩
 · refine⟨(Prod.snd x3),?_⟩
   try dsimp only
   refine⟨?_,?_⟩
   · with_reducible rfl
   exact S.af6 h4 c5 h2
 intro WJ dB
 refine⟨?_,?_⟩
 · intro kA
   try simp only [dt] at kA
   refine⟨?_,?_⟩
   · have :=S.T2 dB;exact⟨by omega,by omega⟩
   refine⟨(S.comb WJ),?_⟩
   try dsimp only
   with_reducible and_intros
   with_reducible rfl
   exact(S.Fh dB kA).1
   exact(S.Fh dB kA).2
 intro eX
 try simp only [df] at eX
 with_reducible and_intros
 omega
 iterate 2
  · have :=(S.JT dB eX).2;omega
 exact(S.JT dB eX).1
theorem aif(l:List (List UInt8))(hp:S.small l)(hf:Vg.Row.ok (Vg.PS.flat [.one (.slice [.str])]) l):VY l:=by
 delta VY z0 z1
 have gj:l.length≤9223372036854775807:=hf.1.1
 clear hf
 have la:l.length≤1099511627776:=hp
 with_reducible and_intros
 trivial
 · intro h1
   try simp only [nt] at h1
   refine⟨?_,?_⟩
   · grind [S.rq,S.ru,S.eb]
   grind [S.rq,S.ru,S.eb]
 intro h2
 try simp only [nf] at h2
 with_reducible and_intros
 trivial
 iterate 2 (grind [S.rq,S.ru,S.eb])
theorem aih(n:Int)(hp:True)(hf:Vg.Row.ok (Vg.PS.flat [.one (.int .i64)]) n):VZ n:=by
 delta VZ V6 aC z0 z1
 have WB: -9223372036854775808≤n∧n≤9223372036854775807:=hf.1
 clear hf
 refine⟨?_,?_⟩
 · intro h1
   try simp only [V.pP,dt] at h1
   exact S.T3 (by with_reducible assumption)
 intro h2
 try simp only [V.gh,df] at h2
 refine⟨?_,?_⟩
 · refine⟨(0,1),?_⟩
   try dsimp only
   refine⟨?_,?_⟩
   · omega
   exact S.JU h2.1
 intro x3 h4
 with_reducible and_intros
 iterate 2
  · (have :=S.kW h4;omega)
 · intro h5
   try simp only [dt] at h5
   with_reducible and_intros
   · (have :=S.kW h4;omega)
   omega
   refine⟨(x3.1+1,2*x3.2),?_⟩
   try dsimp only
   with_reducible and_intros
   omega
   · (have :=S.kW h4;exact(S.CD h4 h5).1)
   · (have :=S.kW h4;omega)
 intro h6
 try simp only [df] at h6
 (have :=S.kW h4;exact S.Ez h4 h2.1 h2.2 h6)
theorem aii(m:Nat)(l:List (List UInt8))(hm:S.len l<m+1)(hp:S.eb l)(hf:Vg.Row.ok (Vg.PS.flat [.one (.slice [.str])]) l):V0 m l:=by
 delta V0 xV z0 z1 an
 have gj:l.length≤9223372036854775807:=hf.1.1
 clear hf
 refine⟨?_,?_⟩
 · intro h1
   try simp only [dt] at h1
   refine⟨?_,?_⟩
   · exact Nat.zero_le _
   exact S.Fi h1
 intro h2
 try simp only [df] at h2
 refine⟨?_,?_⟩
 · intro h3
   try simp only [dt] at h3
   with_reducible and_intros
   iterate 2 omega
   exact(S.yR (by omega)).symm
 intro h4
 try simp only [df] at h4
 with_reducible and_intros
 trivial
 iterate 3
  · (have hq:=S.kv hp (by omega);simp only [S.len] at *;omega)
 · (have hq:=S.kv hp (by omega);exact hq.2.2.1)
 iterate 3
  · (have hq:=S.kv hp (by omega);simp only [S.len] at *;omega)
 · (have hq:=S.kv hp (by omega);exact hq.2.2.2.2.1)
 · (have hq:=S.kv hp (by omega);exact hq.2.2.2.2.2.1)
 · (have hq:=S.kv hp (by omega);exact hq.2.2.2.2.2.2)
theorem aij(l:List (List UInt8))(hp:S.iU l)(hf:Vg.Row.ok (Vg.PS.flat [.one (.slice [.slice [.int .u8]])]) l):V1 l:=by
 delta V1 aC z0 z1 an
 have gj:l.length≤9223372036854775807:=hf.1.1
 clear hf
 have h1:=hp.1
 refine⟨?_,?_⟩
 · refine⟨(nat_lit 0:Nat),?_⟩
   try dsimp only
   with_reducible and_intros
   omega
   rfl
   simp only [S.dY,S.ag,S.len] at *;omega
 intro x1 h2
 refine⟨?_,?_⟩
 · intro h3
   try simp only [dt] at h3
   with_reducible and_intros
   iterate 2 omega
   exact S.zJ hp (by with_reducible assumption)
   · have :=S.vt l x1;simp only [lc,ln];omega
   iterate 2 omega
   refine⟨(x1+nat_lit 1),?_⟩
   try dsimp only
   with_reducible and_intros
   omega
   exact S.xJ (by with_reducible assumption)
   · simp only [S.dY,S.ag,S.len] at *;omega
   simp only [S.dY,S.ag,S.len] at *;omega
 intro h4
 try simp only [df] at h4
 exact S.zI (by with_reducible assumption)
theorem aik(l:List Int)(hp:True)(hf:Vg.Row.ok (Vg.PS.flat [.one (.slice [.int .i64])]) l):V2 l:=by
 delta V2 q97 aC z0 z1 an
 have gj:l.length≤9223372036854775807:=hf.1.1
 clear hf
 refine⟨?_,?_⟩
 · refine⟨(nat_lit 0:Nat),?_⟩
   try dsimp only
   with_reducible and_intros
   omega
   exact(S.tu l).symm
   exact S.ŕ l
 intro x1 h2
 refine⟨?_,?_⟩
 · intro h3
   try simp only [dt] at h3
   with_reducible and_intros
   iterate 2 omega
   · intro h4
     try simp only [V.pP,dt,tn] at h4
     exact S.RQ h3 h4
   intro h5
   try simp only [V.gh,df,tn] at h5
   with_reducible and_intros
   iterate 2 omega
   refine⟨(x1+nat_lit 1),?_⟩
   try dsimp only
   with_reducible and_intros
   omega
   rw [S.kz,tn]
   exact S.Mc h2 h3 h5
   simp only [S.ag,S.len];omega
 intro h6
 try simp only [df] at h6
 exact S.RR h2 (by with_reducible assumption)
theorem ail(l:List Int)(hp:True)(hf:Vg.Row.ok (Vg.PS.flat [.one (.slice [.int .i64])]) l):V3 l:=by
 delta V3 q98 aC eS z0 z1 an
 have gj:l.length≤9223372036854775807:=hf.1.1
 clear hf
 with_reducible and_intros
 trivial
 · intro h1
   try simp only [nt] at h1
   refine⟨?_,?_⟩
   · simp only [S.jD,S.oA,h1];rfl
   simp only [S.jD,S.oA,h1];rfl
 intro h2
 try simp only [nf] at h2
 with_reducible and_intros
 exact Nat.zero_le _
 · refine⟨(nat_lit 0:Nat),?_⟩
   try dsimp only
   with_reducible and_intros
   omega
   exact(S.tu l).symm
   · have :=S.qp h2;rw [S.Fk (by omega) (by omega),S.yT]
   omega
 intro x3 h4
 refine⟨?_,?_⟩
 · intro h5
   try simp only [dt] at h5
   with_reducible and_intros
   iterate 2 omega
   iterate 4
    · have :=S.uw h2 h5;omega
   exact Nat.zero_le _
   · have :=(S.pT h2 h5 (List.getD l (Int.toNat (x3:Int)) 0-S.dV l x3-1)).1;omega
   iterate 2 omega
   refine⟨(x3+nat_lit 1),?_⟩
   try dsimp only
   with_reducible and_intros
   omega
   rw [S.kz,tn]
   exact S.CI h2 h5
   omega
   simp only [S.ag,S.len];omega
 intro h6
 try simp only [df] at h6
 refine⟨?_,?_⟩
 · simp only [S.jD,h2];rfl
 rw [show x3=l.length by omega];exact S.RS h2
theorem aim(l:List Int)(hp:True)(hf:Vg.Row.ok (Vg.PS.flat [.one (.slice [.int .i64])]) l):V4 l:=by
 delta V4 z0
 have gj:l.length≤9223372036854775807:=hf.1.1
 clear hf
 with_reducible and_intros
 trivial
 · intro h1
   try simp only [nt,df] at h1
   refine⟨?_,?_⟩
   · have hq:S.bR l=false :=by
      cases hr:S.bR l with
      |false=>rfl
      |true=>exact absurd (by simp only [S.jD,hr];rfl) h1
     simp only [S.oB,hq];rfl
   rfl
 intro h2
 try simp only [nf,dt] at h2
 with_reducible and_intros
 iterate 2
  · have hq:S.bR l=true :=by
     cases hr:S.bR l with
     |true=>rfl
     |false=>simp only [S.jD,hr] at h2;exact absurd h2 (by decide)
    have hl:=S.CJ hq
    simp only [S.oA,S.oB,hq,if_true,S.bj]
    try (first|rfl|omega)
 omega
theorem ain(n:Int)(p:Bool)(q:Bool)(s1:Int)(s2:Int)(hp:True)(hf:Vg.Row.ok (Vg.TA.eI [.iP (.int .i64), .iP (.bool), .iP (.bool), .ref 50000 0]) (n,p,q))(hg:Vg.fJ.ok [.cells [.iP (.int .i64), .iP (.int .i64)]] ((s1,s2),())):V5 n p q s1 s2:=by
 unfold V5
 have WB: -9223372036854775808≤n∧n≤9223372036854775807:=hf.1
 have iY: -9223372036854775808≤s1∧s1≤9223372036854775807:=hg.1.1
 have iZ: -9223372036854775808≤s2∧s2≤9223372036854775807:=hg.1.2.1
 clear hf hg
 with_reducible and_intros
 · simp only [S.oC];grind
 iterate 2 rfl
theorem aio(a:List Int)(b:List Int)(s1:Int)(s2:Int)(hp:b.length=0)(hf:Vg.Row.ok (Vg.TA.eI [.iP (.slice [.int .i64]), .iP (.slice [.int .i64]), .fn (.func 154) [] [.ref 50000 0]]) (a,b))(hg:Vg.fJ.ok [.cells [.iP (.int .i64), .iP (.int .i64)]] ((s1,s2),())):V9 a b s1 s2:=by
 delta V9 q99 V7 V8 Nu tO We Wf z0 z1
 have hb:b= []:=List.eq_nil_of_length_eq_zero hp
 subst hb
 have ha:a.length≤9223372036854775807:=hf.1.1
 clear hf hg
 refine⟨trivial,trivial,?_,?_⟩
 · refine⟨(S.RP a,[]),⟨?_,?_,rfl,rfl,rfl⟩,S.Ŗ a s1 s2⟩
   · simp only [S.RP];cases S.bR a<;>rfl
   simp [S.fa]
 rintro⟨r,out⟩ h
 have hl:=h.2
 cases r with
 |nil=>simp [S.fa];exact S.RU h
 |cons n r=>
  simp [S.fa]
  refine⟨by omega,fun hn=>⟨?_,?_⟩,fun hn=> ?_⟩
  · simp at hl;omega
  · exact⟨r,out++ [n],⟨rfl,rfl⟩,S.RT h hn,by simp [S.len]⟩
  exact⟨r,out,⟨rfl,rfl⟩,S.T5 h hn,by simp [S.len]⟩
theorem aip(l:List Int)(s1:Int)(s2:Int)(hp:True)(hf:Vg.Row.ok (Vg.PS.flat [.one (.slice [.int .i64]), .agg [.int .i64, .int .i64]]) (l,s1,s2)):Wa l s1 s2:=by
 unfold Wa
 have gj:l.length≤9223372036854775807:=hf.1.1
 have iY: -9223372036854775808≤s1∧s1≤9223372036854775807:=hf.2.1
 have iZ: -9223372036854775808≤s2∧s2≤9223372036854775807:=hf.2.2.1
 clear hf
 refine⟨?_,?_⟩
 · rfl
 rfl
theorem aiq(l:List Int)(hp:S.bR l=true)(hf:Vg.Row.ok (Vg.PS.flat [.one (.slice [.int .i64])]) l):Wb l:=by
 delta Wb Wh aC eS z0 z1 an
 have gj:l.length≤9223372036854775807:=hf.1.1
 clear hf
 with_reducible and_intros
 omega
 · refine⟨(nat_lit 0:Nat),?_⟩
   try dsimp only
   with_reducible and_intros
   omega
   exact(S.yT l).symm
   omega
 intro x1 h2
 refine⟨?_,?_⟩
 · intro h3
   try simp only [dt] at h3
   refine⟨?_,?_⟩
   · intro h4
     try simp only [dt] at h4
     with_reducible and_intros
     iterate 2 omega
     · have :=S.uw hp h3;rw [show(x1:Int)=0 by omega] at this;exact this.2.2
     · have :=(S.pT hp h3 (List.getD l (Int.toNat 0) 0)).2;omega
     iterate 2 omega
     refine⟨(x1+nat_lit 1),?_⟩
     try dsimp only
     with_reducible and_intros
     omega
     exact S.H5 h4
     omega
     simp only [S.ag,S.len];omega
   intro h5
   try simp only [df] at h5
   with_reducible and_intros
   iterate 6 omega
   iterate 5
    · have :=S.uw hp h3;have :=S.Fj (S.Nc (k:=x1) hp (by omega));rw [S.CH (by omega)];omega
   · have :=(S.pT hp h3 (List.getD l (Int.toNat (x1:Int)) 0-List.getD l (Int.toNat ((x1:Int)-1)) 0-1)).2;omega
   iterate 2 omega
   refine⟨(x1+nat_lit 1),?_⟩
   try dsimp only
   with_reducible and_intros
   omega
   exact S.JX h5
   omega
   simp only [S.ag,S.len];omega
 intro h6
 try simp only [df] at h6
 rw [show x1=l.length by omega];rfl
theorem air(l:List Int)(hp:S.bR l=true)(hf:Vg.Row.ok (Vg.PS.flat [.one (.slice [.int .i64])]) l):Wc l:=by
 unfold Wc
 have gj:l.length≤9223372036854775807:=hf.1.1
 clear hf
 with_reducible and_intros
 exact hp
 · have :=S.CJ hp;simp only [S.bj];omega
 rfl
theorem ais(a:List Int)(b:List Int)(hp:True)(hf:Vg.Row.ok (Vg.PS.flat [.one (.slice [.int .i64]), .one (.slice [.int .i64])]) (a,b)):Wd a b:=by
 delta Wd aC z0 z1 an
 have ya:a.length≤9223372036854775807:=hf.1.1
 have eF:b.length≤9223372036854775807:=hf.2.1.1
 clear hf
 refine⟨?_,?_⟩
 · intro h1
   try simp only [nt,df] at h1
   exact S.RW h1
 intro h2
 try simp only [nf,dt] at h2
 refine⟨?_,?_⟩
 · refine⟨(nat_lit 0:Nat),?_⟩
   try dsimp only
   refine⟨?_,?_⟩
   · omega
   exact S.ŗ h2
 intro x3 h4
 refine⟨?_,?_⟩
 · intro h5
   try simp only [dt] at h5
   with_reducible and_intros
   iterate 4 omega
   · intro h6
     try simp only [nt,df,tn] at h6
     exact S.RV h6
   intro h7
   try simp only [nf,dt,tn] at h7
   with_reducible and_intros
   iterate 2 omega
   refine⟨(x3+nat_lit 1),?_⟩
   try dsimp only
   with_reducible and_intros
   omega
   exact S.Md h4 h5 h7
   simp only [S.ag,S.len];omega
 intro h8
 try simp only [df] at h8
 exact S.RX h4 h8
theorem ait(d:List (List UInt8×List Int))(hp:S.bB d)(hf:Vg.Row.ok (Vg.PS.flat [.one (.slice [.str, .slice [.int .i64]])]) d):Wg d:=by
 delta Wg Wj Wn FA aC z0 z1 an
 have FE:d.length≤9223372036854775807:=hf.1.1
 clear hf
 have la:=hp.1
 refine⟨?_,?_⟩
 · refine⟨(nat_lit 0:Nat),?_⟩
   try dsimp only
   refine⟨?_,?_⟩
   · omega
   exact S.anQ d
 intro x1 h2
 refine⟨?_,?_⟩
 · intro h3
   try simp only [dt] at h3
   with_reducible and_intros
   iterate 2 omega
   · intro h4
     try simp only [dt] at h4
     with_reducible and_intros
     iterate 4 omega
   · intro h5
     try simp only [df] at h5
     trivial
   · intro h6
     try simp only [V.Jt,dt] at h6
     refine S.Nd h3 ((S.CK _ _).2 (.inl ⟨by omega,?_⟩))
     have e:Int.toNat ((x1:Int)-1)=x1-1:=by omega
     have h62:=h6.2
     rw [e] at h62
     exact h62
   intro h7
   try simp only [V.xw,df] at h7
   with_reducible and_intros
   · intro h8
     try simp only [dt,tn] at h8
     trivial
   · intro h9
     try simp only [df,tn] at h9
     with_reducible and_intros
     trivial
     · intro c5
       try simp only [nt] at c5
       trivial
     intro fM
     try simp only [nf] at fM
     exact S.RY hp
   · intro dB
     try simp only [V.pP,dt,tn,nt] at dB
     exact S.Nd h3 ((S.CK _ _).2 (.inr (dB.imp (fun q=>by have :((S.fl d x1).length:Int)=0:=q;omega) id)))
   intro kA
   try simp only [V.gh,df,tn,nf] at kA
   with_reducible and_intros
   iterate 2 omega
   refine⟨(x1+nat_lit 1),?_⟩
   try dsimp only
   with_reducible and_intros
   omega
   · refine S.T6 h2 h3 ((S.qq _ _).2 ⟨?_,?_,kA.2.1,kA.2.2⟩)
     rotate_left
     · have :=kA.1
       simp only [S.fl];omega
     rcases h7 with h7|h7
     · left;omega
     right
     have e:Int.toNat ((x1:Int)-1)=x1-1:=by omega
     rw [e] at h7
     exact h7
   simp only [S.ag,S.len];omega
 intro eX
 try simp only [df] at eX
 exact S.Ř h2 (by with_reducible assumption)
theorem aiu(l1:List UInt8)(l2:List UInt8)(l3:List UInt8)(hp:True)(hf:Vg.Row.ok (Vg.PS.flat [.agg [.str, .str, .str]]) (l1,l2,l3)):Wi l1 l2 l3:=by
 delta Wi Wo eS z0 z1 an
 have aiv:l1.length≤9223372036854775807:=hf.1
 have aiw:l2.length≤9223372036854775807:=hf.2.1
 have aix:l3.length≤9223372036854775807:=hf.2.2.1
 clear hf
 refine⟨?_,?_⟩
 · intro h1
   try simp only [V.pP,dt,nt,df] at h1
   refine⟨?_,?_⟩
   · have hq:=S.CO h1
     simp only [S.oD,S.wk,hq];rfl
   have hq:=S.CO h1
   simp only [S.oD,S.wk,hq];rfl
 intro h2
 try simp only [V.gh,df,nf,dt] at h2
 with_reducible and_intros
 · have hq:=S.mC h2
   have q:=(S.gS _ _ _).1 hq
   have t1:=S.fO (s:=l1);have t2:=S.fO (s:=l2)
   exact S.zN (Nat.zero_le _) (by omega)
 · have hq:=S.mC h2
   have q:=(S.gS _ _ _).1 hq
   have t1:=S.fO (s:=l1);have t2:=S.fO (s:=l2)
   exact S.zN (by rw [List.nil_append];omega) (by omega)
 · have hq:=S.mC h2
   have q:=(S.gS _ _ _).1 hq
   have t1:=S.fO (s:=l1);have t2:=S.fO (s:=l2)
   simp only [List.length_append,ln];omega
 · have hq:=S.mC h2
   have q:=(S.gS _ _ _).1 hq
   have t1:=S.fO (s:=l1);have t2:=S.fO (s:=l2)
   simp only [S.oD,hq,if_true];rfl
 have hq:=S.mC h2
 have q:=(S.gS _ _ _).1 hq
 have t1:=S.fO (s:=l1);have t2:=S.fO (s:=l2)
 simp only [S.wk,hq,if_true];done
theorem aiy(d:List (List UInt8×List Int))(hp:S.bB d)(hf:Vg.Row.ok (Vg.PS.flat [.one (.slice [.str, .slice [.int .i64]])]) d):Wk d:=by
 delta Wk pw aC z0 z1 an
 have FE:d.length≤9223372036854775807:=hf.1.1
 clear hf
 have la:=hp.1
 with_reducible and_intros
 omega
 · intro h1
   try simp only [nt] at h1
   refine⟨?_,?_⟩
   · simp only [S.dE,S.fb,h1];rfl
   simp only [S.dE,S.fb,h1];rfl
 intro h2
 try simp only [nf] at h2
 with_reducible and_intros
 iterate 2 omega
 · refine⟨(nat_lit 0:Nat),?_⟩
   try dsimp only
   with_reducible and_intros
   omega
   rfl
   omega
 intro x3 h4
 refine⟨?_,?_⟩
 · intro h5
   try simp only [dt] at h5
   with_reducible and_intros
   · intro h6
     try simp only [dt] at h6
     with_reducible and_intros
     iterate 8 omega
   · intro h7
     try simp only [df] at h7
     trivial
   · intro h8
     try simp only [dt] at h8
     refine⟨?_,?_⟩
     · omega
     omega
   · intro h9
     try simp only [df] at h9
     trivial
   iterate 2 trivial
   · rw [S.wm];simp only [lc,ln];omega
   iterate 2 omega
   refine⟨(x3+nat_lit 1),?_⟩
   try dsimp only
   with_reducible and_intros
   omega
   rw [S.Ś h2 (by omega),S.zM]
   omega
   simp only [S.ag,S.len];omega
 intro c5
 try simp only [df] at c5
 refine⟨?_,?_⟩
 · simp only [S.dE,h2];rfl
 simp only [S.fb,h2,if_true];rw [show x3=d.length+1 by omega];rfl
theorem aiz(d:List (List UInt8×List Int))(hp:S.bB d)(hf:Vg.Row.ok (Vg.PS.flat [.one (.slice [.str, .slice [.int .i64]])]) d):Wl d:=by
 delta Wl z0
 have FE:d.length≤9223372036854775807:=hf.1.1
 clear hf
 with_reducible and_intros
 omega
 · intro h1
   try simp only [nt,df] at h1
   refine⟨?_,?_⟩
   · simp only [S.rz,S.anR h1];rfl
   rfl
 intro h2
 try simp only [nf,dt] at h2
 with_reducible and_intros
 · have hr:=S.Ng h2
   have hq:=S.lM hp hr
   have e:S.fb d=S.iq d:=by simp only [S.fb,hr,if_true]
   rw [e]
   exact hq.1
 · have hr:=S.Ng h2
   have hq:=S.lM hp hr
   have e:S.fb d=S.iq d:=by simp only [S.fb,hr,if_true]
   rw [e]
   exact hq.2.2
 · have hr:=S.Ng h2
   have hq:=S.lM hp hr
   have e:S.fb d=S.iq d:=by simp only [S.fb,hr,if_true]
   rw [e]
   simp only [S.rz,S.rq,hr,hq.2.1,if_true];rfl
 have hr:=S.Ng h2
 have hq:=S.lM hp hr
 have e:S.fb d=S.iq d:=by simp only [S.fb,hr,if_true]
 rw [e]
 simp only [S.dE,S.ru,hr,hq.2.1,if_true]
theorem aiA(docs:List (List UInt8))(s1:Int)(s2:Int)(hp:True)(hf:Vg.Row.ok (Vg.PS.flat [.one (.slice [.slice [.int .u8]]), .agg [.int .i64, .int .i64]]) (docs,s1,s2)):Wm docs s1 s2:=by
 delta Wm aC z0 z1 an
 have tS:docs.length≤9223372036854775807:=hf.1.1
 have iY: -9223372036854775808≤s1∧s1≤9223372036854775807:=hf.2.1
 have iZ: -9223372036854775808≤s2∧s2≤9223372036854775807:=hf.2.2.1
 clear hf
 refine⟨?_,?_⟩
 · refine⟨(nat_lit 0:Nat),?_⟩
   try dsimp only
   refine⟨?_,?_⟩
   · omega
   exact S.Nf docs
 intro x1 h2
 refine⟨?_,?_⟩
 · intro h3
   try simp only [dt] at h3
   with_reducible and_intros
   iterate 2 omega
   · intro h4
     try simp only [dt,tn] at h4
     exact S.Fl h3 h4
   intro h5
   try simp only [df,tn] at h5
   with_reducible and_intros
   iterate 2 omega
   refine⟨(x1+nat_lit 1),?_⟩
   try dsimp only
   with_reducible and_intros
   omega
   exact S.CN h2 h3 (by omega)
   simp only [S.ag,S.len];omega
 intro h6
 try simp only [df] at h6
 have q:=S.Fm h2 h6
 simp only [S.cJ,q,Bool.true_and,S.qf]
theorem aah(b:List UInt8)(t:List UInt8)(hp:S.small b)(hf:Vg.Row.ok (Vg.PS.flat [.one (.slice [.int .u8]), .one (.str)]) (b,t)):Nv b t:=by
 delta Nv z0 an
 have eF:b.length≤9223372036854775807:=hf.1.1
 have aow:t.length≤9223372036854775807:=hf.2.1
 clear hf
 refine⟨?_,?_⟩
 · exact hp
 rfl
theorem aai(l1:List UInt8)(l2:List UInt8)(l3:List UInt8)(hp:S.iB l1 l2 l3=true)(hf:Vg.Row.ok (Vg.PS.flat [.agg [.str, .str, .str]]) (l1,l2,l3)):Nw l1 l2 l3:=by
 delta Nw eS
 have aiv:l1.length≤9223372036854775807:=hf.1
 have aiw:l2.length≤9223372036854775807:=hf.2.1
 have aix:l3.length≤9223372036854775807:=hf.2.2.1
 clear hf
 have q:=(S.gS _ _ _).1 hp
 have t1:=S.fO (s:=l1)
 have t2:=S.fO (s:=l2)
 with_reducible and_intros
 iterate 2
  · simp only [S.small];omega
 omega
 · simp only [List.length_append];omega
 rfl
theorem aaj(d:List (List UInt8×List Int))(hp:S.bB d∧S.bl d=true)(hf:Vg.Row.ok (Vg.PS.flat [.one (.slice [.str, .slice [.int .i64]])]) d):Nx d:=by
 delta Nx Wp Wq aC z0 z1 an
 have FE:d.length≤9223372036854775807:=hf.1.1
 clear hf
 have la:=hp.1.1
 refine⟨?_,?_⟩
 · refine⟨0,?_⟩
   try dsimp only
   with_reducible and_intros
   omega
   rfl
   omega
 intro x1 h2
 refine⟨?_,?_⟩
 · intro h3
   try simp only [dt] at h3
   with_reducible and_intros
   rfl
   · intro h4
     try simp only [dt] at h4
     with_reducible and_intros
     iterate 4 omega
     have e:Int.toNat ((x1:Int)-1)=x1-1:=by omega
     rw [e]
     exact(S.tw hp.2 (i:=x1-1) (by omega)).2
   · intro h5
     try simp only [df] at h5
     trivial
   iterate 2 omega
   · intro h6
     try simp only [dt] at h6
     with_reducible and_intros
     iterate 4 omega
   · intro h7
     try simp only [df] at h7
     trivial
   · obtain⟨e1,e2,e3⟩:=S.Nh d x1
     rw [e1,e2,e3]
     rcases S.CM hp.2 (k:=x1) with q|q
     · exact q
     omega
   · rw [S.wm];simp only [lc,ln];omega
   iterate 2 omega
   refine⟨x1+1,?_⟩
   try dsimp only
   with_reducible and_intros
   omega
   · obtain⟨e1,e2,e3⟩:=S.Nh d x1
     rw [e1,e2,e3]
     exact S.zM d x1
   omega
   simp only [S.ag,S.len];omega
 intro h8
 try simp only [df] at h8
 rw [show x1=d.length+1 by omega];rfl
theorem aak(d:List (List UInt8×List Int))(hp:S.bB d∧S.bl d=true)(hf:Vg.Row.ok (Vg.PS.flat [.one (.slice [.str, .slice [.int .i64]])]) d):Ny d:=by
 unfold Ny
 have FE:d.length≤9223372036854775807:=hf.1.1
 clear hf
 with_reducible and_intros
 exact hp.1
 exact hp.2
 exact(S.lM hp.1 hp.2).1
 exact(S.lM hp.1 hp.2).2
 rfl
theorem aal(a:List (List UInt8×List Int))(b:List (List UInt8×List Int))(hp:True)(hf:Vg.Row.ok (Vg.PS.flat [.one (.slice [.str, .slice [.int .i64]]), .one (.slice [.str, .slice [.int .i64]])]) (a,b)):Nz a b:=by
 delta Nz NO aC z0 z1 an
 have ya:a.length≤9223372036854775807:=hf.1.1
 have eF:b.length≤9223372036854775807:=hf.2.1.1
 clear hf
 refine⟨?_,?_⟩
 · intro h1
   try simp only [nt,df] at h1
   exact S.Mg h1
 intro h2
 try simp only [nf,dt] at h2
 refine⟨?_,?_⟩
 · refine⟨(nat_lit 0:Nat),?_⟩
   try dsimp only
   refine⟨?_,?_⟩
   · omega
   exact S.T7 h2
 intro x3 h4
 refine⟨?_,?_⟩
 · intro h5
   try simp only [dt] at h5
   with_reducible and_intros
   iterate 4 omega
   · intro h6
     try simp only [nt,df,tn] at h6
     trivial
   · intro h7
     try simp only [nf,dt,tn] at h7
     with_reducible and_intros
     iterate 4 omega
     trivial
   · intro h8
     try simp only [V.pP,nt,df,tn] at h8
     refine S.Mf (k:=x3) fun e=> ?_
     rw [e] at h8
     rcases h8 with q|q
     · exact q rfl
     simp [S.lL] at q
   intro h9
   try simp only [V.gh,nf,dt,tn] at h9
   with_reducible and_intros
   iterate 2 omega
   refine⟨(x3+nat_lit 1),?_⟩
   try dsimp only
   with_reducible and_intros
   omega
   exact S.JY h4 h5 (Prod.ext h9.1 (by simpa [S.lL] using h9.2))
   simp only [S.ag,S.len];omega
 intro c5
 try simp only [df] at c5
 exact S.Mh h4 c5
theorem aam(docs:List (List UInt8))(s1:Int)(s2:Int)(hp:S.ec docs s1 s2)(hf:Vg.Row.ok (Vg.PS.flat [.one (.slice [.slice [.int .u8]]), .agg [.int .i64, .int .i64]]) (docs,s1,s2)):NA docs s1 s2:=by
 delta NA tP aC z0 z1 an
 have tS:docs.length≤9223372036854775807:=hf.1.1
 have iY: -9223372036854775808≤s1∧s1≤9223372036854775807:=hf.2.1
 have iZ: -9223372036854775808≤s2∧s2≤9223372036854775807:=hf.2.2.1
 clear hf
 have p1:=hp.1
 have p2:=hp.2.1
 have p3:=hp.2.2.1
 have p4:=hp.2.2.2.1
 refine⟨?_,?_⟩
 · refine⟨0,?_⟩
   try dsimp only
   with_reducible and_intros
   omega
   exact S.T8 docs s1
   simp only [S.dz];omega
 intro x1 h2
 refine⟨?_,?_⟩
 · intro h3
   try simp only [dt] at h3
   with_reducible and_intros
   iterate 2 omega
   exact S.CP hp _
   · have q1:=S.oF hp x1
     have q2:=S.tx hp (Int.toNat (s1+(x1:Int)))
     simp only [S.dz] at h2
     omega
   iterate 2 omega
   refine⟨x1+1,?_⟩
   try dsimp only
   with_reducible and_intros
   omega
   exact S.pj docs s1 x1
   · simp only [S.dz];omega
   simp only [S.ag];omega
 intro h4
 try simp only [df] at h4
 with_reducible and_intros
 · have q1:=S.oF hp x1
   simp only [S.dz] at h2
   simp only [S.small];omega
 · refine⟨(nat_lit 0:Nat),?_⟩
   try dsimp only
   with_reducible and_intros
   omega
   rfl
   exact Nat.zero_le _
 intro x5 h6
 refine⟨?_,?_⟩
 · intro h7
   try simp only [dt] at h7
   with_reducible and_intros
   iterate 3 omega
   · refine⟨(0,List.getD (S.sorted (S.fC docs s1 x1)) (Int.toNat (x5:Int)) []),?_⟩
     try dsimp only
     with_reducible and_intros
     omega
     rfl
     exact S.R0 _ _ _
     · simp only [S.dz];omega
     rfl
   intro x8 h9
   refine⟨?_,?_⟩
   · intro c5
     try simp only [dt] at c5
     with_reducible and_intros
     iterate 5 omega
     exact S.CP hp _
     · intro fM
       with_reducible and_intros
       · have q:=S.zO docs s1 x8.2 x8.1
         have q2:=S.CQ h9.1 p2
         simp only [lc,ln];omega
       iterate 2 omega
       refine⟨(x8.1+1,x8.2),?_⟩
       try dsimp only
       with_reducible and_intros
       omega
       rfl
       · rw [h9.2] at fM
         exact S.tz fM
       · simp only [S.dz];omega
       exact h9.2
       simp only [S.ag];omega
     intro dB
     with_reducible and_intros
     iterate 2 omega
     refine⟨(x8.1+1,x8.2),?_⟩
     try dsimp only
     with_reducible and_intros
     omega
     rfl
     · rw [h9.2] at dB
       exact S.wo dB
     · simp only [S.dz];omega
     exact h9.2
     simp only [S.ag];omega
   intro kA
   try simp only [df] at kA
   with_reducible and_intros
   · have q:=S.J1 docs s1 s2 x5
     have q1:=S.oF hp x1
     have q2:=S.lN (S.fC docs s1 x1)
     have q3:=S.CQ h2 p2
     simp only [lc,ln];omega
   omega
   · have q1:=S.oF hp x1;have q2:=S.lN (S.fC docs s1 x1);have q3:=S.CQ h2 p2;omega
   refine⟨(x5+nat_lit 1),?_⟩
   try dsimp only
   with_reducible and_intros
   omega
   · have e:=S.qs (docs:=docs) h2 h4
     have h92:=h9.2
     rw [e.1] at h7 h92
     exact S.xL (by omega) (S.qs (docs:=docs) h9.1 kA).2 h92
   · have e:=S.qs (docs:=docs) h2 h4
     rw [e.1] at h7
     simp only [S.dY,S.ag,S.len];omega
   have e:=S.qs (docs:=docs) h2 h4
   rw [e.1] at h7
   simp only [S.dY,S.ag,S.len];omega
 intro eX
 try simp only [df] at eX
 have e:=S.qs (docs:=docs) h2 h4
 rw [e.1] at eX
 exact S.zP (by omega)
theorem aan(s1:Int)(s2:Int)(hp:True)(hf:Vg.Row.ok (Vg.PS.flat [.agg [.int .i64, .int .i64]]) (s1,s2)):NB s1 s2:=by
 delta NB z0
 have iY: -9223372036854775808≤s1∧s1≤9223372036854775807:=hf.1
 have iZ: -9223372036854775808≤s2∧s2≤9223372036854775807:=hf.2.1
 clear hf
 simp only [S.iD,S.qf]
theorem aao(s1:Int)(s2:Int)(s3:List (List UInt8×List Int))(hp:S.bB s3)(hf:Vg.Row.ok (Vg.PS.flat [.agg [.int .i64, .int .i64, .slice [.str, .slice [.int .i64]]]]) (s1,s2,s3)):NC s1 s2 s3:=by
 delta NC FB aC z0 z1 an
 have iY: -9223372036854775808≤s1∧s1≤9223372036854775807:=hf.1
 have iZ: -9223372036854775808≤s2∧s2≤9223372036854775807:=hf.2.1
 have tR:s3.length≤9223372036854775807:=hf.2.2.1.1
 clear hf
 with_reducible and_intros
 trivial
 · intro h1
   try simp only [nt] at h1
   trivial
 · intro h2
   try simp only [nf] at h2
   omega
 · intro h3
   try simp only [V.pP,nt] at h3
   exact S.Ŝ h3
 intro h4
 try simp only [V.gh,nf] at h4
 refine⟨?_,?_⟩
 · refine⟨(nat_lit 0:Nat),?_⟩
   try dsimp only
   refine⟨?_,?_⟩
   · omega
   exact S.af9 h4.1 h4.2
 intro x5 h6
 refine⟨?_,?_⟩
 · intro h7
   try simp only [dt] at h7
   with_reducible and_intros
   iterate 2 omega
   trivial
   · intro h8
     try simp only [nt,df,tn] at h8
     exact S.Ub h7 (decide_eq_false h8)
   intro h9
   try simp only [nf,dt,tn] at h9
   with_reducible and_intros
   iterate 2 omega
   refine⟨(x5+nat_lit 1),?_⟩
   try dsimp only
   with_reducible and_intros
   omega
   exact S.R3 h6 h7 (decide_eq_true h9)
   simp only [S.ag,S.len];omega
 intro c5
 try simp only [df] at c5
 exact S.Uc h6 c5
theorem aap(s1:Int)(s2:Int)(s3:List (List UInt8×List Int))(hp:S.bB s3)(hf:Vg.Row.ok (Vg.PS.flat [.agg [.int .i64, .int .i64, .slice [.str, .slice [.int .i64]]]]) (s1,s2,s3)):ND s1 s2 s3:=by
 delta ND aC z0 z1 an
 have iY: -9223372036854775808≤s1∧s1≤9223372036854775807:=hf.1
 have iZ: -9223372036854775808≤s2∧s2≤9223372036854775807:=hf.2.1
 have tR:s3.length≤9223372036854775807:=hf.2.2.1.1
 clear hf
 have la:=hp.1
 with_reducible and_intros
 omega
 · intro h1
   try simp only [nt] at h1
   with_reducible and_intros
   iterate 4 (rw [S.CR h1])
   rw [S.CR h1]
 intro h2
 try simp only [nf] at h2
 with_reducible and_intros
 omega
 · intro h3
   try simp only [nt,df] at h3
   with_reducible and_intros
   iterate 5 (exact absurd (S.mD h2).2.1 h3)
 intro h4
 try simp only [nf,dt] at h4
 with_reducible and_intros
 iterate 2 omega
 iterate 3 (rw [(S.mD h2).1])
 · rw [(S.mD h2).1];exact(S.mD h2).2.2
 rw [(S.mD h2).1]
theorem auS(s1:Int)(s2:Int)(s3:Int)(s4:List UInt8)(hp:True)(hf:Vg.Row.ok (Vg.PS.flat [.agg [.int .i64, .int .i64, .int .i64, .str]]) (s1,s2,s3,s4)):at7 s1 s2 s3 s4:=by
 delta at7 z1 an
 have iY: -9223372036854775808≤s1∧s1≤9223372036854775807:=hf.1
 have iZ: -9223372036854775808≤s2∧s2≤9223372036854775807:=hf.2.1
 have tR: -9223372036854775808≤s3∧s3≤9223372036854775807:=hf.2.2.1
 have MA:s4.length≤9223372036854775807:=hf.2.2.2.1
 clear hf
 refine⟨?_,?_⟩
 · trivial
 simp only [S.af8,S.qf]
theorem aaq(docs:List (List UInt8))(s1:Int)(s2:Int)(hp:True)(hf:Vg.Row.ok (Vg.PS.flat [.one (.slice [.slice [.int .u8]]), .agg [.int .i64, .int .i64]]) (docs,s1,s2)):NF docs s1 s2:=by
 delta NF z0 z1
 have tS:docs.length≤9223372036854775807:=hf.1.1
 have iY: -9223372036854775808≤s1∧s1≤9223372036854775807:=hf.2.1
 have iZ: -9223372036854775808≤s2∧s2≤9223372036854775807:=hf.2.2.1
 clear hf
 with_reducible and_intros
 trivial
 · intro h1
   try simp only [nt,df] at h1
   with_reducible and_intros
   iterate 3 (rw [(S.J3 (by simpa using h1)).1])
   have q:=S.J3 (docs:=docs) (a:=s1) (b:=s2) (by simpa using h1)
   rw [q.1,q.2]
 intro h2
 try simp only [nf,dt] at h2
 refine⟨?_,?_⟩
 · intro h3
   try simp only [dt] at h3
   with_reducible and_intros
   iterate 3 (rw [S.J4 h3])
   rw [S.J4 h3]
 intro h4
 try simp only [df] at h4
 with_reducible and_intros
 iterate 3 (rw [S.J5 (by simpa using h2) h4])
 rw [S.J5 (by simpa using h2) h4]
theorem auT(l:List (Int×Int×Int×List UInt8))(n:Int)(hp:True)(hf:Vg.Row.ok (Vg.PS.flat [.one (.slice [.int .i64, .int .i64, .int .i64, .str]), .one (.int .i64)]) (l,n)):aua l n:=by
 delta aua FC mU tQ aC z0 z1 an
 have gj:l.length≤9223372036854775807:=hf.1.1
 have WB: -9223372036854775808≤n∧n≤9223372036854775807:=hf.2.1
 clear hf
 refine⟨?_,?_⟩
 · intro h1
   try simp only [dt] at h1
   exact S.avY h1
 intro h2
 try simp only [df] at h2
 refine⟨?_,?_⟩
 · refine⟨(nat_lit 0:Nat),?_⟩
   try dsimp only
   with_reducible and_intros
   omega
   exact(S.apx l).symm
   exact S.awA h2
 intro x3 h4
 refine⟨?_,?_⟩
 · intro h5
   try simp only [dt] at h5
   with_reducible and_intros
   iterate 2 omega
   · intro h6
     try simp only [nt] at h6
     trivial
   · intro h7
     try simp only [nf] at h7
     trivial
   · intro h8
     try simp only [V.pP,nt] at h8
     refine S.avi h4 h5 (S.atM ?_)
     rw [show Int.toNat (x3:Int)=x3 by omega] at h8
     simpa [S.Ud,S.sg] using h8
   intro h9
   try simp only [V.gh,nf] at h9
   with_reducible and_intros
   iterate 2 omega
   refine⟨(x3+nat_lit 1),?_⟩
   try dsimp only
   with_reducible and_intros
   omega
   exact(S.atL l x3).symm
   · refine S.auC h4 h5 (S.auD ?_)
     rw [show Int.toNat (x3:Int)=x3 by omega] at h9
     simpa [S.Ud,S.sg] using h9
   simp only [S.ag,S.len];omega
 intro c5
 try simp only [df] at c5
 exact S.avj h4 c5
theorem aar(docs:List (List UInt8))(s1:Int)(s2:Int)(hp:True)(hf:Vg.Row.ok (Vg.PS.flat [.one (.slice [.slice [.int .u8]]), .agg [.int .i64, .int .i64]]) (docs,s1,s2)):NG docs s1 s2:=by
 unfold NG
 have tS:docs.length≤9223372036854775807:=hf.1.1
 have iY: -9223372036854775808≤s1∧s1≤9223372036854775807:=hf.2.1
 have iZ: -9223372036854775808≤s2∧s2≤9223372036854775807:=hf.2.2.1
 clear hf
 refine⟨?_,?_⟩
 · trivial
 simp only [S.cC,S.qf]
theorem aas(docs:List (List UInt8))(s1:Int)(s2:Int)(hp:S.ec docs s1 s2)(hf:Vg.Row.ok (Vg.PS.flat [.one (.slice [.slice [.int .u8]]), .agg [.int .i64, .int .i64]]) (docs,s1,s2)):NH docs s1 s2:=by
 unfold NH
 have tS:docs.length≤9223372036854775807:=hf.1.1
 have iY: -9223372036854775808≤s1∧s1≤9223372036854775807:=hf.2.1
 have iZ: -9223372036854775808≤s2∧s2≤9223372036854775807:=hf.2.2.1
 clear hf
 with_reducible and_intros
 exact hp
 iterate 3 rfl
theorem aat(s1:Int)(s2:Int)(s3:List (List UInt8×List Int))(hp:S.bB s3∧S.bl s3=true)(hf:Vg.Row.ok (Vg.PS.flat [.agg [.int .i64, .int .i64, .slice [.str, .slice [.int .i64]]]]) (s1,s2,s3)):NI s1 s2 s3:=by
 delta NI an
 have iY: -9223372036854775808≤s1∧s1≤9223372036854775807:=hf.1
 have iZ: -9223372036854775808≤s2∧s2≤9223372036854775807:=hf.2.1
 have tR:s3.length≤9223372036854775807:=hf.2.2.1.1
 clear hf
 with_reducible and_intros
 exact hp.1
 exact hp.2
 exact hp.1
 exact hp.2
 iterate 4 rfl
theorem aau(a1:Int)(a2:Int)(a3:List (List UInt8×List Int))(b1:Int)(b2:Int)(b3:List (List UInt8×List Int))(hp:True)(hf:Vg.Row.ok (Vg.PS.flat [.agg [.int .i64, .int .i64, .slice [.str, .slice [.int .i64]]], .agg [.int .i64, .int .i64, .slice [.str, .slice [.int .i64]]]]) (a1,a2,a3,b1,b2,b3)):NJ a1 a2 a3 b1 b2 b3:=by
 unfold NJ
 have aiB: -9223372036854775808≤a1∧a1≤9223372036854775807:=hf.1
 have aiC: -9223372036854775808≤a2∧a2≤9223372036854775807:=hf.2.1
 have aqU:a3.length≤9223372036854775807:=hf.2.2.1.1
 have aiD: -9223372036854775808≤b1∧b1≤9223372036854775807:=hf.2.2.2.1
 have aiE: -9223372036854775808≤b2∧b2≤9223372036854775807:=hf.2.2.2.2.1
 have aqV:b3.length≤9223372036854775807:=hf.2.2.2.2.2.1.1
 clear hf
 with_reducible and_intros
 · intro h1
   trivial
 · intro h2
   trivial
 simp only [S.Ud,S.rB,S.eR,S.qf,Bool.and_assoc]
theorem aav(d:List (List UInt8×List Int))(hp:True)(hf:Vg.Row.ok (Vg.PS.flat [.one (.slice [.str, .slice [.int .i64]])]) d):NK d:=by
 delta NK vu aC z0 z1 an
 have FE:d.length≤9223372036854775807:=hf.1.1
 clear hf
 refine⟨?_,?_⟩
 · refine⟨(nat_lit 0:Nat),?_⟩
   try dsimp only
   refine⟨?_,?_⟩
   · omega
   exact S.anT d
 intro x1 h2
 refine⟨?_,?_⟩
 · intro h3
   try simp only [dt] at h3
   with_reducible and_intros
   iterate 2 omega
   · intro h4
     try simp only [dt,tn] at h4
     trivial
   · intro h5
     try simp only [df,tn] at h5
     refine⟨?_,?_⟩
     · omega
     omega
   · intro h6
     try simp only [V.pP,dt,tn] at h6
     refine S.ŝ h3 ?_
     simp only [S.po,Bool.or_eq_true,dt];exact h6
   intro h7
   try simp only [V.gh,df,tn] at h7
   with_reducible and_intros
   iterate 2 omega
   refine⟨(x1+nat_lit 1),?_⟩
   try dsimp only
   with_reducible and_intros
   omega
   · refine S.Uf h2 h3 ?_
     simp only [S.po,Bool.or_eq_false_iff,df];exact h7
   simp only [S.ag,S.len];omega
 intro h8
 try simp only [df] at h8
 exact S.Ş h2 h8
theorem aaw(docs:List (List UInt8))(hp:True)(hf:Vg.Row.ok (Vg.PS.flat [.one (.slice [.slice [.int .u8]])]) docs):NL docs:=by
 delta NL aC z0 z1 an
 have tS:docs.length≤9223372036854775807:=hf.1.1
 clear hf
 refine⟨?_,?_⟩
 · refine⟨(nat_lit 0:Nat),?_⟩
   try dsimp only
   refine⟨?_,?_⟩
   · omega
   exact S.anU docs
 intro x1 h2
 refine⟨?_,?_⟩
 · intro h3
   try simp only [dt] at h3
   with_reducible and_intros
   iterate 2 omega
   · intro h4
     try simp only [dt,tn] at h4
     exact S.ş h3 h4
   intro h5
   try simp only [df,tn] at h5
   with_reducible and_intros
   iterate 2 omega
   refine⟨(x1+nat_lit 1),?_⟩
   try dsimp only
   with_reducible and_intros
   omega
   exact S.Ug h2 h3 h5
   simp only [S.ag,S.len];omega
 intro h6
 try simp only [df] at h6
 exact S.Š h2 h6
theorem aax(s1:Int)(s2:Int)(s3:List (List UInt8×List Int))(hp:True)(hf:Vg.Row.ok (Vg.PS.flat [.agg [.int .i64, .int .i64, .slice [.str, .slice [.int .i64]]]]) (s1,s2,s3)):NM s1 s2 s3:=by
 unfold NM
 have iY: -9223372036854775808≤s1∧s1≤9223372036854775807:=hf.1
 have iZ: -9223372036854775808≤s2∧s2≤9223372036854775807:=hf.2.1
 have tR:s3.length≤9223372036854775807:=hf.2.2.1.1
 clear hf
 with_reducible and_intros
 iterate 3 rfl
theorem aay(s1:Int)(s2:Int)(s3:Int)(s4:List UInt8)(hp:True)(hf:Vg.Row.ok (Vg.PS.flat [.agg [.int .i64, .int .i64, .int .i64, .str]]) (s1,s2,s3,s4)):NN s1 s2 s3 s4:=by
 unfold NN
 have iY: -9223372036854775808≤s1∧s1≤9223372036854775807:=hf.1
 have iZ: -9223372036854775808≤s2∧s2≤9223372036854775807:=hf.2.1
 have tR: -9223372036854775808≤s3∧s3≤9223372036854775807:=hf.2.2.1
 have MA:s4.length≤9223372036854775807:=hf.2.2.2.1
 clear hf
 with_reducible and_intros
 iterate 4 rfl
theorem aaG(a:List Int)(b:List Int)(hp:True)(hf:Vg.Row.ok (Vg.PS.flat [.one (.slice [.int .i64]), .one (.slice [.int .i64])]) (a,b)):NW a b:=by
 delta NW aC z0 z1 an
 have ya:a.length≤9223372036854775807:=hf.1.1
 have eF:b.length≤9223372036854775807:=hf.2.1.1
 clear hf
 refine⟨?_,?_⟩
 · intro h1
   try simp only [nt,df] at h1
   exact(decide_eq_false (S.Kn h1)).symm
 intro h2
 try simp only [nf,dt] at h2
 refine⟨?_,?_⟩
 · refine⟨(nat_lit 0:Nat),?_⟩
   try dsimp only
   refine⟨?_,?_⟩
   · omega
   exact S.UH h2
 intro x3 h4
 refine⟨?_,?_⟩
 · intro h5
   try simp only [dt] at h5
   with_reducible and_intros
   iterate 4 omega
   · intro h6
     try simp only [nt,df,tn] at h6
     exact(decide_eq_false (S.Ko 0 h6)).symm
   intro h7
   try simp only [nf,dt,tn] at h7
   with_reducible and_intros
   iterate 2 omega
   refine⟨(x3+nat_lit 1),?_⟩
   try dsimp only
   with_reducible and_intros
   omega
   exact S.Fx 0 h4 h5 h7
   simp only [S.ag,S.len,S.kh,S.jW] at *;omega
 intro h8
 try simp only [df] at h8
 exact(decide_eq_true (S.Km h4 h8)).symm
theorem aaH(a1:List UInt8)(a2:List Int)(b1:List UInt8)(b2:List Int)(hp:True)(hf:Vg.Row.ok (Vg.PS.flat [.agg [.str, .slice [.int .i64]], .agg [.str, .slice [.int .i64]]]) (a1,a2,b1,b2)):NX a1 a2 b1 b2:=by
 unfold NX
 have aiB:a1.length≤9223372036854775807:=hf.1
 have aiC:a2.length≤9223372036854775807:=hf.2.1.1
 have aiD:b1.length≤9223372036854775807:=hf.2.2.1
 have aiE:b2.length≤9223372036854775807:=hf.2.2.2.1.1
 clear hf
 with_reducible and_intros
 · intro h1
   try simp only [dt] at h1
   trivial
 · intro h2
   try simp only [df] at h2
   trivial
 simp only [S.tK,S.agO];cases decide (a1=b1)<;>rfl
theorem aaI(a:List (List UInt8×List Int))(b:List (List UInt8×List Int))(hp:True)(hf:Vg.Row.ok (Vg.TA.eI [.iP (.slice [.str, .slice [.int .i64]]), .iP (.slice [.str, .slice [.int .i64]]), .fn (.func 98) [] []]) (a,b))(hg:Vg.fJ.ok [] ()):NY a b:=by
 delta NY Wr aC z0 z1 an
 have ya:a.length≤9223372036854775807:=hf.1.1
 have eF:b.length≤9223372036854775807:=hf.2.1.1
 clear hf hg
 refine⟨?_,?_⟩
 · intro h1
   try simp only [nt,df] at h1
   exact(decide_eq_false (S.Kn h1)).symm
 intro h2
 try simp only [nf,dt] at h2
 refine⟨?_,?_⟩
 · refine⟨(nat_lit 0:Nat),?_⟩
   try dsimp only
   refine⟨?_,?_⟩
   · omega
   exact S.UH h2
 intro x3 h4
 refine⟨?_,?_⟩
 · intro h5
   try simp only [dt] at h5
   with_reducible and_intros
   iterate 4 omega
   trivial
   · intro h6
     try simp only [nt] at h6
     exact(decide_eq_false (S.Ko ([],[]) (S.Ű h6))).symm
   intro h7
   try simp only [nf] at h7
   with_reducible and_intros
   iterate 2 omega
   refine⟨(x3+nat_lit 1),?_⟩
   try dsimp only
   with_reducible and_intros
   omega
   exact S.Fx ([],[]) h4 h5 (S.ů h7)
   simp only [S.ag,S.len,S.kh,S.jW] at *;omega
 intro h8
 try simp only [df] at h8
 exact(decide_eq_true (S.Km h4 h8)).symm
theorem aaJ(a:List (List UInt8×List Int))(b:List (List UInt8×List Int))(hp:True)(hf:Vg.Row.ok (Vg.PS.flat [.one (.slice [.str, .slice [.int .i64]]), .one (.slice [.str, .slice [.int .i64]])]) (a,b)):NZ a b:=by
 unfold NZ
 have ya:a.length≤9223372036854775807:=hf.1.1
 have eF:b.length≤9223372036854775807:=hf.2.1.1
 clear hf
 refine⟨?_,?_⟩
 · trivial
 rfl
theorem aaK(y1:List (List UInt8))(y2:List (Int×Int×List (List UInt8×List Int)))(hp:True)(hf:Vg.Row.ok (Vg.PS.flat [.agg [.slice [.slice [.int .u8]], .slice [.int .i64, .int .i64, .slice [.str, .slice [.int .i64]]]]]) (y1,y2)):N0 y1 y2:=by
 delta N0 zV Ws Wt aC z0 z1 an
 have kj:y1.length≤9223372036854775807:=hf.1.1
 have kl:y2.length≤9223372036854775807:=hf.2.1.1
 clear hf
 refine⟨?_,?_⟩
 · intro h1
   try simp only [V.pP,dt] at h1
   exact S.an4 h1
 intro h2
 try simp only [V.gh,df] at h2
 refine⟨?_,?_⟩
 · refine⟨(nat_lit 0:Nat),?_⟩
   try dsimp only
   refine⟨?_,?_⟩
   · omega
   exact⟨by omega,by omega,S.Nf _⟩
 intro x3 h4
 refine⟨?_,?_⟩
 · intro h5
   try simp only [dt] at h5
   with_reducible and_intros
   iterate 2 omega
   · intro h6
     try simp only [dt,tn] at h6
     exact S.an5 h5 h6
   intro h7
   try simp only [df,tn] at h7
   with_reducible and_intros
   iterate 2 omega
   refine⟨(x3+nat_lit 1),?_⟩
   try dsimp only
   with_reducible and_intros
   omega
   exact⟨h4.1,h4.2.1,S.CN h4.2.2 h5 (by omega)⟩
   simp only [S.ag,S.len,S.kh,S.jW] at *;omega
 intro h8
 try simp only [df] at h8
 refine⟨?_,?_⟩
 · refine⟨(nat_lit 0:Nat),?_⟩
   try dsimp only
   with_reducible and_intros
   omega
   rfl
   exact S.UI h4 h8
 intro x9 c5
 refine⟨?_,?_⟩
 · intro fM
   try simp only [dt] at fM
   with_reducible and_intros
   iterate 2 omega
   · intro dB
     try simp only [V.pP,nt,df,tn,dt] at dB
     exact S.AJ fM (S.an6 dB)
   intro kA
   try simp only [V.gh,nf,dt,tn,df] at kA
   with_reducible and_intros
   trivial
   · intro eX
     try simp only [nt,df,tn] at eX
     trivial
   · intro k9
     try simp only [nf,dt,tn] at k9
     trivial
   · intro EC
     try simp only [V.pP,nt,df,tn] at EC
     exact S.AJ fM (S.an7 c5 kA EC)
   intro Kx
   try simp only [V.gh,nf,dt,tn] at Kx
   with_reducible and_intros
   iterate 2 omega
   refine⟨(x9+nat_lit 1),?_⟩
   try dsimp only
   with_reducible and_intros
   omega
   exact S.Fy _ _
   exact S.Kp c5 fM (S.an8 c5 kA Kx)
   simp only [S.ag,S.len,S.kh,S.jW] at *;omega
 intro y7
 try simp only [df] at y7
 exact S.Np c5 y7
theorem aaL(y1:List (List UInt8))(y2:List (Int×Int×List (List UInt8×List Int)))(hp:True)(hf:Vg.Row.ok (Vg.PS.flat [.agg [.slice [.slice [.int .u8]], .slice [.int .i64, .int .i64, .slice [.str, .slice [.int .i64]]]]]) (y1,y2)):N1 y1 y2:=by
 unfold N1
 have kj:y1.length≤9223372036854775807:=hf.1.1
 have kl:y2.length≤9223372036854775807:=hf.2.1.1
 clear hf
 with_reducible and_intros
 trivial
 · intro h1
   try simp only [nt] at h1
   refine⟨?_,?_⟩
   · rw [S.xS h1]
   rw [S.xS h1]
 intro h2
 try simp only [nf] at h2
 refine⟨?_,?_⟩
 · rw [S.rE h2]
 rw [S.rE h2]
theorem aaM(y1:List (List UInt8))(y2:List (Int×Int×List (List UInt8×List Int)))(hp:True)(hf:Vg.Row.ok (Vg.PS.flat [.agg [.slice [.slice [.int .u8]], .slice [.int .i64, .int .i64, .slice [.str, .slice [.int .i64]]]]]) (y1,y2)):N2 y1 y2:=by
 delta N2 aC z0 z1 an
 have kj:y1.length≤9223372036854775807:=hf.1.1
 have kl:y2.length≤9223372036854775807:=hf.2.1.1
 clear hf
 refine⟨?_,?_⟩
 · intro h1
   try simp only [dt] at h1
   exact S.agn h1
 intro h2
 try simp only [df] at h2
 with_reducible and_intros
 iterate 4 omega
 exact S.ago h2
theorem aaP(y1:List (List UInt8))(y2:List (Int×Int×List (List UInt8×List Int)))(hp:True)(hf:Vg.Row.ok (Vg.PS.flat [.agg [.slice [.slice [.int .u8]], .slice [.int .i64, .int .i64, .slice [.str, .slice [.int .i64]]]]]) (y1,y2)):N5 y1 y2:=by
 unfold N5
 have kj:y1.length≤9223372036854775807:=hf.1.1
 have kl:y2.length≤9223372036854775807:=hf.2.1.1
 clear hf
 with_reducible and_intros
 iterate 2 trivial
 rfl
theorem aaT(y1:List (List UInt8))(y2:List (Int×Int×List (List UInt8×List Int)))(hp:True)(hf:Vg.Row.ok (Vg.PS.flat [.agg [.slice [.slice [.int .u8]], .slice [.int .i64, .int .i64, .slice [.str, .slice [.int .i64]]]]]) (y1,y2)):N9 y1 y2:=by
 delta N9 Ku aC Db z0 z1
 have kj:y1.length≤9223372036854775807:=hf.1.1
 have kl:y2.length≤9223372036854775807:=hf.2.1.1
 clear hf
 with_reducible and_intros
 trivial
 iterate 2 omega
 · have :=(S.k8 y1 y2).2.1;omega
 · refine⟨(nat_lit 0:Nat),?_⟩
   try dsimp only
   with_reducible and_intros
   omega
   rfl
   omega
 intro x1 h2
 refine⟨?_,?_⟩
 · intro h3
   try simp only [dt] at h3
   with_reducible and_intros
   iterate 2 omega
   exact(S.qx y1 y2 (k:=x1) (by omega)).2
   · have :=S.xT y1 y2 x1;simp only [List.length_singleton];omega
   omega
   · have :=(S.k8 y1 y2).2.1;omega
   refine⟨(x1+nat_lit 1),?_⟩
   try dsimp only
   with_reducible and_intros
   omega
   exact S.Ks h3
   · simp only [S.gL,S.ag] at *;omega
   simp only [S.gL,S.ag] at *;omega
 intro h4
 try simp only [df] at h4
 exact S.Nr h4
theorem aaU(y1:List (List UInt8))(y2:List (Int×Int×List (List UInt8×List Int)))(hp:True)(hf:Vg.Row.ok (Vg.PS.flat [.agg [.slice [.slice [.int .u8]], .slice [.int .i64, .int .i64, .slice [.str, .slice [.int .i64]]]]]) (y1,y2)):Oa y1 y2:=by
 delta Oa Kv Wu xW Dd aC z0 z1 an
 have kj:y1.length≤9223372036854775807:=hf.1.1
 have kl:y2.length≤9223372036854775807:=hf.2.1.1
 clear hf
 with_reducible and_intros
 trivial
 · intro h1
   try simp only [V.pP,nt,dt] at h1
   exact S.aoc h1
 intro h2
 try simp only [V.gh,nf,df] at h2
 refine⟨?_,?_⟩
 · refine⟨(nat_lit 0:Nat),?_⟩
   try dsimp only
   refine⟨?_,?_⟩
   · omega
   exact⟨h2.1,by omega,fun i hi=>absurd hi (Nat.not_lt_zero i),Nat.zero_le _⟩
 intro x3 h4
 refine⟨?_,?_⟩
 · intro h5
   try simp only [dt] at h5
   with_reducible and_intros
   iterate 2 omega
   · intro h6
     try simp only [dt] at h6
     refine⟨?_,?_⟩
     · intro h7
       try simp only [nt,df,tn] at h7
       trivial
     intro h8
     try simp only [nf,dt,tn] at h8
     refine⟨?_,?_⟩
     · intro h9
       try simp only [dt] at h9
       with_reducible and_intros
       iterate 4 omega
       · intro c5
         try simp only [nt,df,tn] at c5
         trivial
       intro fM
       try simp only [nf,dt,tn] at fM
       trivial
     intro dB
     try simp only [df] at dB
     trivial
   · intro kA
     try simp only [df] at kA
     refine⟨?_,?_⟩
     · intro eX
       try simp only [dt] at eX
       with_reducible and_intros
       iterate 4 omega
       · intro k9
         try simp only [nt,df,tn] at k9
         trivial
       intro EC
       try simp only [nf,dt,tn] at EC
       trivial
     intro Kx
     try simp only [df] at Kx
     trivial
   · intro y7
     exact S.AJ h5 (S.Ų (S.UK.symm.trans y7))
   intro Ky
   with_reducible and_intros
   iterate 2 omega
   exact S.lO (S.aem (S.UK.symm.trans Ky)).2
   trivial
   · intro Sl
     try simp only [nt] at Sl
     exact S.AJ h5 (S.agq Sl)
   intro oK
   try simp only [nf] at oK
   with_reducible and_intros
   iterate 2 omega
   refine⟨(x3+nat_lit 1),?_⟩
   try dsimp only
   with_reducible and_intros
   omega
   exact S.Kp h4 h5 (S.ų (S.aem (S.UK.symm.trans Ky)) oK)
   simp only [S.ag,S.len,S.kh,S.jW,S.gL] at *;omega
 intro h22
 try simp only [df] at h22
 exact S.Np h4 h22
theorem aaV(y1:List (List UInt8))(y2:List (Int×Int×List (List UInt8×List Int)))(hp:True)(hf:Vg.Row.ok (Vg.PS.flat [.agg [.slice [.slice [.int .u8]], .slice [.int .i64, .int .i64, .slice [.str, .slice [.int .i64]]]]]) (y1,y2)):Ob y1 y2:=by
 unfold Ob
 have kj:y1.length≤9223372036854775807:=hf.1.1
 have kl:y2.length≤9223372036854775807:=hf.2.1.1
 clear hf
 with_reducible and_intros
 trivial
 · intro h1
   refine⟨?_,?_⟩
   · rw [S.rE h1]
   rw [S.rE h1]
 intro h2
 refine⟨?_,?_⟩
 · rw [S.xS h2]
 rw [S.xS h2]
theorem aaW(y1:List (List UInt8))(y2:List (Int×Int×List (List UInt8×List Int)))(hp:True)(hf:Vg.Row.ok (Vg.PS.flat [.agg [.slice [.slice [.int .u8]], .slice [.int .i64, .int .i64, .slice [.str, .slice [.int .i64]]]]]) (y1,y2)):Oc y1 y2:=by
 delta Oc aC z0 z1
 have kj:y1.length≤9223372036854775807:=hf.1.1
 have kl:y2.length≤9223372036854775807:=hf.2.1.1
 clear hf
 with_reducible and_intros
 trivial
 · refine⟨(nat_lit 0:Nat),?_⟩
   try dsimp only
   with_reducible and_intros
   omega
   rfl
   omega
 intro x1 h2
 refine⟨?_,?_⟩
 · intro h3
   try simp only [dt] at h3
   with_reducible and_intros
   iterate 3 omega
   · have :=(S.k8 y1 y2).2.1;omega
   refine⟨(x1+nat_lit 1),?_⟩
   try dsimp only
   with_reducible and_intros
   omega
   exact S.Fy _ _
   · simp only [S.ag,S.len,S.kh,S.jW,S.gL] at *;omega
   simp only [S.ag,S.len,S.kh,S.jW,S.gL] at *;omega
 intro h4
 try simp only [df] at h4
 exact S.Sf h2 h4
theorem aaX(y1:List (List UInt8))(y2:List (Int×Int×List (List UInt8×List Int)))(hp:True)(hf:Vg.Row.ok (Vg.PS.flat [.agg [.slice [.slice [.int .u8]], .slice [.int .i64, .int .i64, .slice [.str, .slice [.int .i64]]]]]) (y1,y2)):Od y1 y2:=by
 delta Od Wv aC z0 z1
 have kj:y1.length≤9223372036854775807:=hf.1.1
 have kl:y2.length≤9223372036854775807:=hf.2.1.1
 clear hf
 with_reducible and_intros
 trivial
 · refine⟨(nat_lit 0:Nat),?_⟩
   try dsimp only
   with_reducible and_intros
   omega
   rfl
   omega
 intro x1 h2
 refine⟨?_,?_⟩
 · intro h3
   try simp only [dt] at h3
   with_reducible and_intros
   iterate 2 omega
   exact(S.qx y1 y2 (k:=x1) (by omega)).2
   exact S.C4 (S.qx y1 y2 (k:=x1) (by omega)).1
   · have :=S.xT y1 y2 x1;simp only [List.length_singleton];omega
   omega
   · have :=(S.k8 y1 y2).2.1;omega
   refine⟨(x1+nat_lit 1),?_⟩
   try dsimp only
   with_reducible and_intros
   omega
   exact S.Sh h3
   · simp only [S.ag,S.len,S.kh,S.jW,S.gL] at *;omega
   simp only [S.ag,S.len,S.kh,S.jW,S.gL] at *;omega
 intro h4
 try simp only [df] at h4
 exact S.Nr h4
theorem aaZ(y1:List (List UInt8))(y2:List (Int×Int×List (List UInt8×List Int)))(hp:S.small y2)(hf:Vg.Row.ok (Vg.PS.flat [.agg [.slice [.slice [.int .u8]], .slice [.int .i64, .int .i64, .slice [.str, .slice [.int .i64]]]]]) (y1,y2)):Oh y1 y2:=by
 delta Oh vv aC z0 z1 an
 have kj:y1.length≤9223372036854775807:=hf.1.1
 have kl:y2.length≤9223372036854775807:=hf.2.1.1
 clear hf
 refine⟨?_,?_⟩
 · refine⟨(nat_lit 0:Nat),?_⟩
   try dsimp only
   with_reducible and_intros
   omega
   iterate 2 rfl
   simp only [S.ag,S.len,S.kh,S.gL,S.pL,S.pD] at *;omega
 intro x1 h2
 refine⟨?_,?_⟩
 · intro h3
   try simp only [dt] at h3
   with_reducible and_intros
   iterate 2 omega
   trivial
   · simp only [List.length_take,List.length_singleton,S.small] at *;omega
   iterate 2 omega
   refine⟨(x1+nat_lit 1),?_⟩
   try dsimp only
   with_reducible and_intros
   omega
   rfl
   exact(S.aA y2 x1 (0,0,[]) (by omega)).symm
   · simp only [S.ag,S.len,S.kh,S.gL,S.pL,S.pD] at *;omega
   simp only [S.ag,S.len,S.kh,S.gL,S.pL,S.pD] at *;omega
 intro h4
 try simp only [df] at h4
 refine⟨?_,?_⟩
 · rfl
 exact List.take_of_length_le (by omega)
theorem aa0(y1:List (List UInt8))(y2:List (Int×Int×List (List UInt8×List Int)))(hp:True)(hf:Vg.Row.ok (Vg.PS.flat [.agg [.slice [.slice [.int .u8]], .slice [.int .i64, .int .i64, .slice [.str, .slice [.int .i64]]]]]) (y1,y2)):Oi y1 y2:=by
 delta Oi aC z0 z1 an
 have kj:y1.length≤9223372036854775807:=hf.1.1
 have kl:y2.length≤9223372036854775807:=hf.2.1.1
 clear hf
 refine⟨?_,?_⟩
 · refine⟨(nat_lit 0:Nat),?_⟩
   try dsimp only
   refine⟨?_,?_⟩
   · omega
   exact S.aod _
 intro x1 h2
 refine⟨?_,?_⟩
 · intro h3
   try simp only [dt] at h3
   with_reducible and_intros
   iterate 2 omega
   trivial
   · intro h4
     exact S.Ŵ h3 h4
   intro h5
   with_reducible and_intros
   iterate 2 omega
   refine⟨(x1+nat_lit 1),?_⟩
   try dsimp only
   with_reducible and_intros
   omega
   exact S.UL h2 h3 h5
   simp only [S.ag,S.len,S.kh,S.gL,S.pL,S.pD] at *;omega
 intro h6
 try simp only [df] at h6
 refine⟨?_,?_⟩
 · trivial
 exact S.ŵ h2 h6
theorem ayB(y1:Int)(y2:List UInt8)(y3:List (Int×Int×Int×List UInt8))(hp:True)(hf:Vg.Row.ok (Vg.PS.flat [.agg [.int .i64, .str, .slice [.int .i64, .int .i64, .int .i64, .str]]]) (y1,y2,y3)):avQ y1 y2 y3:=by
 delta avQ z0 an
 have kj: -9223372036854775808≤y1∧y1≤9223372036854775807:=hf.1
 have kl:y2.length≤9223372036854775807:=hf.2.1
 have axX:y3.length≤9223372036854775807:=hf.2.2.1.1
 clear hf
 with_reducible and_intros
 · intro h1
   try simp only [dt] at h1
   refine⟨?_,?_⟩
   · intro h2
     try simp only [dt] at h2
     refine⟨?_,?_⟩
     · intro h3
       try simp only [dt] at h3
       trivial
     intro h4
     try simp only [df] at h4
     trivial
   intro h5
   try simp only [df] at h5
   trivial
 · intro h6
   try simp only [df] at h6
   trivial
 exact S.awF _ _ _
theorem ayC(y1:List (List UInt8))(y2:List (Int×Int×List (List UInt8×List Int)))(hp:True)(hf:Vg.Row.ok (Vg.PS.flat [.agg [.slice [.slice [.int .u8]], .slice [.int .i64, .int .i64, .slice [.str, .slice [.int .i64]]]]]) (y1,y2)):avR y1 y2:=by
 delta avR z0 an
 have kj:y1.length≤9223372036854775807:=hf.1.1
 have kl:y2.length≤9223372036854775807:=hf.2.1.1
 clear hf
 with_reducible and_intros
 trivial
 · intro h1
   try simp only [nt] at h1
   trivial
 · intro h2
   try simp only [nf] at h2
   trivial
 · intro h3
   try simp only [V.pP,nt,df] at h3
   with_reducible and_intros
   iterate 3 (rw [S.asp h3])
   rw [S.asp h3]
 intro h4
 try simp only [V.gh,nf,dt] at h4
 with_reducible and_intros
 exact(S.auJ h4.1).1
 exact(S.auJ h4.1).2
 · intro h5
   try simp only [nt,df] at h5
   with_reducible and_intros
   iterate 4 (exact absurd (S.awe y1).1 h5)
 intro h6
 try simp only [nf,dt] at h6
 with_reducible and_intros
 trivial
 rw [S.ar4 h4]
 rw [S.ar4 h4,(S.awe y1).2]
 rw [S.ar4 h4]
 rw [S.ar4 h4]
theorem ayD(v:Int)(q:Int)(hp:S.rj v=false∧q=0)(hf:Vg.Row.ok (Vg.TA.eI [.iP (.int .i64), .ref 50000 0, .ref 50001 0]) v)(hg:Vg.fJ.ok [.cells [.iP (.int .i64)], .cells [.nil]] (q,((),()))):avT v q:=by
 delta avT z0
 have aex: -9223372036854775808≤v∧v≤9223372036854775807:=hf.1
 have aCl: -9223372036854775808≤q∧q≤9223372036854775807:=hg.1.1
 clear hf hg
 refine⟨?_,?_⟩
 · intro h1
   try simp only [dt] at h1
   with_reducible and_intros
   trivial
   exact(S.ayO hp.1 []).1
   exact(S.ayO hp.1 []).2
 intro h2
 try simp only [df] at h2
 refine⟨?_,?_⟩
 · omega
 omega
theorem ayE(v:Int)(q:Int)(l:List UInt8)(hp:S.rj v=false∧q=0∧l.length≤35184372088832)(hf:Vg.Row.ok (Vg.TA.eI [.iP (.int .i64), .ref 50000 0, .ref 50001 0]) v)(hg:Vg.fJ.ok [.cells [.iP (.int .i64)], .cells [.own 50002], .row 5 [.int .u8]] (q,((),(l,())))):avU v q l:=by
 delta avU z0
 have aex: -9223372036854775808≤v∧v≤9223372036854775807:=hf.1
 have aCl: -9223372036854775808≤q∧q≤9223372036854775807:=hg.1.1
 have gj:l.length≤9223372036854775807:=hg.2.2.1.1
 clear hf hg
 refine⟨?_,?_⟩
 · intro h1
   try simp only [dt] at h1
   with_reducible and_intros
   omega
   exact(S.ayO hp.1 l).1
   exact(S.ayO hp.1 l).2
 intro h2
 try simp only [df] at h2
 refine⟨?_,?_⟩
 · omega
 omega
theorem ayF(d:List UInt8)(l:List UInt8)(hp:l.length≤35184372088832∧d.length≤35184372088832)(hf:Vg.Row.ok (Vg.TA.eI [.iP (.str), .ref 50000 0]) d)(hg:Vg.fJ.ok [.cells [.own 50001], .row 5 [.int .u8]] ((),(l,()))):avV d l:=by
 delta avV eS
 have FE:d.length≤9223372036854775807:=hf.1
 have gj:l.length≤9223372036854775807:=hg.2.1.1
 clear hf hg
 refine⟨?_,?_⟩
 · omega
 rfl
theorem ayG(y1:Int)(y2:List UInt8)(y3:List (Int×Int×Int×List UInt8))(hp:True)(hf:Vg.Row.ok (Vg.PS.flat [.agg [.int .i64, .str, .slice [.int .i64, .int .i64, .int .i64, .str]]]) (y1,y2,y3)):avZ y1 y2 y3:=by
 delta avZ vw aC z0 z1 an
 have kj: -9223372036854775808≤y1∧y1≤9223372036854775807:=hf.1
 have kl:y2.length≤9223372036854775807:=hf.2.1
 have axX:y3.length≤9223372036854775807:=hf.2.2.1.1
 clear hf
 with_reducible and_intros
 trivial
 · intro h1
   try simp only [nt] at h1
   refine⟨?_,?_⟩
   · rw [S.auK h1]
   rw [S.auK h1]
 intro h2
 try simp only [nf] at h2
 with_reducible and_intros
 · have q:=S.afr.1 h2;exact S.ar5 (by omega) (by omega)
 rfl
 · have :=S.jQ y1;omega
 · have q:=(S.afr.1 h2).2.2.1;omega
 · have q:=(S.agb (S.afr.1 h2).2.2.2).1;exact S.ar5 (by omega) (by omega)
 rfl
 · have :=S.jQ y1;have q:=(S.afr.1 h2).2.2.1;rw [List.length_append];omega
 · refine⟨(nat_lit 0:Nat),?_⟩
   try dsimp only
   with_reducible and_intros
   omega
   exact S.ayP _ _ _
   rfl
   exact⟨h2,Nat.zero_le _⟩
 intro x3 h4
 refine⟨?_,?_⟩
 · intro h5
   try simp only [dt] at h5
   with_reducible and_intros
   iterate 2 omega
   exact(S.ax0 h4 h5).1
   rfl
   · have :=S.asr h4;omega
   exact(S.ax0 h4 h5).2.1
   rfl
   · have q:=S.asr h4;have q2:=S.jQ (y3.getD (Int.toNat (x3:Int)) (0,0,0,[])).2.1;simp only [List.length_append];omega
   · have q:=S.asr h4;have q2:=S.jQ (y3.getD (Int.toNat (x3:Int)) (0,0,0,[])).2.1;have q3:=S.jQ (y3.getD (Int.toNat (x3:Int)) (0,0,0,[])).2.2.1;simp only [List.length_append];omega
   exact Nat.le_trans (Nat.le_of_eq (S.ax0 h4 h5).2.2) (by decide)
   iterate 2 omega
   refine⟨(x3+nat_lit 1),?_⟩
   try dsimp only
   with_reducible and_intros
   omega
   exact S.awf h5
   rfl
   exact⟨h4.1,by omega⟩
   simp only [S.ag,S.len];omega
 intro h6
 try simp only [df] at h6
 refine⟨?_,?_⟩
 · intro h7
   try simp only [nt,df] at h7
   refine⟨?_,?_⟩
   · trivial
   trivial
 intro h8
 try simp only [nf,dt] at h8
 refine⟨?_,?_⟩
 · rw [S.ag0 h2]
 rw [S.ag0 h2];exact S.ass h6
theorem ayH(r1:List UInt8)(r2:Int)(r3:Int)(hp:r1.length≤140737488355328)(hf:Vg.Row.ok (Vg.TA.eI [.ref 50000 0]) ())(hg:Vg.fJ.ok [.cells [.iP (.slice [.int .u8]), .iP (.int .i64), .iP (.int .i64)]] ((r1,r2,r3),())):av0 r1 r2 r3:=by
 delta av0 eS
 have at3:r1.length≤9223372036854775807:=hg.1.1.1
 have at4: -9223372036854775808≤r2∧r2≤9223372036854775807:=hg.1.2.1
 have at6: -9223372036854775808≤r3∧r3≤9223372036854775807:=hg.1.2.2.1
 clear hf hg
 with_reducible and_intros
 omega
 rfl
 exact(S.awE _ _ _).1
 iterate 2 rfl
theorem ayI(r1:List UInt8)(r2:Int)(r3:Int)(hp:r1.length≤140737488355328)(hf:Vg.Row.ok (Vg.TA.eI [.ref 50000 0]) ())(hg:Vg.fJ.ok [.cells [.iP (.slice [.int .u8]), .iP (.int .i64), .iP (.int .i64)]] ((r1,r2,r3),())):av1 r1 r2 r3:=by
 delta av1 eS
 have at3:r1.length≤9223372036854775807:=hg.1.1.1
 have at4: -9223372036854775808≤r2∧r2≤9223372036854775807:=hg.1.2.1
 have at6: -9223372036854775808≤r3∧r3≤9223372036854775807:=hg.1.2.2.1
 clear hf hg
 with_reducible and_intros
 omega
 rfl
 exact(S.awE _ _ _).2
 iterate 2 rfl
theorem ayJ(a:Int)(r1:List UInt8)(r2:Int)(r3:Int)(hp:r1.length≤140737488355328)(hf:Vg.Row.ok (Vg.TA.eI [.ref 50000 0, .ref 50001 0, .ref 50002 0]) ())(hg:Vg.fJ.ok [.cells [.iP (.int .i64)], .cells [.fn (.func 73) [] [.ref 50003 0]], .cells [.fn (.func 75) [] [.ref 50003 0]], .cells [.iP (.slice [.int .u8]), .iP (.int .i64), .iP (.int .i64)]] (a,((),((),((r1,r2,r3),()))))):av3 a r1 r2 r3:=by
 delta av3 De vz eS
 have ya: -9223372036854775808≤a∧a≤9223372036854775807:=hg.1.1
 have at3:r1.length≤9223372036854775807:=hg.2.2.2.1.1.1
 have at4: -9223372036854775808≤r2∧r2≤9223372036854775807:=hg.2.2.2.1.2.1
 have at6: -9223372036854775808≤r3∧r3≤9223372036854775807:=hg.2.2.2.1.2.2.1
 clear hf hg
 with_reducible and_intros
 iterate 3 omega
 iterate 10 rfl
theorem ayZ(b:List UInt8)(hp:b.length≤140737488355328)(hf:Vg.Row.ok (Vg.PS.flat [.one (.slice [.int .u8])]) b):av6 b:=by
 delta av6 xX ib Ww Wx aC eS z0 z1
 have eF:b.length≤9223372036854775807:=hf.1.1
 clear hf
 with_reducible and_intros
 iterate 3 omega
 · intro h1
   try simp only [dt] at h1
   with_reducible and_intros
   iterate 3 (rw [S.awd h1])
   rw [S.awd h1]
 intro h2
 try simp only [df] at h2
 refine⟨?_,?_⟩
 · refine⟨(nat_lit 0:Nat),?_⟩
   try dsimp only
   with_reducible and_intros
   omega
   iterate 9 rfl
   omega
   exact Int.not_lt.1 h2
 intro x3 h4
 refine⟨?_,?_⟩
 · intro h5
   try simp only [dt] at h5
   with_reducible and_intros
   omega
   · have q:=S.ax3 b x3;have q2:=h4.2;have q3:(x3:Int)<(S.pHd b).1.2.2:=h5;simp only [List.length_singleton];omega
   omega
   · have q2:=h4.2;have q3:(x3:Int)<(S.pHd b).1.2.2:=h5;omega
   refine⟨(x3+nat_lit 1),?_⟩
   try dsimp only
   with_reducible and_intros
   omega
   iterate 9 rfl
   exact S.ax2 h5
   omega
   have q:=S.ax2 h5;simp only [S.ag];omega
 intro h6
 try simp only [df] at h6
 with_reducible and_intros
 trivial
 · intro h7
   try simp only [nt,df] at h7
   with_reducible and_intros
   iterate 3 (rw [S.ayQ h2 h4.1 h6 h7])
   rw [S.ayQ h2 h4.1 h6 h7]
 intro h8
 try simp only [nf,dt] at h8
 with_reducible and_intros
 trivial
 · intro h9
   try simp only [nt] at h9
   with_reducible and_intros
   iterate 3 (rw [S.ayR h2 h4.1 h6 h8 h9])
   rw [S.ayR h2 h4.1 h6 h8 h9]
 intro c5
 try simp only [nf] at c5
 with_reducible and_intros
 iterate 3 (rw [S.ayS h2 h4.1 h6 h8 c5])
 rw [S.ayS h2 h4.1 h6 h8 c5]
theorem ay0(y1:List (List UInt8))(y2:List (Int×Int×List (List UInt8×List Int)))(hp:True)(hf:Vg.Row.ok (Vg.PS.flat [.agg [.slice [.slice [.int .u8]], .slice [.int .i64, .int .i64, .slice [.str, .slice [.int .i64]]]]]) (y1,y2)):awb y1 y2:=by
 delta awb an
 have kj:y1.length≤9223372036854775807:=hf.1.1
 have kl:y2.length≤9223372036854775807:=hf.2.1.1
 clear hf
 with_reducible and_intros
 trivial
 · intro h1
   trivial
 · intro h2
   trivial
 exact S.avo _ _
theorem ay1(y1:List (List UInt8))(y2:List (Int×Int×List (List UInt8×List Int)))(hp:S.iU y1)(hf:Vg.Row.ok (Vg.PS.flat [.agg [.slice [.slice [.int .u8]], .slice [.int .i64, .int .i64, .slice [.str, .slice [.int .i64]]]]]) (y1,y2)):awc y1 y2:=by
 delta awc an
 have kj:y1.length≤9223372036854775807:=hf.1.1
 have kl:y2.length≤9223372036854775807:=hf.2.1.1
 clear hf
 with_reducible and_intros
 omega
 exact S.asq hp
 trivial
 iterate 3 rfl
theorem ay2(a1:Int)(a2:List UInt8)(a3:List (Int×Int×Int×List UInt8))(b1:Int)(b2:List UInt8)(b3:List (Int×Int×Int×List UInt8))(hp:True)(hf:Vg.Row.ok (Vg.PS.flat [.agg [.int .i64, .str, .slice [.int .i64, .int .i64, .int .i64, .str]], .agg [.int .i64, .str, .slice [.int .i64, .int .i64, .int .i64, .str]]]) (a1,a2,a3,b1,b2,b3)):awk a1 a2 a3 b1 b2 b3:=by
 delta awk Wy xY aC z0 z1 an
 have aiB: -9223372036854775808≤a1∧a1≤9223372036854775807:=hf.1
 have aiC:a2.length≤9223372036854775807:=hf.2.1
 have aqU:a3.length≤9223372036854775807:=hf.2.2.1.1
 have aiD: -9223372036854775808≤b1∧b1≤9223372036854775807:=hf.2.2.2.1
 have aiE:b2.length≤9223372036854775807:=hf.2.2.2.2.1
 have aqV:b3.length≤9223372036854775807:=hf.2.2.2.2.2.1.1
 clear hf
 refine⟨?_,?_⟩
 · intro h1
   try simp only [V.pP,nt,df] at h1
   exact S.ax1 h1
 intro h2
 try simp only [V.gh,nf,dt] at h2
 refine⟨?_,?_⟩
 · refine⟨(nat_lit 0:Nat),?_⟩
   try dsimp only
   refine⟨?_,?_⟩
   · omega
   exact⟨⟨h2.1,h2.2.1⟩,S.UH h2.2.2⟩
 intro x3 h4
 refine⟨?_,?_⟩
 · intro h5
   try simp only [dt] at h5
   with_reducible and_intros
   iterate 4 omega
   · intro h6
     try simp only [nt] at h6
     exact S.awH (of_decide_eq_false ((S.awG _ _).symm.trans h6))
   intro h7
   try simp only [nf] at h7
   with_reducible and_intros
   iterate 2 omega
   refine⟨(x3+nat_lit 1),?_⟩
   try dsimp only
   with_reducible and_intros
   omega
   exact⟨h4.1,S.Fx (0,0,0,[]) h4.2 h5 (of_decide_eq_true ((S.awG _ _).symm.trans h7))⟩
   simp only [S.ag,S.len];omega
 intro h8
 try simp only [df] at h8
 exact S.awI h4 h8
theorem ay3(hp:True)(hf:Vg.Row.ok (Vg.PS.flat []) ()):awl:=by
 delta awl zW FD rR eS z0
 clear hf
 with_reducible and_intros
 iterate 2 trivial
 · simp only [Vg.cq,S.ax6,S.awj,S.awi,List.length_append,lc,ln];decide
 trivial
 · intro h1
   try simp only [dt] at h1
   with_reducible and_intros
   exact Nat.zero_le _
   iterate 2
    · simp only [Vg.cq,S.awi,List.length_append,lc,ln];decide
   · intro h2
     try simp only [dt] at h2
     refine⟨?_,?_⟩
     · intro h3
       try simp only [dt] at h3
       refine⟨?_,?_⟩
       · intro h4
         try simp only [dt] at h4
         refine⟨?_,?_⟩
         · intro h5
           try simp only [dt] at h5
           refine⟨?_,?_⟩
           · intro h6
             try simp only [dt] at h6
             trivial
           intro h7
           try simp only [df] at h7
           trivial
         intro h8
         try simp only [df] at h8
         trivial
       intro h9
       try simp only [df] at h9
       trivial
     intro c5
     try simp only [df] at c5
     trivial
   intro fM
   try simp only [df] at fM
   trivial
 · intro dB
   try simp only [df] at dB
   trivial
 simp only [Vg.cq,S.ax6,S.awj];have e:=S.ayX;have e2:=S.ayY;have e3:=S.ar9;simp only [decide_true,cond_true];simp only [List.append_assoc] at e;simp_all
theorem ay4(y1:Int)(y2:List UInt8)(y3:List (Int×Int×Int×List UInt8))(hp:S.small y3)(hf:Vg.Row.ok (Vg.PS.flat [.agg [.int .i64, .str, .slice [.int .i64, .int .i64, .int .i64, .str]]]) (y1,y2,y3)):awm y1 y2 y3:=by
 delta awm Oe aC z0 z1 an
 have kj: -9223372036854775808≤y1∧y1≤9223372036854775807:=hf.1
 have kl:y2.length≤9223372036854775807:=hf.2.1
 have axX:y3.length≤9223372036854775807:=hf.2.2.1.1
 clear hf
 refine⟨?_,?_⟩
 · refine⟨(nat_lit 0:Nat),?_⟩
   try dsimp only
   with_reducible and_intros
   omega
   iterate 3 rfl
   exact Nat.zero_le _
 intro x1 h2
 refine⟨?_,?_⟩
 · intro h3
   try simp only [dt] at h3
   with_reducible and_intros
   iterate 2 omega
   trivial
   · simp only [List.length_take,List.length_singleton,S.small] at *;omega
   iterate 2 omega
   refine⟨(x1+nat_lit 1),?_⟩
   try dsimp only
   with_reducible and_intros
   omega
   iterate 2 rfl
   exact(S.aA y3 x1 (0,0,0,[]) (by omega)).symm
   exact Nat.succ_le_of_lt (Int.ofNat_lt.1 h3)
   simp only [S.ag,S.len];omega
 intro h4
 try simp only [df] at h4
 with_reducible and_intros
 iterate 2 rfl
 exact List.take_of_length_le (by omega)
theorem ay5(y1:List (List UInt8))(y2:List (Int×Int×List (List UInt8×List Int)))(hp:True)(hf:Vg.Row.ok (Vg.PS.flat [.agg [.slice [.slice [.int .u8]], .slice [.int .i64, .int .i64, .slice [.str, .slice [.int .i64]]]]]) (y1,y2)):awn y1 y2:=by
 delta awn Of Df z0
 have kj:y1.length≤9223372036854775807:=hf.1.1
 have kl:y2.length≤9223372036854775807:=hf.2.1.1
 clear hf
 with_reducible and_intros
 trivial
 · intro h1
   refine⟨?_,?_⟩
   · trivial
   rfl
 intro h2
 with_reducible and_intros
 trivial
 exact(S.rH h2).1
 trivial
 · intro h3
   try simp only [nt] at h3
   with_reducible and_intros
   exact S.auL _ _
   trivial
   · intro h4
     refine⟨?_,?_⟩
     · intro h5
       try simp only [dt] at h5
       trivial
     intro h6
     try simp only [df] at h6
     trivial
   · intro h7
     trivial
   exact S.awL h3
 intro h8
 try simp only [nf] at h8
 with_reducible and_intros
 exact S.auL _ _
 exact(S.rH h2).1
 exact(S.auJ (S.agG.1 h8).1).1
 trivial
 · intro h9
   refine⟨?_,?_⟩
   · intro c5
     try simp only [dt] at c5
     with_reducible and_intros
     trivial
     · intro fM
       trivial
     intro dB
     trivial
   intro kA
   try simp only [df] at kA
   trivial
 · intro eX
   trivial
 exact S.awM h8
end Go

end
section
set_option linter.unusedVariables false
namespace Go.J
open Go Vg
def body(f:Func):Code:=f.body.getD .skip
def E0:Env:= {T:=fU,sig:=fun _=>none,kD:=G0}
abbrev aez:List PS:= []
def aoz:Unit→Prop×AV×List AB:=fun x=>match x with
 |()=>(True, .own 0,[.row 154 [.int .u32] (S.rO) false])
def aoA:Unit→Nat→Option al:=fun _ _=>none
def aeA:bc:=au aez aoz
def aeB:Env:=Env.cons 170 aeA E0
abbrev aeC:List PS:= [.one (.int .u32), .one (.int .i64)]
def aoB:Int×Int→Prop×AV×List AB:=fun x=>match x with
 |(x,n)=>(S.c7 n, .int .u32 (S.right x n:Int),[])
def aoC:Int×Int→Nat→Option al:=fun _ _=>none
def aeD:bc:=au aeC aoB
def aeE:Env:=Env.cons 171 aeD aeB
abbrev aeF:List PS:= [.one (.slice [.int .u8])]
def aoD:List UInt8→Prop×AV×List AB:=fun x=>match x with
 |b=>(b.length=64, .own 0,[.row 154 [.int .u32] (S.sched b 64) false])
def aoE:List UInt8→Nat→Option al:=fun x=>match x with
 |b=>fun id=>(match id with
  |0=>some {τ:=Nat,aL:= [(4,fun k=> .int .i64 ((4*k:Nat):Int)),(3,fun k=> .own 300)],keys:= [(300,fun k=> .row 154 [.int .u32] (S.sched b k) false)],bM:= [(Vg.Loc.slot 3,300)],drop:= [110500,110501,110502,105,301],bm:= [],inv:=fun k=>S.bY k 16,ag:=fun k=>S.ag 16 k}
  |2=>some {τ:=Nat,aL:= [(5,fun k=> .int .i64 ((k:Nat):Int)),(3,fun k=> .own 301)],keys:= [(301,fun k=> .row 154 [.int .u32] (S.sched b k) false)],bM:= [(Vg.Loc.slot 3,301)],drop:= [300,43,104300,104301,104302],bm:= [],inv:=fun k=>16≤k∧k≤64,ag:=fun k=>S.ag 64 k}
  |_=>none)
def aeG:bc:=au aeF aoD
def aeH:Env:=Env.cons 169 aeG aeE
abbrev aeI:List PS:= [.one (.slice [.int .u32]), .one (.slice [.int .u8])]
def aoF:List Int×List UInt8→Prop×AV×List AB:=fun x=>match x with
 |(l,p)=>(S.Cd l p, .own 0,[.row 154 [.int .u32] (S.c8 (S.block (S.qd l) p)) false])
def aoG:List Int×List UInt8→Nat→Option al:=fun x=>match x with
 |(l,p)=>fun id=>(match id with
  |0=>some {τ:=Nat,aL:= [(15,fun k=> .int .i64 ((k:Nat):Int)),(7,fun k=> .int .u32 (S.dg (S.sched p 64) (S.qd l) k).1),(8,fun k=> .int .u32 (S.dg (S.sched p 64) (S.qd l) k).2.1),(9,fun k=> .int .u32 (S.dg (S.sched p 64) (S.qd l) k).2.2.1),(10,fun k=> .int .u32 (S.dg (S.sched p 64) (S.qd l) k).2.2.2.1),(11,fun k=> .int .u32 (S.dg (S.sched p 64) (S.qd l) k).2.2.2.2.1),(12,fun k=> .int .u32 (S.dg (S.sched p 64) (S.qd l) k).2.2.2.2.2.1),(13,fun k=> .int .u32 (S.dg (S.sched p 64) (S.qd l) k).2.2.2.2.2.2.1),(14,fun k=> .int .u32 (S.dg (S.sched p 64) (S.qd l) k).2.2.2.2.2.2.2)],keys:= [],bM:= [],drop:= [],bm:= [],inv:=fun k=>S.bY k 64,ag:=fun k=>S.ag 64 k}
  |_=>none)
def aeJ:bc:=au aeI aoF
def aeK:Env:=Env.cons 142 aeJ aeH
abbrev aeL:List PS:= [.one (.slice [.int .u8])]
def aoH:List UInt8→Prop×AV×List AB:=fun x=>match x with
 |b=>(S.small b, .own 0,[.row 5 [.int .u8] (S.tail b (S.jy b)) false])
def aoI:List UInt8→Nat→Option al:=fun x=>match x with
 |b=>fun id=>(match id with
  |0=>some {τ:=Nat,aL:= [(3,fun k=> .own 300)],keys:= [(300,fun k=> .row 5 [.int .u8] (S.du b k) false)],bM:= [(Vg.Loc.slot 3,300)],drop:= [11,101100,101101,101102],bm:= [],inv:=fun k=>S.bH b k,ag:=fun k=>S.ag (S.dL (S.len b)) k}
  |2=>some {τ:=Nat,aL:= [(6,fun k=> .int .i64 ((k:Nat):Int)),(4,fun k=> .int .u64 (S.iy b k)),(5,fun k=> .own 301)],keys:= [(301,fun k=> .row 5 [.int .u8] (S.gG b k) false)],bM:= [(Vg.Loc.slot 5,301)],drop:= [],bm:= [],inv:=fun k=>S.bY k 8,ag:=fun k=>S.ag 8 k}
  |_=>none)
def aeM:bc:=au aeL aoH
def aeN:Env:=Env.cons 141 aeM aeK
abbrev aeO:List PS:= [.one (.slice [.int .u8])]
def aoJ:List UInt8→Prop×AV×List AB:=fun x=>match x with
 |b=>(S.small b, .str (S.sum b),[])
def aoK:List UInt8→Nat→Option al:=fun x=>match x with
 |b=>fun id=>(match id with
  |0=>some {τ:=Nat,aL:= [(5,fun k=> .int .i64 ((64*k:Nat):Int)),(3,fun k=> .own 300)],keys:= [(300,fun k=> .row 154 [.int .u32] (S.c8 (S.proc S.H0 (S.tail b (S.jy b)) k)) false)],bM:= [(Vg.Loc.slot 3,300)],drop:= [8],bm:= [],inv:=fun k=>k≤S.blocks (S.tail b (S.jy b)),ag:=fun k=>S.ag (S.blocks (S.tail b (S.jy b))) k}
  |2=>some {τ:=Nat,aL:= [(7,fun k=> .int .i64 ((k:Nat):Int)),(6,fun k=> .own 301)],keys:= [(301,fun k=> .row 5 [.int .u8] (S.jP (S.aT S.H0 (S.tail b (S.jy b))) k) false)],bM:= [(Vg.Loc.slot 6,301)],drop:= [],bm:= [],inv:=fun k=>S.bY k 8,ag:=fun k=>S.ag 8 k}
  |_=>none)
def aeP:bc:=au aeO aoJ
def aeQ:Env:=Env.cons 109 aeP aeN
abbrev aeR:List PS:= [.one (.int .u32), .one (.int .i64)]
def aoL:Int×Int→Prop×AV×List AB:=fun x=>match x with
 |(x,k)=>(S.fE x k, .int .u32 (S.rotl x k:Int),[])
def aoM:Int×Int→Nat→Option al:=fun _ _=>none
def aeS:bc:=au aeR aoL
def aeT:Env:=Env.cons 191 aeS aeQ
abbrev aeU:List PS:= []
def aoN:Unit→Prop×AV×List AB:=fun x=>match x with
 |()=>(True, .agg [.int .u32 1779033703, .int .u32 3144134277, .int .u32 1013904242, .int .u32 2773480762, .int .u32 1359893119, .int .u32 2600822924, .int .u32 528734635, .int .u32 1541459225, .nil, .int .i64 0],[])
def aoO:Unit→Nat→Option al:=fun _ _=>none
def aeV:bc:=au aeU aoN
def aeW:Env:=Env.cons 107 aeV aeT
abbrev aeX:List PS:= [.agg [.int .u32, .int .u32, .int .u32, .int .u32, .int .u32, .int .u32, .int .u32, .int .u32, .slice [.int .u8], .int .i64]]
def aoP:Int×Int×Int×Int×Int×Int×Int×Int×List UInt8×Int→Prop×AV×List AB:=fun x=>match x with
 |(s1,s2,s3,s4,s5,s6,s7,s8,s9,aI)=>(True, .bool (S.aU s9 aI),[])
def aoQ:Int×Int×Int×Int×Int×Int×Int×Int×List UInt8×Int→Nat→Option al:=fun _ _=>none
def aeY:bc:=au aeX aoP
def aeZ:Env:=Env.cons 138 aeY aeW
abbrev ae0:List PS:= [.agg [.int .u32, .int .u32, .int .u32, .int .u32, .int .u32, .int .u32, .int .u32, .int .u32], .one (.slice [.int .u8])]
def aoR:Int×Int×Int×Int×Int×Int×Int×Int×List UInt8→Prop×AV×List AB:=fun x=>match x with
 |(u1,u2,u3,u4,u5,u6,u7,u8,p)=>(S.HP (u1,u2,u3,u4,u5,u6,u7,u8) p, .agg [.int .u32 ((S.block (u1,u2,u3,u4,u5,u6,u7,u8) p).1:Int), .int .u32 ((S.block (u1,u2,u3,u4,u5,u6,u7,u8) p).2.1:Int), .int .u32 ((S.block (u1,u2,u3,u4,u5,u6,u7,u8) p).2.2.1:Int), .int .u32 ((S.block (u1,u2,u3,u4,u5,u6,u7,u8) p).2.2.2.1:Int), .int .u32 ((S.block (u1,u2,u3,u4,u5,u6,u7,u8) p).2.2.2.2.1:Int), .int .u32 ((S.block (u1,u2,u3,u4,u5,u6,u7,u8) p).2.2.2.2.2.1:Int), .int .u32 ((S.block (u1,u2,u3,u4,u5,u6,u7,u8) p).2.2.2.2.2.2.1:Int), .int .u32 ((S.block (u1,u2,u3,u4,u5,u6,u7,u8) p).2.2.2.2.2.2.2:Int)],[])
def aoS:Int×Int×Int×Int×Int×Int×Int×Int×List UInt8→Nat→Option al:=fun x=>match x with
 |(u1,u2,u3,u4,u5,u6,u7,u8,p)=>fun id=>(match id with
  |0=>some {τ:=Nat,aL:= [(26,fun k=> .int .i64 ((k:Nat):Int))],keys:= [(5,fun k=> .arr [.int .u32] (S.aO p k))],bM:= [],drop:= [],bm:= [],inv:=fun k=>S.bY k 16,ag:=fun k=>S.ag 16 k}
  |2=>some {τ:=Nat,aL:= [(7,fun k=> .int .i64 ((k:Nat):Int))],keys:= [(5,fun k=> .arr [.int .u32] (S.aO p k))],bM:= [],drop:= [],bm:= [],inv:=fun k=>16≤k∧k≤64,ag:=fun k=>S.ag 64 k}
  |4=>some {τ:=Nat,aL:= [(124,fun k=> .int .i64 ((k:Nat):Int)),(12,fun k=> .int .u32 (S.dg (S.sched p 64) (u1,u2,u3,u4,u5,u6,u7,u8) k).1),(13,fun k=> .int .u32 (S.dg (S.sched p 64) (u1,u2,u3,u4,u5,u6,u7,u8) k).2.1),(14,fun k=> .int .u32 (S.dg (S.sched p 64) (u1,u2,u3,u4,u5,u6,u7,u8) k).2.2.1),(15,fun k=> .int .u32 (S.dg (S.sched p 64) (u1,u2,u3,u4,u5,u6,u7,u8) k).2.2.2.1),(16,fun k=> .int .u32 (S.dg (S.sched p 64) (u1,u2,u3,u4,u5,u6,u7,u8) k).2.2.2.2.1),(17,fun k=> .int .u32 (S.dg (S.sched p 64) (u1,u2,u3,u4,u5,u6,u7,u8) k).2.2.2.2.2.1),(18,fun k=> .int .u32 (S.dg (S.sched p 64) (u1,u2,u3,u4,u5,u6,u7,u8) k).2.2.2.2.2.2.1),(19,fun k=> .int .u32 (S.dg (S.sched p 64) (u1,u2,u3,u4,u5,u6,u7,u8) k).2.2.2.2.2.2.2)],keys:= [],bM:= [],drop:= [],bm:= [],inv:=fun k=>S.bY k 64,ag:=fun k=>S.ag 64 k}
  |_=>none)
def ae1:bc:=au ae0 aoR
def ae2:Env:=Env.cons 167 ae1 aeZ
abbrev WO:List PS:= [.agg [.int .u32, .int .u32, .int .u32, .int .u32, .int .u32, .int .u32, .int .u32, .int .u32], .one (.slice [.int .u8])]
def aiF:Int×Int×Int×Int×Int×Int×Int×Int×List UInt8→Prop×AV×List AB:=fun x=>match x with
 |(u1,u2,u3,u4,u5,u6,u7,u8,b)=>(S.pQ (u1,u2,u3,u4,u5,u6,u7,u8), .dc [.agg [.int .u32 ((((S.aT (u1,u2,u3,u4,u5,u6,u7,u8) b,S.dA b)).1).1:Int), .int .u32 ((((S.aT (u1,u2,u3,u4,u5,u6,u7,u8) b,S.dA b)).1).2.1:Int), .int .u32 ((((S.aT (u1,u2,u3,u4,u5,u6,u7,u8) b,S.dA b)).1).2.2.1:Int), .int .u32 ((((S.aT (u1,u2,u3,u4,u5,u6,u7,u8) b,S.dA b)).1).2.2.2.1:Int), .int .u32 ((((S.aT (u1,u2,u3,u4,u5,u6,u7,u8) b,S.dA b)).1).2.2.2.2.1:Int), .int .u32 ((((S.aT (u1,u2,u3,u4,u5,u6,u7,u8) b,S.dA b)).1).2.2.2.2.2.1:Int), .int .u32 ((((S.aT (u1,u2,u3,u4,u5,u6,u7,u8) b,S.dA b)).1).2.2.2.2.2.2.1:Int), .int .u32 ((((S.aT (u1,u2,u3,u4,u5,u6,u7,u8) b,S.dA b)).1).2.2.2.2.2.2.2:Int)], .sl [.int .u8] (((S.aT (u1,u2,u3,u4,u5,u6,u7,u8) b,S.dA b)).2)],[])
def aiG:Int×Int×Int×Int×Int×Int×Int×Int×List UInt8→Nat→Option al:=fun x=>match x with
 |(u1,u2,u3,u4,u5,u6,u7,u8,b)=>fun id=>(match id with
  |0=>some {τ:=Nat,aL:= [(1,fun k=> .sl [.int .u8] (S.dM b k))],keys:= [(2,fun k=> .cells [.int .u32 (S.proc (u1,u2,u3,u4,u5,u6,u7,u8) b k).1, .int .u32 (S.proc (u1,u2,u3,u4,u5,u6,u7,u8) b k).2.1, .int .u32 (S.proc (u1,u2,u3,u4,u5,u6,u7,u8) b k).2.2.1, .int .u32 (S.proc (u1,u2,u3,u4,u5,u6,u7,u8) b k).2.2.2.1, .int .u32 (S.proc (u1,u2,u3,u4,u5,u6,u7,u8) b k).2.2.2.2.1, .int .u32 (S.proc (u1,u2,u3,u4,u5,u6,u7,u8) b k).2.2.2.2.2.1, .int .u32 (S.proc (u1,u2,u3,u4,u5,u6,u7,u8) b k).2.2.2.2.2.2.1, .int .u32 (S.proc (u1,u2,u3,u4,u5,u6,u7,u8) b k).2.2.2.2.2.2.2])],bM:= [],drop:= [],bm:= [],inv:=fun k=>64*k≤b.length,ag:=fun k=>S.ag (S.blocks b) k}
  |_=>none)
def WQ:bc:=au WO aiF
def WR:Env:=Env.cons 139 WQ ae2
abbrev WS:List PS:= [.agg [.int .u32, .int .u32, .int .u32, .int .u32, .int .u32, .int .u32, .int .u32, .int .u32, .slice [.int .u8], .int .i64], .one (.slice [.int .u8])]
def aiH:Int×Int×Int×Int×Int×Int×Int×Int×List UInt8×Int×List UInt8→Prop×AV×List AB:=fun x=>match x with
 |(s1,s2,s3,s4,s5,s6,s7,s8,s9,aI,b)=>(S.HO (s1,s2,s3,s4,s5,s6,s7,s8) s9 aI b, .agg [.int .u32 (S.aT (s1,s2,s3,s4,s5,s6,s7,s8) b).1, .int .u32 (S.aT (s1,s2,s3,s4,s5,s6,s7,s8) b).2.1, .int .u32 (S.aT (s1,s2,s3,s4,s5,s6,s7,s8) b).2.2.1, .int .u32 (S.aT (s1,s2,s3,s4,s5,s6,s7,s8) b).2.2.2.1, .int .u32 (S.aT (s1,s2,s3,s4,s5,s6,s7,s8) b).2.2.2.2.1, .int .u32 (S.aT (s1,s2,s3,s4,s5,s6,s7,s8) b).2.2.2.2.2.1, .int .u32 (S.aT (s1,s2,s3,s4,s5,s6,s7,s8) b).2.2.2.2.2.2.1, .int .u32 (S.aT (s1,s2,s3,s4,s5,s6,s7,s8) b).2.2.2.2.2.2.2, .sl [.int .u8] (S.dA b), .int .i64 (S.jy b)],[])
def aiI:Int×Int×Int×Int×Int×Int×Int×Int×List UInt8×Int×List UInt8→Nat→Option al:=fun _ _=>none
def WT:bc:=au WS aiH
def WU:Env:=Env.cons 106 WT WR
abbrev WV:List PS:= [.agg [.int .u32, .int .u32, .int .u32, .int .u32, .int .u32, .int .u32, .int .u32, .int .u32, .slice [.int .u8], .int .i64]]
def aiJ:Int×Int×Int×Int×Int×Int×Int×Int×List UInt8×Int→Prop×AV×List AB:=fun x=>match x with
 |(s1,s2,s3,s4,s5,s6,s7,s8,s9,aI)=>(S.AA (s1,s2,s3,s4,s5,s6,s7,s8) s9 aI, .str (S.Q8 (S.aT (s1,s2,s3,s4,s5,s6,s7,s8) (S.tail s9 aI))),[])
def aiK:Int×Int×Int×Int×Int×Int×Int×Int×List UInt8×Int→Nat→Option al:=fun x=>match x with
 |(s1,s2,s3,s4,s5,s6,s7,s8,s9,aI)=>fun id=>(match id with
  |0=>some {τ:=Nat,aL:= [(3,fun k=> .own 300)],keys:= [(300,fun k=> .row 5 [.int .u8] (S.du s9 k) false)],bM:= [(Vg.Loc.slot 3,300)],drop:= [101700,101701,101702,43,104300,102000,17,102001,102002,20,104301,104302,301],bm:= [],inv:=fun k=>S.bH s9 k,ag:=fun k=>S.ag (S.dL (S.len s9)) k}
  |2=>some {τ:=Nat,aL:= [(32,fun k=> .int .i64 ((k:Nat):Int)),(3,fun k=> .own 301)],keys:= [(301,fun k=> .row 5 [.int .u8] (S.j7 s9 aI k) false)],bM:= [(Vg.Loc.slot 3,301)],drop:= [300,101700,101701,101702,102700,102701,102702,102000,17,102001,102002,20,27],bm:= [],inv:=fun k=>S.bY k 8,ag:=fun k=>S.ag 8 k}
  |4=>some {τ:=Nat,aL:= [(54,fun k=> .int .i64 ((k:Nat):Int)),(8,fun k=> .own 302)],keys:= [(302,fun k=> .row 5 [.int .u8] (S.jP (S.aT (s1,s2,s3,s4,s5,s6,s7,s8) (S.tail s9 aI)) k) false)],bM:= [(Vg.Loc.slot 8,302)],drop:= [52],bm:= [],inv:=fun k=>S.bY k 8,ag:=fun k=>S.ag 8 k}
  |_=>none)
def WW:bc:=au WV aiJ
def WX:Env:=Env.cons 105 WW WU
abbrev WY:List PS:= [.one (.slice [.int .u8])]
def aiL:List UInt8→Prop×AV×List AB:=fun x=>match x with
 |b=>(S.small b, .str (S.sum b),[])
def aiM:List UInt8→Nat→Option al:=fun _ _=>none
def WZ:bc:=au WY aiL
def MB:Env:=Env.cons 67 WZ WX
abbrev Is:List PS:= [.one (.int .i64)]
def W0:Int→Prop×AV×List AB:=fun x=>match x with
 |v=>(0≤v, .own 0,[.row 5 [.int .u8] (S.num v) false])
def W2:Int→Nat:=fun x=>match x with
 |v=>v.toNat
def aiN:Int→Nat→Option al:=fun _ _=>none
def W3:bc:=au Is W0
def aiO(m:Nat):Env:=Env.cons 177 (lG Is W2 m W0) MB
def W4:Env:=Env.cons 177 W3 MB
abbrev W5:List PS:= [.one (.str)]
def aiP:List UInt8→Prop×AV×List AB:=fun x=>match x with
 |s=>(S.small s, .own 0,[.row 5 [.int .u8] (S.text s) false])
def aiQ:List UInt8→Nat→Option al:=fun _ _=>none
def W6:bc:=au W5 aiP
def W7:Env:=Env.cons 158 W6 W4
abbrev W8:List PS:= [.one (.slice [.int .u8])]
def aiR:List UInt8→Prop×AV×List AB:=fun x=>match x with
 |b=>(b.length≤140737488355328, .own 0,[.row 5 [.int .u8] (b) false])
def aiS:List UInt8→Nat→Option al:=fun _ _=>none
def W9:bc:=au W8 aiR
def Xa:Env:=Env.cons 113 W9 W7
abbrev Xb:List TA:= [.own 50000, .iP (.int .i64)]
abbrev Xc:List TB:= [.row 5 [.int .u8]]
def aiT:Int→((List UInt8)×Unit)→fe:=fun x y=>match x,y with
 |v,(l,())=> {pre:=S.xz l v,res:= .own 60000,heap:= [none],new:= [.row 5 [.int .u8] (l++S.num v) false]}
def aiU:Int→((List UInt8)×Unit)→Nat→Option al:=fun x y=>match x,y with
 |v,(l,())=>fun id=>(match id with
  |0=>some {τ:=List UInt8×Int,aL:= [(1,fun k=> .int .i64 k.2),(0,fun k=> .own 300)],keys:= [(300,fun k=> .row 5 [.int .u8] k.1 false)],bM:= [(Vg.Loc.slot 0,300)],drop:= [50000],bm:= [],inv:=fun k=>S.ng l v k.1 k.2,ag:=fun k=>k.2.toNat}
  |_=>none)
def Xd:eU:=gp Xb Xc aiT
def Xe:eU:=Xd
def Xf:Env:=Env.eP 112 [true,false] Xe Xa
abbrev Xg:List TA:= [.own 50000, .iP (.str)]
abbrev Xh:List TB:= [.row 5 [.int .u8]]
def aiV:(List UInt8)→((List UInt8)×Unit)→fe:=fun x y=>match x,y with
 |s,(l,())=> {pre:=S.kR l s,res:= .own 60000,heap:= [none],new:= [.row 5 [.int .u8] (l++S.text s) false]}
def aiW:(List UInt8)→((List UInt8)×Unit)→Nat→Option al:=fun _ _ _=>none
def Xi:eU:=gp Xg Xh aiV
def Xj:eU:=Xi
def Xk:Env:=Env.eP 194 [true,false] Xj Xf
abbrev Xl:List PS:= [.one (.slice [.int .u8]), .one (.int .i64)]
def aiX:List UInt8×Int→Prop×AV×List AB:=fun x=>match x with
 |(b,v)=>(b.length≤35184372088832, .dc [.own 0, .int .i64 (((S.mS b v,S.Ck v)).2:Int)],[.row 5 [.int .u8] (((S.mS b v,S.Ck v)).1) false])
def aiY:List UInt8×Int→Nat→Option al:=fun _ _=>none
def Xm:bc:=au Xl aiX
def Xn:Env:=Env.cons 71 Xm Xk
abbrev Xo:List PS:= [.one (.slice [.int .u8]), .one (.str)]
def aiZ:List UInt8×List UInt8→Prop×AV×List AB:=fun x=>match x with
 |(b,s)=>(S.kR b s, .own 0,[.row 5 [.int .u8] (b++S.text s) false])
def ai0:List UInt8×List UInt8→Nat→Option al:=fun _ _=>none
def Xp:bc:=au Xo aiZ
def Xq:Env:=Env.cons 176 Xp Xn
abbrev axY:List PS:= [.agg [.slice [.int .u8], .int .i64, .int .i64]]
def aBp:List UInt8×Int×Int→Prop×AV×List AB:=fun x=>match x with
 |(r1,r2,r3)=>(True, .bool (S.inside r1 r2),[])
def aBq:List UInt8×Int×Int→Nat→Option al:=fun _ _=>none
def ax4:bc:=au axY aBp
def ax5:Env:=Env.cons 116 ax4 Xq
abbrev ax7:List PS:= [.agg [.slice [.int .u8], .int .i64, .int .i64]]
def aBr:List UInt8×Int×Int→Prop×AV×List AB:=fun x=>match x with
 |(r1,r2,r3)=>(r1.length≤140737488355328, .agg [.sl [.int .u8] (((r1,r2,S.afz r1 r2 r3)).1), .int .i64 (((r1,r2,S.afz r1 r2 r3)).2.1:Int), .int .i64 (((r1,r2,S.afz r1 r2 r3)).2.2:Int)],[])
def aBs:List UInt8×Int×Int→Nat→Option al:=fun _ _=>none
def ax8:bc:=au ax7 aBr
def ax9:Env:=Env.cons 114 ax8 ax5
abbrev aya:List PS:= [.one (.slice [.int .u8]), .one (.int .i64)]
def aBt:List UInt8×Int→Prop×AV×List AB:=fun x=>match x with
 |(b,p)=>(S.afo b p, .dc [.int .i64 ((S.ae5 b p).1:Int), .int .i64 ((S.ae5 b p).2.1:Int), .int .i64 ((S.ae5 b p).2.2:Int)],[])
def aBu:List UInt8×Int→Nat→Option al:=fun x=>match x with
 |(b,p)=>fun id=>(match id with
  |0=>some {τ:=Nat,aL:= [(7,fun k=> .int .i64 (S.afa b p k)),(8,fun k=> .int .i64 ((k:Nat):Int))],keys:= [],bM:= [],drop:= [],bm:= [],inv:=fun k=>S.afl b p k,ag:=fun k=>S.ag 9 k}
  |_=>none)
def ayb:bc:=au aya aBt
def ayc:Env:=Env.cons 115 ayb ax9
abbrev ayd:List PS:= [.agg [.slice [.int .u8], .int .i64, .int .i64]]
def aBv:List UInt8×Int×Int→Prop×AV×List AB:=fun x=>match x with
 |(r1,r2,r3)=>(r1.length≤140737488355328, .dc [.agg [.sl [.int .u8] (((S.aab r1 r2 r3).1).1), .int .i64 (((S.aab r1 r2 r3).1).2.1:Int), .int .i64 (((S.aab r1 r2 r3).1).2.2:Int)], .int .i64 ((S.aab r1 r2 r3).2:Int)],[])
def aBw:List UInt8×Int×Int→Nat→Option al:=fun _ _=>none
def aye:bc:=au ayd aBv
def ayf:Env:=Env.cons 74 aye ayc
abbrev ayg:List PS:= [.agg [.slice [.int .u8], .int .i64, .int .i64]]
def aBx:List UInt8×Int×Int→Prop×AV×List AB:=fun x=>match x with
 |(r1,r2,r3)=>(r1.length≤140737488355328, .dc [.agg [.sl [.int .u8] (((S.aac r1 r2 r3).1).1), .int .i64 (((S.aac r1 r2 r3).1).2.1:Int), .int .i64 (((S.aac r1 r2 r3).1).2.2:Int)], .str ((S.aac r1 r2 r3).2)],[])
def aBy:List UInt8×Int×Int→Nat→Option al:=fun _ _=>none
def ayh:bc:=au ayg aBx
def ayi:Env:=Env.cons 76 ayh ayf
abbrev ayj:List PS:= [.agg [.slice [.int .u8], .int .i64, .int .i64]]
def aBz:List UInt8×Int×Int→Prop×AV×List AB:=fun x=>match x with
 |(r1,r2,r3)=>(True, .int .i64 (S.done r1 r2 r3:Int),[])
def aBA:List UInt8×Int×Int→Nat→Option al:=fun _ _=>none
def ayk:bc:=au ayj aBz
def ayl:Env:=Env.cons 78 ayk ayi
abbrev Xr:List PS:= [.one (.int .i64), .one (.slice [.int .u8])]
def ai1:Int×List UInt8→Prop×AV×List AB:=fun x=>match x with
 |(kind,b)=>(S.bj b, .own 0,[.row 5 [.int .u8] (S.fF kind b) false])
def ai2:Int×List UInt8→Nat→Option al:=fun x=>match x with
 |(kind,b)=>fun id=>(match id with
  |0=>some {τ:=Nat,aL:= [(6,fun k=> .int .i64 ((k:Nat):Int)),(5,fun k=> .own 300)],keys:= [(300,fun k=> .row 5 [.int .u8] (S.fF kind (b.take k)) false)],bM:= [(Vg.Loc.slot 5,300)],drop:= [9],bm:= [],inv:=fun k=>S.dY b k,ag:=fun k=>S.ag (S.len b) k}
  |_=>none)
def Xs:bc:=au Xr ai1
def Xt:Env:=Env.cons 152 Xs ayl
abbrev Xu:List PS:= [.one (.int .i64), .one (.slice [.int .u8])]
def ai3:Int×List UInt8→Prop×AV×List AB:=fun x=>match x with
 |(kind,b)=>(S.bj b, .str (S.lI kind b),[])
def ai4:Int×List UInt8→Nat→Option al:=fun _ _=>none
def Xv:bc:=au Xu ai3
def Xw:Env:=Env.cons 124 Xv Xt
abbrev Xx:List PS:= [.one (.slice [.int .u8])]
def ai5:List UInt8→Prop×AV×List AB:=fun x=>match x with
 |b=>(S.bj b, .str (S.lI 0 b),[])
def ai6:List UInt8→Nat→Option al:=fun _ _=>none
def Xy:bc:=au Xx ai5
def Xz:Env:=Env.cons 87 Xy Xw
abbrev XA:List PS:= [.one (.str), .one (.str)]
def ai7:List UInt8×List UInt8→Prop×AV×List AB:=fun x=>match x with
 |(l,r)=>(S.bj (l++r), .str (S.lI 1 (l++r)),[])
def ai8:List UInt8×List UInt8→Nat→Option al:=fun _ _=>none
def XB:bc:=au XA ai7
def XC:Env:=Env.cons 111 XB Xz
abbrev XD:List PS:= [.one (.int .u8), .one (.slice [.slice [.int .u8]])]
def ai9:UInt8×List (List UInt8)→Prop×AV×List AB:=fun x=>match x with
 |(kind,parts)=>(S.iQ parts, .own 0,[.row 5 [.int .u8] (S.dN kind parts) false])
def aja:UInt8×List (List UInt8)→Nat→Option al:=fun x=>match x with
 |(kind,parts)=>fun id=>(match id with
  |0=>some {τ:=Nat,aL:= [(12,fun k=> .int .i64 ((k:Nat):Int)),(5,fun k=> .own 300)],keys:= [(300,fun k=> .row 5 [.int .u8] (S.jo kind parts k) false)],bM:= [(Vg.Loc.slot 5,300)],drop:= [9],bm:= [],inv:=fun k=>S.dY parts k,ag:=fun k=>S.ag (S.len parts) k}
  |_=>none)
def XE:bc:=au XD ai9
def XF:Env:=Env.cons 168 XE XC
abbrev XG:List PS:= [.one (.slice [.int .u8])]
def ajb:List UInt8→Prop×AV×List AB:=fun x=>match x with
 |b=>(S.bj b, .own 0,[.row 5 [.int .u8] (S.iR 0 b) false])
def ajc:List UInt8→Nat→Option al:=fun _ _=>none
def XH:bc:=au XG ajb
def XI:Env:=Env.cons 140 XH XF
abbrev XJ:List PS:= [.one (.str), .one (.str)]
def ajd:List UInt8×List UInt8→Prop×AV×List AB:=fun x=>match x with
 |(l,r)=>(S.bj (l++r), .own 0,[.row 5 [.int .u8] (S.iR 1 (l++r)) false])
def aje:List UInt8×List UInt8→Nat→Option al:=fun _ _=>none
def XK:bc:=au XJ ajd
def XL:Env:=Env.cons 192 XK XI
abbrev XM:List PS:= [.one (.slice [.int .u8])]
def ajf:List UInt8→Prop×AV×List AB:=fun x=>match x with
 |b=>(S.bj b, .own 0,[.row 5 [.int .u8] (S.iR 2 b) false])
def ajg:List UInt8→Nat→Option al:=fun _ _=>none
def XN:bc:=au XM ajf
def XO:Env:=Env.cons 193 XN XL
abbrev XP:List PS:= [.one (.slice [.int .u8])]
def ajh:List UInt8→Prop×AV×List AB:=fun x=>match x with
 |b=>(S.bj b, .str (S.leaf b),[])
def aji:List UInt8→Nat→Option al:=fun _ _=>none
def XQ:bc:=au XP ajh
def XR:Env:=Env.cons 108 XQ XO
abbrev XS:List PS:= [.one (.str), .one (.str)]
def ajj:List UInt8×List UInt8→Prop×AV×List AB:=fun x=>match x with
 |(l,r)=>(True, .dc [.str (((S.cM l r,S.j8 l r)).1), .int .i64 (((S.cM l r,S.j8 l r)).2:Int)],[])
def ajk:List UInt8×List UInt8→Nat→Option al:=fun _ _=>none
def XT:bc:=au XS ajj
def XU:Env:=Env.cons 173 XT XR
abbrev XV:List PS:= [.one (.slice [.int .u8])]
def ajl:List UInt8→Prop×AV×List AB:=fun x=>match x with
 |b=>(S.bj b, .str (S.oi 2 b),[])
def ajm:List UInt8→Nat→Option al:=fun _ _=>none
def XW:bc:=au XV ajl
def XX:Env:=Env.cons 175 XW XU
abbrev XY:List PS:= [.one (.int .i64)]
def ajn:Int→Prop×AV×List AB:=fun x=>match x with
 |c=>(True, .bool (S.bh c),[])
def ajo:Int→Nat→Option al:=fun _ _=>none
def XZ:bc:=au XY ajn
def X0:Env:=Env.cons 218 XZ XX
abbrev X1:List PS:= [.one (.int .i64)]
def ajp:Int→Prop×AV×List AB:=fun x=>match x with
 |c=>(True, .int .i64 (S.cI c:Int),[])
def ajq:Int→Nat→Option al:=fun _ _=>none
def X2:bc:=au X1 ajp
def X3:Env:=Env.cons 219 X2 X0
abbrev X4:List PS:= [.one (.int .i64)]
def ajr:Int→Prop×AV×List AB:=fun x=>match x with
 |c=>(0≤c, .int .u8 ((S.more c).toNat:Int),[])
def ajs:Int→Nat→Option al:=fun _ _=>none
def X5:bc:=au X4 ajr
def X6:Env:=Env.cons 220 X5 X3
abbrev X7:List PS:= [.one (.int .i64)]
def ajt:Int→Prop×AV×List AB:=fun x=>match x with
 |c=>(True, .dc [.own 0, .int .i64 (((S.dZ c,S.rP c)).2:Int)],[.row 5 [.int .u8] (((S.dZ c,S.rP c)).1) false])
def aju:Int→Nat→Option al:=fun _ _=>none
def X8:bc:=au X7 ajt
def X9:Env:=Env.cons 197 X8 X6
abbrev Ya:List PS:= [.one (.slice [.int .u8])]
def ajv:List UInt8→Prop×AV×List AB:=fun x=>match x with
 |b=>(0<b.length, .dc [.int .i64 ((S.aK b).1:Int), .int .i64 ((S.aK b).2:Int)],[])
def ajw:List UInt8→Nat→Option al:=fun x=>match x with
 |b=>fun id=>(match id with
  |1=>some {τ:=Nat,aL:= [(42,fun k=> .int .i64 ((k:Nat):Int)),(4,fun k=> .int .i64 (S.bq b k))],keys:= [],bM:= [],drop:= [],bm:= [],inv:=fun k=>S.ku b k,ag:=fun k=>S.ag 4 k}
  |_=>none)
def Yb:bc:=au Ya ajv
def Yc:Env:=Env.cons 196 Yb X9
abbrev Yd:List PS:= [.one (.slice [.int .u8])]
def ajx:List UInt8→Prop×AV×List AB:=fun x=>match x with
 |b=>(S.small b, .own 0,[.row 3 [.int .i64] (S.decode b) false])
def ajy:List UInt8→Nat→Option al:=fun x=>match x with
 |b=>fun id=>(match id with
  |0=>some {τ:=List UInt8×List Int,aL:= [(0,fun k=> .sl [.int .u8] k.1),(3,fun k=> .own 300)],keys:= [(300,fun k=> .row 3 [.int .i64] k.2 false)],bM:= [(Vg.Loc.slot 3,300)],drop:= [],bm:= [],inv:=fun k=>S.gq b k.1 k.2,ag:=fun k=>S.len k.1}
  |_=>none)
def Ye:bc:=au Yd ajx
def Yf:Env:=Env.cons 182 Ye Yc
abbrev Yg:List PS:= [.one (.int .i64)]
def ajz:Int→Prop×AV×List AB:=fun x=>match x with
 |c=>(True, .bool (S.letter c),[])
def ajA:Int→Nat→Option al:=fun x=>match x with
 |c=>fun id=>(match id with
  |0=>some {τ:=Nat,aL:= [(6,fun k=> .int .i64 ((k:Nat):Int))],keys:= [],bM:= [],drop:= [],bm:= [],inv:=fun k=>S.kt c k,ag:=fun k=>S.ag 9 k}
  |_=>none)
def Yh:bc:=au Yg ajz
def Yi:Env:=Env.cons 183 Yh Yf
abbrev Yj:List PS:= [.one (.int .i64)]
def ajB:Int→Prop×AV×List AB:=fun x=>match x with
 |c=>(True, .bool (S.digit c),[])
def ajC:Int→Nat→Option al:=fun _ _=>none
def Yk:bc:=au Yj ajB
def Yl:Env:=Env.cons 184 Yk Yi
abbrev Ym:List PS:= [.one (.int .i64)]
def ajD:Int→Prop×AV×List AB:=fun x=>match x with
 |c=>(True, .int .i64 (S.aR c:Int),[])
def ajE:Int→Nat→Option al:=fun x=>match x with
 |c=>fun id=>(match id with
  |0=>some {τ:=Nat,aL:= [(6,fun k=> .int .i64 ((k:Nat):Int))],keys:= [],bM:= [],drop:= [],bm:= [],inv:=fun k=>S.kS c k,ag:=fun k=>S.ag 7 k}
  |_=>none)
def Yn:bc:=au Ym ajD
def Yo:Env:=Env.cons 198 Yn Yl
abbrev Yp:List PS:= [.one (.int .i64), .one (.int .i64), .one (.int .i64)]
def ajF:Int×Int×Int→Prop×AV×List AB:=fun x=>match x with
 |(c,a,b)=>(True, .bool (S.bz c a b),[])
def ajG:Int×Int×Int→Nat→Option al:=fun _ _=>none
def Yq:bc:=au Yp ajF
def Yr:Env:=Env.cons 172 Yq Yo
abbrev Ys:List PS:= [.one (.int .i64)]
def ajH:Int→Prop×AV×List AB:=fun x=>match x with
 |c=>(True, .bool (S.gY c),[])
def ajI:Int→Nat→Option al:=fun _ _=>none
def Yt:bc:=au Ys ajH
def Yu:Env:=Env.cons 146 Yt Yr
abbrev Yv:List PS:= [.one (.int .i64)]
def ajJ:Int→Prop×AV×List AB:=fun x=>match x with
 |c=>(0≤c∧c≤1114111, .own 0,[.row 5 [.int .u8] (S.enc c) false])
def ajK:Int→Nat→Option al:=fun _ _=>none
def Yw:bc:=au Yv ajJ
def Yx:Env:=Env.cons 147 Yw Yu
abbrev Yy:List PS:= [.one (.int .i64), .one (.int .i64)]
def ajL:Int×Int→Prop×AV×List AB:=fun x=>match x with
 |(a,b)=>(True, .int .i64 (S.iA a b:Int),[])
def ajM:Int×Int→Nat→Option al:=fun _ _=>none
def Yz:bc:=au Yy ajL
def YA:Env:=Env.cons 148 Yz Yx
abbrev YB:List PS:= [.one (.int .i64)]
def ajN:Int→Prop×AV×List AB:=fun x=>match x with
 |c=>(True, .bool (S.letter c),[])
def ajO:Int→Nat→Option al:=fun _ _=>none
def YC:bc:=au YB ajN
def YD:Env:=Env.cons 149 YC YA
abbrev YE:List PS:= [.one (.int .i64)]
def ajP:Int→Prop×AV×List AB:=fun x=>match x with
 |c=>(True, .int .i64 (S.aR c:Int),[])
def ajQ:Int→Nat→Option al:=fun _ _=>none
def YF:bc:=au YE ajP
def YG:Env:=Env.cons 150 YF YD
abbrev YH:List PS:= [.one (.slice [.int .u8]), .one (.int .i64)]
def ajR:List UInt8×Int→Prop×AV×List AB:=fun x=>match x with
 |(b,n)=>(S.ur b n, .int .i64 (S.aX b n:Int),[])
def ajS:List UInt8×Int→Nat→Option al:=fun x=>match x with
 |(b,n)=>fun id=>(match id with
  |0=>some {τ:=Nat,aL:= [(7,fun k=> .int .i64 ((k:Nat):Int)),(6,fun k=> .int .i64 (S.jS b n (k-1)))],keys:= [],bM:= [],drop:= [],bm:= [],inv:=fun k=>S.lY b n k,ag:=fun k=>S.ag n.toNat k}
  |_=>none)
def YI:bc:=au YH ajR
def YJ:Env:=Env.cons 145 YI YG
abbrev YK:List PS:= [.one (.slice [.int .u8])]
def ajT:List UInt8→Prop×AV×List AB:=fun x=>match x with
 |b=>(S.small b, .own 0,[.row 3 [.int .i64] (S.decode b) false])
def ajU:List UInt8→Nat→Option al:=fun x=>match x with
 |b=>fun id=>(match id with
  |0=>some {τ:=Nat×List Int,aL:= [(4,fun k=> .int .i64 ((k.1:Nat):Int)),(3,fun k=> .own 300)],keys:= [(300,fun k=> .row 3 [.int .i64] k.2 false)],bM:= [(Vg.Loc.slot 3,300)],drop:= [],bm:= [],inv:=fun k=>S.gq b (b.drop k.1) k.2∧k.1≤b.length,ag:=fun k=>S.ag (S.len b) k.1}
  |2=>some {τ:=Nat×Nat,aL:= [(7,fun k=> .int .i64 ((k.1+1:Nat):Int)),(5,fun k=> .int .i64 (S.eD (b.drop k.2) k.1).1),(6,fun k=> .int .i64 (S.eD (b.drop k.2) k.1).2)],keys:= [],bM:= [],drop:= [],bm:= [(4,fun k=> .int .i64 ((k.2:Nat):Int))],inv:=fun k=>k.1≤4,ag:=fun k=>S.ag 4 k.1}
  |_=>none)
def YL:bc:=au YK ajT
def YM:Env:=Env.cons 119 YL YJ
abbrev YN:List PS:= [.one (.slice [.int .i64])]
def ajV:List Int→Prop×AV×List AB:=fun x=>match x with
 |u=>(S.Ew u, .str (S.c9 u),[])
def ajW:List Int→Nat→Option al:=fun x=>match x with
 |u=>fun id=>(match id with
  |0=>some {τ:=Nat×List UInt8,aL:= [(10,fun k=> .int .i64 ((k.1:Nat):Int)),(3,fun k=> .own 300)],keys:= [(300,fun k=> .row 5 [.int .u8] k.2 false)],bM:= [(Vg.Loc.slot 3,300)],drop:= [],bm:= [],inv:=fun k=>S.gJ u k.1 k.2,ag:=fun k=>S.ag (S.len u) k.1}
  |_=>none)
def YO:bc:=au YN ajV
def YP:Env:=Env.cons 185 YO YM
abbrev YQ:List PS:= [.one (.slice [.int .u8])]
def ajX:List UInt8→Prop×AV×List AB:=fun x=>match x with
 |b=>(S.small b, .own 0,[.row 9 [.str] (S.aS b) false])
def ajY:List UInt8→Nat→Option al:=fun x=>match x with
 |b=>fun id=>(match id with
  |0=>some {τ:=Nat×List (List UInt8)×List Int,aL:= [(10,fun k=> .int .i64 ((k.1:Nat):Int)),(3,fun k=> .own 300),(4,fun k=> .own 301)],keys:= [(300,fun k=> .row 9 [.str] k.2.1 false),(301,fun k=> .row 3 [.int .i64] k.2.2 false)],bM:= [(Vg.Loc.slot 3,300),(Vg.Loc.slot 4,301)],drop:= [104000,104001,104002,40],bm:= [],inv:=fun k=>S.gr (S.decode b) k.1 k.2.1 k.2.2,ag:=fun k=>S.ag (S.len (S.decode b)) k.1}
  |_=>none)
def YR:bc:=au YQ ajX
def YS:Env:=Env.cons 160 YR YP
abbrev YT:List PS:= [.one (.str)]
def ajZ:List UInt8→Prop×AV×List AB:=fun x=>match x with
 |s=>(S.small s, .bool (S.isTerm s),[])
def aj0:List UInt8→Nat→Option al:=fun _ _=>none
def YU:bc:=au YT ajZ
def YV:Env:=Env.cons 144 YU YS
abbrev YW:List PS:= [.one (.int .i64)]
def aj1:Int→Prop×AV×List AB:=fun x=>match x with
 |c=>(True, .bool (S.dU c),[])
def aj2:Int→Nat→Option al:=fun _ _=>none
def YX:bc:=au YW aj1
def YY:Env:=Env.cons 120 YX YV
abbrev YZ:List PS:= [.one (.slice [.int .i64])]
def aj3:List Int→Prop×AV×List AB:=fun x=>match x with
 |u=>(S.Ew u, .str (S.c9 u),[])
def aj4:List Int→Nat→Option al:=fun x=>match x with
 |u=>fun id=>(match id with
  |0=>some {τ:=Nat×List UInt8,aL:= [(4,fun k=> .int .i64 ((k.1:Nat):Int)),(3,fun k=> .str k.2)],keys:= [],bM:= [],drop:= [],bm:= [],inv:=fun k=>S.gJ u k.1 k.2,ag:=fun k=>S.ag (S.len u) k.1}
  |_=>none)
def Y0:bc:=au YZ aj3
def Y1:Env:=Env.cons 121 Y0 YY
abbrev Y2:List PS:= [.one (.slice [.int .u8])]
def aj5:List UInt8→Prop×AV×List AB:=fun x=>match x with
 |b=>(S.small b, .own 0,[.row 9 [.str] (S.aS b) false])
def aj6:List UInt8→Nat→Option al:=fun x=>match x with
 |b=>fun id=>(match id with
  |0=>some {τ:=Nat×List (List UInt8),aL:= [(5,fun k=> .int .i64 ((k.1:Nat):Int)),(4,fun k=> .own 300)],keys:= [(300,fun k=> .row 9 [.str] k.2 false)],bM:= [(Vg.Loc.slot 4,300)],drop:= [],bm:= [],inv:=fun k=>S.iS (S.decode b) k.1 k.2,ag:=fun k=>S.ag (S.len (S.decode b)+1) k.1}
  |2=>some {τ:=Nat×Nat,aL:= [(6,fun k=> .int .i64 ((k.1:Nat):Int))],keys:= [],bM:= [],drop:= [],bm:= [(5,fun k=> .int .i64 ((k.2:Nat):Int))],inv:=fun k=>S.nh (S.decode b) k.2 k.1,ag:=fun k=>S.ag (S.len (S.decode b)) k.1}
  |_=>none)
def Y3:bc:=au Y2 aj5
def Y4:Env:=Env.cons 82 Y3 Y1
abbrev Y5:List PS:= [.one (.slice [.str])]
def aj7:List (List UInt8)→Prop×AV×List AB:=fun x=>match x with
 |l=>(True, .int .i64 (((S.cm l:Nat):Int):Int),[])
def aj8:List (List UInt8)→Nat→Option al:=fun x=>match x with
 |l=>fun id=>(match id with
  |0=>some {τ:=Nat,aL:= [(4,fun k=> .int .i64 ((k:Nat):Int)),(3,fun k=> .int .i64 ((S.cu l k:Nat):Int))],keys:= [],bM:= [],drop:= [],bm:= [],inv:=fun k=>S.nD l k,ag:=fun k=>S.ag (S.len l) k}
  |_=>none)
def Y6:bc:=au Y5 aj7
def Y7:Env:=Env.cons 165 Y6 Y4
abbrev Y8:List TA:= [.own 50000]
abbrev Y9:List TB:= [.row 9 [.str]]
def aj9:Unit→((List (List UInt8))×Unit)→fe:=fun x y=>match x,y with
 |(),(l,())=> {pre:=S.small l,res:= .own 60000,heap:= [none],new:= [.row 9 [.str] (S.sorted l) false]}
def aka:Unit→((List (List UInt8))×Unit)→Nat→Option al:=fun x y=>match x,y with
 |(),(l,())=>fun id=>(match id with
  |0=>some {τ:=List (List UInt8)×List (List UInt8),aL:= [(0,fun k=> .own 310),(3,fun k=> .own 300)],keys:= [(310,fun k=> .row 9 [.str] k.1 false),(300,fun k=> .row 9 [.str] k.2 false)],bM:= [(Vg.Loc.slot 0,310),(Vg.Loc.slot 3,300)],drop:= [50000,301],bm:= [],inv:=fun k=>S.mA l k.1 k.2,ag:=fun k=>S.len k.1}
  |2=>some {τ:=Nat×List (List UInt8)×List (List UInt8)×List UInt8,aL:= [(6,fun k=> .int .i64 ((k.1:Nat):Int)),(5,fun k=> .own 301)],keys:= [(301,fun k=> .row 9 [.str] k.2.1 false)],bM:= [(Vg.Loc.slot 5,301)],drop:= [],bm:= [(0,fun k=> .sl [.str] k.2.2.1),(4,fun k=> .str k.2.2.2)],inv:=fun k=>S.fW k.2.2.1 k.2.2.2 k.1 k.2.1,ag:=fun k=>S.ag (S.len k.2.2.1) k.1}
  |_=>none)
def Za:eU:=gp Y8 Y9 aj9
def Zb:eU:=Za
def Zc:Env:=Env.eP 135 [true] Zb Y7
abbrev Zd:List PS:= [.one (.slice [.int .u8])]
def akb:List UInt8→Prop×AV×List AB:=fun x=>match x with
 |b=>(S.small b, .own 0,[.row 9 [.str] (S.sorted (S.aS b)) false])
def akc:List UInt8→Nat→Option al:=fun _ _=>none
def Ze:bc:=au Zd akb
def Zf:Env:=Env.cons 134 Ze Zc
abbrev Zg:List PS:= [.one (.slice [.int .u8]), .one (.str)]
def akd:List UInt8×List UInt8→Prop×AV×List AB:=fun x=>match x with
 |(b,t)=>(S.small b, .own 0,[.row 3 [.int .i64] (S.places b t) false])
def ake:List UInt8×List UInt8→Nat→Option al:=fun x=>match x with
 |(b,t)=>fun id=>(match id with
  |0=>some {τ:=Nat×List Int,aL:= [(7,fun k=> .int .i64 ((k.1:Nat):Int)),(6,fun k=> .own 300)],keys:= [(300,fun k=> .row 3 [.int .i64] k.2 false)],bM:= [(Vg.Loc.slot 6,300)],drop:= [],bm:= [],inv:=fun k=>S.gK (S.aS b) t k.1 k.2,ag:=fun k=>S.ag (S.len (S.aS b)) k.1}
  |_=>none)
def Zh:bc:=au Zg akd
def Zi:Env:=Env.cons 41 Zh Zf
abbrev Zj:List PS:= [.one (.str)]
def akf:List UInt8→Prop×AV×List AB:=fun x=>match x with
 |s=>(True, .bool false,[])
def akg:List UInt8→Nat→Option al:=fun _ _=>none
def Zk:bc:=au Zj akf
def Zl:Env:=Env.cons 186 Zk Zi
abbrev Zm:List PS:= [.one (.str), .one (.str)]
def akh:List UInt8×List UInt8→Prop×AV×List AB:=fun x=>match x with
 |(a,b)=>(True, .int .i64 (S.fA a b:Int),[])
def aki:List UInt8×List UInt8→Nat→Option al:=fun _ _=>none
def Zn:bc:=au Zm akh
def Zo:Env:=Env.cons 161 Zn Zl
abbrev Zp:List TA:= [.iP (.str), .iP (.str), .ref 50000 0]
abbrev Zq:List TB:= [.cells [.fn (.func 161) [] []]]
def akj:(List UInt8×List UInt8)→(Unit×Unit)→fe:=fun x y=>match x,y with
 |(a,b),((),())=> {pre:=True,res:= .bool (decide (a=b)),heap:= [some (.cells [.fn (.func 161) [] []])],new:= []}
def akk:(List UInt8×List UInt8)→(Unit×Unit)→Nat→Option al:=fun _ _ _=>none
def Zr:eU:=gp Zp Zq akj
def Zs:eU:=Zr
def Zt:Env:=Env.eP 181 [false,false,true] Zs Zo
abbrev Zu:List TA:= [.own 50000, .fn (.func 181) [] [.ref 50001 0]]
abbrev Zv:List TB:= [.row 9 [.str], .cells [.fn (.func 161) [] []]]
def akl:Unit→((List (List UInt8))×Unit×Unit)→fe:=fun x y=>match x,y with
 |(),(l,((),()))=> {pre:=S.small l,res:= .own 60000,heap:= [none,some (.cells [.fn (.func 161) [] []])],new:= [.row 9 [.str] (S.bJ l) false]}
def akm:Unit→((List (List UInt8))×Unit×Unit)→Nat→Option al:=fun x y=>match x,y with
 |(),(l,((),()))=>fun id=>(match id with
  |0=>some {τ:=Nat,aL:= [(5,fun k=> .int .i64 ((k:Nat):Int))],keys:= [(50001,fun k=> .cells [.fn (.func 161) [] []])],bM:= [],drop:= [],bm:= [],inv:=fun k=>S.nj l k,ag:=fun k=>S.ag (S.len l) k}
  |2=>some {τ:=Nat×Nat×List (List UInt8)×Nat,aL:= [(5,fun k=> .int .i64 ((k.1:Nat):Int)),(7,fun k=> .int .i64 ((k.2.1:Nat):Int))],keys:= [(50000,fun k=> .row 9 [.str] k.2.2.1 false),(50001,fun k=> .cells [.fn (.func 161) [] []])],bM:= [],drop:= [],bm:= [(30,fun k=> .int .i64 ((k.2.2.2:Nat):Int))],inv:=fun k=>S.iT l k.2.2.2 k.1 k.2.1 k.2.2.1,ag:=fun k=>S.ag (S.len l) k.2.1}
  |_=>none)
def Zw:eU:=gp Zu Zv akl
def Zx:eU:=Zw
def Zy:Env:=Env.eP 180 [true,true] Zx Zt
abbrev akn:List PS:= [.one (.slice [.str])]
def ako:List (List UInt8)→Prop×AV×List AB:=fun x=>match x with
 |l=>(S.small l, .own 0,[.row 9 [.str] (l) false])
def Zz:bc:=au akn ako
def ZA:Env:=Env.cons 178 Zz Zy
abbrev akr:List TA:= [.own 50000, .fn (.func 161) [] []]
abbrev aks:List TB:= [.row 9 [.str]]
def akt:Unit→((List (List UInt8))×Unit)→fe:=fun x y=>match x,y with
 |(),(l,())=> {pre:=S.small l,res:= .dc [],heap:= [some (.row 9 [.str] (S.fB l) false)],new:= []}
def ZD:eU:=gp akr aks akt
def ZE:eU:=ZD
def ZF:Env:=Env.eP 179 [true,true] ZE ZA
abbrev ZG:List TA:= [.iP (.slice [.str]), .fn (.func 161) [] []]
abbrev ZH:List TB:= []
def aku:(List (List UInt8))→Unit→fe:=fun x y=>match x,y with
 |l,()=> {pre:=S.small l,res:= .own 60000,heap:= [],new:= [.row 9 [.str] (S.bJ (S.fB l)) false]}
def akv:(List (List UInt8))→Unit→Nat→Option al:=fun _ _ _=>none
def ZI:eU:=gp ZG ZH aku
def ZJ:eU:=ZI
def ZK:Env:=Env.eP 159 [false,true] ZJ ZF
abbrev ZL:List PS:= [.one (.slice [.int .u8])]
def akw:List UInt8→Prop×AV×List AB:=fun x=>match x with
 |b=>(S.small b, .own 0,[.row 9 [.str] (S.sorted (S.aS b)) false])
def akx:List UInt8→Nat→Option al:=fun _ _=>none
def ZM:bc:=au ZL akw
def ZN:Env:=Env.cons 131 ZM ZK
abbrev ZO:List PS:= [.one (.slice [.str])]
def aky:List (List UInt8)→Prop×AV×List AB:=fun x=>match x with
 |l=>(True, .bool (S.mT l),[])
def akz:List (List UInt8)→Nat→Option al:=fun x=>match x with
 |l=>fun id=>(match id with
  |0=>some {τ:=Nat,aL:= [(7,fun k=> .int .i64 ((k:Nat):Int))],keys:= [],bM:= [],drop:= [],bm:= [],inv:=fun k=>S.mB l k,ag:=fun k=>S.ag (S.len l) k}
  |_=>none)
def ZP:bc:=au ZO aky
def ZQ:Env:=Env.cons 85 ZP ZN
abbrev ZR:List PS:= [.one (.str), .one (.str)]
def akA:List UInt8×List UInt8→Prop×AV×List AB:=fun x=>match x with
 |(a,b)=>(True, .str (S.cM a b),[])
def akB:List UInt8×List UInt8→Nat→Option al:=fun _ _=>none
def ZS:bc:=au ZR akA
def ZT:Env:=Env.cons 151 ZS ZQ
abbrev ZU:List TA:= [.own 50000]
abbrev ZV:List TB:= [.row 9 [.str]]
def akC:Unit→((List (List UInt8))×Unit)→fe:=fun x y=>match x,y with
 |(),(s,())=> {pre:=S.qn s,res:= .own 60000,heap:= [none],new:= [.row 9 [.str] (S.comb s) false]}
def akD:Unit→((List (List UInt8))×Unit)→Nat→Option al:=fun _ _ _=>none
def ZW:eU:=gp ZU ZV akC
def ZX:eU:=ZW
def ZY:Env:=Env.eP 123 [true] ZX ZT
abbrev ZZ:List PS:= [.one (.slice [.slice [.int .u8]])]
def akE:List (List UInt8)→Prop×AV×List AB:=fun x=>match x with
 |l=>(S.iU l, .own 0,[.row 9 [.str] (S.leaves l) false])
def akF:List (List UInt8)→Nat→Option al:=fun x=>match x with
 |l=>fun id=>(match id with
  |0=>some {τ:=Nat,aL:= [(8,fun k=> .int .i64 ((k:Nat):Int)),(3,fun k=> .own 300)],keys:= [(300,fun k=> .row 9 [.str] (S.db l k) false)],bM:= [(Vg.Loc.slot 3,300)],drop:= [],bm:= [],inv:=fun k=>S.dY l k,ag:=fun k=>S.ag (S.len l) k}
  |_=>none)
def Z0:bc:=au ZZ akE
def Z1:Env:=Env.cons 68 Z0 ZY
abbrev Z2:List PS:= [.one (.slice [.str])]
def akG:List (List UInt8)→Prop×AV×List AB:=fun x=>match x with
 |l=>(S.eb l, .str (S.root l),[])
def akH:List (List UInt8)→Nat→Option al:=fun x=>match x with
 |l=>fun id=>(match id with
  |0=>some {τ:=Nat×List (List UInt8),aL:= [(12,fun k=> .int .i64 ((k.1:Nat):Int)),(3,fun k=> .own 300)],keys:= [(300,fun k=> .row 9 [.str] k.2 false)],bM:= [(Vg.Loc.slot 3,300)],drop:= [302,35,103500,103501,103502,304],bm:= [],inv:=fun k=>S.kU l k.1 k.2,ag:=fun k=>S.ag (S.len l) k.1}
  |2=>some {τ:=Nat×Nat×List (List UInt8)×Nat,aL:= [(5,fun k=> .int .i64 ((k.2.1:Nat):Int)),(3,fun k=> .own 302)],keys:= [(302,fun k=> .row 9 [.str] k.2.2.1 false)],bM:= [(Vg.Loc.slot 3,302)],drop:= [35,103500,103501,103502,102100,102101,21,102102,300,304],bm:= [(4,fun k=> .int .i64 ((k.2.2.2:Nat):Int))],inv:=fun k=>S.jY l k.2.2.2 k.1 k.2.1 k.2.2.1,ag:=fun k=>k.2.1}
  |4=>some {τ:=List (List UInt8),aL:= [(3,fun k=> .own 304)],keys:= [(304,fun k=> .row 9 [.str] k false)],bM:= [(Vg.Loc.slot 3,304)],drop:= [102100,102101,21,102102,102901,102900,102902,29,300,302],bm:= [],inv:=fun k=>S.kV l k,ag:=fun k=>S.len k}
  |_=>none)
def Z3:bc:=au Z2 akG
def Z4:Env:=Env.cons 86 Z3 Z1
abbrev Z5:List PS:= [.one (.slice [.str])]
def akI:List (List UInt8)→Prop×AV×List AB:=fun x=>match x with
 |l=>(S.small l, .dc [.str (((S.rq l,S.ru l)).1), .int .i64 (((S.rq l,S.ru l)).2:Int)],[])
def akJ:List (List UInt8)→Nat→Option al:=fun _ _=>none
def Z6:bc:=au Z5 akI
def Z7:Env:=Env.cons 45 Z6 Z4
abbrev Z8:List PS:= [.one (.int .i64)]
def akK:Int→Prop×AV×List AB:=fun x=>match x with
 |n=>(True, .int .i64 (S.split n:Int),[])
def akL:Int→Nat→Option al:=fun x=>match x with
 |n=>fun id=>(match id with
  |0=>some {τ:=Nat×Int,aL:= [(3,fun k=> .int .i64 k.2)],keys:= [],bM:= [],drop:= [],bm:= [],inv:=fun k=>S.ju n k.2 k.1,ag:=fun k=>(n-k.2).toNat}
  |_=>none)
def Z9:bc:=au Z8 akK
def MC:Env:=Env.cons 110 Z9 Z7
abbrev It:List PS:= [.one (.slice [.str])]
def À:List (List UInt8)→Prop×AV×List AB:=fun x=>match x with
 |l=>(S.eb l, .str (S.root l),[])
def Á:List (List UInt8)→Nat:=fun x=>match x with
 |l=>S.len l
def akM:List (List UInt8)→Nat→Option al:=fun _ _=>none
def Â:bc:=au It À
def akN(m:Nat):Env:=Env.cons 69 (lG It Á m À) MC
def Ã:Env:=Env.cons 69 Â MC
abbrev Ä:List PS:= [.one (.slice [.slice [.int .u8]])]
def akO:List (List UInt8)→Prop×AV×List AB:=fun x=>match x with
 |l=>(S.iU l, .own 0,[.row 9 [.str] (S.leaves l) false])
def akP:List (List UInt8)→Nat→Option al:=fun x=>match x with
 |l=>fun id=>(match id with
  |0=>some {τ:=Nat,aL:= [(4,fun k=> .int .i64 ((k:Nat):Int)),(3,fun k=> .own 300)],keys:= [(300,fun k=> .row 9 [.str] (S.db l k) false)],bM:= [(Vg.Loc.slot 3,300)],drop:= [],bm:= [],inv:=fun k=>S.dY l k,ag:=fun k=>S.ag (S.len l) k}
  |_=>none)
def Å:bc:=au Ä akO
def Æ:Env:=Env.cons 46 Å Ã
abbrev Ç:List PS:= [.one (.slice [.int .i64])]
def akQ:List Int→Prop×AV×List AB:=fun x=>match x with
 |l=>(True, .bool (S.bR l),[])
def akR:List Int→Nat→Option al:=fun x=>match x with
 |l=>fun id=>(match id with
  |0=>some {τ:=Nat,aL:= [(8,fun k=> .int .i64 ((k:Nat):Int)),(3,fun k=> .int .i64 (S.dV l k))],keys:= [],bM:= [],drop:= [],bm:= [],inv:=fun k=>S.hY l k,ag:=fun k=>S.ag (S.len l) k}
  |_=>none)
def È:bc:=au Ç akQ
def É:Env:=Env.cons 143 È Æ
abbrev Ê:List PS:= [.one (.slice [.int .i64])]
def akS:List Int→Prop×AV×List AB:=fun x=>match x with
 |l=>(True, .dc [.own 0, .int .i64 (((S.oA l,S.jD l)).2:Int)],[.row 5 [.int .u8] (((S.oA l,S.jD l)).1) false])
def akT:List Int→Nat→Option al:=fun x=>match x with
 |l=>fun id=>(match id with
  |0=>some {τ:=Nat,aL:= [(22,fun k=> .int .i64 ((k:Nat):Int)),(6,fun k=> .int .i64 (S.dV l k)),(4,fun k=> .own 300)],keys:= [(300,fun k=> .row 5 [.int .u8] (S.cB l k) false)],bM:= [(Vg.Loc.slot 4,300)],drop:= [101700,101701,101702,17],bm:= [],inv:=fun k=>k≤l.length,ag:=fun k=>S.ag (S.len l) k}
  |_=>none)
def Ë:bc:=au Ê akS
def Ì:Env:=Env.cons 174 Ë É
abbrev Í:List PS:= [.one (.slice [.int .i64])]
def akU:List Int→Prop×AV×List AB:=fun x=>match x with
 |l=>(True, .dc [.str (((S.oB l,S.jD l)).1), .int .i64 (((S.oB l,S.jD l)).2:Int)],[])
def akV:List Int→Nat→Option al:=fun _ _=>none
def Î:bc:=au Í akU
def Ï:Env:=Env.cons 155 Î Ì
abbrev Ð:List TA:= [.iP (.int .i64), .iP (.bool), .iP (.bool), .ref 50000 0]
abbrev Ñ:List TB:= [.cells [.iP (.int .i64), .iP (.int .i64)]]
def akW:(Int×Bool×Bool)→((Int×Int)×Unit)→fe:=fun x y=>match x,y with
 |(n,p,q),((s1,s2),())=> {pre:=True,res:= .bool (S.oC n s1 s2),heap:= [some (.cells [.int .i64 s1, .int .i64 s2])],new:= []}
def akX:(Int×Bool×Bool)→((Int×Int)×Unit)→Nat→Option al:=fun _ _ _=>none
def Ò:eU:=gp Ð Ñ akW
def Ó:eU:=Ò
def Ô:Env:=Env.eP 154 [false,false,false,true] Ó Ï
abbrev Õ:List TA:= [.iP (.slice [.int .i64]), .iP (.slice [.int .i64]), .fn (.func 154) [] [.ref 50000 0]]
abbrev Ö:List TB:= [.cells [.iP (.int .i64), .iP (.int .i64)]]
def akY:(List Int×List Int)→((Int×Int)×Unit)→fe:=fun x y=>match x,y with
 |(a,b),((s1,s2),())=> {pre:=b.length=0,res:= .own 60000,heap:= [some (.cells [.int .i64 s1, .int .i64 s2])],new:= [.row 3 [.int .i64] (S.CG a s1 s2) false]}
def akZ:(List Int×List Int)→((Int×Int)×Unit)→Nat→Option al:=fun x y=>match x,y with
 |(a,b),((s1,s2),())=>fun id=>(match id with
  |0=>some {τ:=List Int×List Int,aL:= [(0,fun k=> .sl [.int .i64] k.1),(1,fun k=> .sl [.int .i64] S.fa),(7,fun k=> .own 300)],keys:= [(300,fun k=> .row 3 [.int .i64] k.2 false),(50000,fun k=> .cells [.int .i64 s1, .int .i64 s2])],bM:= [(Vg.Loc.slot 7,300)],drop:= [],bm:= [],inv:=fun k=>S.iV a s1 s2 k.1 k.2,ag:=fun k=>S.len k.1}
  |_=>none)
def Ø:eU:=gp Õ Ö akY
def Ù:eU:=Ø
def Ú:Env:=Env.eP 153 [false,false,true] Ù Ô
abbrev Û:List PS:= [.one (.slice [.int .i64]), .agg [.int .i64, .int .i64]]
def ak0:List Int×Int×Int→Prop×AV×List AB:=fun x=>match x with
 |(l,s1,s2)=>(True, .own 0,[.row 3 [.int .i64] (S.CG l s1 s2) false])
def ak1:List Int×Int×Int→Nat→Option al:=fun _ _=>none
def Ü:bc:=au Û ak0
def Ý:Env:=Env.cons 127 Ü Ú
abbrev Þ:List PS:= [.one (.slice [.int .i64])]
def ak2:List Int→Prop×AV×List AB:=fun x=>match x with
 |l=>(S.bR l=true, .own 0,[.row 5 [.int .u8] (S.rv l) false])
def ak3:List Int→Nat→Option al:=fun x=>match x with
 |l=>fun id=>(match id with
  |0=>some {τ:=Nat,aL:= [(4,fun k=> .int .i64 ((k:Nat):Int)),(3,fun k=> .own 300)],keys:= [(300,fun k=> .row 5 [.int .u8] (S.cB l k) false)],bM:= [(Vg.Loc.slot 3,300)],drop:= [7,100700,100701,100702],bm:= [],inv:=fun k=>k≤l.length,ag:=fun k=>S.ag (S.len l) k}
  |_=>none)
def ß:bc:=au Þ ak2
def à:Env:=Env.cons 157 ß Ý
abbrev á:List PS:= [.one (.slice [.int .i64])]
def ak4:List Int→Prop×AV×List AB:=fun x=>match x with
 |l=>(S.bR l=true, .str (S.eJ l),[])
def ak5:List Int→Nat→Option al:=fun _ _=>none
def â:bc:=au á ak4
def ã:Env:=Env.cons 129 â à
abbrev ä:List PS:= [.one (.slice [.int .i64]), .one (.slice [.int .i64])]
def ak6:List Int×List Int→Prop×AV×List AB:=fun x=>match x with
 |(a,b)=>(True, .bool (S.lL a b),[])
def ak7:List Int×List Int→Nat→Option al:=fun x=>match x with
 |(a,b)=>fun id=>(match id with
  |0=>some {τ:=Nat,aL:= [(5,fun k=> .int .i64 ((k:Nat):Int))],keys:= [],bM:= [],drop:= [],bm:= [],inv:=fun k=>S.ph a b k,ag:=fun k=>S.ag (S.len a) k}
  |_=>none)
def å:bc:=au ä ak6
def æ:Env:=Env.cons 42 å ã
abbrev ç:List PS:= [.one (.slice [.str, .slice [.int .i64]])]
def ak8:List (List UInt8×List Int)→Prop×AV×List AB:=fun x=>match x with
 |d=>(S.bB d, .bool (S.bl d),[])
def ak9:List (List UInt8×List Int)→Nat→Option al:=fun x=>match x with
 |d=>fun id=>(match id with
  |0=>some {τ:=Nat,aL:= [(7,fun k=> .int .i64 ((k:Nat):Int))],keys:= [],bM:= [],drop:= [],bm:= [],inv:=fun k=>S.zK d k,ag:=fun k=>S.ag (S.len d) k}
  |_=>none)
def è:bc:=au ç ak8
def é:Env:=Env.cons 118 è æ
abbrev ê:List PS:= [.agg [.str, .str, .str]]
def ala:List UInt8×List UInt8×List UInt8→Prop×AV×List AB:=fun x=>match x with
 |(l1,l2,l3)=>(True, .dc [.sl [.int .u8] (((S.oD l1 l2 l3,S.wk l1 l2 l3)).1), .int .i64 (((S.oD l1 l2 l3,S.wk l1 l2 l3)).2:Int)],[])
def alb:List UInt8×List UInt8×List UInt8→Nat→Option al:=fun _ _=>none
def ë:bc:=au ê ala
def ì:Env:=Env.cons 156 ë é
abbrev í:List PS:= [.one (.slice [.str, .slice [.int .i64]])]
def alc:List (List UInt8×List Int)→Prop×AV×List AB:=fun x=>match x with
 |d=>(S.bB d, .dc [.own 0, .int .i64 (((S.fb d,S.dE d)).2:Int)],[.row 46 [.slice [.int .u8]] (((S.fb d,S.dE d)).1) false])
def ald:List (List UInt8×List Int)→Nat→Option al:=fun x=>match x with
 |d=>fun id=>(match id with
  |0=>some {τ:=Nat,aL:= [(16,fun k=> .int .i64 ((k:Nat):Int)),(4,fun k=> .own 300)],keys:= [(300,fun k=> .row 46 [.slice [.int .u8]] (S.dy d k) false)],bM:= [(Vg.Loc.slot 4,300)],drop:= [],bm:= [],inv:=fun k=>k≤d.length+1,ag:=fun k=>S.ag (S.len d+1) k}
  |_=>none)
def î:bc:=au í alc
def ï:Env:=Env.cons 128 î ì
abbrev ð:List PS:= [.one (.slice [.str, .slice [.int .i64]])]
def ale:List (List UInt8×List Int)→Prop×AV×List AB:=fun x=>match x with
 |d=>(S.bB d, .dc [.str (((S.rz d,S.dE d)).1), .int .i64 (((S.rz d,S.dE d)).2:Int)],[])
def alf:List (List UInt8×List Int)→Nat→Option al:=fun _ _=>none
def ñ:bc:=au ð ale
def ò:Env:=Env.cons 93 ñ ï
abbrev alg:List PS:= [.one (.slice [.slice [.int .u8]]), .agg [.int .i64, .int .i64]]
def alh:List (List UInt8)×Int×Int→Prop×AV×List AB:=fun x=>match x with
 |(docs,s1,s2)=>(True, .dc [.sl [.str, .slice [.int .i64]] ((S.fK docs s1 s2).1), .int .i64 ((S.fK docs s1 s2).2:Int)],[])
def ó:bc:=au alg alh
def ô:Env:=Env.cons 96 ó ò
abbrev õ:List PS:= [.one (.slice [.slice [.int .u8]]), .agg [.int .i64, .int .i64]]
def ali:List (List UInt8)×Int×Int→Prop×AV×List AB:=fun x=>match x with
 |(docs,s1,s2)=>(True, .bool (S.cJ docs s1 s2),[])
def alj:List (List UInt8)×Int×Int→Nat→Option al:=fun x=>match x with
 |(docs,s1,s2)=>fun id=>(match id with
  |0=>some {τ:=Nat,aL:= [(5,fun k=> .int .i64 ((k:Nat):Int))],keys:= [],bM:= [],drop:= [],bm:= [],inv:=fun k=>S.kX docs k,ag:=fun k=>S.ag (S.len docs) k}
  |_=>none)
def ö:bc:=au õ ali
def ø:Env:=Env.cons 57 ö ô
abbrev Om:List PS:= [.one (.slice [.int .u8]), .one (.str)]
def aa2:List UInt8×List UInt8→Prop×AV×List AB:=fun x=>match x with
 |(b,t)=>(S.small b, .bool (S.oE b t),[])
def aa3:List UInt8×List UInt8→Nat→Option al:=fun _ _=>none
def On:bc:=au Om aa2
def Oo:Env:=Env.cons 136 On ø
abbrev Oq:List PS:= [.agg [.str, .str, .str]]
def aa4:List UInt8×List UInt8×List UInt8→Prop×AV×List AB:=fun x=>match x with
 |(l1,l2,l3)=>(S.iB l1 l2 l3=true, .sl [.int .u8] (S.wj l1 l2 l3),[])
def aa5:List UInt8×List UInt8×List UInt8→Nat→Option al:=fun _ _=>none
def Ot:bc:=au Oq aa4
def Ou:Env:=Env.cons 130 Ot Oo
abbrev Ov:List PS:= [.one (.slice [.str, .slice [.int .i64]])]
def aa6:List (List UInt8×List Int)→Prop×AV×List AB:=fun x=>match x with
 |d=>(S.bB d∧S.bl d=true, .own 0,[.row 46 [.slice [.int .u8]] (S.iq d) false])
def aa7:List (List UInt8×List Int)→Nat→Option al:=fun x=>match x with
 |d=>fun id=>(match id with
  |0=>some {τ:=Nat,aL:= [(4,fun k=> .int .i64 (((k:Nat):Int)-1)),(3,fun k=> .own 300)],keys:= [(300,fun k=> .row 46 [.slice [.int .u8]] (S.dy d k) false)],bM:= [(Vg.Loc.slot 3,300)],drop:= [],bm:= [],inv:=fun k=>k≤d.length+1,ag:=fun k=>S.ag (S.len d+1) k}
  |_=>none)
def Ow:bc:=au Ov aa6
def Ox:Env:=Env.cons 94 Ow Ou
abbrev Oy:List PS:= [.one (.slice [.str, .slice [.int .i64]])]
def aa8:List (List UInt8×List Int)→Prop×AV×List AB:=fun x=>match x with
 |d=>(S.bB d∧S.bl d=true, .str (S.l7 d),[])
def aa9:List (List UInt8×List Int)→Nat→Option al:=fun _ _=>none
def Oz:bc:=au Oy aa8
def OA:Env:=Env.cons 95 Oz Ox
abbrev OB:List PS:= [.one (.slice [.str, .slice [.int .i64]]), .one (.slice [.str, .slice [.int .i64]])]
def aba:List (List UInt8×List Int)×List (List UInt8×List Int)→Prop×AV×List AB:=fun x=>match x with
 |(a,b)=>(True, .bool (S.eR a b),[])
def abb:List (List UInt8×List Int)×List (List UInt8×List Int)→Nat→Option al:=fun x=>match x with
 |(a,b)=>fun id=>(match id with
  |0=>some {τ:=Nat,aL:= [(5,fun k=> .int .i64 ((k:Nat):Int))],keys:= [],bM:= [],drop:= [],bm:= [],inv:=fun k=>S.hZ a b k,ag:=fun k=>S.ag (S.len a) k}
  |_=>none)
def OC:bc:=au OB aba
def OD:Env:=Env.cons 100 OC OA
abbrev OE:List PS:= [.one (.slice [.slice [.int .u8]]), .agg [.int .i64, .int .i64]]
def abc:List (List UInt8)×Int×Int→Prop×AV×List AB:=fun x=>match x with
 |(docs,s1,s2)=>(S.ec docs s1 s2, .own 0,[.row 132 [.str, .slice [.int .i64]] (S.make docs s1 s2) false])
def abd:List (List UInt8)×Int×Int→Nat→Option al:=fun x=>match x with
 |(docs,s1,s2)=>fun id=>(match id with
  |0=>some {τ:=Nat,aL:= [(6,fun k=> .int .i64 (s1+(k:Nat))),(5,fun k=> .own 300)],keys:= [(300,fun k=> .row 9 [.str] (S.fC docs s1 k) false)],bM:= [(Vg.Loc.slot 5,300)],drop:= [102700,102701,102702,27],bm:= [],inv:=fun k=>S.dz s1 s2 k,ag:=fun k=>S.ag (s2-s1).toNat k}
  |2=>some {τ:=Nat,aL:= [(8,fun k=> .int .i64 ((k:Nat):Int)),(7,fun k=> .own 301)],keys:= [(301,fun k=> .row 132 [.str, .slice [.int .i64]] (S.iC docs s1 s2 k) false)],bM:= [(Vg.Loc.slot 7,301)],drop:= [302],bm:= [],inv:=fun k=>S.dY (S.bP docs s1 s2) k,ag:=fun k=>S.ag (S.len (S.bP docs s1 s2)) k}
  |4=>some {τ:=Nat×List UInt8,aL:= [(10,fun k=> .int .i64 (s1+(k.1:Nat)))],keys:= [(9,fun k=> .cells [.str k.2, .own 302]),(302,fun k=> .row 3 [.int .i64] (S.bC docs s1 k.2 k.1) false)],bM:= [(Vg.Loc.cell 9 1,302)],drop:= [],bm:= [(37,fun k=> .str k.2)],inv:=fun k=>S.dz s1 s2 k.1,ag:=fun k=>S.ag (s2-s1).toNat k.1}
  |_=>none)
def OF:bc:=au OE abc
def OG:Env:=Env.cons 101 OF OD
abbrev OH:List PS:= [.agg [.int .i64, .int .i64]]
def abe:Int×Int→Prop×AV×List AB:=fun x=>match x with
 |(s1,s2)=>(True, .bool (S.iD s1 s2),[])
def abf:Int×Int→Nat→Option al:=fun _ _=>none
def OI:bc:=au OH abe
def OJ:Env:=Env.cons 117 OI OG
abbrev OK:List PS:= [.agg [.int .i64, .int .i64, .slice [.str, .slice [.int .i64]]]]
def abg:Int×Int×List (List UInt8×List Int)→Prop×AV×List AB:=fun x=>match x with
 |(s1,s2,s3)=>(S.bB s3, .bool (S.dh s1 s2 s3),[])
def abh:Int×Int×List (List UInt8×List Int)→Nat→Option al:=fun x=>match x with
 |(s1,s2,s3)=>fun id=>(match id with
  |0=>some {τ:=Nat,aL:= [(18,fun k=> .int .i64 ((k:Nat):Int))],keys:= [],bM:= [],drop:= [],bm:= [],inv:=fun k=>S.pn s1 s2 s3 k,ag:=fun k=>S.ag (S.len s3) k}
  |_=>none)
def OL:bc:=au OK abg
def OM:Env:=Env.cons 92 OL OJ
abbrev ON:List PS:= [.agg [.int .i64, .int .i64, .slice [.str, .slice [.int .i64]]]]
def abi:Int×Int×List (List UInt8×List Int)→Prop×AV×List AB:=fun x=>match x with
 |(s1,s2,s3)=>(S.bB s3, .dc [.agg [.int .i64 (((S.lh s1 s2 s3).1).1:Int), .int .i64 (((S.lh s1 s2 s3).1).2.1:Int), .int .i64 (((S.lh s1 s2 s3).1).2.2.1:Int), .str (((S.lh s1 s2 s3).1).2.2.2)], .int .i64 ((S.lh s1 s2 s3).2:Int)],[])
def abj:Int×Int×List (List UInt8×List Int)→Nat→Option al:=fun _ _=>none
def OO:bc:=au ON abi
def OP:Env:=Env.cons 51 OO OM
abbrev auc:List PS:= [.agg [.int .i64, .int .i64, .int .i64, .str]]
def auV:Int×Int×Int×List UInt8→Prop×AV×List AB:=fun x=>match x with
 |(s1,s2,s3,s4)=>(True, .bool (S.af8 s1 s2 s3 s4),[])
def auW:Int×Int×Int×List UInt8→Nat→Option al:=fun _ _=>none
def aud:bc:=au auc auV
def aue:Env:=Env.cons 79 aud OP
abbrev OQ:List PS:= [.one (.slice [.slice [.int .u8]]), .agg [.int .i64, .int .i64]]
def abk:List (List UInt8)×Int×Int→Prop×AV×List AB:=fun x=>match x with
 |(docs,s1,s2)=>(True, .dc [.agg [.int .i64 (((S.cb docs s1 s2).1).1:Int), .int .i64 (((S.cb docs s1 s2).1).2.1:Int), .sl [.str, .slice [.int .i64]] (((S.cb docs s1 s2).1).2.2)], .int .i64 ((S.cb docs s1 s2).2:Int)],[])
def abl:List (List UInt8)×Int×Int→Nat→Option al:=fun _ _=>none
def OR:bc:=au OQ abk
def OS:Env:=Env.cons 55 OR aue
abbrev auf:List PS:= [.one (.slice [.int .i64, .int .i64, .int .i64, .str]), .one (.int .i64)]
def auX:List (Int×Int×Int×List UInt8)×Int→Prop×AV×List AB:=fun x=>match x with
 |(l,n)=>(True, .bool (S.aga l n),[])
def auY:List (Int×Int×Int×List UInt8)×Int→Nat→Option al:=fun x=>match x with
 |(l,n)=>fun id=>(match id with
  |0=>some {τ:=Nat,aL:= [(14,fun k=> .int .i64 ((k:Nat):Int)),(5,fun k=> .int .i64 (S.rowAt l k:Int))],keys:= [],bM:= [],drop:= [],bm:= [],inv:=fun k=>S.M1 l k,ag:=fun k=>S.ag (S.len l) k}
  |_=>none)
def auo:bc:=au auf auX
def aup:Env:=Env.cons 39 auo OS
abbrev OT:List PS:= [.one (.slice [.slice [.int .u8]]), .agg [.int .i64, .int .i64]]
def abn:List (List UInt8)×Int×Int→Prop×AV×List AB:=fun x=>match x with
 |(docs,s1,s2)=>(True, .bool (S.cC docs s1 s2),[])
def abo:List (List UInt8)×Int×Int→Nat→Option al:=fun _ _=>none
def OU:bc:=au OT abn
def OV:Env:=Env.cons 58 OU aup
abbrev OW:List PS:= [.one (.slice [.slice [.int .u8]]), .agg [.int .i64, .int .i64]]
def abp:List (List UInt8)×Int×Int→Prop×AV×List AB:=fun x=>match x with
 |(docs,s1,s2)=>(S.ec docs s1 s2, .agg [.int .i64 (((s1,s2,S.make docs s1 s2)).1:Int), .int .i64 (((s1,s2,S.make docs s1 s2)).2.1:Int), .sl [.str, .slice [.int .i64]] (((s1,s2,S.make docs s1 s2)).2.2)],[])
def abq:List (List UInt8)×Int×Int→Nat→Option al:=fun _ _=>none
def OX:bc:=au OW abp
def OY:Env:=Env.cons 60 OX OV
abbrev OZ:List PS:= [.agg [.int .i64, .int .i64, .slice [.str, .slice [.int .i64]]]]
def abr:Int×Int×List (List UInt8×List Int)→Prop×AV×List AB:=fun x=>match x with
 |(s1,s2,s3)=>(S.bB s3∧S.bl s3=true, .agg [.int .i64 ((S.yV s1 s2 s3).1:Int), .int .i64 ((S.yV s1 s2 s3).2.1:Int), .int .i64 ((S.yV s1 s2 s3).2.2.1:Int), .str ((S.yV s1 s2 s3).2.2.2)],[])
def abt:Int×Int×List (List UInt8×List Int)→Nat→Option al:=fun _ _=>none
def O0:bc:=au OZ abr
def O1:Env:=Env.cons 53 O0 OY
abbrev O2:List PS:= [.agg [.int .i64, .int .i64, .slice [.str, .slice [.int .i64]]], .agg [.int .i64, .int .i64, .slice [.str, .slice [.int .i64]]]]
def abu:Int×Int×List (List UInt8×List Int)×Int×Int×List (List UInt8×List Int)→Prop×AV×List AB:=fun x=>match x with
 |(a1,a2,a3,b1,b2,b3)=>(True, .bool (S.rB a1 a2 a3 b1 b2 b3),[])
def abv:Int×Int×List (List UInt8×List Int)×Int×Int×List (List UInt8×List Int)→Nat→Option al:=fun _ _=>none
def O3:bc:=au O2 abu
def O4:Env:=Env.cons 59 O3 O1
abbrev O5:List PS:= [.one (.slice [.str, .slice [.int .i64]])]
def abw:List (List UInt8×List Int)→Prop×AV×List AB:=fun x=>match x with
 |d=>(True, .bool (S.fG d),[])
def abx:List (List UInt8×List Int)→Nat→Option al:=fun x=>match x with
 |d=>fun id=>(match id with
  |0=>some {τ:=Nat,aL:= [(3,fun k=> .int .i64 ((k:Nat):Int))],keys:= [],bM:= [],drop:= [],bm:= [],inv:=fun k=>S.tB d k,ag:=fun k=>S.ag (S.len d) k}
  |_=>none)
def O6:bc:=au O5 abw
def O7:Env:=Env.cons 47 O6 O4
abbrev O8:List PS:= [.one (.slice [.slice [.int .u8]])]
def aby:List (List UInt8)→Prop×AV×List AB:=fun x=>match x with
 |docs=>(True, .bool (S.jZ docs),[])
def abz:List (List UInt8)→Nat→Option al:=fun x=>match x with
 |docs=>fun id=>(match id with
  |0=>some {τ:=Nat,aL:= [(3,fun k=> .int .i64 ((k:Nat):Int))],keys:= [],bM:= [],drop:= [],bm:= [],inv:=fun k=>S.tC docs k,ag:=fun k=>S.ag (S.len docs) k}
  |_=>none)
def O9:bc:=au O8 aby
def Pa:Env:=Env.cons 48 O9 O7
abbrev Pb:List PS:= [.agg [.int .i64, .int .i64, .slice [.str, .slice [.int .i64]]]]
def abA:Int×Int×List (List UInt8×List Int)→Prop×AV×List AB:=fun x=>match x with
 |(s1,s2,s3)=>(True, .agg [.int .i64 (((s1,s2,s3)).1:Int), .int .i64 (((s1,s2,s3)).2.1:Int), .sl [.str, .slice [.int .i64]] (((s1,s2,s3)).2.2)],[])
def abB:Int×Int×List (List UInt8×List Int)→Nat→Option al:=fun _ _=>none
def Pc:bc:=au Pb abA
def Pd:Env:=Env.cons 54 Pc Pa
abbrev Pe:List PS:= [.agg [.int .i64, .int .i64, .int .i64, .str]]
def abC:Int×Int×Int×List UInt8→Prop×AV×List AB:=fun x=>match x with
 |(s1,s2,s3,s4)=>(True, .agg [.int .i64 (((s1,s2,s3,s4)).1:Int), .int .i64 (((s1,s2,s3,s4)).2.1:Int), .int .i64 (((s1,s2,s3,s4)).2.2.1:Int), .str (((s1,s2,s3,s4)).2.2.2)],[])
def abD:Int×Int×Int×List UInt8→Nat→Option al:=fun _ _=>none
def Pf:bc:=au Pe abC
def Pg:Env:=Env.cons 23 Pf Pd
abbrev PE:List PS:= [.one (.slice [.int .i64]), .one (.slice [.int .i64])]
def abS:List Int×List Int→Prop×AV×List AB:=fun x=>match x with
 |(a,b)=>(True, .bool (S.agO a b),[])
def abT:List Int×List Int→Nat→Option al:=fun x=>match x with
 |(a,b)=>fun id=>(match id with
  |0=>some {τ:=Nat,aL:= [(13,fun k=> .int .i64 ((k:Nat):Int))],keys:= [],bM:= [],drop:= [],bm:= [],inv:=fun k=>S.xQ a b k,ag:=fun k=>S.ag (S.len a) k}
  |_=>none)
def PF:bc:=au PE abS
def PG:Env:=Env.cons 99 PF Pg
abbrev PH:List PS:= [.agg [.str, .slice [.int .i64]], .agg [.str, .slice [.int .i64]]]
def abU:List UInt8×List Int×List UInt8×List Int→Prop×AV×List AB:=fun x=>match x with
 |(a1,a2,b1,b2)=>(True, .bool (S.tK a1 a2 b1 b2),[])
def abV:List UInt8×List Int×List UInt8×List Int→Nat→Option al:=fun _ _=>none
def PI:bc:=au PH abU
def PJ:Env:=Env.cons 98 PI PG
abbrev PK:List TA:= [.iP (.slice [.str, .slice [.int .i64]]), .iP (.slice [.str, .slice [.int .i64]]), .fn (.func 98) [] []]
abbrev PL:List TB:= []
def abW:(List (List UInt8×List Int)×List (List UInt8×List Int))→Unit→fe:=fun x y=>match x,y with
 |(a,b),()=> {pre:=True,res:= .bool (S.eR a b),heap:= [],new:= []}
def abX:(List (List UInt8×List Int)×List (List UInt8×List Int))→Unit→Nat→Option al:=fun x y=>match x,y with
 |(a,b),()=>fun id=>(match id with
  |0=>some {τ:=Nat,aL:= [(17,fun k=> .int .i64 ((k:Nat):Int))],keys:= [],bM:= [],drop:= [],bm:= [],inv:=fun k=>S.hZ a b k,ag:=fun k=>S.ag (S.len a) k}
  |_=>none)
def PM:eU:=gp PK PL abW
def PN:eU:=PM
def PO:Env:=Env.eP 97 [false,false,true] PN PJ
abbrev PQ:List PS:= [.one (.slice [.str, .slice [.int .i64]]), .one (.slice [.str, .slice [.int .i64]])]
def abY:List (List UInt8×List Int)×List (List UInt8×List Int)→Prop×AV×List AB:=fun x=>match x with
 |(a,b)=>(True, .bool (S.eR a b),[])
def abZ:List (List UInt8×List Int)×List (List UInt8×List Int)→Nat→Option al:=fun _ _=>none
def PR:bc:=au PQ abY
def PT:Env:=Env.cons 56 PR PO
abbrev PU:List PS:= [.agg [.slice [.slice [.int .u8]], .slice [.int .i64, .int .i64, .slice [.str, .slice [.int .i64]]]]]
def ab1:List (List UInt8)×List (Int×Int×List (List UInt8×List Int))→Prop×AV×List AB:=fun x=>match x with
 |(y1,y2)=>(True, .bool (S.bE y1 y2),[])
def ab2:List (List UInt8)×List (Int×Int×List (List UInt8×List Int))→Nat→Option al:=fun x=>match x with
 |(y1,y2)=>fun id=>(match id with
  |0=>some {τ:=Nat,aL:= [(23,fun k=> .int .i64 ((k:Nat):Int))],keys:= [],bM:= [],drop:= [],bm:= [],inv:=fun k=>S.C3 y1 y2 k,ag:=fun k=>S.ag (S.len y1) k}
  |2=>some {τ:=Nat,aL:= [(34,fun k=> .int .i64 ((k:Nat):Int)),(5,fun k=> .int .i64 (S.cD y2 k))],keys:= [],bM:= [],drop:= [],bm:= [],inv:=fun k=>S.oH y1 y2 k,ag:=fun k=>S.ag (S.len y2) k}
  |_=>none)
def PV:bc:=au PU ab1
def PW:Env:=Env.cons 19 PV PT
abbrev PX:List PS:= [.agg [.slice [.slice [.int .u8]], .slice [.int .i64, .int .i64, .slice [.str, .slice [.int .i64]]]]]
def ab3:List (List UInt8)×List (Int×Int×List (List UInt8×List Int))→Prop×AV×List AB:=fun x=>match x with
 |(y1,y2)=>(True, .agg [.sl [.slice [.int .u8]] ((S.ao y1 y2).1), .sl [.int .i64, .int .i64, .slice [.str, .slice [.int .i64]]] ((S.ao y1 y2).2)],[])
def ab4:List (List UInt8)×List (Int×Int×List (List UInt8×List Int))→Nat→Option al:=fun _ _=>none
def PY:bc:=au PX ab3
def PZ:Env:=Env.cons 50 PY PW
abbrev P0:List PS:= [.agg [.slice [.slice [.int .u8]], .slice [.int .i64, .int .i64, .slice [.str, .slice [.int .i64]]]]]
def ab5:List (List UInt8)×List (Int×Int×List (List UInt8×List Int))→Prop×AV×List AB:=fun x=>match x with
 |(y1,y2)=>(True, .int .i64 (S.eE y2:Int),[])
def ab6:List (List UInt8)×List (Int×Int×List (List UInt8×List Int))→Nat→Option al:=fun _ _=>none
def P1:bc:=au P0 ab5
def Iu:Env:=Env.cons 61 P1 PZ
abbrev P8:List PS:= [.agg [.slice [.slice [.int .u8]], .slice [.int .i64, .int .i64, .slice [.str, .slice [.int .i64]]]]]
def acd:List (List UInt8)×List (Int×Int×List (List UInt8×List Int))→Prop×AV×List AB:=fun x=>match x with
 |(y1,y2)=>(True, .int .i64 (S.iX y1 y2:Int),[])
def ace:List (List UInt8)×List (Int×Int×List (List UInt8×List Int))→Nat→Option al:=fun _ _=>none
def P9:bc:=au P8 acd
def Qa:Env:=Env.cons 21 P9 Iu
abbrev Qk:List PS:= [.agg [.slice [.slice [.int .u8]], .slice [.int .i64, .int .i64, .slice [.str, .slice [.int .i64]]]]]
def acm:List (List UInt8)×List (Int×Int×List (List UInt8×List Int))→Prop×AV×List AB:=fun x=>match x with
 |(y1,y2)=>(True, .sl [.int .i64, .int .i64, .int .i64, .str] (S.dW y1 y2),[])
def acn:List (List UInt8)×List (Int×Int×List (List UInt8×List Int))→Nat→Option al:=fun x=>match x with
 |(y1,y2)=>fun id=>(match id with
  |0=>some {τ:=Nat,aL:= [(17,fun k=> .int .i64 ((k:Nat):Int)),(3,fun k=> .own 300)],keys:= [(300,fun k=> .row 44 [.int .i64, .int .i64, .int .i64, .str] (S.dn y1 y2 k) false)],bM:= [(Vg.Loc.slot 3,300)],drop:= [13],bm:= [],inv:=fun k=>k≤S.gL y1 y2,ag:=fun k=>S.ag (S.gL y1 y2) k}
  |_=>none)
def Ql:bc:=au Qk acm
def Qm:Env:=Env.cons 16 Ql Qa
abbrev Qn:List PS:= [.agg [.slice [.slice [.int .u8]], .slice [.int .i64, .int .i64, .slice [.str, .slice [.int .i64]]]]]
def aco:List (List UInt8)×List (Int×Int×List (List UInt8×List Int))→Prop×AV×List AB:=fun x=>match x with
 |(y1,y2)=>(True, .bool (S.bE y1 y2),[])
def acp:List (List UInt8)×List (Int×Int×List (List UInt8×List Int))→Nat→Option al:=fun x=>match x with
 |(y1,y2)=>fun id=>(match id with
  |0=>some {τ:=Nat,aL:= [(3,fun k=> .int .i64 ((k:Nat):Int))],keys:= [],bM:= [],drop:= [],bm:= [],inv:=fun k=>S.oH y1 y2 k,ag:=fun k=>S.ag (S.len y2) k}
  |_=>none)
def Qo:bc:=au Qn aco
def Qp:Env:=Env.cons 20 Qo Qm
abbrev Qq:List PS:= [.agg [.slice [.slice [.int .u8]], .slice [.int .i64, .int .i64, .slice [.str, .slice [.int .i64]]]]]
def acq:List (List UInt8)×List (Int×Int×List (List UInt8×List Int))→Prop×AV×List AB:=fun x=>match x with
 |(y1,y2)=>(True, .agg [.sl [.slice [.int .u8]] ((S.ao y1 y2).1), .sl [.int .i64, .int .i64, .slice [.str, .slice [.int .i64]]] ((S.ao y1 y2).2)],[])
def acr:List (List UInt8)×List (Int×Int×List (List UInt8×List Int))→Nat→Option al:=fun _ _=>none
def Qr:bc:=au Qq acq
def Qs:Env:=Env.cons 52 Qr Qp
abbrev Qt:List PS:= [.agg [.slice [.slice [.int .u8]], .slice [.int .i64, .int .i64, .slice [.str, .slice [.int .i64]]]]]
def acs:List (List UInt8)×List (Int×Int×List (List UInt8×List Int))→Prop×AV×List AB:=fun x=>match x with
 |(y1,y2)=>(True, .int .i64 (S.iX y1 y2:Int),[])
def acu:List (List UInt8)×List (Int×Int×List (List UInt8×List Int))→Nat→Option al:=fun x=>match x with
 |(y1,y2)=>fun id=>(match id with
  |0=>some {τ:=Nat,aL:= [(4,fun k=> .int .i64 ((k:Nat):Int)),(3,fun k=> .int .i64 (S.cD (S.ao y1 y2).2 k))],keys:= [],bM:= [],drop:= [],bm:= [],inv:=fun k=>k≤S.gL y1 y2,ag:=fun k=>S.ag (S.gL y1 y2) k}
  |_=>none)
def Qu:bc:=au Qt acs
def Qv:Env:=Env.cons 22 Qu Qs
abbrev Qw:List PS:= [.agg [.slice [.slice [.int .u8]], .slice [.int .i64, .int .i64, .slice [.str, .slice [.int .i64]]]]]
def acv:List (List UInt8)×List (Int×Int×List (List UInt8×List Int))→Prop×AV×List AB:=fun x=>match x with
 |(y1,y2)=>(True, .sl [.int .i64, .int .i64, .int .i64, .str] (S.dW y1 y2),[])
def acw:List (List UInt8)×List (Int×Int×List (List UInt8×List Int))→Nat→Option al:=fun x=>match x with
 |(y1,y2)=>fun id=>(match id with
  |0=>some {τ:=Nat,aL:= [(4,fun k=> .int .i64 ((k:Nat):Int)),(3,fun k=> .own 300)],keys:= [(300,fun k=> .row 42 [.int .i64, .int .i64, .int .i64, .str] (S.dn y1 y2 k) false)],bM:= [(Vg.Loc.slot 3,300)],drop:= [],bm:= [],inv:=fun k=>k≤S.gL y1 y2,ag:=fun k=>S.ag (S.gL y1 y2) k}
  |_=>none)
def Qx:bc:=au Qw acv
def Qy:Env:=Env.cons 17 Qx Qv
abbrev QC:List PS:= [.agg [.slice [.slice [.int .u8]], .slice [.int .i64, .int .i64, .slice [.str, .slice [.int .i64]]]]]
def acz:List (List UInt8)×List (Int×Int×List (List UInt8×List Int))→Prop×AV×List AB:=fun x=>match x with
 |(y1,y2)=>(S.small y2, .agg [.sl [.slice [.int .u8]] (((y1,y2)).1), .sl [.int .i64, .int .i64, .slice [.str, .slice [.int .i64]]] (((y1,y2)).2)],[])
def acA:List (List UInt8)×List (Int×Int×List (List UInt8×List Int))→Nat→Option al:=fun x=>match x with
 |(y1,y2)=>fun id=>(match id with
  |0=>some {τ:=Nat,aL:= [(4,fun k=> .int .i64 ((k:Nat):Int))],keys:= [(3,fun k=> .cells [.sl [.slice [.int .u8]] y1, .own 300]),(300,fun k=> .row 100 [.int .i64, .int .i64, .slice [.str, .slice [.int .i64]]] (y2.take k) false)],bM:= [(Vg.Loc.cell 3 1,300)],drop:= [],bm:= [],inv:=fun k=>S.kh y2 k,ag:=fun k=>S.ag (S.len y2) k}
  |_=>none)
def QD:bc:=au QC acz
def QE:Env:=Env.cons 18 QD Qy
abbrev QF:List PS:= [.agg [.slice [.slice [.int .u8]], .slice [.int .i64, .int .i64, .slice [.str, .slice [.int .i64]]]]]
def acB:List (List UInt8)×List (Int×Int×List (List UInt8×List Int))→Prop×AV×List AB:=fun x=>match x with
 |(y1,y2)=>(True, .bool (S.k7 y1 y2),[])
def acC:List (List UInt8)×List (Int×Int×List (List UInt8×List Int))→Nat→Option al:=fun x=>match x with
 |(y1,y2)=>fun id=>(match id with
  |0=>some {τ:=Nat,aL:= [(3,fun k=> .int .i64 ((k:Nat):Int))],keys:= [],bM:= [],drop:= [],bm:= [],inv:=fun k=>S.tL y2 k,ag:=fun k=>S.ag (S.len y2) k}
  |_=>none)
def QG:bc:=au QF acB
def acD:Env:=Env.cons 14 QG QE
abbrev awo:List PS:= [.agg [.int .i64, .str, .slice [.int .i64, .int .i64, .int .i64, .str]]]
def ay6:Int×List UInt8×List (Int×Int×Int×List UInt8)→Prop×AV×List AB:=fun x=>match x with
 |(y1,y2,y3)=>(True, .bool (S.aae y1 y2 y3),[])
def ay7:Int×List UInt8×List (Int×Int×Int×List UInt8)→Nat→Option al:=fun _ _=>none
def awp:bc:=au awo ay6
def awq:Env:=Env.cons 35 awp acD
abbrev awr:List PS:= [.agg [.slice [.slice [.int .u8]], .slice [.int .i64, .int .i64, .slice [.str, .slice [.int .i64]]]]]
def ay8:List (List UInt8)×List (Int×Int×List (List UInt8×List Int))→Prop×AV×List AB:=fun x=>match x with
 |(y1,y2)=>(True, .dc [.agg [.int .i64 (((S.hOf y1 y2).1).1:Int), .str (((S.hOf y1 y2).1).2.1), .sl [.int .i64, .int .i64, .int .i64, .str] (((S.hOf y1 y2).1).2.2)], .int .i64 ((S.hOf y1 y2).2:Int)],[])
def ay9:List (List UInt8)×List (Int×Int×List (List UInt8×List Int))→Nat→Option al:=fun _ _=>none
def aws:bc:=au awr ay8
def avJ:Env:=Env.cons 30 aws awq
abbrev awt:List TA:= [.iP (.int .i64), .ref 50000 0, .ref 50001 0]
abbrev awu:List TB:= [.cells [.iP (.int .i64)], .cells [.nil]]
def aza:Int→(Int×Unit×Unit)→fe:=fun x y=>match x,y with
 |v,(q,((),()))=> {pre:=S.rj v=false∧q=0,res:= .dc [],heap:= [some (.cells [.int .i64 0]),some (.cells [.own 60000])],new:= [.row 5 [.int .u8] (S.num v) false]}
def azb:Int→(Int×Unit×Unit)→Nat→Option al:=fun _ _ _=>none
def awv:eU:=gp awt awu aza
def avL:eU:=awv
def avM:Env:=Env.eP 70 [false,true,true] avL avJ
def azc:Env:= {avJ with fZ:=fun t=>false,cls:=fun d=>none,spl:=fun d=>Nat.beq d 5}
abbrev awQ:List TA:= [.iP (.int .i64), .ref 50000 0, .ref 50001 0]
abbrev awR:List TB:= [.cells [.iP (.int .i64)], .cells [.own 50002], .row 5 [.int .u8]]
def azd:Int→(Int×Unit×(List UInt8)×Unit)→fe:=fun x y=>match x,y with
 |v,(q,((),(l,())))=> {pre:=S.rj v=false∧q=0∧l.length≤35184372088832,res:= .dc [],heap:= [some (.cells [.int .i64 0]),some (.cells [.own 60000]),none],new:= [.row 5 [.int .u8] (l++S.num v) false]}
def aze:Int→(Int×Unit×(List UInt8)×Unit)→Nat→Option al:=fun _ _ _=>none
def awS:eU:=gp awQ awR azd
def awT:eU:=M3 awS avL
def awU:Env:=Env.eP 70 [false,true,true] awT avM
def azf:Env:= {avM with fZ:=fun t=>false,cls:=fun d=>none,spl:=fun d=>Nat.beq d 5}
abbrev awV:List TA:= [.iP (.str), .ref 50000 0]
abbrev awW:List TB:= [.cells [.own 50001], .row 5 [.int .u8]]
def azg:(List UInt8)→(Unit×(List UInt8)×Unit)→fe:=fun x y=>match x,y with
 |d,((),(l,()))=> {pre:=l.length≤35184372088832∧d.length≤35184372088832,res:= .dc [],heap:= [some (.cells [.own 60000]),none],new:= [.row 5 [.int .u8] (l++d) false]}
def azh:(List UInt8)→(Unit×(List UInt8)×Unit)→Nat→Option al:=fun _ _ _=>none
def awX:eU:=gp awV awW azg
def awY:eU:=awX
def awZ:Env:=Env.eP 72 [false,true] awY awU
abbrev aw0:List PS:= [.agg [.int .i64, .str, .slice [.int .i64, .int .i64, .int .i64, .str]]]
def azi:Int×List UInt8×List (Int×Int×Int×List UInt8)→Prop×AV×List AB:=fun x=>match x with
 |(y1,y2,y3)=>(True, .dc [.own 0, .int .i64 ((S.hW y1 y2 y3).2:Int)],[.row 5 [.int .u8] ((S.hW y1 y2 y3).1) false])
def azj:Int×List UInt8×List (Int×Int×Int×List UInt8)→Nat→Option al:=fun x=>match x with
 |(y1,y2,y3)=>fun id=>(match id with
  |0=>some {τ:=Nat,aL:= [(31,fun k=> .int .i64 ((k:Nat):Int))],keys:= [(4,fun k=> .cells [.own 300]),(300,fun k=> .row 5 [.int .u8] (S.hTo y1 y2 y3 k) false),(5,fun k=> .cells [.int .i64 0])],bM:= [(Vg.Loc.cell 4 0,300)],drop:= [102700],bm:= [],inv:=fun k=>S.atS y1 y2 y3 k,ag:=fun k=>S.ag (S.len y3) k}
  |_=>none)
def aw1:bc:=au aw0 azi
def aw2:Env:=Env.cons 37 aw1 awZ
abbrev aw3:List TA:= [.ref 50000 0]
abbrev aw4:List TB:= [.cells [.iP (.slice [.int .u8]), .iP (.int .i64), .iP (.int .i64)]]
def azk:Unit→((List UInt8×Int×Int)×Unit)→fe:=fun x y=>match x,y with
 |(),((r1,r2,r3),())=> {pre:=r1.length≤140737488355328,res:= .int .i64 (S.aab r1 r2 r3).2,heap:= [some (.cells [.sl [.int .u8] r1, .int .i64 (S.aab r1 r2 r3).1.2.1, .int .i64 (S.aab r1 r2 r3).1.2.2])],new:= []}
def azl:Unit→((List UInt8×Int×Int)×Unit)→Nat→Option al:=fun _ _ _=>none
def aw5:eU:=gp aw3 aw4 azk
def aw6:eU:=aw5
def aw7:Env:=Env.eP 73 [true] aw6 aw2
abbrev aw8:List TA:= [.ref 50000 0]
abbrev aw9:List TB:= [.cells [.iP (.slice [.int .u8]), .iP (.int .i64), .iP (.int .i64)]]
def azm:Unit→((List UInt8×Int×Int)×Unit)→fe:=fun x y=>match x,y with
 |(),((r1,r2,r3),())=> {pre:=r1.length≤140737488355328,res:= .str (S.aac r1 r2 r3).2,heap:= [some (.cells [.sl [.int .u8] r1, .int .i64 (S.aac r1 r2 r3).1.2.1, .int .i64 (S.aac r1 r2 r3).1.2.2])],new:= []}
def azn:Unit→((List UInt8×Int×Int)×Unit)→Nat→Option al:=fun _ _ _=>none
def axa:eU:=gp aw8 aw9 azm
def axb:eU:=axa
def axc:Env:=Env.eP 75 [true] axb aw7
abbrev axd:List TA:= [.ref 50000 0, .ref 50001 0, .ref 50002 0]
abbrev axe:List TB:= [.cells [.iP (.int .i64)], .cells [.fn (.func 73) [] [.ref 50003 0]], .cells [.fn (.func 75) [] [.ref 50003 0]], .cells [.iP (.slice [.int .u8]), .iP (.int .i64), .iP (.int .i64)]]
def azo:Unit→(Int×Unit×Unit×(List UInt8×Int×Int)×Unit)→fe:=fun x y=>match x,y with
 |(),(a,((),((),((r1,r2,r3),()))))=> {pre:=r1.length≤140737488355328,res:= .agg [.int .i64 a, .int .i64 (S.pSg r1 r2 r3 a).2.2.1, .int .i64 (S.pSg r1 r2 r3 a).2.2.2.1, .str (S.pSg r1 r2 r3 a).2.2.2.2],heap:= [some (.cells [.int .i64 (S.pSg r1 r2 r3 a).2.2.1]),some (.cells [.fn (.func 73) [] [.ref 50003 0]]),some (.cells [.fn (.func 75) [] [.ref 50003 0]]),some (.cells [.sl [.int .u8] r1, .int .i64 (S.pSg r1 r2 r3 a).1.1, .int .i64 (S.pSg r1 r2 r3 a).1.2])],new:= []}
def azp:Unit→(Int×Unit×Unit×(List UInt8×Int×Int)×Unit)→Nat→Option al:=fun _ _ _=>none
def axf:eU:=gp axd axe azo
def axg:eU:=axf
def axh:Env:=Env.eP 77 [true,true,true] axg axc
abbrev axi:List PS:= [.one (.slice [.int .u8])]
def azq:List UInt8→Prop×AV×List AB:=fun x=>match x with
 |b=>(b.length≤140737488355328, .dc [.agg [.int .i64 (((S.hR b).1).1:Int), .str (((S.hR b).1).2.1), .sl [.int .i64, .int .i64, .int .i64, .str] (((S.hR b).1).2.2)], .int .i64 ((S.hR b).2:Int)],[])
def azr:List UInt8→Nat→Option al:=fun x=>match x with
 |b=>fun id=>(match id with
  |0=>some {τ:=Nat,aL:= [(29,fun k=> .int .i64 ((k:Nat):Int))],keys:= [(4,fun k=> .cells [.sl [.int .u8] b, .int .i64 (S.pSt b k).1.1, .int .i64 (S.pSt b k).1.2]),(7,fun k=> .cells [.int .i64 (S.pSt b k).2.1]),(5,fun k=> .cells [.fn (.func 73) [] [.ref 4 0]]),(6,fun k=> .cells [.fn (.func 75) [] [.ref 4 0]]),(9,fun k=> .cells [.int .i64 (S.pHd b).1.1, .str (S.pHd b).1.2.1, .own 300]),(300,fun k=> .row 44 [.int .i64, .int .i64, .int .i64, .str] (S.pSt b k).2.2 false)],bM:= [(Vg.Loc.cell 9 2,300)],drop:= [],bm:= [],inv:=fun k=>k≤S.pN b∧(S.pHd b).1.2.2≤64,ag:=fun k=>S.ag (S.pN b) k}
  |_=>none)
def axj:bc:=au axi azq
def axk:Env:=Env.cons 38 axj axh
abbrev axl:List PS:= [.agg [.slice [.slice [.int .u8]], .slice [.int .i64, .int .i64, .slice [.str, .slice [.int .i64]]]]]
def azs:List (List UInt8)×List (Int×Int×List (List UInt8×List Int))→Prop×AV×List AB:=fun x=>match x with
 |(y1,y2)=>(True, .bool (S.afk y1 y2),[])
def azt:List (List UInt8)×List (Int×Int×List (List UInt8×List Int))→Nat→Option al:=fun _ _=>none
def axm:bc:=au axl azs
def axn:Env:=Env.cons 31 axm axk
abbrev axo:List PS:= [.agg [.slice [.slice [.int .u8]], .slice [.int .i64, .int .i64, .slice [.str, .slice [.int .i64]]]]]
def azu:List (List UInt8)×List (Int×Int×List (List UInt8×List Int))→Prop×AV×List AB:=fun x=>match x with
 |(y1,y2)=>(S.iU y1, .agg [.int .i64 (((((S.len y1:Nat):Int),S.root (S.leaves y1),S.dW y1 y2)).1:Int), .str (((((S.len y1:Nat):Int),S.root (S.leaves y1),S.dW y1 y2)).2.1), .sl [.int .i64, .int .i64, .int .i64, .str] (((((S.len y1:Nat):Int),S.root (S.leaves y1),S.dW y1 y2)).2.2)],[])
def azv:List (List UInt8)×List (Int×Int×List (List UInt8×List Int))→Nat→Option al:=fun _ _=>none
def axp:bc:=au axo azu
def axq:Env:=Env.cons 34 axp axn
abbrev axr:List PS:= [.agg [.int .i64, .str, .slice [.int .i64, .int .i64, .int .i64, .str]], .agg [.int .i64, .str, .slice [.int .i64, .int .i64, .int .i64, .str]]]
def azw:Int×List UInt8×List (Int×Int×Int×List UInt8)×Int×List UInt8×List (Int×Int×Int×List UInt8)→Prop×AV×List AB:=fun x=>match x with
 |(a1,a2,a3,b1,b2,b3)=>(True, .bool (S.afJ a1 a2 a3 b1 b2 b3),[])
def azx:Int×List UInt8×List (Int×Int×Int×List UInt8)×Int×List UInt8×List (Int×Int×Int×List UInt8)→Nat→Option al:=fun x=>match x with
 |(a1,a2,a3,b1,b2,b3)=>fun id=>(match id with
  |0=>some {τ:=Nat,aL:= [(5,fun k=> .int .i64 ((k:Nat):Int))],keys:= [],bM:= [],drop:= [],bm:= [],inv:=fun k=>S.ar2 a1 a2 a3 b1 b2 b3 k,ag:=fun k=>S.ag (S.len a3) k}
  |_=>none)
def axy:bc:=au axr azw
def axB:Env:=Env.cons 32 axy axq
abbrev axC:List PS:= []
def azy:Unit→Prop×AV×List AB:=fun x=>match x with
 |()=>(True, .bool true,[])
def azz:Unit→Nat→Option al:=fun _ _=>none
def axD:bc:=au axC azy
def axE:Env:=Env.cons 29 axD axB
abbrev axF:List PS:= [.agg [.int .i64, .str, .slice [.int .i64, .int .i64, .int .i64, .str]]]
def azA:Int×List UInt8×List (Int×Int×Int×List UInt8)→Prop×AV×List AB:=fun x=>match x with
 |(y1,y2,y3)=>(S.small y3, .agg [.int .i64 (((y1,y2,y3)).1:Int), .str (((y1,y2,y3)).2.1), .sl [.int .i64, .int .i64, .int .i64, .str] (((y1,y2,y3)).2.2)],[])
def azB:Int×List UInt8×List (Int×Int×Int×List UInt8)→Nat→Option al:=fun x=>match x with
 |(y1,y2,y3)=>fun id=>(match id with
  |0=>some {τ:=Nat,aL:= [(4,fun k=> .int .i64 ((k:Nat):Int))],keys:= [(3,fun k=> .cells [.int .i64 y1, .str y2, .own 300]),(300,fun k=> .row 42 [.int .i64, .int .i64, .int .i64, .str] (y3.take k) false)],bM:= [(Vg.Loc.cell 3 2,300)],drop:= [],bm:= [],inv:=fun k=>S.kh y3 k,ag:=fun k=>S.ag (S.len y3) k}
  |_=>none)
def axG:bc:=au axF azA
def azC:Env:=Env.cons 33 axG axE
abbrev avN:List PS:= [.agg [.slice [.slice [.int .u8]], .slice [.int .i64, .int .i64, .slice [.str, .slice [.int .i64]]]]]
def azD:List (List UInt8)×List (Int×Int×List (List UInt8×List Int))→Prop×AV×List AB:=fun x=>match x with
 |(y1,y2)=>(True, .bool true,[])
def azE:List (List UInt8)×List (Int×Int×List (List UInt8×List Int))→Nat→Option al:=fun _ _=>none
def azF:bc:=au avN azD
end Go.J

end
section
namespace Go.Vg
open Go Go.Shelf Go.RowKit Go.Proofs
def encS(s:List UInt8):Value:= .string ⟨s.toArray⟩
section
variable {w w':World} {A:Nat→Prop} {G:Nat→Option GD}
theorem yb:∀(l:List (List UInt8)) (cs:List Value),bW (bg w A [.str]) cs l→cs=l.map encS∧∀s∈l,s.length≤maxLen
 | [],cs,h=>by simp only [bW] at h;simp [h]
 |s::l,cs,⟨c1,c2,hc,h1,h2⟩=>by
  subst hc
  simp only [bg] at h1
  obtain⟨v,bX,rfl,hv,rfl⟩:=h1
  simp only [Rd] at hv
  obtain⟨g1,g2⟩:=yb l c2 h2
  obtain⟨rfl,hl⟩:=hv
  refine⟨by rw [g1];rfl,fun s' gg=> ?_⟩
  rcases List.mem_cons.1 gg with rfl|gg
  · exact hl
  · exact g2 s' gg
theorem y8:∀(l:List (List UInt8)),(∀s∈l,s.length≤maxLen)→bW (bg w A [.str]) (l.map encS) l
 | [],_=>rfl
 |s::l,h=>⟨[encS s],l.map encS,rfl,by
   simp only [bg]
   exact⟨_,[],rfl,by simp only [Rd];exact⟨rfl,h s (by simp)⟩,rfl⟩,y8 l fun s' gg=>h s' (by simp [gg])⟩
theorem y9:∀(l:List Int),(∀z∈l,lo .i64≤z∧z≤hi .i64)→bW (bg w A [.int .i64]) (l.map (Value.int .i64)) l
 | [],_=>rfl
 |s::l,h=>⟨[.int .i64 s],l.map (Value.int .i64),rfl,by
   simp only [bg]
   exact⟨_,[],rfl,by simp only [Rd];exact⟨rfl,h s (by simp)⟩,rfl⟩,y9 l fun s' gg=>h s' (by simp [gg])⟩
theorem FF {e:Nat} {row:List Ty} {l:List (Row row)} {v:Value} {xs:List Value}(hA:∀b,A b→b<w.heap.size)(hb:Below w.heap.size w w')(ho:w'.ownsRow w.heap.size e row.length v l.length xs)(hr:bW (bg w' A row) xs l):
  ∃A' aJ,jg w A w' v (.own 0) [.row e row l false] A' aJ:=by
 have hblk:∀b,ax v=some b→w.heap.size≤b:=by
  intro b bu
  rcases ho.2 with⟨rfl,_⟩|⟨g,cap,cur,rfl,hg,_⟩
  · cases bu
  · simp only [ax,Option.some.injEq] at bu;omega
 have h1:v.oneCell'=true :=by
  rcases ho.2 with⟨rfl,_⟩|⟨g,cap,cur,rfl,hg,_⟩<;>rfl
 have ho0:w'.ownsRow 0 e row.length v l.length xs:=by
  refine⟨ho.1,?_⟩
  rcases ho.2 with h|⟨g,cap,cur,g1,g2,g3⟩
  · exact .inl h
  · exact .inr ⟨g,cap,cur,g1,Nat.zero_le _,g3⟩
 refine⟨A,fun _=>v,{os:=hb.os,tape:=hb.tape,output:=hb.output,size:=hb.size,same:=hb.block,mono:=fun _ h=>h,old:=fun _ _ h=>h,bound:=fun b h=>Nat.lt_of_lt_of_le (hA b h) hb.size,res:= ?_,rows:= ?_,apart:= ?_}⟩
 · simp only [ae];exact⟨trivial,h1⟩
 · intro i ab hi
   match i,hi with
   |0,hi=>
    simp only [List.getElem?_cons_zero,Option.some.injEq] at hi
    subst hi
    refine⟨⟨xs,ho0,hr,fun b bu=> ?_⟩,hblk⟩
    simp only [Bool.false_eq_true,if_false]
    intro wc
    have :=hA b wc
    have :=hblk b bu
    omega
   |i+1,hi=>simp at hi
 · intro i j b hi hj _ _
   simp at hi hj;omega
end
theorem Iw {α γ:Type}(f:α→γ)(l:List α)(j:Nat)(d:γ)(hj:j<l.length):(l.map f).getD j d=f l[j]:=by
 rw [List.getD_eq_getElem?_getD,List.getElem?_map,List.getElem?_eq_getElem hj];rfl
theorem vA {P:Program} {f:FuncId} {args:Array Value} {w:World} {A:Nat→Prop} {e:Nat} {row:List Ty}(hA:∀b,A b→b<w.heap.size)
  (h:Calls P f args w fun e w'=>e= .returned (.slice none 0 0)∧w'=w):Calls P f args w fun ex w'=>∃v,ex= .returned v∧∃A' aJ,jg w A w' v (.own 0) [.row e row [] false] A' aJ:=
 h.mono fun ex w' ⟨he,hw⟩=>by
  subst hw
  exact⟨_,he,FF (xs:= []) hA (Below.refl _ _) ⟨by simp, .inl ⟨rfl,rfl⟩⟩ rfl⟩
theorem mc {P:Program} {f:FuncId} {args:Array Value} {w:World} {A:Nat→Prop} {e:Nat} {row:List Ty} {l:List (Row row)} {xs:List Value}(hA:∀b,A b→b<w.heap.size)
  (hr:∀w',bW (bg w' A row) xs l)
  (h:Calls P f args w fun ex w'=>∃v',ex= .returned v'∧w'.ownsRow w.heap.size e row.length v' l.length xs∧v'≠ .slice none 0 0∧Below w.heap.size w w'):
  Calls P f args w fun ex w'=>∃v,ex= .returned v∧∃A' aJ,jg w A w' v (.own 0) [.row e row l false] A' aJ:=
 h.mono fun ex w' ⟨v',he,ho,_,hb⟩=>⟨v',he,FF hA hb ho (hr w')⟩
theorem FG {w:World} {A:Nat→Prop} {β:Nat→Value} {row:List Ty} {args:List Value} {l:List (Row row)}(h:ai w A β args [.sl row l]):∃a cap cs,args= [.slice a l.length cap]∧l.length≤cap∧cap≤maxLen∧bW (bg w A row) cs l∧
  (cs≠ []→∃b o,a=some ⟨b,o,none⟩∧A b∧w.rangeAt b o cs):=by
 simp only [ai] at h
 obtain⟨v,bX,rfl,hv,rfl⟩:=h
 simp only [ae,Rd] at hv
 obtain⟨a,cap,cs,rfl,h1,h2,h3,h4⟩:=hv
 exact⟨a,cap,cs,rfl,h1,h2,h3,h4⟩
theorem za {P:Program} {ρ:Ren} {G:Nat→Option GD}(L:SlLaysN.n42 P ρ) {F:Row (PS.flat [.one (.slice [.str])])→Prop×AV×List AB}
  (hF:∀l:List (List UInt8),F l=(l.length≤1099511627776, .own 0,[.row (ρ.t 26) [.str] l false])):Valid P G (ρ.f 42) (au [.one (.slice [.str])] F):=by
 intro w A β args cd pre res bs hA hG bp hs hp
 unfold au at hs
 split at hs
 · rename_i x hx
   change List (List UInt8) at x
   have gg:=hs
   rw [hF x] at gg
   simp only [Option.some.injEq,Prod.mk.injEq] at gg
   obtain⟨rfl,rfl,rfl⟩:=gg
   obtain⟨g1,g2⟩:=qY _ hx bp
   obtain⟨a,cap,cs,rfl,h1,h2,h3,h4⟩:=FG (row:= [.str]) (l:=x) g1
   obtain⟨rfl,hl⟩:=yb x cs h3
   cases x with
   |nil=>cases a with
    |none=>exact vA hA (AnyG.slices_Clone_string_nil L 0 cap w)
    |some ad=>exact mc (xs:= []) hA (fun _=>rfl) (AnyG.slices_Clone_string_zero L ad cap w)
   |cons s x=>
    obtain⟨b,o,rfl,wc,hr⟩:=h4 (by simp)
    refine mc (xs:=(s::x).map encS) hA (fun _=>y8 _ hl) ?_
    have :=AnyG.slices_Clone_string L b o (s::x).length cap ((s::x).map fun s=>⟨s.toArray⟩) w (by simp) (by omega) (fun j hj=>by
     refine hr j _ ?_
     simp only [List.length_map] at hj
     rw [Iw _ _ _ _ hj,List.getElem?_map,List.getElem?_eq_getElem hj]
     rfl)
    have e1:(((s::x).map fun s=>(⟨s.toArray⟩:ByteArray)).take (s::x).length).map Value.string=(s::x).map encS:=by
     rw [List.take_of_length_le (by simp),List.map_map];rfl
    rw [e1] at this
    exact this
 · cases hs
end Go.Vg

end
section
namespace Go.Vg
open Go Go.Shelf Go.RowKit Go.Proofs Go.Sort Go.Lib
theorem tT(a b:List UInt8):ltOf S.fA a b=Op.bytesLess a b:=by
 unfold ltOf S.fA
 by_cases h:Op.bytesLess a b
 · simp [h]
 · simp only [h]
   by_cases h2:Op.bytesLess b a<;>simp [h2]
theorem Sm:SWO (ltOf S.fA) where
 irrefl x:=by rw [tT];exact S.bO x
 trans x y z h1 h2:=by rw [tT] at *;exact S.js _ _ _ h1 h2
 ntrans x y z h1 h2:=by
  rw [tT] at *
  cases h:Op.bytesLess x z with
  |false=>rfl
  |true=>
   rcases S.fX x y with t|t|t
   · rw [t] at h1;cases h1
   · subst t;rw [h] at h2;cases h2
   · rw [S.js _ _ _ t h] at h2;cases h2
theorem KA(x y:List UInt8)(h1:ltOf S.fA x y=false)(h2:ltOf S.fA y x=false):x=y:=by
 rw [tT] at *
 rcases S.fX x y with t|t|t
 · rw [t] at h1;cases h1
 · exact t
 · rw [t] at h2;cases h2
theorem Ix {α:Type} [Inhabited α](enc:α→Value)(w:World)(nk off:Nat)(d:Array α) {c:Array Value} {e:TypeId} {fr:Nat×Nat}(h:w.heap[nk]? =some (.cells c e fr)):
  (putRow enc w nk off d).heap[nk]? =some (.cells (putCells enc off d c) e fr):=by
 unfold putRow mapBlock
 simp [Array.getElem?_modify,h,onCells]
theorem Al {α:Type} [Inhabited α](enc:α→Value)(w:World)(nk off k:Nat)(d:Array α)(h:k≠nk):(putRow enc w nk off d).heap[k]? =w.heap[k]? :=by
 unfold putRow mapBlock
 simp [Array.getElem?_modify,Ne.symm h]
theorem size_putRow {α:Type} [Inhabited α](enc:α→Value)(w:World)(nk off:Nat)(d:Array α):(putRow enc w nk off d).heap.size=w.heap.size:=by
 unfold putRow mapBlock
 simp
theorem Dg(l:List (List UInt8))(c:Array Value)(h:l.length≤c.size):(putCells encS 0 l.toArray c).toList.take l.length=l.map encS:=by
 apply List.ext_getElem?
 intro k
 rw [List.getElem?_take]
 by_cases hk:k<l.length
 · rw [if_pos hk,List.getElem?_map,List.getElem?_eq_getElem hk,Array.getElem?_toList]
   simp only [putCells,Array.getElem?_mapIdx,Array.getElem?_eq_getElem (show k<c.size by omega),Option.map_some]
   rw [if_pos ⟨Nat.zero_le _,by simpa using hk⟩]
   simp [hk]
 · rw [if_neg hk,List.getElem?_eq_none (by simp;omega)]
theorem Dh {α:Type} [Inhabited α](enc:α→Value)(d:Array α)(c:Array Value):(putCells enc 0 d c).size=c.size:=by simp [putCells]
theorem Am {P:Program} {ρ:Ren} {G:Nat→Option GD}(L:SlLaysF.n6 P ρ) {g e:Nat}(eg:∀args w,(callFunc g args).run P w= .ok (.enter g args) w)
  (aoT:∀(x y:List UInt8) (w:World),Calls P g #[encS x,encS y] w fun e w'=>e= .returned (.int .i64 (S.fA x y))∧w'=w)
  {F:Row (TA.eI [.own 50000, .fn (.func g) [] []])→fJ [.row e [.str]]→fe}
  (hF:∀l:List (List UInt8),F () (l,())= {pre:=l.length≤1099511627776,res:= .dc [],heap:= [some (.row e [.str] (S.fB l) false)],new:= []}):
  ca P G (ρ.f 6) (gp [.own 50000, .fn (.func g) [] []] [.row e [.str]] F):=by
 intro w A β args cd hs r hA hG bp fm Ag mM hp hlen B7
 unfold gp at mM
 split at mM
 · rename_i cs cQ
   split at mM
   · rename_i x y hx hy
     obtain⟨l,u⟩:=y
     simp only [Option.some.injEq] at mM
     have hxu:x=():=rfl
     subst hxu
     rw [hF l] at mM
     subst mM
     obtain⟨g1,g2⟩:=yI cQ hx bp
     obtain⟨q1,q2,q3⟩:=B9 (w:=w) (A:=A) (β:=β) [.row e [.str]] hs (l,u) 50000 hy fm
     have hb:=q2 0 (.row e [.str] l false) rfl
     have alk:hs.length=1:=by rw [←q1];rfl
     simp only [TA.qc,TA.put,ai] at g1
     obtain⟨v0,bX,rfl,ù,v1,aoU,rfl,IH,rfl⟩:=g1
     simp only [ae] at ù IH
     obtain⟨ù,gi⟩:=ù
     obtain⟨a1,a2,rfl,ha1,ha2⟩:=IH
     simp only [TA.qc,ai,List.drop_nil,List.take_nil] at ha1 ha2
     have ea1:a1= #[]:=by apply Array.ext';simpa using ha1
     have ea2:a2= #[]:=by apply Array.ext';simpa using ha2
     subst ea1;subst ea2
     obtain⟨xs,ho,pG,iF⟩:=hb
     obtain⟨rfl,hl⟩:=yb l xs pG
     have vO:∀s∈S.fB l,s.length≤maxLen:=fun s gg=>hl s ((List.mergeSort_perm l _).subset gg)
     have ú:(S.fB l).length=l.length:=(List.mergeSort_perm l _).length_eq
     simp only [Bool.false_eq_true,if_false] at iF
     rcases ho.2 with⟨K4,hn2⟩|⟨g0,cap,cur,hv,_,hg0,I0,û,cz,IU⟩
     ·
      have KY:l= []:=List.length_eq_zero_iff.1 hn2
      subst KY
      rw [ù,K4]
      have SR:S.fB []= []:=List.length_eq_zero_iff.1 ú
      rw [SR]
      refine(AnyF.slices_SortFunc_none {L with} none 0 (.func (.func g) #[] #[]) w).mono fun ex w' ⟨he,hw⟩=> ?_
      subst hw
      refine⟨_,he,A,β,{os:=rfl,tape:=rfl,output:=rfl,size:=Nat.le_refl _,same:=fun _ _ _=>rfl,mono:=fun b h=>⟨h,rfl⟩,old:=fun _ _ h=> .inl h,bound:=hA,res:=by simp only [ae];exact⟨#[],rfl,by simp [ai]⟩,kept:= ?_,rows:= ?_,apart:= ?_}⟩
      · intro i ab hi
        match i,hi with
        |0,hi=>
         simp only [List.getElem?_cons_zero,Option.some.injEq] at hi
         subst hi
         exact⟨⟨_,ho,pG,by simpa using iF⟩,rfl⟩
        |i+1,hi=>simp at hi
      · intro j ab hj;simp at hj
      · intro k k' b hk c6 _ _
        rcases hk with⟨i,ab,rfl,_,hi⟩|⟨j,_,hj⟩
        · rcases c6 with⟨i',AR,rfl,_,iE⟩|⟨j,_,hj⟩
          · match i,i',hi,iE with
            |0,0,_,_=>rfl
            |i+1,_,hi,_=>simp at hi
            |0,i+1,_,iE=>simp at iE
          · simp at hj
        · simp at hj
     · have ü:g0<w.heap.size:=(Array.getElem?_eq_some_iff.1 hg0).1
       simp only [List.length_cons,List.length_nil,Nat.zero_add,Nat.mul_one] at cz IU
       have aoX:∀j,j<l.length→cur[j]? =some (encS (l.toArray)[j]!):=fun j hj=>by
        have h1:(cur.toList.take l.length)[j]? =some (encS l[j]):=by rw [IU,List.getElem?_map,List.getElem?_eq_getElem hj];rfl
        rw [List.getElem?_take,if_pos hj,Array.getElem?_toList] at h1
        rw [h1];simp [hj]
       have hH:Holds encS w g0 0 l.toArray:=fun j hj=>by
        have dO:j<l.length:=by simpa using hj
        refine⟨?_,?_⟩
        · simp only [World.cell?,hg0]
          simpa using aoX j dO
        · simp only [World.frozen?,hg0]
          simp
       rw [ù,hv]
       have hc:=Any.slices_SortFunc_total L encS (fun _=>rfl) S.fA Sm g #[] g0 0 cap l.toArray w eg (fun m os dk _ x y=>(aoT x y _).mono fun ex w' ⟨he,hw⟩=>⟨he,0, #[],by rw [hw];rfl⟩) hH ü (by simp only [List.size_toArray];omega) KA
       have e1:(l.toArray.toList.mergeSort fun x y=> !(ltOf S.fA) y x)=S.fB l:=by
        unfold S.fB
        simp only [List.toList_toArray,tT]
       rw [e1] at hc
       refine hc.mono fun ex w' ⟨he,n,os,hw⟩=> ?_
       have hw0:(putRow encS (Go.Sort.ahead w n) g0 0 (S.fB l).toArray).heap[g0]? =some (.cells (putCells encS 0 (S.fB l).toArray cur) e (0,0)):=Ix encS (Go.Sort.ahead w n) g0 0 _ hg0
       have hg1:w'.heap[g0]? =some (.cells (putCells encS 0 (S.fB l).toArray cur) e (0,0)):=by
        rw [hw];unfold sortWorld grow
        simp only
        rw [Array.getElem?_append_left (by rw [size_putRow];exact ü)]
        exact hw0
       have vD:∀b,b<w.heap.size→b≠g0→w'.heap[b]? =w.heap[b]? :=fun b hb dp=>by
        rw [hw];unfold sortWorld grow
        simp only
        rw [Array.getElem?_append_left (by rw [size_putRow];exact hb),Al encS (Go.Sort.ahead w n) g0 0 b _ dp]
        rfl
       have mI:w.heap.size≤w'.heap.size:=by
        rw [hw];unfold sortWorld grow
        simp only [Array.size_append,size_putRow]
        exact Nat.le_add_right _ _
       have ġ:HM β 1 g0:=⟨0,by omega,by rw [show β (50000+0)=β 50000 from rfl,hv];rfl⟩
       have aoY:¬A g0:=iF g0 (by rw [hv];rfl)
       refine⟨_,he,A,β,{os:=by rw [hw];rfl,tape:=by rw [hw];rfl,output:=by rw [hw];rfl,size:=mI,same:= ?_,mono:= ?_,old:=fun _ _ h=> .inl h,bound:=fun b h=>Nat.lt_of_lt_of_le (hA b h) mI,res:=by simp only [ae];exact⟨#[],rfl,by simp [ai]⟩,kept:= ?_,rows:= ?_,apart:= ?_}⟩
       · intro b hb dp
         rw [alk] at dp
         exact vD b hb (fun h=>dp (h▸ġ))
       · intro b wc
         exact⟨wc,vD b (hA b wc) (fun h=>aoY (h▸wc))⟩
       · intro i ab hi
         match i,hi with
         |0,hi=>
          simp only [List.getElem?_cons_zero,Option.some.injEq] at hi
          subst hi
          refine⟨⟨(S.fB l).map encS,⟨by simp, .inr ⟨g0,cap,_,?_,Nat.zero_le _,hg1,by omega,û,by rw [Dh];simpa using cz,?_⟩⟩,y8 _ vO,by simpa using iF⟩,rfl⟩
          · rw [ú];exact hv
          · have :=Dg (S.fB l) cur (by omega)
            simpa using this
         |i+1,hi=>simp at hi
       · intro j ab hj;simp at hj
       · intro k k' b hk c6 _ _
         rcases hk with⟨i,ab,rfl,_,hi⟩|⟨j,_,hj⟩
         · rcases c6 with⟨i',AR,rfl,_,iE⟩|⟨j,_,hj⟩
           · match i,i',hi,iE with
             |0,0,_,_=>rfl
             |i+1,_,hi,_=>simp at hi
             |0,i+1,_,iE=>simp at iE
           · simp at hj
         · simp at hj
   · cases mM
 · cases mM
end Go.Vg

end
section
namespace Go.Proofs
open Go.Shelf
def Tryz.zX:Go.Shelf.Ren:=⟨fun|7=>133|10=>164|n=>n,fun|23=>183|26=>9|3=>77|28=>186|0=>0|27=>185|33=>196|4=>4|n=>n,fun|n=>n⟩
theorem Tryz.QH:Go.Proofs.SlLaysZ.n7 Tryz.prog Tryz.zX:= {
 mixed:=by kernel_rfl
 f7:=⟨Tryz.f133.name,by decide,Tryz.func133.trans (congrArg some (by kernel_rfl))⟩
 f10:=⟨Tryz.f164.name,by decide,Tryz.func164.trans (congrArg some (by kernel_rfl))⟩
 t0:=Tryz.underlying0
 a0:=Tryz.isAgg0
 z0:=Tryz.sizeOf0
 v0:=Tryz.zeroValue0
 t4:=Tryz.underlying4
 a4:=Tryz.isAgg4
 z4:=Tryz.sizeOf4
 v4:=Tryz.zeroValue4
 t23:=Tryz.underlying183
 a23:=Tryz.isAgg183
 z23:=Tryz.sizeOf183
 v23:=Tryz.zeroValue183
 t26:=Tryz.underlying9
 a26:=Tryz.isAgg9
 z26:=Tryz.sizeOf9
 v26:=Tryz.zeroValue9
 t27:=Tryz.underlying185
 a27:=Tryz.isAgg185
 z27:=Tryz.sizeOf185
 v27:=Tryz.zeroValue185
 t28:=Tryz.underlying186
 a28:=Tryz.isAgg186
 z28:=Tryz.sizeOf186
 v28:=Tryz.zeroValue186
 t33:=Tryz.underlying196
 a33:=Tryz.isAgg196
 z33:=Tryz.sizeOf196
 v33:=Tryz.zeroValue196}
def Tryz.vB:Go.Shelf.Ren:=⟨fun|6=>132|8=>162|9=>163|11=>187|13=>189|12=>188|23=>208|24=>209|14=>199|15=>200|16=>201|17=>202|18=>203|19=>204|20=>205|21=>206|22=>207|25=>221|26=>222|27=>223|28=>224|29=>225|30=>186|31=>229|n=>n,fun|26=>9|28=>186|24=>89|0=>0|3=>3|37=>172|48=>154|50=>190|4=>4|40=>238|39=>237|45=>128|5=>5|9=>9|51=>254|55=>258|57=>262|58=>230|33=>196|n=>n,fun|n=>n⟩
theorem Tryz.Sn:Go.Proofs.SlLaysZ.n6 Tryz.prog Tryz.vB:= {
 mixed:=by kernel_rfl
 f6:=⟨Tryz.f132.name,by decide,Tryz.func132.trans (congrArg some (by kernel_rfl))⟩
 f8:=⟨Tryz.f162.name,by decide,Tryz.func162.trans (congrArg some (by kernel_rfl))⟩
 f11:=⟨Tryz.f187.name,by decide,Tryz.func187.trans (congrArg some (by kernel_rfl))⟩
 t0:=Tryz.underlying0
 a0:=Tryz.isAgg0
 z0:=Tryz.sizeOf0
 v0:=Tryz.zeroValue0
 t24:=Tryz.underlying89
 a24:=Tryz.isAgg89
 z24:=Tryz.sizeOf89
 v24:=Tryz.zeroValue89
 t26:=Tryz.underlying9
 a26:=Tryz.isAgg9
 z26:=Tryz.sizeOf9
 v26:=Tryz.zeroValue9
 t28:=Tryz.underlying186
 a28:=Tryz.isAgg186
 z28:=Tryz.sizeOf186
 v28:=Tryz.zeroValue186
 i26:=by kernel_rfl}
def Tryz.KB:Go.Shelf.Ren:=⟨fun|6=>163|8=>189|9=>188|19=>208|20=>209|21=>199|22=>200|23=>201|24=>202|25=>203|26=>204|27=>205|28=>206|29=>207|36=>221|31=>222|32=>223|37=>224|38=>225|39=>186|41=>229|n=>n,fun|27=>89|29=>9|3=>3|32=>172|26=>89|0=>0|44=>154|46=>190|4=>4|36=>238|35=>237|41=>128|5=>5|9=>9|53=>254|57=>258|63=>262|64=>230|n=>n,fun|n=>n⟩
theorem Tryz.QI:Go.Proofs.SlLaysM.n6 Tryz.prog Tryz.KB:= {
 mixed:=by kernel_rfl
 f6:=⟨Tryz.f163.name,by decide,Tryz.func163.trans (congrArg some (by kernel_rfl))⟩
 f8:=Tryz.func189.trans (congrArg some (by kernel_rfl))
 f9:=⟨Tryz.f188.name,by decide,Tryz.func188.trans (congrArg some (by kernel_rfl))⟩
 f19:=Tryz.func208.trans (congrArg some (by kernel_rfl))
 f20:=Tryz.func209.trans (congrArg some (by kernel_rfl))
 f21:=⟨Tryz.f199.name,by decide,Tryz.func199.trans (congrArg some (by kernel_rfl))⟩
 f22:=⟨Tryz.f200.name,by decide,Tryz.func200.trans (congrArg some (by kernel_rfl))⟩
 f23:=⟨Tryz.f201.name,by decide,Tryz.func201.trans (congrArg some (by kernel_rfl))⟩
 f24:=⟨Tryz.f202.name,by decide,Tryz.func202.trans (congrArg some (by kernel_rfl))⟩
 f25:=⟨Tryz.f203.name,by decide,Tryz.func203.trans (congrArg some (by kernel_rfl))⟩
 f26:=⟨Tryz.f204.name,by decide,Tryz.func204.trans (congrArg some (by kernel_rfl))⟩
 f27:=⟨Tryz.f205.name,by decide,Tryz.func205.trans (congrArg some (by kernel_rfl))⟩
 f28:=⟨Tryz.f206.name,by decide,Tryz.func206.trans (congrArg some (by kernel_rfl))⟩
 f29:=⟨Tryz.f207.name,by decide,Tryz.func207.trans (congrArg some (by kernel_rfl))⟩
 f31:=Tryz.func222.trans (congrArg some (by kernel_rfl))
 f32:=Tryz.func223.trans (congrArg some (by kernel_rfl))
 f36:=⟨Tryz.f221.name,by decide,Tryz.func221.trans (congrArg some (by kernel_rfl))⟩
 f37:=⟨Tryz.f224.name,by decide,Tryz.func224.trans (congrArg some (by kernel_rfl))⟩
 f38:=⟨Tryz.f225.name,by decide,Tryz.func225.trans (congrArg some (by kernel_rfl))⟩
 f39:=⟨Tryz.f186.name,by decide,Tryz.func186.trans (congrArg some (by kernel_rfl))⟩
 f41:=⟨Tryz.f229.name,by decide,Tryz.func229.trans (congrArg some (by kernel_rfl))⟩
 t0:=Tryz.underlying0
 a0:=Tryz.isAgg0
 z0:=Tryz.sizeOf0
 v0:=Tryz.zeroValue0
 t3:=Tryz.underlying3
 a3:=Tryz.isAgg3
 z3:=Tryz.sizeOf3
 v3:=Tryz.zeroValue3
 t4:=Tryz.underlying4
 a4:=Tryz.isAgg4
 z4:=Tryz.sizeOf4
 v4:=Tryz.zeroValue4
 t5:=Tryz.underlying5
 a5:=Tryz.isAgg5
 z5:=Tryz.sizeOf5
 v5:=Tryz.zeroValue5
 t9:=Tryz.underlying9
 a9:=Tryz.isAgg9
 z9:=Tryz.sizeOf9
 v9:=Tryz.zeroValue9
 t26:=Tryz.underlying89
 a26:=Tryz.isAgg89
 z26:=Tryz.sizeOf89
 v26:=Tryz.zeroValue89
 t27:=Tryz.underlying89
 a27:=Tryz.isAgg89
 z27:=Tryz.sizeOf89
 v27:=Tryz.zeroValue89
 t29:=Tryz.underlying9
 a29:=Tryz.isAgg9
 z29:=Tryz.sizeOf9
 v29:=Tryz.zeroValue9
 t32:=Tryz.underlying172
 a32:=Tryz.isAgg172
 z32:=Tryz.sizeOf172
 v32:=Tryz.zeroValue172
 t35:=Tryz.underlying237
 a35:=Tryz.isAgg237
 z35:=Tryz.sizeOf237
 v35:=Tryz.zeroValue237
 t36:=Tryz.underlying238
 a36:=Tryz.isAgg238
 z36:=Tryz.sizeOf238
 v36:=Tryz.zeroValue238
 t41:=Tryz.underlying128
 a41:=Tryz.isAgg128
 z41:=Tryz.sizeOf128
 v41:=Tryz.zeroValue128
 t44:=Tryz.underlying154
 a44:=Tryz.isAgg154
 z44:=Tryz.sizeOf154
 v44:=Tryz.zeroValue154
 t46:=Tryz.underlying190
 a46:=Tryz.isAgg190
 z46:=Tryz.sizeOf190
 v46:=Tryz.zeroValue190
 t53:=Tryz.underlying254
 a53:=Tryz.isAgg254
 z53:=Tryz.sizeOf254
 v53:=Tryz.zeroValue254
 t57:=Tryz.underlying258
 a57:=Tryz.isAgg258
 z57:=Tryz.sizeOf258
 v57:=Tryz.zeroValue258
 t63:=Tryz.underlying262
 a63:=Tryz.isAgg262
 z63:=Tryz.sizeOf262
 v63:=Tryz.zeroValue262
 t64:=Tryz.underlying230
 a64:=Tryz.isAgg230
 z64:=Tryz.sizeOf230
 v64:=Tryz.zeroValue230}
def Tryz.Di:Go.Shelf.Ren:=⟨fun|42=>178|n=>n,fun|25=>89|26=>9|4=>4|n=>n,fun|n=>n⟩
theorem Tryz.MD:Go.Proofs.SlLaysN.n42 Tryz.prog Tryz.Di:= {
 mixed:=by kernel_rfl
 f42:=⟨Tryz.f178.name,by decide,Tryz.func178.trans (congrArg some (by kernel_rfl))⟩
 t4:=Tryz.underlying4
 a4:=Tryz.isAgg4
 z4:=Tryz.sizeOf4
 v4:=Tryz.zeroValue4
 t25:=Tryz.underlying89
 a25:=Tryz.isAgg89
 z25:=Tryz.sizeOf89
 v25:=Tryz.zeroValue89
 t26:=Tryz.underlying9
 a26:=Tryz.isAgg9
 z26:=Tryz.sizeOf9
 v26:=Tryz.zeroValue9
 i26:=by kernel_rfl}
def Tryz.MF:Go.Shelf.Ren:=⟨fun|6=>179|15=>189|14=>195|28=>208|29=>209|20=>210|21=>211|22=>212|23=>213|24=>214|25=>215|26=>216|27=>217|46=>226|47=>222|48=>223|49=>227|50=>228|57=>230|n=>n,fun|22=>89|24=>9|25=>209|3=>3|39=>172|0=>0|53=>154|55=>190|4=>4|46=>238|45=>237|50=>128|5=>5|9=>9|66=>254|70=>258|76=>262|77=>230|n=>n,fun|n=>n⟩
theorem Tryz.aln:Go.Proofs.SlLaysF.n6 Tryz.prog Tryz.MF:= {
 mixed:=by kernel_rfl
 f6:=⟨Tryz.f179.name,by decide,Tryz.func179.trans (congrArg some (by kernel_rfl))⟩
 f14:=⟨Tryz.f195.name,by decide,Tryz.func195.trans (congrArg some (by kernel_rfl))⟩
 f15:=Tryz.func189.trans (congrArg some (by kernel_rfl))
 f20:=⟨Tryz.f210.name,by decide,Tryz.func210.trans (congrArg some (by kernel_rfl))⟩
 f21:=⟨Tryz.f211.name,by decide,Tryz.func211.trans (congrArg some (by kernel_rfl))⟩
 f22:=⟨Tryz.f212.name,by decide,Tryz.func212.trans (congrArg some (by kernel_rfl))⟩
 f23:=⟨Tryz.f213.name,by decide,Tryz.func213.trans (congrArg some (by kernel_rfl))⟩
 f24:=⟨Tryz.f214.name,by decide,Tryz.func214.trans (congrArg some (by kernel_rfl))⟩
 f25:=⟨Tryz.f215.name,by decide,Tryz.func215.trans (congrArg some (by kernel_rfl))⟩
 f26:=⟨Tryz.f216.name,by decide,Tryz.func216.trans (congrArg some (by kernel_rfl))⟩
 f27:=⟨Tryz.f217.name,by decide,Tryz.func217.trans (congrArg some (by kernel_rfl))⟩
 f28:=Tryz.func208.trans (congrArg some (by kernel_rfl))
 f29:=Tryz.func209.trans (congrArg some (by kernel_rfl))
 f46:=⟨Tryz.f226.name,by decide,Tryz.func226.trans (congrArg some (by kernel_rfl))⟩
 f47:=Tryz.func222.trans (congrArg some (by kernel_rfl))
 f48:=Tryz.func223.trans (congrArg some (by kernel_rfl))
 f49:=⟨Tryz.f227.name,by decide,Tryz.func227.trans (congrArg some (by kernel_rfl))⟩
 f50:=⟨Tryz.f228.name,by decide,Tryz.func228.trans (congrArg some (by kernel_rfl))⟩
 f57:=⟨Tryz.f230.name,by decide,Tryz.func230.trans (congrArg some (by kernel_rfl))⟩
 t0:=Tryz.underlying0
 a0:=Tryz.isAgg0
 z0:=Tryz.sizeOf0
 v0:=Tryz.zeroValue0
 t3:=Tryz.underlying3
 a3:=Tryz.isAgg3
 z3:=Tryz.sizeOf3
 v3:=Tryz.zeroValue3
 t4:=Tryz.underlying4
 a4:=Tryz.isAgg4
 z4:=Tryz.sizeOf4
 v4:=Tryz.zeroValue4
 t5:=Tryz.underlying5
 a5:=Tryz.isAgg5
 z5:=Tryz.sizeOf5
 v5:=Tryz.zeroValue5
 t9:=Tryz.underlying9
 a9:=Tryz.isAgg9
 z9:=Tryz.sizeOf9
 v9:=Tryz.zeroValue9
 t22:=Tryz.underlying89
 a22:=Tryz.isAgg89
 z22:=Tryz.sizeOf89
 v22:=Tryz.zeroValue89
 a24:=Tryz.isAgg9
 z24:=Tryz.sizeOf9
 t25:=Tryz.underlying209
 a25:=Tryz.isAgg209
 z25:=Tryz.sizeOf209
 v25:=Tryz.zeroValue209
 t39:=Tryz.underlying172
 a39:=Tryz.isAgg172
 z39:=Tryz.sizeOf172
 v39:=Tryz.zeroValue172
 t45:=Tryz.underlying237
 a45:=Tryz.isAgg237
 z45:=Tryz.sizeOf237
 v45:=Tryz.zeroValue237
 t46:=Tryz.underlying238
 a46:=Tryz.isAgg238
 z46:=Tryz.sizeOf238
 v46:=Tryz.zeroValue238
 t50:=Tryz.underlying128
 a50:=Tryz.isAgg128
 z50:=Tryz.sizeOf128
 v50:=Tryz.zeroValue128
 t53:=Tryz.underlying154
 a53:=Tryz.isAgg154
 z53:=Tryz.sizeOf154
 v53:=Tryz.zeroValue154
 t55:=Tryz.underlying190
 a55:=Tryz.isAgg190
 z55:=Tryz.sizeOf190
 v55:=Tryz.zeroValue190
 t66:=Tryz.underlying254
 a66:=Tryz.isAgg254
 z66:=Tryz.sizeOf254
 v66:=Tryz.zeroValue254
 t70:=Tryz.underlying258
 a70:=Tryz.isAgg258
 z70:=Tryz.sizeOf258
 v70:=Tryz.zeroValue258
 t76:=Tryz.underlying262
 a76:=Tryz.isAgg262
 z76:=Tryz.sizeOf262
 v76:=Tryz.zeroValue262
 t77:=Tryz.underlying230
 a77:=Tryz.isAgg230
 z77:=Tryz.sizeOf230
 v77:=Tryz.zeroValue230}
end Go.Proofs

end
section
namespace Go.Proofs
open Go.RowKit Go.Maps Go.Sort Go.Shelf
theorem Tryz.ý(m:Nat):AnyZ.SortsIn Tryz.prog Tryz.vB Fence.wide m:=
 ⟨fun nk off cap ss W hH hblk cz=>callsIn_wide.2 (AnyM.slices_Sort_string Tryz.QI nk off cap ss W hH hblk cz),
  fun p cap W=>callsIn_wide.2 (AnyM.slices_Sort_string_none Tryz.QI p cap W)⟩
theorem Tryz.ED(mb:Option Nat)(W:World):CallsIn Fence.wide 5 Tryz.prog 133 #[.map mb] W fun e w'=>e= .returned (.func (.func 164) #[] #[.pointer (some ⟨W.heap.size,0,none⟩)])∧w'=W.alloc (.cells #[.map mb] 183):=
 AnyZ.keys_in Tryz.QH Fence.wide 5 trivial rfl mb W
set_option maxHeartbeats 1000000 in
theorem Tryz.oL {H:Type}(b nn:Nat)(D0:DataW H)(R:Value→Option (DataW H×List MemPlace))(w:World)(fj:w.ownsMap Tryz.prog 9 R b nn D0)(IN:Maps.size D0≤maxLen)(tZ:Maps.size D0*16≤140737488355328):
  CallsIn Fence.wide 5 Tryz.prog 132 #[.func (.func 164) #[] #[.pointer (some ⟨w.heap.size,0,none⟩)]] (w.alloc (.cells #[.map (some b)] 183)) fun e w'=>∃(v:Value) (ss:List (List UInt8)),e= .returned v∧ss.Perm (strKeys D0)∧
   w'.ownsRow (w.alloc (.cells #[.map (some b)] 183)).heap.size 9 1 v ss.length ((ss.mergeSort (fun x y=>decide (x≤y))).map encStr)∧(v= .slice none 0 0↔ss= [])∧Below (w.alloc (.cells #[.map (some b)] 183)).heap.size (w.alloc (.cells #[.map (some b)] 183)) w':=by
 have tp:=fj.lt
 have aoZ:SeqGives Fence.wide 2 Tryz.prog 164 #[.pointer (some ⟨w.heap.size,0,none⟩)] encStr (fun ss=>ss.Perm (strKeys D0)) (Maps.size D0) (w.alloc (.cells #[.map (some b)] 183)):=
  AnyZ.keys_gives (ρ:=Tryz.zX) {Tryz.QH with} Fence.wide _ trivial rfl (by omega) w.heap.size b nn D0 _ (by simp) (by simp) (by
   obtain⟨es,clock,hb,Ft,hs,hD⟩:=fj
   exact⟨es,clock,(Below.heap_alloc _ _ b tp).trans hb,Ft,hs,hD⟩)
 exact AnyZ.sorted_in Tryz.Sn Fence.wide 5 trivial trivial trivial trivial rfl (by omega) (Tryz.ý _) (enters_of Tryz.func163 (by kernel_rfl) rfl) 164 #[.pointer (some ⟨w.heap.size,0,none⟩)] trivial (enters_of Tryz.func164 (by kernel_rfl) rfl) _ _ IN tZ _ aoZ
end Go.Proofs

end
section
namespace Go.Proofs
open Go.Shelf Go.RowKit Go.Lib Go.Sort
theorem acI {x y:List UInt8}(h:Op.bytesLess x y=true):S.fA x y= -1:=by unfold S.fA;rw [if_pos h]
theorem acJ {x y:List UInt8}(h:Op.bytesLess x y=false)(h2:(!x==y)=true):S.fA x y=1:=by
 have dp:x≠y:=by simpa using h2
 unfold S.fA
 rw [h]
 rcases S.fX x y with t|t|t
 · rw [t] at h;cases h
 · exact absurd t dp
 · rw [t];rfl
theorem acK {x y:List UInt8}(h:Op.bytesLess x y=false)(h2:(!x==y)=false):S.fA x y=0:=by
 have he:x=y:=by simpa using h2
 subst he
 unfold S.fA
 rw [h];rfl
theorem Tryz.MG(x:ByteArray)(w:World):Calls Tryz.prog 186 #[.string x] w fun e w'=>e= .returned (.bool false)∧w'=w:=by
 go_enter Tryz.func186,Tryz.ntmps186
 go_wp2
 go_ret
 exact⟨by simp,rfl⟩
set_option maxHeartbeats 1000000 in
theorem Tryz.Iy(x y:List UInt8)(w:World):Calls Tryz.prog 161 #[Vg.encS x,Vg.encS y] w fun e w'=>e= .returned (.int .i64 (S.fA x y))∧w'=w:=by
 unfold Vg.encS
 go_enter Tryz.func161,Tryz.ntmps161
 go_wp2_with (go_at_call 186;refine(Tryz.MG _ _).mono ?_;rintro e w' ⟨rfl,rfl⟩)
 all_goals go_ret
 all_goals refine⟨?_,rfl⟩
 all_goals first
  |(rw [acI (by assumption)];rfl)
  |(rw [acJ (by assumption) (by assumption)];rfl)
  |(rw [acK (by assumption) (by assumption)];rfl)
theorem Tryz.acM {G:Nat→Option Vg.GD} {F:Vg.Row (Vg.TA.eI [.own 50000, .fn (.func 161) [] []])→Vg.fJ [.row 9 [.str]]→Vg.fe}
  (hF:∀l:List (List UInt8),F () (l,())= {pre:=l.length≤1099511627776,res:= .dc [],heap:= [some (.row 9 [.str] (S.fB l) false)],new:= []}):
  Vg.ca Tryz.prog G 179 (Vg.gp [.own 50000, .fn (.func 161) [] []] [.row 9 [.str]] F):=
 Vg.Am Tryz.aln (enters_of Tryz.func161 (by kernel_rfl) rfl) Tryz.Iy hF
end Go.Proofs

end
section
namespace Go.DM
open Go Go.Vg Go.Maps Go.RowKit Go.ChangeShapes
section
variable {H:Type}
def items:DataW H→List Int
 | .slice ls _=>ls.filterMap fun d=>match d with| .lit (.int _ z)=>some z|_=>none
 |_=> []
theorem KC(zs:List Int):items (H:=H) (.slice (lits .i64 zs) [])=zs:=by
 induction zs with
 |nil=>rfl
 |cons z zs ih=>
  simp only [items,lits,List.map_cons,List.filterMap_cons] at ih ⊢
  rw [ih]
theorem wA {w:World} {base:Nat} {e:TypeId} {v:Value} {zs:List Int}(h:w.ownsInts base e .i64 v zs):items (H:=H) (rowDatum .i64 v zs)=zs:=by
 rcases h.datum (H:=H) with⟨h1,h2⟩|h1
 · rw [h1,h2];rfl
 · rw [h1];exact KC zs
def Repr(D:DataW H)(m:List UInt8→List Int):Prop :=IsMap D∧∀s,items (D.atKey (.string s) .nil)=m s∧(has D (.string s)=true↔m s≠ [])
theorem Repr.empty:Repr (H:=H) (.map []) (fun _=> []):=⟨isMap_empty,fun s=>⟨rfl,by simp [has]⟩⟩
theorem Repr.ext {D:DataW H} {m m':List UInt8→List Int}(h:Repr D m)(e:∀s,m s=m' s):Repr D m':=by
 rw [←funext e];exact h
theorem Repr.put {D:DataW H} {m m':List UInt8→List Int}(h:Repr D m) {t:List UInt8} {w:World} {base:Nat} {e:TypeId} {v:Value} {zs:List Int}(ho:w.ownsInts base e .i64 v zs)(hz:zs≠ [])
  (h1:m' t=zs) (h2:∀s,s≠t→m' s=m s):Repr (D.put (.string t) (rowDatum .i64 v zs)) m':=by
 refine⟨h.1.put _ _,fun s=> ?_⟩
 by_cases hs:s=t
 · subst hs
   refine⟨?_,?_⟩
   · rw [atKey_put_same h.1 (by trivial),wA ho,h1]
   · rw [has_put_same h.1 (by trivial),h1];simp [hz]
 · have dp:Lit.string s≠Lit.string t:=fun hh=>hs (by injection hh)
   rw [atKey_put_other dp,has_put_other dp,h2 s hs]
   exact h.2 s
theorem þ {w:World} {Q:Nat→Prop} {base:Nat} {e:TypeId} {v:Value} {zs:List Int}(h:w.ownsInts base e .i64 v zs)(hq:∀g,v.ownBlock=some g→Q g):Rd w Q (.slice [.int .i64]) v zs:=by
 obtain⟨ho,hw⟩:=h
 have hz:∀z∈zs,lo .i64≤z∧z≤hi .i64:=fun z hz=>by
  have :=hw z hz
  simp [Lit.wf,IntKind.min,IntKind.max,IntKind.signed,IntKind.bits] at this
  simp only [lo,hi];omega
 simp only [Rd]
 rcases ho.2 with⟨rfl,h0⟩|⟨g,cap,cur,rfl,hg,hh,hn,hc,cz,IU⟩
 · have :zs= []:=List.length_eq_zero_iff.1 h0
   subst this
   exact⟨none,0,[],rfl,Nat.le_refl _,Nat.zero_le _,rfl,fun h=>absurd rfl h⟩
 · refine⟨some ⟨g,0,none⟩,cap,zs.map (Value.int .i64),rfl,hn,hc,y9 zs hz,fun _=>⟨g,0,rfl,hq g rfl,fun j v hj=> ?_⟩⟩
   have :=ho.cells (g:=g) rfl j v hj
   rwa [Addr.add_mid] at this
end
end Go.DM
namespace Go.DM
open Go Go.Vg Go.Maps Go.RowKit Go.ChangeShapes
section
variable {H:Type} {P:Program}
theorem yc(w:World)(c:Array Value)(e:TypeId)(o:Obj)(j:Nat):((w.alloc (.cells c e)).alloc o).cell? ⟨w.heap.size,j,none⟩=c[j]? :=by
 have h1:((w.alloc (.cells c e)).alloc o).heap[w.heap.size]? =some (.cells c e (0,0)):=by
  rw [((World.grownBy_alloc (w.alloc (.cells c e)) o none).block w.heap.size (by simp) (by simp))]
  exact(MapKept.heap_alloc w _).1
 simp [World.cell?,h1]
theorem zc {w:World} {base:Nat} {e:TypeId} {size:Nat} {v:Value} {n:Nat} {xs:List Value}(h:w.ownsRow base e size v n xs):∃av cp,v= .slice av n cp∧(0<n→∃g,av=some ⟨g,0,none⟩∧base≤g∧g<w.heap.size):=by
 have hl:=h.lt
 rcases h.2 with⟨rfl,h0⟩|⟨g,cap,cur,rfl,hg,_⟩
 · exact⟨none,0,by rw [h0],fun h=>by omega⟩
 · exact⟨_,cap,rfl,fun _=>⟨g,rfl,hl g rfl⟩⟩
theorem rT {w w':World}(h:Below w.heap.size w w'):w.grownBy w' none:=⟨h.os,h.tape,h.output,h.size,fun i hi _=>h.block i hi⟩
theorem pW {w w':World} {k:TypeId} {base:Nat} {e:TypeId} {q:IntKind} {b n:Nat} {D:DataW H}(h:w.ownsGroups P k base e q b n D)(hb:Below w.heap.size w w'):w'.ownsGroups P k base e q b n D:=
 h.kept (rT hb) (by simp) (fun es clock _ x _=>by cases x.val.ownBlock<;>simp)
theorem MH {w:World} {k:TypeId} {base:Nat} {e:TypeId} {q:IntKind} {b n:Nat} {D:DataW H}(h:w.ownsGroups P k base e q b n D):b<w.heap.size:=by
 obtain⟨es,clock,hb,_⟩:=h
 exact(Array.getElem?_eq_some_iff.1 hb).1
theorem Dk {w w':World} {k:TypeId} {base:Nat} {e:TypeId} {q:IntKind} {b n:Nat} {D:DataW H}(h:w.ownsGroups P k base e q b n D)(hb:Below w.heap.size w w') {No:Nat→Prop}(hn:∀g,No g→w.heap.size≤g):w'.Shuns b No:=by
 have h1:w.Shuns b (fun _=>False):=fun _ _ _ _ _ _ _ hf=>hf
 exact(h1.reno (No':=No) h (fun g hg=> .inr (hn g hg))).kept (rT hb) (MH h) (by simp)
theorem FH {w:World} {base:Nat} {e:TypeId} {g cp:Nat} {n:Nat} {l:List (List UInt8)}(h:w.ownsRow base e 1 (.slice (some ⟨g,0,none⟩) n cp) n (l.map encS)) {j:Nat}(hj:j<l.length):w.cell? ⟨g,0+j,none⟩=some (encS (l.getD j [])):=by
 have :=h.cells (g:=g) rfl j (encS (l.getD j [])) (by rw [List.getElem?_map,List.getElem?_eq_getElem hj,List.getD_eq_getElem?_getD,List.getElem?_eq_getElem hj];rfl)
 rwa [Addr.add_mid] at this
end
end Go.DM
namespace Go.DM
open Go Go.Vg Go.Maps Go.RowKit Go.ChangeShapes
section
variable {H:Type} {P:Program}
theorem KD {w w':World} {row:Option Nat}(h:w.grownBy w' row) {a:Addr} {v:Value}(hl:a.block<w.heap.size)(hn:some a.block≠row)(hc:w.cell? a=some v):w'.cell? a=some v:=
 (World.cell?_of_block (h.block _ hl hn)).trans hc
theorem KE {k:TypeId}(hk:P.underlying k=some .string) {s:List UInt8}(h:s.length≤maxLen):keyOf P k (.string ⟨s.toArray⟩)=some (.string s):=by
 have :=Go.WideMaps.keyOf_string_mk (P:=P) (k:=k) (s:=⟨s.toArray⟩) hk (by simpa [ByteArray.size] using h)
 simpa using this
theorem acN {wr:World} {b g:Nat} {v v':Value} {o:Obj} {n cp:Nat}(Eg:∀No:Nat→Prop,wr.Shuns b No→∀g,v.ownBlock=some g→¬No g)(hs:wr.Shuns b (fun g'=>(Value.slice (some ⟨g,0,none⟩) n cp).ownBlock=some g'))
  (sO:v'.ownBlock=v.ownBlock∨v'.ownBlock=some (wr.alloc o).heap.size) (hg:g<wr.heap.size):∀g',v'.ownBlock=some g'→¬((Value.slice (some ⟨g,0,none⟩) n cp).ownBlock=some g'):=fun g' uG hh=>by
 rcases sO with h|h
 · rw [h] at uG
   exact Eg _ hs g' uG hh
 · rw [h] at uG
   simp only [Value.ownBlock,Option.some.injEq] at uG hh
   simp at uG
   omega
end
end Go.DM
namespace Go.DM
open Go Go.Vg Go.Maps Go.RowKit Go.ChangeShapes
section
variable {H:Type} {P:Program}
theorem Dl {w:World} {k:TypeId} {base:Nat} {e:TypeId} {q:IntKind} {b n:Nat} {D:DataW H}(h:w.ownsGroups P k base e q b n D):w.ownsMap P k (rowElem w base e q) b n D:=by
 obtain⟨es,clock,hb,F,hs,hD,_⟩:=h
 exact⟨es,clock,hb,F,hs,hD⟩
theorem zd {w:World} {k:TypeId} {R:Value→Option (DataW H×List MemPlace)} {b n:Nat} {D:DataW H}(h:w.ownsMap P k R b n D):Maps.size D≤n:=by
 obtain⟨es,clock,hb,F,hs,rfl⟩:=h
 rw [size_eq,length_sorted]
 simpa using hs
theorem MI(docs:List (List UInt8))(a b:Int)(x:List UInt8):x∈S.bP docs a b↔S.rA docs a (b-a).toNat 0 x≠ []:=by
 unfold S.bP
 rw [S.fk,S.wu]
 simp [S.rA]
theorem Sq {w:World} {R:Value→Option (DataW H×List MemPlace)} {k:TypeId} {b n:Nat} {D:DataW H}(h:w.ownsMap P k R b n D)(K:Keyed P k)(hk:P.underlying k=some .string) {docs:List (List UInt8)} {f t:Int}
  (hr:Repr D (S.rA docs f (t-f).toNat 0)) {ss:List (List UInt8)} (hs:ss.Perm (strKeys D)):ss.mergeSort (fun x y=>decide (x≤y))=S.bP docs f t∧ss.length=(S.bP docs f t).length∧(∀s∈S.bP docs f t,s.length≤maxLen)∧(S.bP docs f t).length≤n:=by
 obtain⟨es,hD,hpw,_⟩:=h.entries K
 obtain⟨es',hD',hko⟩:=h.keysOf
 have hle:=strKeys_le h hk
 have cz:=zd h
 obtain rfl :es=es':=by rw [hD] at hD';simpa using hD'
 subst hD
 have hi:S.lp (S.bP docs f t):=S.jt _
 have la:=perm_strKeys hpw (fun p hp=>by obtain⟨v,hv⟩:=hko p hp;obtain⟨x,_,hx,_⟩:=Maps.keyOf_str hk hv;exact⟨x,hx⟩) (S.tA hi) (fun x=>by rw [MI,(hr.2 x).2])
 have EB:=hs.trans la.symm
 have hlen:(S.bP docs f t).length≤n:=by
  rw [la.length_eq]
  simpa [strKeys,size_eq] using cz
 refine⟨?_,EB.length_eq,fun s gg=>hle s (la.subset gg),hlen⟩
 have e1:ss.mergeSort leB=(S.bP docs f t).mergeSort leB:=mergeSort_of_perm EB
 have e2:(S.bP docs f t).mergeSort leB=S.bP docs f t:=by
  refine List.mergeSort_of_pairwise (hi.imp fun {a b} eV=> ?_)
  rw [Go.Proofs.bytesLess_eq] at eV
  simp only [leB,decide_eq_true_eq] at eV ⊢
  exact List.le_of_lt eV
 exact e1.trans e2
end
end Go.DM
namespace Go.DM
open Go Go.Vg Go.Maps Go.RowKit Go.ChangeShapes
section
variable {H:Type} {P:Program}
theorem Bq {w:World} {base:Nat} {e:TypeId} {q:IntKind} {v:Value} {zs:List Int}(h:w.ownsInts base e q v zs):v.oneCell'=true :=by
 rcases h.1.2 with⟨rfl,_⟩|⟨g,cap,cur,rfl,_⟩<;>rfl
theorem Sr {w:World} {Q:Nat→Prop} {s:List UInt8} {v:Value} {zs:List Int}(hs:s.length≤maxLen)(hv:Rd w Q (.slice [.int .i64]) v zs):bg w Q [.str, .slice [.int .i64]] [.string ⟨s.toArray⟩,v] (s,zs):=by
 simp only [bg]
 refine⟨_,[v],rfl,?_,v,[],rfl,hv,rfl⟩
 simp only [Rd]
 exact⟨rfl,hs⟩
theorem FI {α:Type} {R:List Value→α→Prop}:∀(l:List α) (cs:List Value) (c:List Value) (x:α),bW R cs l→R c x→bW R (cs++c) (l++ [x])
 | [],cs,c,x,h,hx=>by
   simp only [bW] at h
   subst h
   exact⟨c,[],by simp,hx,rfl⟩
 |y::l,cs,c,x,⟨c1,c2,hc,h1,h2⟩,hx=>by
  subst hc
  exact⟨c1,c2++c,by simp,h1,FI l c2 c x h2 hx⟩
theorem ÿ {w w':World} {base:Nat} {e:TypeId} {v:Value} {zs:List Int} {Q:Nat→Prop}(h:w'.ownsInts base e .i64 v zs)(hb:Below w.heap.size w w')(hl:∀g,v.ownBlock=some g→g<w.heap.size)(hq:∀g,base≤g→g<w.heap.size→Q g):Rd w Q (.slice [.int .i64]) v zs:=by
 have h':w.ownsInts base e .i64 v zs:=by
  refine⟨⟨h.1.1,?_⟩,h.2⟩
  rcases h.1.2 with hn|⟨g,cap,cur,rfl,hg,hh,rest⟩
  · exact .inl hn
  · exact .inr ⟨g,cap,cur,rfl,hg,(hb.block g (hl g rfl)).symm.trans hh,rest⟩
 exact þ h' (fun g hg=>hq g (h'.1.lt g hg).1 (hl g hg))
theorem Iz(w:World)(a b:Value)(t:TypeId):∀j u,[a,b][j]? =some u→(w.alloc (.cells #[a,b] t)).cell? ((⟨w.heap.size,0,none⟩:Addr).add j)=some u:=by
 intro j u hj
 rw [Addr.add_mid,Nat.zero_add]
 have h1:(w.alloc (.cells #[a,b] t)).heap[w.heap.size]? =some (.cells #[a,b] t (0,0)):=(MapKept.heap_alloc w _).1
 simp only [World.cell?,h1]
 simpa using hj
end
end Go.DM

end
