import Derived.Test.YtcmmooohmnjklaaGreatDoorPartD
import Derived.Shelf.SlicesG.Clone
import Derived.Shelf.SlSortCmp.NoneTotal
import Derived.Shelf.SlIter.Nil
import Derived.Shelf.SortM.Plain
import Derived.Shelf.SortM.SortNone
import Derived.Test.YtcmmooohmnjklaaGreatDoorProg
import Derived.Lib.Small
import Derived.Lib.Walk
import Derived.Sort.Walk0
import Derived.Laws.Cover1
import Derived.Maps.GroupsBeside
import Derived.Sort.KeysCollected
import Derived.WalkKit
set_option linter.unusedVariables false
set_option linter.unusedSimpArgs false
section
set_option linter.unusedVariables false
namespace Go
theorem df {p:Prop} [Decidable p]:decide p=false↔¬p:=decide_eq_false_iff_not
theorem dt {p:Prop} [Decidable p]:(decide p=true)=p:=decide_eq_true_eq
theorem lc {α:Type} {a:α} {l:List α}:(a::l).length=l.length+1:=List.length_cons
theorem ln {α:Type}:([]:List α).length=0:=List.length_nil
theorem tn(n:Nat):(n:Int).toNat=n:=Int.toNat_natCast n
theorem nf {b:Bool}:((!b)=false)=(b=true):=Bool.not_eq_false' b
theorem nt {b:Bool}:((!b)=true)=(b=false):=Bool.not_eq_true' b
theorem aoq(hp:True)(hf:Vg.Row.ok (Vg.PS.flat []) ()):aev:=by
 unfold aev
 clear hf
 rfl
theorem aor(x:Int)(n:Int)(hp:S.c7 n)(hf:Vg.Row.ok (Vg.PS.flat [.one (.int .u32), .one (.int .i64)]) (x,n)):aew x n:=by
 delta aew aC z0
 have aos:0≤x∧x≤4294967295:=hf.1
 have WK: -9223372036854775808≤n∧n≤9223372036854775807:=hf.2.1
 clear hf
 with_reducible aa
 iterate 6 (simp only [S.c7] at hp;omega)
 rfl
theorem aot(b:List UInt8)(hp:b.length=64)(hf:Vg.Row.ok (Vg.PS.flat [.one (.slice [.int .u8])]) b):aex b:=by
 delta aex q0 q1 q2 q3 q4 q5 aC z0 z1 an
 have eF:b.length≤9223372036854775807:=hf.1.1
 clear hf
 refine⟨?_,?_⟩
 · refine⟨0,?_⟩
   try dsimp only
   with_reducible aa
   omega
   rfl
   simp only [S.cg,S.bY,S.ag,lc,ln] at *;omega
 intro x1 h2
 refine⟨?_,?_⟩
 · intro h3
   try simp only [dt] at h3
   with_reducible aa
   iterate 14 omega
   · simp only [S.cg,S.bY,S.ag,lc,ln] at *;omega
   iterate 2 omega
   refine⟨(x1+1),?_⟩
   try dsimp only
   with_reducible aa
   omega
   exact S.Rh b x1 (by omega)
   · simp only [S.cg,S.bY,S.ag,lc,ln] at *;omega
   simp only [S.cg,S.bY,S.ag,lc,ln] at *;omega
 intro h4
 try simp only [df] at h4
 refine⟨?_,?_⟩
 · refine⟨(nat_lit 16:Nat),?_⟩
   try dsimp only
   with_reducible aa
   omega
   · rw [show x1=16 by(simp only [S.bY] at *;omega)]
   iterate 2 omega
 intro x5 h6
 refine⟨?_,?_⟩
 · intro h7
   try simp only [dt] at h7
   with_reducible aa
   iterate 3 omega
   iterate 2 (simp only [S.cg,S.bY,S.ag,lc,ln] at *;omega)
   · simp only [S.c7];omega
   iterate 3 omega
   iterate 2 (simp only [S.cg,S.bY,S.ag,lc,ln] at *;omega)
   · simp only [S.c7];omega
   iterate 3 omega
   iterate 2 (simp only [S.cg,S.bY,S.ag,lc,ln] at *;omega)
   iterate 5 omega
   iterate 2 (simp only [S.cg,S.bY,S.ag,lc,ln] at *;omega)
   · simp only [S.c7];omega
   iterate 3 omega
   iterate 2 (simp only [S.cg,S.bY,S.ag,lc,ln] at *;omega)
   · simp only [S.c7];omega
   iterate 3 omega
   iterate 2 (simp only [S.cg,S.bY,S.ag,lc,ln] at *;omega)
   iterate 5 omega
   iterate 2 (simp only [S.cg,S.bY,S.ag,lc,ln] at *;omega)
   iterate 3 omega
   iterate 3 (simp only [S.cg,S.bY,S.ag,lc,ln] at *;omega)
   iterate 2 omega
   refine⟨(x5+nat_lit 1),?_⟩
   try dsimp only
   with_reducible aa
   omega
   exact S.Ri b x5 (by omega)
   iterate 2 omega
   simp only [S.cg,S.bY,S.ag,lc,ln] at *;omega
 intro h8
 try simp only [df] at h8
 rw [show x5=64 by omega]
theorem aou(l:List Int)(p:List UInt8)(hp:S.Cd l p)(hf:Vg.Row.ok (Vg.PS.flat [.one (.slice [.int .u32]), .one (.slice [.int .u8])]) (l,p)):aey l p:=by
 delta aey q6 q7 q8 q9 aC z0 z1 an
 have gj:l.length≤9223372036854775807:=hf.1.1
 have aov:p.length≤9223372036854775807:=hf.2.1.1
 clear hf
 obtain⟨EB,WL,hp3⟩:=hp
 have Er:=S.ń EB
 with_reducible aa
 with_reducible assumption
 trivial
 iterate 16 omega
 · refine⟨(nat_lit 0:Nat),?_⟩
   try dsimp only
   with_reducible aa
   omega
   iterate 8 rfl
   simp only [S.cg,S.bY,S.ag] at *;omega
 intro x1 h2
 refine⟨?_,?_⟩
 · intro h3
   try simp only [dt] at h3
   with_reducible aa
   iterate 3 (simp only [S.c7];omega)
   omega
   iterate 2 (rw [←S.yK];simp only [S.bY] at *;omega)
   omega
   iterate 2 (simp only [S.cg,S.bY,S.ag] at *;omega)
   iterate 3 (simp only [S.c7];omega)
   iterate 2 omega
   refine⟨(x1+nat_lit 1),?_⟩
   try dsimp only
   with_reducible aa
   omega
   · have hk:=S.sX (S.sched p 64) (S.qc l) Er x1
     have hx:=S.xor_not (hk (S.dg (S.sched p 64) (S.qc l) x1).2.2.2.2.1 (by simp [S.c8]))
     simp only [S.dg,hx,tn]
     rfl
   iterate 3 rfl
   · have hk:=S.sX (S.sched p 64) (S.qc l) Er x1
     have hx:=S.xor_not (hk (S.dg (S.sched p 64) (S.qc l) x1).2.2.2.2.1 (by simp [S.c8]))
     simp only [S.dg,hx,tn]
     rfl
   iterate 3 rfl
   · simp only [S.cg,S.bY,S.ag] at *;omega
   simp only [S.cg,S.bY,S.ag] at *;omega
 intro h4
 try simp only [df] at h4
 with_reducible aa
 iterate 16 omega
 simp only [S.bY] at h2
 rw [show x1=64 by omega]
 simp only [S.block,S.Jx,S.c8,S.qc,show Int.toNat 0=0 by rfl,show Int.toNat 1=1 by rfl,show Int.toNat 2=2 by rfl,show Int.toNat 3=3 by rfl,show Int.toNat 4=4 by rfl,show Int.toNat 5=5 by rfl,show Int.toNat 6=6 by rfl,show Int.toNat 7=7 by rfl]
theorem aow(b:List UInt8)(hp:S.small b)(hf:Vg.Row.ok (Vg.PS.flat [.one (.slice [.int .u8])]) b):aez b:=by
 delta aez aC eS z0 z1 an
 have eF:b.length≤9223372036854775807:=hf.1.1
 clear hf
 simp only [S.small] at hp
 with_reducible aa
 iterate 2 (simp only [S.bU,S.bH,S.dL,S.bY,S.ag,S.len,lc,ln,List.length_append] at *;omega)
 · refine⟨0,?_⟩
   try dsimp only
   refine⟨?_,?_⟩
   · exact S.JB _
   simp only [S.bU,S.bH,S.dL,S.bY,S.ag,S.len,lc,ln,List.length_append] at *;omega
 intro x1 h2
 with_reducible aa
 iterate 2 omega
 · intro h3
   try simp only [nt,df] at h3
   refine⟨?_,?_⟩
   · simp only [S.bU,S.bH,S.dL,S.bY,S.ag,S.len,lc,ln,List.length_append] at *;omega
   refine⟨(x1+1),?_⟩
   try dsimp only
   with_reducible aa
   exact S.zG _ _
   exact S.Cg h2 h3
   simp only [S.bU,S.bH,S.dL,S.bY,S.ag,S.len,lc,ln,List.length_append] at *;omega
 intro h4
 try simp only [nf,dt] at h4
 refine⟨?_,?_⟩
 · refine⟨(nat_lit 0:Nat),?_⟩
   try dsimp only
   with_reducible aa
   omega
   exact S.Rj b hp
   rfl
   simp only [S.bU,S.bH,S.dL,S.bY,S.ag,S.len,lc,ln,List.length_append] at *;omega
 intro x5 h6
 refine⟨?_,?_⟩
 · intro h7
   try simp only [dt] at h7
   with_reducible aa
   omega
   · have hx:x5≤8:=by(simp only [S.bY] at *;omega)
     simp only [S.xz _ _ hx,S.bU,S.bH,lc,ln] at *
     have :=S.Cf b.length
     omega
   iterate 3 omega
   refine⟨(x5+nat_lit 1),?_⟩
   try dsimp only
   with_reducible aa
   omega
   exact S.HR b x5
   exact S.Eu b x5 (by omega)
   · simp only [S.bU,S.bH,S.dL,S.bY,S.ag,S.len,lc,ln,List.length_append] at *;omega
   simp only [S.bU,S.bH,S.dL,S.bY,S.ag,S.len,lc,ln,List.length_append] at *;omega
 intro h8
 try simp only [df] at h8
 refine⟨?_,?_⟩
 · have hx:x5≤8:=by(simp only [S.bY] at *;omega)
   simp only [S.xz _ _ hx,S.bU,S.bH,lc,ln] at *
   have :=S.Cf b.length
   omega
 rw [S.E2 h2 h4,show x5=8 by(simp only [S.bY] at *;omega),S.LM]
 rfl
theorem aox(b:List UInt8)(hp:S.small b)(hf:Vg.Row.ok (Vg.PS.flat [.one (.slice [.int .u8])]) b):aeA b:=by
 delta aeA Ak y7 UQ q13 q14 q15 Dc q17 Sm q19 aC eS z0 z1
 have eF:b.length≤9223372036854775807:=hf.1.1
 clear hf
 have hsm:=hp
 simp only [S.small] at hp
 have ht:=S.TK b (S.jx b)
 have ht2:=S.E3 b (S.jx b)
 have ht3:=S.Cf b.length
 with_reducible aa
 exact hsm
 · refine⟨0,?_⟩
   try dsimp only
   with_reducible aa
   omega
   rfl
   omega
 intro x1 h2
 refine⟨?_,?_⟩
 · intro h3
   try simp only [dt] at h3
   with_reducible aa
   iterate 5 omega
   · exact⟨S.Ce _ _ S.LK _,rfl,by rw [S.TL,List.length_take,List.length_drop];omega⟩
   iterate 2 omega
   refine⟨(x1+1),?_⟩
   try dsimp only
   with_reducible aa
   omega
   · rw [S.TL];rfl
   omega
   simp only [S.bY,S.ag] at *;omega
 intro h4
 try simp only [df] at h4
 refine⟨?_,?_⟩
 · refine⟨(nat_lit 0:Nat),?_⟩
   try dsimp only
   with_reducible aa
   omega
   rfl
   simp only [S.bY,S.ag] at *;omega
 intro x5 h6
 refine⟨?_,?_⟩
 · intro h7
   try simp only [dt] at h7
   with_reducible aa
   omega
   iterate 2 (simp only [S.c8,lc,ln];omega)
   iterate 2 omega
   iterate 2 (simp only [S.c8,lc,ln];omega)
   iterate 3 omega
   iterate 2 (simp only [S.c8,lc,ln];omega)
   iterate 3 omega
   iterate 2 (simp only [S.c8,lc,ln];omega)
   omega
   · rw [S.yM _ _ (by simp only [S.bY] at *;omega)];simp;omega
   iterate 2 omega
   refine⟨(x5+nat_lit 1),?_⟩
   try dsimp only
   with_reducible aa
   omega
   · rw [show x1=S.blocks (S.tail b (S.jx b)) by omega];exact S.Ņ _ x5 (by omega)
   · simp only [S.bY,S.ag] at *;omega
   simp only [S.bY,S.ag] at *;omega
 intro h8
 try simp only [df] at h8
 rw [show x5=8 by(simp only [S.bY] at *;omega)];rfl
theorem aoy(x:Int)(k:Int)(hp:S.fE x k)(hf:Vg.Row.ok (Vg.PS.flat [.one (.int .u32), .one (.int .i64)]) (x,k)):aeB x k:=by
 delta aeB UR ž z0
 have aos:0≤x∧x≤4294967295:=hf.1
 have arz: -9223372036854775808≤k∧k≤9223372036854775807:=hf.2.1
 clear hf
 have hb:=S.Ł hp
 have WL:=hp
 simp only [S.fE] at WL
 with_reducible aa
 iterate 4 omega
 exact S.ŀ hp
theorem aoz(hp:True)(hf:Vg.Row.ok (Vg.PS.flat []) ()):aeC:=by
 delta aeC z0
 clear hf
 with_reducible aa
 iterate 9 rfl
theorem aoA(s1:Int)(s2:Int)(s3:Int)(s4:Int)(s5:Int)(s6:Int)(s7:Int)(s8:Int)(s9:List UInt8)(aI:Int)(hp:True)(hf:Vg.Row.ok (Vg.PS.flat [.agg [.int .u32, .int .u32, .int .u32, .int .u32, .int .u32, .int .u32, .int .u32, .int .u32, .slice [.int .u8], .int .i64]]) (s1,s2,s3,s4,s5,s6,s7,s8,s9,aI)):aeD s1 s2 s3 s4 s5 s6 s7 s8 s9 aI:=by
 delta aeD z0 an
 have iW:0≤s1∧s1≤4294967295:=hf.1
 have iX:0≤s2∧s2≤4294967295:=hf.2.1
 have tP:0≤s3∧s3≤4294967295:=hf.2.2.1
 have MA:0≤s4∧s4≤4294967295:=hf.2.2.2.1
 have WM:0≤s5∧s5≤4294967295:=hf.2.2.2.2.1
 have WN:0≤s6∧s6≤4294967295:=hf.2.2.2.2.2.1
 have WO:0≤s7∧s7≤4294967295:=hf.2.2.2.2.2.2.1
 have WQ:0≤s8∧s8≤4294967295:=hf.2.2.2.2.2.2.2.1
 have WR:s9.length≤9223372036854775807:=hf.2.2.2.2.2.2.2.2.1.1
 have Oq: -9223372036854775808≤aI∧aI≤9223372036854775807:=hf.2.2.2.2.2.2.2.2.2.1
 clear hf
 with_reducible aa
 · intro h1
   try simp only [dt] at h1
   refine⟨?_,?_⟩
   · intro h2
     try simp only [dt] at h2
     refine⟨?_,?_⟩
     · omega
     omega
   intro h3
   try simp only [df] at h3
   trivial
 · intro h4
   try simp only [df] at h4
   trivial
 simp only [S.aS];grind
theorem aoB(u1:Int)(u2:Int)(u3:Int)(u4:Int)(u5:Int)(u6:Int)(u7:Int)(u8:Int)(p:List UInt8)(hp:S.HQ (u1,u2,u3,u4,u5,u6,u7,u8) p)(hf:Vg.Row.ok (Vg.PS.flat [.agg [.int .u32, .int .u32, .int .u32, .int .u32, .int .u32, .int .u32, .int .u32, .int .u32], .one (.slice [.int .u8])]) (u1,u2,u3,u4,u5,u6,u7,u8,p)):aeE u1 u2 u3 u4 u5 u6 u7 u8 p:=by
 delta aeE hC q23 US UT tM UU q28 q29 q30 q31 q32 q33 aC z0 z1 an
 have ahc:0≤u1∧u1≤4294967295:=hf.1
 have ahd:0≤u2∧u2≤4294967295:=hf.2.1
 have ahe:0≤u3∧u3≤4294967295:=hf.2.2.1
 have ahf:0≤u4∧u4≤4294967295:=hf.2.2.2.1
 have ahg:0≤u5∧u5≤4294967295:=hf.2.2.2.2.1
 have ahh:0≤u6∧u6≤4294967295:=hf.2.2.2.2.2.1
 have ahi:0≤u7∧u7≤4294967295:=hf.2.2.2.2.2.2.1
 have ahj:0≤u8∧u8≤4294967295:=hf.2.2.2.2.2.2.2.1
 have aov:p.length≤9223372036854775807:=hf.2.2.2.2.2.2.2.2.1.1
 clear hf
 obtain⟨EB,WL⟩:=hp
 refine⟨?_,?_⟩
 · refine⟨(nat_lit 0:Nat),?_⟩
   try dsimp only
   with_reducible aa
   omega
   rfl
   simp only [S.bY,S.ag] at *;omega
 intro x1 h2
 refine⟨?_,?_⟩
 · intro h3
   try simp only [dt] at h3
   with_reducible aa
   iterate 30 omega
   · rw [S.og _ _ (by omega)];omega
   iterate 2 omega
   refine⟨(x1+nat_lit 1),?_⟩
   try dsimp only
   with_reducible aa
   omega
   exact S.Ľ _ _ (by omega)
   · simp only [S.bY,S.ag] at *;omega
   simp only [S.bY,S.ag] at *;omega
 intro h4
 try simp only [df] at h4
 refine⟨?_,?_⟩
 · refine⟨(nat_lit 16:Nat),?_⟩
   try dsimp only
   with_reducible aa
   omega
   · simp only [S.bY] at h2
     rw [show x1=16 by omega]
   iterate 2 omega
 intro x5 h6
 refine⟨?_,?_⟩
 · intro h7
   try simp only [dt] at h7
   with_reducible aa
   iterate 4 omega
   · rw [S.og _ _ (by omega)];omega
   iterate 4 omega
   · rw [S.og _ _ (by omega)];omega
   iterate 2 (with_reducible exact S.Jz _ _ _ _ (by omega))
   iterate 2 omega
   iterate 2 (with_reducible exact S.Jz _ _ _ _ (by omega))
   iterate 6 omega
   · rw [S.og _ _ (by omega)];omega
   iterate 4 omega
   · rw [S.og _ _ (by omega)];omega
   iterate 2 omega
   · rw [S.og _ _ (by omega)];omega
   iterate 2 omega
   refine⟨(x5+nat_lit 1),?_⟩
   try dsimp only
   with_reducible aa
   omega
   exact S.ľ _ _ (by omega) (by omega)
   iterate 2 omega
   simp only [S.bY,S.ag] at *;omega
 intro h8
 try simp only [df] at h8
 with_reducible aa
 iterate 16 omega
 · refine⟨(nat_lit 0:Nat),?_⟩
   try dsimp only
   with_reducible aa
   omega
   iterate 8 rfl
   simp only [S.bY,S.ag] at *;omega
 intro x9 c5
 refine⟨?_,?_⟩
 · intro fM
   try simp only [dt] at fM
   with_reducible aa
   iterate 3 (with_reducible exact S.af4 (S.sX _ _ EB _) _ (by omega))
   with_reducible exact S.yK
   omega
   · rw [←S.yK];simp only [S.bY] at *;omega
   iterate 2 omega
   · rw [S.og _ _ (by omega)];omega
   iterate 3 (with_reducible exact S.af3 (S.sX _ _ EB _) _ (by omega))
   iterate 2 omega
   refine⟨(x9+nat_lit 1),?_⟩
   try dsimp only
   with_reducible aa
   omega
   · rw [show x5=64 by omega,S.M5]
     simp only [S.dg,tn,Nat.zero_add,Nat.mul_one]
     rfl
   iterate 3 rfl
   · rw [show x5=64 by omega,S.M5]
     simp only [S.dg,tn,Nat.zero_add,Nat.mul_one]
     rfl
   iterate 3 rfl
   · simp only [S.bY,S.ag] at *;omega
   simp only [S.bY,S.ag] at *;omega
 intro dB
 try simp only [df] at dB
 with_reducible aa
 iterate 16 omega
 iterate 7
  simp only [S.bY] at c5
  rw [show x9=64 by omega]
  simp only [S.block,S.Jx]
 simp only [S.bY] at c5
 rw [show x9=64 by omega]
 simp only [S.block,S.Jx]
theorem ahk(u1:Int)(u2:Int)(u3:Int)(u4:Int)(u5:Int)(u6:Int)(u7:Int)(u8:Int)(b:List UInt8)(hp:S.pP (u1,u2,u3,u4,u5,u6,u7,u8))(hf:Vg.Row.ok (Vg.PS.flat [.agg [.int .u32, .int .u32, .int .u32, .int .u32, .int .u32, .int .u32, .int .u32, .int .u32], .one (.slice [.int .u8])]) (u1,u2,u3,u4,u5,u6,u7,u8,b)):UW u1 u2 u3 u4 u5 u6 u7 u8 b:=by
 delta UW Il uG z0 an
 have ahc:0≤u1∧u1≤4294967295:=hf.1
 have ahd:0≤u2∧u2≤4294967295:=hf.2.1
 have ahe:0≤u3∧u3≤4294967295:=hf.2.2.1
 have ahf:0≤u4∧u4≤4294967295:=hf.2.2.2.1
 have ahg:0≤u5∧u5≤4294967295:=hf.2.2.2.2.1
 have ahh:0≤u6∧u6≤4294967295:=hf.2.2.2.2.2.1
 have ahi:0≤u7∧u7≤4294967295:=hf.2.2.2.2.2.2.1
 have ahj:0≤u8∧u8≤4294967295:=hf.2.2.2.2.2.2.2.1
 have eF:b.length≤9223372036854775807:=hf.2.2.2.2.2.2.2.2.1.1
 clear hf
 refine⟨?_,?_⟩
 · refine⟨0,?_⟩
   try dsimp only
   with_reducible aa
   · simp only [S.dM,List.drop_drop];congr 1
   iterate 8 rfl
   omega
 intro x1 h2
 refine⟨?_,?_⟩
 · intro h3
   try simp only [dt] at h3
   with_reducible aa
   iterate 2 omega
   · exact⟨S.Ce _ _ hp _,by simp only [S.dM,List.length_take,List.length_drop] at *;omega⟩
   iterate 2 omega
   refine⟨(x1+1),?_⟩
   try dsimp only
   with_reducible aa
   · simp only [S.dM,List.drop_drop];congr 1
   iterate 8 (simp only [S.Ń])
   · simp only [S.dM,List.length_drop,S.ag,S.blocks] at *;omega
   simp only [S.dM,List.length_drop,S.ag,S.blocks] at *;omega
 intro h4
 try simp only [df] at h4
 with_reducible aa
 iterate 8
  rw [show x1=S.blocks b by(simp only [S.dM,List.length_drop,S.blocks] at *;omega)]
  rfl
 rw [show x1=S.blocks b by(simp only [S.dM,List.length_drop,S.blocks] at *;omega)]
 rfl
theorem ahl(s1:Int)(s2:Int)(s3:Int)(s4:Int)(s5:Int)(s6:Int)(s7:Int)(s8:Int)(s9:List UInt8)(aI:Int)(b:List UInt8)(hp:S.HP (s1,s2,s3,s4,s5,s6,s7,s8) s9 aI b)(hf:Vg.Row.ok (Vg.PS.flat [.agg [.int .u32, .int .u32, .int .u32, .int .u32, .int .u32, .int .u32, .int .u32, .int .u32, .slice [.int .u8], .int .i64], .one (.slice [.int .u8])]) (s1,s2,s3,s4,s5,s6,s7,s8,s9,aI,b)):UY s1 s2 s3 s4 s5 s6 s7 s8 s9 aI b:=by
 delta UY Im wz ſ UX aC eS Db z0 an
 have iW:0≤s1∧s1≤4294967295:=hf.1
 have iX:0≤s2∧s2≤4294967295:=hf.2.1
 have tP:0≤s3∧s3≤4294967295:=hf.2.2.1
 have MA:0≤s4∧s4≤4294967295:=hf.2.2.2.1
 have WM:0≤s5∧s5≤4294967295:=hf.2.2.2.2.1
 have WN:0≤s6∧s6≤4294967295:=hf.2.2.2.2.2.1
 have WO:0≤s7∧s7≤4294967295:=hf.2.2.2.2.2.2.1
 have WQ:0≤s8∧s8≤4294967295:=hf.2.2.2.2.2.2.2.1
 have WR:s9.length≤9223372036854775807:=hf.2.2.2.2.2.2.2.2.1.1
 have Oq: -9223372036854775808≤aI∧aI≤9223372036854775807:=hf.2.2.2.2.2.2.2.2.2.1
 have eF:b.length≤9223372036854775807:=hf.2.2.2.2.2.2.2.2.2.2.1.1
 clear hf
 obtain⟨Er,rfl,rfl,hs⟩:=hp
 simp only [S.small] at hs
 have hv:S.aS [] 0=true :=by decide
 have hd:decide ((1099511627776:Int)-0<(b.length:Int))=false :=by simp;omega
 simp only [hv,hd,Bool.not_true,cond_false,cond_true,ln,Int.toNat_zero]
 with_reducible aa
 trivial
 · intro h1
   try simp only [nt] at h1
   trivial
 · intro h2
   try simp only [nf] at h2
   refine⟨?_,?_⟩
   · omega
   omega
 · intro h3
   try simp only [V.pO,nt,dt] at h3
   trivial
 · intro h4
   try simp only [V.gh,nf,df] at h4
   trivial
 iterate 5 omega
 iterate 2 (simp only [List.replicate_zero,List.nil_append,List.append_nil,S.mw,S.jx,ln,List.length_append] at *;omega)
 omega
 · simp only [List.replicate_zero,List.nil_append,List.append_nil,S.mw,S.jx,ln,List.length_append] at *;omega
 iterate 2 omega
 iterate 9 rfl
 simp only [List.replicate_zero,List.nil_append,List.append_nil,S.mw,S.jx,ln,List.length_append] at *;omega
theorem ahm(s1:Int)(s2:Int)(s3:Int)(s4:Int)(s5:Int)(s6:Int)(s7:Int)(s8:Int)(s9:List UInt8)(aI:Int)(hp:S.AA (s1,s2,s3,s4,s5,s6,s7,s8) s9 aI)(hf:Vg.Row.ok (Vg.PS.flat [.agg [.int .u32, .int .u32, .int .u32, .int .u32, .int .u32, .int .u32, .int .u32, .int .u32, .slice [.int .u8], .int .i64]]) (s1,s2,s3,s4,s5,s6,s7,s8,s9,aI)):UZ s1 s2 s3 s4 s5 s6 s7 s8 s9 aI:=by
 delta UZ jD q41 q42 q43 q44 q45 aC eS Db z0 z1 an
 have iW:0≤s1∧s1≤4294967295:=hf.1
 have iX:0≤s2∧s2≤4294967295:=hf.2.1
 have tP:0≤s3∧s3≤4294967295:=hf.2.2.1
 have MA:0≤s4∧s4≤4294967295:=hf.2.2.2.1
 have WM:0≤s5∧s5≤4294967295:=hf.2.2.2.2.1
 have WN:0≤s6∧s6≤4294967295:=hf.2.2.2.2.2.1
 have WO:0≤s7∧s7≤4294967295:=hf.2.2.2.2.2.2.1
 have WQ:0≤s8∧s8≤4294967295:=hf.2.2.2.2.2.2.2.1
 have WR:s9.length≤9223372036854775807:=hf.2.2.2.2.2.2.2.2.1.1
 have Oq: -9223372036854775808≤aI∧aI≤9223372036854775807:=hf.2.2.2.2.2.2.2.2.2.1
 clear hf
 have hv:=S.Rf hp
 obtain⟨Er,h01,h02,h03⟩:=hp
 simp only [hv,Bool.not_true,cond_false]
 with_reducible aa
 trivial
 · intro h1
   try simp only [nt] at h1
   trivial
 · intro h2
   try simp only [nf] at h2
   trivial
 omega
 · simp only [S.bU,S.eQ,S.bH,S.dL,S.bY,S.ag,S.len,lc,ln] at *;omega
 · refine⟨0,?_⟩
   try dsimp only
   refine⟨?_,?_⟩
   · exact S.JB _
   simp only [S.bU,S.eQ,S.bH,S.dL,S.bY,S.ag,S.len,lc,ln] at *;omega
 intro x3 h4
 with_reducible aa
 iterate 2 omega
 · intro h5
   try simp only [nt,df] at h5
   refine⟨?_,?_⟩
   · simp only [S.bU,S.eQ,S.bH,S.dL,S.bY,S.ag,S.len,lc,ln] at *;omega
   refine⟨(x3+1),?_⟩
   try dsimp only
   with_reducible aa
   exact S.zG _ _
   exact S.Cg h4 h5
   simp only [S.bU,S.eQ,S.bH,S.dL,S.bY,S.ag,S.len,lc,ln] at *;omega
 intro h6
 try simp only [nf,dt] at h6
 refine⟨?_,?_⟩
 · refine⟨(nat_lit 0:Nat),?_⟩
   try dsimp only
   with_reducible aa
   omega
   rw [S.TI,←S.E2 h4 h6]
   simp only [S.bU,S.eQ,S.bH,S.dL,S.bY,S.ag,S.len,lc,ln] at *;omega
 intro x7 h8
 refine⟨?_,?_⟩
 · intro h9
   try simp only [dt] at h9
   with_reducible aa
   iterate 6 omega
   · simp only [S.bU,S.eQ,S.bH,S.dL,S.bY,S.ag,S.len,lc,ln] at *;omega
   iterate 2 omega
   refine⟨(x7+nat_lit 1),?_⟩
   try dsimp only
   with_reducible aa
   omega
   exact S.JC s9 aI x7 h01 h02 (by omega)
   · simp only [S.bU,S.eQ,S.bH,S.dL,S.bY,S.ag,S.len,lc,ln] at *;omega
   simp only [S.bU,S.eQ,S.bH,S.dL,S.bY,S.ag,S.len,lc,ln] at *;omega
 intro c5
 try simp only [df] at c5
 with_reducible aa
 iterate 4 omega
 · refine⟨(nat_lit 0:Nat),?_⟩
   try dsimp only
   with_reducible aa
   omega
   rfl
   simp only [S.bU,S.eQ,S.bH,S.dL,S.bY,S.ag,S.len,lc,ln] at *;omega
 intro WS dB
 refine⟨?_,?_⟩
 · intro kA
   try simp only [dt] at kA
   with_reducible aa
   iterate 8 omega
   · rw [S.yM _ _ (by simp only [S.bY] at *;omega)];simp;omega
   iterate 2 omega
   refine⟨(WS+nat_lit 1),?_⟩
   try dsimp only
   with_reducible aa
   omega
   · rw [show x7=8 by(simp only [S.bY] at *;omega)]
     exact S.ł _ WS (by omega)
   · simp only [S.bU,S.eQ,S.bH,S.dL,S.bY,S.ag,S.len,lc,ln] at *;omega
   simp only [S.bU,S.eQ,S.bH,S.dL,S.bY,S.ag,S.len,lc,ln] at *;omega
 intro eX
 try simp only [df] at eX
 rw [show WS=8 by(simp only [S.bY] at *;omega)]
 rfl
theorem ahn(b:List UInt8)(hp:S.small b)(hf:Vg.Row.ok (Vg.PS.flat [.one (.slice [.int .u8])]) b):U0 b:=by
 delta U0 EA Io z0
 have eF:b.length≤9223372036854775807:=hf.1.1
 clear hf
 with_reducible aa
 trivial
 exact⟨S.LK,rfl,rfl,hp⟩
 · simp only [S.small] at hp
   exact⟨S.Ce _ _ S.LK _,by simp only [S.jx];omega,by simp only [S.jx];omega,by rw [S.mw];simp [S.jx]⟩
 exact congrArg S.Rc (S.LL b _)
theorem aho(m:Nat)(v:Int)(hm:v.toNat<m+1)(hp:0≤v)(hf:Vg.Row.ok (Vg.PS.flat [.one (.int .i64)]) v):U1 m v:=by
 delta U1 q48 aC eS z0
 have aeF: -9223372036854775808≤v∧v≤9223372036854775807:=hf.1
 clear hf
 refine⟨?_,?_⟩
 · intro h1
   try simp only [dt] at h1
   rw [S.M6 _ (by omega)];congr 2;omega
 intro h2
 try simp only [df] at h2
 with_reducible aa
 iterate 8 omega
 · have :=S.jO (v/128);simp;omega
 rw [S.M7 v (by omega) (by omega)];simp only [List.singleton_append];congr 2;omega
theorem ahp(s:List UInt8)(hp:S.small s)(hf:Vg.Row.ok (Vg.PS.flat [.one (.str)]) s):U2 s:=by
 delta U2 eS z0 an
 have Kw:s.length≤9223372036854775807:=hf.1
 clear hf
 with_reducible aa
 omega
 · have :=S.jO s.length;simp only [S.small] at hp;omega
 rfl
theorem ahq(b:List UInt8)(hp:b.length≤140737488355328)(hf:Vg.Row.ok (Vg.PS.flat [.one (.slice [.int .u8])]) b):U3 b:=by
 delta U3 eS
 have eF:b.length≤9223372036854775807:=hf.1.1
 clear hf
 refine⟨?_,?_⟩
 · omega
 rfl
theorem ahr(v:Int)(l:List UInt8)(hp:S.xA l v)(hf:Vg.Row.ok (Vg.TA.eI [.own 50000, .iO (.int .i64)]) v)(hg:Vg.fJ.ok [.row 5 [.int .u8]] (l,())):U4 v l:=by
 delta U4 q49 eS z0
 have aeF: -9223372036854775808≤v∧v≤9223372036854775807:=hf.1
 have gj:l.length≤9223372036854775807:=hg.1.1
 clear hf hg
 obtain⟨EB,WL⟩:=hp
 refine⟨?_,?_⟩
 · refine⟨((l),(v)),?_⟩
   try dsimp only
   with_reducible aa
   omega
   rfl
   exact⟨EB,Int.le_refl _,rfl⟩
 intro x1 h2
 refine⟨?_,?_⟩
 · intro h3
   try simp only [dt] at h3
   with_reducible aa
   iterate 2 omega
   · (have hl:=S.sZ h2;have hu:=S.xB h2;simp;omega)
   iterate 2 omega
   refine⟨((Prod.fst x1++ [UInt8.ofNat (Int.toNat (Vg.cP (Vg.aZ (Prod.snd x1) (127:Int)%(256:Int)) (128:Int)))]),(Prod.snd x1/(2:Int)^Int.toNat (7:Int))),?_⟩
   try dsimp only
   with_reducible aa
   omega
   rfl
   · (have hl:=S.sZ h2;have hu:=S.xB h2;exact S.Rk h2 h3 (by omega))
   · (have hl:=S.sZ h2;have hu:=S.xB h2;simp;omega)
 intro h4
 try simp only [df] at h4
 refine⟨?_,?_⟩
 · (have hl:=S.sZ h2;have hu:=S.xB h2;simp;omega)
 (have hl:=S.sZ h2;have hu:=S.xB h2;exact S.TN h2 h4)
theorem ahs(s:List UInt8)(l:List UInt8)(hp:S.kR l s)(hf:Vg.Row.ok (Vg.TA.eI [.own 50000, .iO (.str)]) s)(hg:Vg.fJ.ok [.row 5 [.int .u8]] (l,())):U5 s l:=by
 delta U5 eS an
 have Kw:s.length≤9223372036854775807:=hf.1
 have gj:l.length≤9223372036854775807:=hg.1.1
 clear hf hg
 obtain⟨EB,WL⟩:=hp
 have :=S.jO s.length
 with_reducible aa
 · simp only [S.xA];omega
 · simp only [List.length_append];omega
 simp [S.text]
theorem aht(b:List UInt8)(v:Int)(hp:b.length≤35184372088832)(hf:Vg.Row.ok (Vg.PS.flat [.one (.slice [.int .u8]), .one (.int .i64)]) (b,v)):U6 b v:=by
 delta U6 q50 eS z0 z1
 have eF:b.length≤9223372036854775807:=hf.1.1
 have aeF: -9223372036854775808≤v∧v≤9223372036854775807:=hf.2.1
 clear hf
 refine⟨?_,?_⟩
 · intro h1
   try simp only [V.pO,dt] at h1
   refine⟨?_,?_⟩
   · grind [S.mS,S.Ck,S.rj]
   grind [S.mS,S.Ck,S.rj]
 intro h2
 try simp only [V.gh,df] at h2
 with_reducible aa
 omega
 exact⟨by omega,by omega⟩
 iterate 2 (grind [S.mS,S.Ck,S.rj])
theorem ahu(b:List UInt8)(s:List UInt8)(hp:S.kR b s)(hf:Vg.Row.ok (Vg.PS.flat [.one (.slice [.int .u8]), .one (.str)]) (b,s)):U7 b s:=by
 delta U7 eS
 have eF:b.length≤9223372036854775807:=hf.1.1
 have Kw:s.length≤9223372036854775807:=hf.2.1
 clear hf
 with_reducible aa
 · simp only [S.kR] at *;omega
 omega
 rfl
theorem ahv(kind:Int)(b:List UInt8)(hp:S.bj b)(hf:Vg.Row.ok (Vg.PS.flat [.one (.int .i64), .one (.slice [.int .u8])]) (kind,b)):U8 kind b:=by
 delta U8 q51 aC eS z0 z1 an
 have WT: -9223372036854775808≤kind∧kind≤9223372036854775807:=hf.1
 have eF:b.length≤9223372036854775807:=hf.2.1.1
 clear hf
 refine⟨?_,?_⟩
 · refine⟨(nat_lit 0:Nat),?_⟩
   try dsimp only
   with_reducible aa
   omega
   · simp only [S.fF,S.dY] at *;grind [List.take_add_one]
   simp only [S.dY,S.ag,S.len,S.bj,S.fF,lc,List.length_take,ln] at *;omega
 intro x1 h2
 refine⟨?_,?_⟩
 · intro h3
   try simp only [dt] at h3
   with_reducible aa
   iterate 2 omega
   · simp only [S.dY,S.ag,S.len,S.bj,S.fF,lc,List.length_take,ln] at *;omega
   iterate 2 omega
   refine⟨(x1+nat_lit 1),?_⟩
   try dsimp only
   with_reducible aa
   omega
   simp only [S.fF,List.cons_append,S.TC b x1 (by omega)]
   · simp only [S.dY,S.ag,S.len,S.bj,S.fF,lc,List.length_take,ln] at *;omega
   simp only [S.dY,S.ag,S.len,S.bj,S.fF,lc,List.length_take,ln] at *;omega
 intro h4
 try simp only [df] at h4
 simp only [S.fF,S.dY] at *;grind [List.take_add_one]
theorem ahw(kind:Int)(b:List UInt8)(hp:S.bj b)(hf:Vg.Row.ok (Vg.PS.flat [.one (.int .i64), .one (.slice [.int .u8])]) (kind,b)):U9 kind b:=by
 unfold U9
 have WT: -9223372036854775808≤kind∧kind≤9223372036854775807:=hf.1
 have eF:b.length≤9223372036854775807:=hf.2.1.1
 clear hf
 with_reducible aa
 iterate 2 exact hp
 rfl
theorem ahx(b:List UInt8)(hp:S.bj b)(hf:Vg.Row.ok (Vg.PS.flat [.one (.slice [.int .u8])]) b):Va b:=by
 delta Va z0
 have eF:b.length≤9223372036854775807:=hf.1.1
 clear hf
 refine⟨?_,?_⟩
 · exact hp
 rfl
theorem ahy(l:List UInt8)(r:List UInt8)(hp:S.bj (l++r))(hf:Vg.Row.ok (Vg.PS.flat [.one (.str), .one (.str)]) (l,r)):Vb l r:=by
 delta Vb z1
 have gj:l.length≤9223372036854775807:=hf.1
 have aeG:r.length≤9223372036854775807:=hf.2.1
 clear hf
 with_reducible aa
 · simp only [S.bj,List.length_append] at *;omega
 exact hp
 rfl
theorem ahz(kind:UInt8)(parts:List (List UInt8))(hp:S.iP parts)(hf:Vg.Row.ok (Vg.PS.flat [.one (.int .u8), .one (.slice [.slice [.int .u8]])]) (kind,parts)):Vc kind parts:=by
 delta Vc aC eS z0 z1 an
 have amZ:parts.length≤9223372036854775807:=hf.2.1.1
 clear hf
 refine⟨?_,?_⟩
 · refine⟨(nat_lit 0:Nat),?_⟩
   try dsimp only
   with_reducible aa
   omega
   exact S.Rm _ _
   simp only [S.dY,S.ag,S.len] at *;omega
 intro x1 h2
 refine⟨?_,?_⟩
 · intro h3
   try simp only [dt] at h3
   with_reducible aa
   iterate 2 omega
   exact S.LN kind hp (by omega)
   iterate 2 omega
   refine⟨(x1+nat_lit 1),?_⟩
   try dsimp only
   with_reducible aa
   omega
   exact S.HU _ _ _ (by omega)
   · simp only [S.dY,S.ag,S.len] at *;omega
   simp only [S.dY,S.ag,S.len] at *;omega
 intro h4
 try simp only [df] at h4
 exact S.JD _ _ _ (by omega)
theorem ahA(b:List UInt8)(hp:S.bj b)(hf:Vg.Row.ok (Vg.PS.flat [.one (.slice [.int .u8])]) b):Vd b:=by
 unfold Vd
 have eF:b.length≤9223372036854775807:=hf.1.1
 clear hf
 refine⟨?_,?_⟩
 · simp only [S.iP,S.bj] at *;simp;omega
 simp [S.dN,S.iQ]
theorem ahB(l:List UInt8)(r:List UInt8)(hp:S.bj (l++r))(hf:Vg.Row.ok (Vg.PS.flat [.one (.str), .one (.str)]) (l,r)):Ve l r:=by
 unfold Ve
 have gj:l.length≤9223372036854775807:=hf.1
 have aeG:r.length≤9223372036854775807:=hf.2.1
 clear hf
 refine⟨?_,?_⟩
 · simp only [S.iP,S.bj,List.length_append] at *;simp;omega
 simp [S.dN,S.iQ]
theorem ahC(b:List UInt8)(hp:S.bj b)(hf:Vg.Row.ok (Vg.PS.flat [.one (.slice [.int .u8])]) b):Vf b:=by
 unfold Vf
 have eF:b.length≤9223372036854775807:=hf.1.1
 clear hf
 refine⟨?_,?_⟩
 · simp only [S.iP,S.bj] at *;simp;omega
 simp [S.dN,S.iQ]
theorem ahD(b:List UInt8)(hp:S.bj b)(hf:Vg.Row.ok (Vg.PS.flat [.one (.slice [.int .u8])]) b):Vh b:=by
 unfold Vh
 have eF:b.length≤9223372036854775807:=hf.1.1
 clear hf
 with_reducible aa
 iterate 2 exact hp
 rfl
theorem ahE(l:List UInt8)(r:List UInt8)(hp:True)(hf:Vg.Row.ok (Vg.PS.flat [.one (.str), .one (.str)]) (l,r)):Vi l r:=by
 delta Vi z0 z1 an
 have gj:l.length≤9223372036854775807:=hf.1
 have aeG:r.length≤9223372036854775807:=hf.2.1
 clear hf
 refine⟨?_,?_⟩
 · intro h1
   try simp only [V.pO,nt,df] at h1
   refine⟨?_,?_⟩
   · grind [S.cM,S.j6,S.Cm,S.HT,S.oh]
   grind [S.cM,S.j6,S.Cm,S.HT,S.oh]
 intro h2
 try simp only [V.gh,nf,dt] at h2
 with_reducible aa
 iterate 2 (simp only [S.small,S.iQ,S.bj,lc,List.length_append] at *;omega)
 iterate 2 (grind [S.cM,S.j6,S.Cm,S.HT,S.oh])
theorem ahF(b:List UInt8)(hp:S.bj b)(hf:Vg.Row.ok (Vg.PS.flat [.one (.slice [.int .u8])]) b):Vj b:=by
 unfold Vj
 have eF:b.length≤9223372036854775807:=hf.1.1
 clear hf
 with_reducible aa
 iterate 2 exact hp
 rfl
theorem ahG(c:Int)(hp:True)(hf:Vg.Row.ok (Vg.PS.flat [.one (.int .i64)]) c):Vk c:=by
 delta Vk z0
 have rR: -9223372036854775808≤c∧c≤9223372036854775807:=hf.1
 clear hf
 simp only [S.bh];grind
theorem ahH(c:Int)(hp:True)(hf:Vg.Row.ok (Vg.PS.flat [.one (.int .i64)]) c):Vl c:=by
 delta Vl z1
 have rR: -9223372036854775808≤c∧c≤9223372036854775807:=hf.1
 clear hf
 refine⟨?_,?_⟩
 · intro h1
   try simp only [dt] at h1
   grind [S.cI]
 intro h2
 try simp only [df] at h2
 refine⟨?_,?_⟩
 · intro h3
   try simp only [dt] at h3
   grind [S.cI]
 intro h4
 try simp only [df] at h4
 refine⟨?_,?_⟩
 · intro h5
   try simp only [dt] at h5
   grind [S.cI]
 intro h6
 try simp only [df] at h6
 grind [S.cI]
theorem ahI(c:Int)(hp:0≤c)(hf:Vg.Row.ok (Vg.PS.flat [.one (.int .i64)]) c):Vm c:=by
 delta Vm z0
 have rR: -9223372036854775808≤c∧c≤9223372036854775807:=hf.1
 clear hf
 have e:Vg.aZ c 63%256=c%64:=by rw [S.Cb _ hp];omega
 with_reducible aa
 iterate 2 omega
 rw [e,S.zF]
 exact S.Ň c
theorem ahJ(c:Int)(hp:True)(hf:Vg.Row.ok (Vg.PS.flat [.one (.int .i64)]) c):Vn c:=by
 delta Vn q52 q53 q54 q55 z0 z1
 have rR: -9223372036854775808≤c∧c≤9223372036854775807:=hf.1
 clear hf
 with_reducible aa
 trivial
 · intro h1
   try simp only [nt] at h1
   refine⟨?_,?_⟩
   · simp only [S.rP,nt] at *
     grind
   simp only [S.eo,nt] at *
   grind
 intro h2
 try simp only [nf] at h2
 with_reducible aa
 trivial
 · intro h3
   try simp only [dt] at h3
   refine⟨?_,?_⟩
   · (have hc:=S.cZ h2;simp only [S.rP,h2];rfl)
   (have hc:=S.cZ h2;(simp only [S.eo,h2,if_true];exact S.M8 c hc.1 (by simp only [S.cI] at *;grind)))
 intro h4
 try simp only [df] at h4
 refine⟨?_,?_⟩
 · intro h5
   try simp only [dt] at h5
   with_reducible aa
   iterate 2 omega
   · (have hc:=S.cZ h2;omega)
   · (have hc:=S.cZ h2;simp only [S.rP,h2];rfl)
   · (have hc:=S.cZ h2;(simp only [S.eo,h2,if_true];exact S.ŋ c hc.1 (by simp only [S.cI] at *;grind)))
 intro h6
 try simp only [df] at h6
 refine⟨?_,?_⟩
 · intro h7
   try simp only [dt] at h7
   with_reducible aa
   iterate 4 omega
   · (have hc:=S.cZ h2;simp only [show Int.toNat 6=6 by rfl,show Int.toNat 12=12 by rfl,show Int.toNat 18=18 by rfl];omega)
   · (have hc:=S.cZ h2;omega)
   · (have hc:=S.cZ h2;simp only [S.rP,h2];rfl)
   · (have hc:=S.cZ h2;(simp only [S.eo,h2,if_true];exact S.Ō c hc.1 (by simp only [S.cI] at *;grind)))
 intro h8
 try simp only [df] at h8
 with_reducible aa
 iterate 4 omega
 · (have hc:=S.cZ h2;simp only [show Int.toNat 6=6 by rfl,show Int.toNat 12=12 by rfl,show Int.toNat 18=18 by rfl];omega)
 iterate 2 omega
 · (have hc:=S.cZ h2;simp only [show Int.toNat 6=6 by rfl,show Int.toNat 12=12 by rfl,show Int.toNat 18=18 by rfl];omega)
 · (have hc:=S.cZ h2;omega)
 · (have hc:=S.cZ h2;simp only [S.rP,h2];rfl)
 · (have hc:=S.cZ h2;(simp only [S.eo,h2,if_true];exact S.ō c hc.1 hc.2 (by simp only [S.cI] at *;grind)))
theorem ahK(b:List UInt8)(hp:0<b.length)(hf:Vg.Row.ok (Vg.PS.flat [.one (.slice [.int .u8])]) b):Vr b:=by
 delta Vr uH Vo Vp Vq q60 Mx q62 q63 q64 q65 q66 q67 q68 q69 aC z0 z1 an
 have eF:b.length≤9223372036854775807:=hf.1.1
 clear hf
 have ķ:(0:Int)<b.length:=by omega
 with_reducible aa
 iterate 2 omega
 · intro h1
   try simp only [dt] at h1
   refine⟨?_,?_⟩
   · rw [S.uf1 (b:=b) (by with_reducible assumption)]
   rw [S.uf1 (b:=b) (by with_reducible assumption)]
 intro h2
 try simp only [df] at h2
 with_reducible aa
 iterate 2 omega
 · intro h3
   try simp only [dt] at h3
   with_reducible aa
   iterate 2 omega
   · intro h4
     try simp only [dt] at h4
     refine⟨?_,?_⟩
     · (have hn:=S.om (b:=b) (by with_reducible assumption) (by with_reducible assumption);rw [S.nB hn (by omega) (by omega)])
     (have hn:=S.om (b:=b) (by with_reducible assumption) (by with_reducible assumption);rw [S.nB hn (by omega) (by omega)])
   intro h5
   try simp only [df] at h5
   with_reducible aa
   iterate 3 omega
   · refine⟨(nat_lit 0:Nat),?_⟩
     try dsimp only
     with_reducible aa
     omega
     · (have hn:=S.om (b:=b) (by with_reducible assumption) (by with_reducible assumption);exact S.anT (by with_reducible assumption))
     · (have hn:=S.om (b:=b) (by with_reducible assumption) (by with_reducible assumption);exact S.LO hn (by omega) (by omega))
   intro x6 h7
   refine⟨?_,?_⟩
   · intro h8
     try simp only [dt] at h8
     with_reducible aa
     iterate 4 omega
     · intro h9
       try simp only [nt,df,tn] at h9
       refine⟨?_,?_⟩
       · have hn:=S.om (b:=b) (by with_reducible assumption) (by with_reducible assumption)
         have hb:=S.bn h7
         have hx:(x6:Int)+1<2:=by(have hc:=S.bI b 2 (by omega) (by omega);simp only [hc,show Int.toNat 2=2 by rfl] at *;omega)
         simp only [S.gH b 2 x6 hx,S.jo b 2 x6 hx] at *
         rw [S.qd hn h7 (by omega) (by with_reducible assumption)]
       have hn:=S.om (b:=b) (by with_reducible assumption) (by with_reducible assumption)
       have hb:=S.bn h7
       have hx:(x6:Int)+1<2:=by(have hc:=S.bI b 2 (by omega) (by omega);simp only [hc,show Int.toNat 2=2 by rfl] at *;omega)
       simp only [S.gH b 2 x6 hx,S.jo b 2 x6 hx] at *
       rw [S.qd hn h7 (by omega) (by with_reducible assumption)]
     intro c5
     try simp only [nf,dt,tn] at c5
     with_reducible aa
     iterate 2 omega
     iterate 3 ((have hn:=S.om (b:=b) (by with_reducible assumption) (by with_reducible assumption);(have hb:=S.bn h7;(try simp only [S.bI b 2 (by omega) (by omega),show Int.toNat 2=2 by rfl] at *);simp only [show Int.toNat 6=6 by rfl,S.ag] at *;omega)))
     exact Int.natCast_nonneg _
     omega
     · (have hn:=S.om (b:=b) (by with_reducible assumption) (by with_reducible assumption);(have hb:=S.bn h7;(try simp only [S.bI b 2 (by omega) (by omega),show Int.toNat 2=2 by rfl] at *);omega))
     refine⟨(x6+nat_lit 1),?_⟩
     try dsimp only
     with_reducible aa
     omega
     · have hn:=S.om (b:=b) (by with_reducible assumption) (by with_reducible assumption)
       have hb:=S.bn h7
       have hx:(x6:Int)+1<2:=by(have hc:=S.bI b 2 (by omega) (by omega);simp only [hc,show Int.toNat 2=2 by rfl] at *;omega)
       rw [S.gH b 2 x6 hx]
       exact S.LQ h7 (by omega)
     · have hn:=S.om (b:=b) (by with_reducible assumption) (by with_reducible assumption)
       have hb:=S.bn h7
       have hx:(x6:Int)+1<2:=by(have hc:=S.bI b 2 (by omega) (by omega);simp only [hc,show Int.toNat 2=2 by rfl] at *;omega)
       simp only [S.gH b 2 x6 hx,S.jo b 2 x6 hx] at *
       exact S.HW h7 (by with_reducible assumption) (by omega)
     · (have hn:=S.om (b:=b) (by with_reducible assumption) (by with_reducible assumption);(have hb:=S.bn h7;(try simp only [S.bI b 2 (by omega) (by omega),show Int.toNat 2=2 by rfl] at *);simp only [show Int.toNat 6=6 by rfl,S.ag] at *;omega))
   intro fM
   try simp only [df] at fM
   with_reducible aa
   trivial
   · intro dB
     try simp only [nt] at dB
     trivial
   · intro kA
     try simp only [nf] at kA
     trivial
   · intro eX
     try simp only [V.pO,nt,df] at eX
     refine⟨?_,?_⟩
     · have hn:=S.om (b:=b) (by with_reducible assumption) (by with_reducible assumption)
       have hb:=S.bn h7
       have hc:=S.bI b 2 (by omega) (by omega)
       rw [hc] at fM
       have hx:x6+1=2:=by omega
       rw [S.qf hn h7 hx eX rfl]
     have hn:=S.om (b:=b) (by with_reducible assumption) (by with_reducible assumption)
     have hb:=S.bn h7
     have hc:=S.bI b 2 (by omega) (by omega)
     rw [hc] at fM
     have hx:x6+1=2:=by omega
     rw [S.qf hn h7 hx eX rfl]
   intro k9
   try simp only [V.gh,nf,dt] at k9
   refine⟨?_,?_⟩
   · have hn:=S.om (b:=b) (by with_reducible assumption) (by with_reducible assumption)
     have hb:=S.bn h7
     have hc:=S.bI b 2 (by omega) (by omega)
     rw [hc] at fM
     have hx:x6+1=2:=by omega
     rw [S.qg hn h7 hx k9 rfl]
   have hn:=S.om (b:=b) (by with_reducible assumption) (by with_reducible assumption)
   have hb:=S.bn h7
   have hc:=S.bI b 2 (by omega) (by omega)
   rw [hc] at fM
   have hx:x6+1=2:=by omega
   rw [S.qg hn h7 hx k9 rfl]
 intro EC
 try simp only [df] at EC
 with_reducible aa
 iterate 2 omega
 · intro Kx
   try simp only [dt] at Kx
   with_reducible aa
   iterate 2 omega
   · intro y8
     try simp only [dt] at y8
     refine⟨?_,?_⟩
     · (have hn:=S.oq (b:=b) (by with_reducible assumption) (by with_reducible assumption) (by with_reducible assumption);rw [S.nB hn (by omega) (by omega)])
     (have hn:=S.oq (b:=b) (by with_reducible assumption) (by with_reducible assumption) (by with_reducible assumption);rw [S.nB hn (by omega) (by omega)])
   intro Ky
   try simp only [df] at Ky
   with_reducible aa
   iterate 3 omega
   · refine⟨(nat_lit 0:Nat),?_⟩
     try dsimp only
     with_reducible aa
     omega
     · (have hn:=S.oq (b:=b) (by with_reducible assumption) (by with_reducible assumption) (by with_reducible assumption);exact S.anU (by with_reducible assumption) (by with_reducible assumption))
     · (have hn:=S.oq (b:=b) (by with_reducible assumption) (by with_reducible assumption) (by with_reducible assumption);exact S.LO hn (by omega) (by omega))
   intro uI oJ
   refine⟨?_,?_⟩
   · intro h22
     try simp only [dt] at h22
     with_reducible aa
     iterate 4 omega
     · intro h23
       try simp only [nt,df,tn] at h23
       refine⟨?_,?_⟩
       · have hn:=S.oq (b:=b) (by with_reducible assumption) (by with_reducible assumption) (by with_reducible assumption)
         have hb:=S.bn oJ
         have hx:(uI:Int)+1<3:=by(have hc:=S.bI b 3 (by omega) (by omega);simp only [hc,show Int.toNat 3=3 by rfl] at *;omega)
         simp only [S.gH b 3 uI hx,S.jo b 3 uI hx] at *
         rw [S.qd hn oJ (by omega) (by with_reducible assumption)]
       have hn:=S.oq (b:=b) (by with_reducible assumption) (by with_reducible assumption) (by with_reducible assumption)
       have hb:=S.bn oJ
       have hx:(uI:Int)+1<3:=by(have hc:=S.bI b 3 (by omega) (by omega);simp only [hc,show Int.toNat 3=3 by rfl] at *;omega)
       simp only [S.gH b 3 uI hx,S.jo b 3 uI hx] at *
       rw [S.qd hn oJ (by omega) (by with_reducible assumption)]
     intro h24
     try simp only [nf,dt,tn] at h24
     with_reducible aa
     iterate 2 omega
     iterate 3 ((have hn:=S.oq (b:=b) (by with_reducible assumption) (by with_reducible assumption) (by with_reducible assumption);(have hb:=S.bn oJ;(try simp only [S.bI b 3 (by omega) (by omega),show Int.toNat 3=3 by rfl] at *);simp only [show Int.toNat 6=6 by rfl,S.ag] at *;omega)))
     exact Int.natCast_nonneg _
     omega
     · (have hn:=S.oq (b:=b) (by with_reducible assumption) (by with_reducible assumption) (by with_reducible assumption);(have hb:=S.bn oJ;(try simp only [S.bI b 3 (by omega) (by omega),show Int.toNat 3=3 by rfl] at *);omega))
     refine⟨(uI+nat_lit 1),?_⟩
     try dsimp only
     with_reducible aa
     omega
     · have hn:=S.oq (b:=b) (by with_reducible assumption) (by with_reducible assumption) (by with_reducible assumption)
       have hb:=S.bn oJ
       have hx:(uI:Int)+1<3:=by(have hc:=S.bI b 3 (by omega) (by omega);simp only [hc,show Int.toNat 3=3 by rfl] at *;omega)
       rw [S.gH b 3 uI hx]
       exact S.LQ oJ (by omega)
     · have hn:=S.oq (b:=b) (by with_reducible assumption) (by with_reducible assumption) (by with_reducible assumption)
       have hb:=S.bn oJ
       have hx:(uI:Int)+1<3:=by(have hc:=S.bI b 3 (by omega) (by omega);simp only [hc,show Int.toNat 3=3 by rfl] at *;omega)
       simp only [S.gH b 3 uI hx,S.jo b 3 uI hx] at *
       exact S.HW oJ (by with_reducible assumption) (by omega)
     · (have hn:=S.oq (b:=b) (by with_reducible assumption) (by with_reducible assumption) (by with_reducible assumption);(have hb:=S.bn oJ;(try simp only [S.bI b 3 (by omega) (by omega),show Int.toNat 3=3 by rfl] at *);simp only [show Int.toNat 6=6 by rfl,S.ag] at *;omega))
   intro WU
   try simp only [df] at WU
   with_reducible aa
   trivial
   · intro h26
     try simp only [nt] at h26
     trivial
   · intro h27
     try simp only [nf] at h27
     trivial
   · intro h28
     try simp only [V.pO,nt,df] at h28
     refine⟨?_,?_⟩
     · have hn:=S.oq (b:=b) (by with_reducible assumption) (by with_reducible assumption) (by with_reducible assumption)
       have hb:=S.bn oJ
       have hc:=S.bI b 3 (by omega) (by omega)
       rw [hc] at WU
       have hx:uI+1=3:=by omega
       rw [S.qf hn oJ hx h28 rfl]
     have hn:=S.oq (b:=b) (by with_reducible assumption) (by with_reducible assumption) (by with_reducible assumption)
     have hb:=S.bn oJ
     have hc:=S.bI b 3 (by omega) (by omega)
     rw [hc] at WU
     have hx:uI+1=3:=by omega
     rw [S.qf hn oJ hx h28 rfl]
   intro h29
   try simp only [V.gh,nf,dt] at h29
   refine⟨?_,?_⟩
   · have hn:=S.oq (b:=b) (by with_reducible assumption) (by with_reducible assumption) (by with_reducible assumption)
     have hb:=S.bn oJ
     have hc:=S.bI b 3 (by omega) (by omega)
     rw [hc] at WU
     have hx:uI+1=3:=by omega
     rw [S.qg hn oJ hx h29 rfl]
   have hn:=S.oq (b:=b) (by with_reducible assumption) (by with_reducible assumption) (by with_reducible assumption)
   have hb:=S.bn oJ
   have hc:=S.bI b 3 (by omega) (by omega)
   rw [hc] at WU
   have hx:uI+1=3:=by omega
   rw [S.qg hn oJ hx h29 rfl]
 intro h30
 try simp only [df] at h30
 with_reducible aa
 iterate 2 omega
 · intro h31
   try simp only [dt] at h31
   with_reducible aa
   iterate 2 omega
   · intro h32
     try simp only [dt] at h32
     refine⟨?_,?_⟩
     · (have hn:=S.ot (b:=b) (by with_reducible assumption) (by with_reducible assumption) (by with_reducible assumption) (by with_reducible assumption);rw [S.nB hn (by omega) (by omega)])
     (have hn:=S.ot (b:=b) (by with_reducible assumption) (by with_reducible assumption) (by with_reducible assumption) (by with_reducible assumption);rw [S.nB hn (by omega) (by omega)])
   intro h33
   try simp only [df] at h33
   with_reducible aa
   iterate 3 omega
   · refine⟨(nat_lit 0:Nat),?_⟩
     try dsimp only
     with_reducible aa
     omega
     · (have hn:=S.ot (b:=b) (by with_reducible assumption) (by with_reducible assumption) (by with_reducible assumption) (by with_reducible assumption);exact S.anV (by with_reducible assumption) (by with_reducible assumption))
     · (have hn:=S.ot (b:=b) (by with_reducible assumption) (by with_reducible assumption) (by with_reducible assumption) (by with_reducible assumption);exact S.LO hn (by omega) (by omega))
   intro uJ rI
   refine⟨?_,?_⟩
   · intro h36
     try simp only [dt] at h36
     with_reducible aa
     iterate 4 omega
     · intro h37
       try simp only [nt,df,tn] at h37
       refine⟨?_,?_⟩
       · have hn:=S.ot (b:=b) (by with_reducible assumption) (by with_reducible assumption) (by with_reducible assumption) (by with_reducible assumption)
         have hb:=S.bn rI
         have hx:(uJ:Int)+1<4:=by(have hc:=S.bI b 4 (by omega) (by omega);simp only [hc,show Int.toNat 4=4 by rfl] at *;omega)
         simp only [S.gH b 4 uJ hx,S.jo b 4 uJ hx] at *
         rw [S.qd hn rI (by omega) (by with_reducible assumption)]
       have hn:=S.ot (b:=b) (by with_reducible assumption) (by with_reducible assumption) (by with_reducible assumption) (by with_reducible assumption)
       have hb:=S.bn rI
       have hx:(uJ:Int)+1<4:=by(have hc:=S.bI b 4 (by omega) (by omega);simp only [hc,show Int.toNat 4=4 by rfl] at *;omega)
       simp only [S.gH b 4 uJ hx,S.jo b 4 uJ hx] at *
       rw [S.qd hn rI (by omega) (by with_reducible assumption)]
     intro h38
     try simp only [nf,dt,tn] at h38
     with_reducible aa
     iterate 2 omega
     iterate 3 ((have hn:=S.ot (b:=b) (by with_reducible assumption) (by with_reducible assumption) (by with_reducible assumption) (by with_reducible assumption);(have hb:=S.bn rI;(try simp only [S.bI b 4 (by omega) (by omega),show Int.toNat 4=4 by rfl] at *);simp only [show Int.toNat 6=6 by rfl,S.ag] at *;omega)))
     exact Int.natCast_nonneg _
     omega
     · (have hn:=S.ot (b:=b) (by with_reducible assumption) (by with_reducible assumption) (by with_reducible assumption) (by with_reducible assumption);(have hb:=S.bn rI;(try simp only [S.bI b 4 (by omega) (by omega),show Int.toNat 4=4 by rfl] at *);omega))
     refine⟨(uJ+nat_lit 1),?_⟩
     try dsimp only
     with_reducible aa
     omega
     · have hn:=S.ot (b:=b) (by with_reducible assumption) (by with_reducible assumption) (by with_reducible assumption) (by with_reducible assumption)
       have hb:=S.bn rI
       have hx:(uJ:Int)+1<4:=by(have hc:=S.bI b 4 (by omega) (by omega);simp only [hc,show Int.toNat 4=4 by rfl] at *;omega)
       rw [S.gH b 4 uJ hx]
       exact S.LQ rI (by omega)
     · have hn:=S.ot (b:=b) (by with_reducible assumption) (by with_reducible assumption) (by with_reducible assumption) (by with_reducible assumption)
       have hb:=S.bn rI
       have hx:(uJ:Int)+1<4:=by(have hc:=S.bI b 4 (by omega) (by omega);simp only [hc,show Int.toNat 4=4 by rfl] at *;omega)
       simp only [S.gH b 4 uJ hx,S.jo b 4 uJ hx] at *
       exact S.HW rI (by with_reducible assumption) (by omega)
     · (have hn:=S.ot (b:=b) (by with_reducible assumption) (by with_reducible assumption) (by with_reducible assumption) (by with_reducible assumption);(have hb:=S.bn rI;(try simp only [S.bI b 4 (by omega) (by omega),show Int.toNat 4=4 by rfl] at *);simp only [show Int.toNat 6=6 by rfl,S.ag] at *;omega))
   intro WV
   try simp only [df] at WV
   with_reducible aa
   trivial
   · intro Ģ
     try simp only [nt] at Ģ
     trivial
   · intro h41
     try simp only [nf] at h41
     trivial
   · intro h42
     try simp only [V.pO,nt,df] at h42
     refine⟨?_,?_⟩
     · have hn:=S.ot (b:=b) (by with_reducible assumption) (by with_reducible assumption) (by with_reducible assumption) (by with_reducible assumption)
       have hb:=S.bn rI
       have hc:=S.bI b 4 (by omega) (by omega)
       rw [hc] at WV
       have hx:uJ+1=4:=by omega
       rw [S.qf hn rI hx h42 rfl]
     have hn:=S.ot (b:=b) (by with_reducible assumption) (by with_reducible assumption) (by with_reducible assumption) (by with_reducible assumption)
     have hb:=S.bn rI
     have hc:=S.bI b 4 (by omega) (by omega)
     rw [hc] at WV
     have hx:uJ+1=4:=by omega
     rw [S.qf hn rI hx h42 rfl]
   intro h43
   try simp only [V.gh,nf,dt] at h43
   refine⟨?_,?_⟩
   · have hn:=S.ot (b:=b) (by with_reducible assumption) (by with_reducible assumption) (by with_reducible assumption) (by with_reducible assumption)
     have hb:=S.bn rI
     have hc:=S.bI b 4 (by omega) (by omega)
     rw [hc] at WV
     have hx:uJ+1=4:=by omega
     rw [S.qg hn rI hx h43 rfl]
   have hn:=S.ot (b:=b) (by with_reducible assumption) (by with_reducible assumption) (by with_reducible assumption) (by with_reducible assumption)
   have hb:=S.bn rI
   have hc:=S.bI b 4 (by omega) (by omega)
   rw [hc] at WV
   have hx:uJ+1=4:=by omega
   rw [S.qg hn rI hx h43 rfl]
 intro h44
 try simp only [df] at h44
 refine⟨?_,?_⟩
 · rw [S.uf0 (b:=b) (by with_reducible assumption) (by with_reducible assumption) (by with_reducible assumption) (by with_reducible assumption)]
 rw [S.uf0 (b:=b) (by with_reducible assumption) (by with_reducible assumption) (by with_reducible assumption) (by with_reducible assumption)]
theorem ahP(b:List UInt8)(hp:S.small b)(hf:Vg.Row.ok (Vg.PS.flat [.one (.slice [.int .u8])]) b):Vs b:=by
 delta Vs z0
 have eF:b.length≤9223372036854775807:=hf.1.1
 clear hf
 simp only [S.small] at hp
 refine⟨?_,?_⟩
 · refine⟨((b),([])),?_⟩
   try dsimp only
   with_reducible aa
   iterate 2 with_reducible rfl
   exact S.af6 b
 intro x1 h2
 refine⟨?_,?_⟩
 · intro h3
   try simp only [dt] at h3
   with_reducible aa
   omega
   · (have hd:=S.HX h2 (by with_reducible assumption);simp only [S.len,List.length_drop,lc,ln] at *;omega)
   iterate 2 ((have hd:=S.HX h2 (by with_reducible assumption);omega))
   refine⟨((List.drop (Int.toNat (Prod.snd (S.aK (Prod.fst x1)))) (Prod.fst x1)),(Prod.snd x1++ [Prod.fst (S.aK (Prod.fst x1))])),?_⟩
   try dsimp only
   with_reducible aa
   iterate 2 with_reducible rfl
   exact S.E5 h2 h3
   · (have hd:=S.HX h2 (by with_reducible assumption);simp only [S.len,List.length_drop,lc,ln] at *;omega)
 intro h4
 try simp only [df] at h4
 exact(S.JH h2 (by with_reducible assumption))
theorem ahQ(c:Int)(hp:True)(hf:Vg.Row.ok (Vg.PS.flat [.one (.int .i64)]) c):Vt c:=by
 delta Vt q70 aC z0 z1
 have rR: -9223372036854775808≤c∧c≤9223372036854775807:=hf.1
 clear hf
 refine⟨?_,?_⟩
 · refine⟨(nat_lit 0:Nat),?_⟩
   try dsimp only
   refine⟨?_,?_⟩
   · omega
   simp [S.kq]
 intro x1 h2
 refine⟨?_,?_⟩
 · intro h3
   try simp only [dt] at h3
   with_reducible aa
   iterate 2 omega
   · intro h4
     try simp only [V.Ju,dt,tn] at h4
     exact S.LS (x:=x1) (by omega) (S.LW h4)
   intro h5
   try simp only [V.xx,df,tn] at h5
   with_reducible aa
   iterate 2 omega
   refine⟨(x1+nat_lit 1),?_⟩
   try dsimp only
   with_reducible aa
   omega
   exact S.LU (x:=x1) h2 (by omega) (S.TO h5)
   simp only [S.ag];omega
 intro h6
 try simp only [df] at h6
 exact S.LV h2 (by omega)
theorem ahR(c:Int)(hp:True)(hf:Vg.Row.ok (Vg.PS.flat [.one (.int .i64)]) c):Vu c:=by
 unfold Vu
 have rR: -9223372036854775808≤c∧c≤9223372036854775807:=hf.1
 clear hf
 simp only [S.digit];grind
theorem ahS(c:Int)(hp:True)(hf:Vg.Row.ok (Vg.PS.flat [.one (.int .i64)]) c):Vv c:=by
 delta Vv q71 aC z0 z1
 have rR: -9223372036854775808≤c∧c≤9223372036854775807:=hf.1
 clear hf
 refine⟨?_,?_⟩
 · refine⟨(nat_lit 0:Nat),?_⟩
   try dsimp only
   refine⟨?_,?_⟩
   · omega
   simp [S.kS]
 intro x1 h2
 refine⟨?_,?_⟩
 · intro h3
   try simp only [dt] at h3
   with_reducible aa
   iterate 2 omega
   · intro h4
     try simp only [V.Ju,dt,tn] at h4
     with_reducible aa
     iterate 2
      have hs:=(S.E7 (c:=c) (x:=x1) h2 h3 (S.LW h4)).2
      clear h4
      generalize List.getD [32,32,32,32,32,80,32] (Int.toNat (x1:Int)) (0:Int)=X at *
      omega
     exact(S.E7 (x:=x1) h2 (by omega) (S.LW h4)).1
   intro h5
   try simp only [V.xx,df,tn] at h5
   with_reducible aa
   iterate 2 omega
   refine⟨(x1+nat_lit 1),?_⟩
   try dsimp only
   with_reducible aa
   omega
   exact S.Ro (x:=x1) h2 (by omega) (S.TO h5)
   simp only [S.ag];omega
 intro h6
 try simp only [df] at h6
 exact S.Rp h2 (by omega)
theorem ahT(c:Int)(a:Int)(b:Int)(hp:True)(hf:Vg.Row.ok (Vg.PS.flat [.one (.int .i64), .one (.int .i64), .one (.int .i64)]) (c,a,b)):Vw c a b:=by
 unfold Vw
 have rR: -9223372036854775808≤c∧c≤9223372036854775807:=hf.1
 have yb: -9223372036854775808≤a∧a≤9223372036854775807:=hf.2.1
 have eF: -9223372036854775808≤b∧b≤9223372036854775807:=hf.2.2.1
 clear hf
 simp only [S.bz];grind
theorem ahU(c:Int)(hp:True)(hf:Vg.Row.ok (Vg.PS.flat [.one (.int .i64)]) c):Vx c:=by
 delta Vx z0
 have rR: -9223372036854775808≤c∧c≤9223372036854775807:=hf.1
 clear hf
 simp only [S.gY];grind
theorem ahV(c:Int)(hp:0≤c∧c≤1114111)(hf:Vg.Row.ok (Vg.PS.flat [.one (.int .i64)]) c):Vz c:=by
 delta Vz q72 Vy q74 aC z0
 have rR: -9223372036854775808≤c∧c≤9223372036854775807:=hf.1
 clear hf
 refine⟨?_,?_⟩
 · intro h1
   try simp only [dt] at h1
   exact S.Ŏ c (by omega) (by omega)
 intro h2
 try simp only [df] at h2
 refine⟨?_,?_⟩
 · intro h3
   try simp only [dt] at h3
   with_reducible aa
   iterate 8 omega
   exact S.ŏ c (by omega) (by omega)
 intro h4
 try simp only [df] at h4
 refine⟨?_,?_⟩
 · intro h5
   try simp only [dt] at h5
   with_reducible aa
   iterate 14 omega
   exact S.Ő c (by omega) (by omega)
 intro h6
 try simp only [df] at h6
 with_reducible aa
 iterate 20 omega
 exact S.ő c (by omega) (by omega) (by omega)
theorem ahW(a:Int)(b:Int)(hp:True)(hf:Vg.Row.ok (Vg.PS.flat [.one (.int .i64), .one (.int .i64)]) (a,b)):VA a b:=by
 unfold VA
 have yb: -9223372036854775808≤a∧a≤9223372036854775807:=hf.1
 have eF: -9223372036854775808≤b∧b≤9223372036854775807:=hf.2.1
 clear hf
 refine⟨?_,?_⟩
 · intro h1
   try simp only [dt] at h1
   simp only [S.jq];grind
 intro h2
 try simp only [df] at h2
 simp only [S.jq];grind
theorem ahX(c:Int)(hp:True)(hf:Vg.Row.ok (Vg.PS.flat [.one (.int .i64)]) c):VB c:=by
 unfold VB
 have rR: -9223372036854775808≤c∧c≤9223372036854775807:=hf.1
 clear hf
 with_reducible aa
 trivial
 · intro h1
   trivial
 · intro h2
   with_reducible aa
   trivial
   · intro h3
     trivial
   intro h4
   with_reducible aa
   trivial
   · intro h5
     trivial
   intro h6
   with_reducible aa
   trivial
   · intro h7
     trivial
   intro h8
   with_reducible aa
   trivial
   · intro h9
     trivial
   intro c5
   with_reducible aa
   trivial
   · intro fM
     trivial
   intro dB
   with_reducible aa
   trivial
   · intro kA
     trivial
   intro eX
   with_reducible aa
   trivial
   · intro k9
     trivial
   intro EC
   trivial
 rw [S.Cr];grind
theorem ahY(c:Int)(hp:True)(hf:Vg.Row.ok (Vg.PS.flat [.one (.int .i64)]) c):VC c:=by
 delta VC q75 aC
 have rR: -9223372036854775808≤c∧c≤9223372036854775807:=hf.1
 clear hf
 with_reducible aa
 trivial
 · intro h1
   with_reducible aa
   iterate 2 (have :=S.qi (by with_reducible assumption);omega)
   have :=S.qi (by with_reducible assumption);omega
 intro h2
 with_reducible aa
 trivial
 · intro h3
   trivial
 · intro h4
   with_reducible aa
   trivial
   · intro h5
     trivial
   intro h6
   with_reducible aa
   trivial
   · intro h7
     trivial
   intro h8
   with_reducible aa
   trivial
   · intro h9
     trivial
   intro c5
   with_reducible aa
   trivial
   · intro fM
     trivial
   intro dB
   trivial
 · intro kA
   try simp only [V.pO] at kA
   with_reducible aa
   iterate 2 (have :=S.qj (by with_reducible assumption) (by grind);omega)
   have :=S.qj (by with_reducible assumption) (by grind);omega
 intro eX
 try simp only [V.gh] at eX
 exact S.qk (by with_reducible assumption) (by grind)
theorem ahZ(b:List UInt8)(n:Int)(hp:S.uo b n)(hf:Vg.Row.ok (Vg.PS.flat [.one (.slice [.int .u8]), .one (.int .i64)]) (b,n)):VD b n:=by
 delta VD q76 aC z0 z1 an
 have eF:b.length≤9223372036854775807:=hf.1.1
 have WK: -9223372036854775808≤n∧n≤9223372036854775807:=hf.2.1
 clear hf
 have la:=hp
 simp only [S.uo] at la
 refine⟨?_,?_⟩
 · intro h1
   try simp only [dt] at h1
   exact S.JM (by omega)
 intro h2
 try simp only [df] at h2
 with_reducible aa
 iterate 3 omega
 iterate 2 (simp only [lc,ln];omega)
 iterate 2 (have h1:=S.Cs b n 0 (by omega);have h2:=S.E9 (b:=b) (n:=n);rw [h2];omega)
 · refine⟨(nat_lit 1:Nat),?_⟩
   try dsimp only
   with_reducible aa
   omega
   exact S.E9
   simp only [S.lY,S.ag] at *;omega
 intro x3 h4
 refine⟨?_,?_⟩
 · intro h5
   try simp only [dt] at h5
   with_reducible aa
   iterate 2 (have hq:=S.M9 (by with_reducible assumption) hp;have :=(List.getD b (Int.toNat (x3:Int)) 0).toNat_lt;omega)
   iterate 2 omega
   iterate 4 (have hq:=S.M9 (by with_reducible assumption) hp;have :=(List.getD b (Int.toNat (x3:Int)) 0).toNat_lt;omega)
   iterate 2 omega
   refine⟨(x3+nat_lit 1),?_⟩
   try dsimp only
   with_reducible aa
   omega
   exact S.Rt (by with_reducible assumption)
   · simp only [S.lY,S.ag] at *;omega
   simp only [S.lY,S.ag] at *;omega
 intro h6
 try simp only [df] at h6
 exact S.TW (by with_reducible assumption) (by omega)
theorem ah0(b:List UInt8)(hp:S.small b)(hf:Vg.Row.ok (Vg.PS.flat [.one (.slice [.int .u8])]) b):VE b:=by
 delta VE Sn Ip wA q80 aC z0 z1 an
 have eF:b.length≤9223372036854775807:=hf.1.1
 clear hf
 have la:b.length≤1099511627776:=by have :=hp;simp only [S.small] at this;omega
 refine⟨?_,?_⟩
 · refine⟨((nat_lit 0:Nat),([])),?_⟩
   try dsimp only
   with_reducible aa
   omega
   rfl
   exact S.Œ b
   omega
 intro x1 h2
 refine⟨?_,?_⟩
 · intro h3
   try simp only [dt] at h3
   refine⟨?_,?_⟩
   · refine⟨(0,x1.1),?_⟩
     try dsimp only
     with_reducible aa
     omega
     iterate 2 rfl
     iterate 2 omega
   intro x4 h5
   refine⟨?_,?_⟩
   · intro h6
     try simp only [dt] at h6
     with_reducible aa
     iterate 2 omega
     · simp only [S.uo,List.length_drop];omega
     trivial
     · intro h7
       with_reducible aa
       iterate 2 (have :=S.LZ h7;omega)
       iterate 2 omega
       trivial
       omega
       · simp only [S.jq];split<;>omega
       simp only [S.jq];split<;>omega
     · intro h8
       trivial
     iterate 2 omega
     refine⟨(x4.1+1,x1.1),?_⟩
     try dsimp only
     with_reducible aa
     omega
     rw [S.Fa (x4:=x4) h3 h5,S.Rv]
     rw [S.Fa (x4:=x4) h3 h5,S.Rw]
     iterate 2 omega
     simp only [S.ag];omega
   intro h9
   try simp only [df] at h9
   with_reducible aa
   · have hq:=S.lK h2 h3 h5 h9
     simp only [lc,ln];omega
   iterate 2
    have hq:=S.lK h2 h3 h5 h9
    omega
   refine⟨((Int.toNat ((↑(Prod.fst x1):Int)+Prod.snd (S.eD (List.drop (Prod.snd x4) b) (Prod.fst x4)))),(Prod.snd x1++ [Prod.fst (S.eD (List.drop (Prod.snd x4) b) (Prod.fst x4))])),?_⟩
   try dsimp only
   with_reducible aa
   · have hq:=S.lK h2 h3 h5 h9
     omega
   rfl
   · have hq:=S.lK h2 h3 h5 h9
     exact hq.2.2.1
   · have hq:=S.lK h2 h3 h5 h9
     omega
   have hq:=S.lK h2 h3 h5 h9
   simp only [S.ag,S.len];omega
 intro c5
 try simp only [df] at c5
 have hq:=S.JH h2.1 (by rw [List.length_drop];omega)
 exact hq
theorem ah1(u:List Int)(hp:S.Ew u)(hf:Vg.Row.ok (Vg.PS.flat [.one (.slice [.int .i64])]) u):VG u:=by
 delta VG VF q82 aC eS z0 z1 an
 have aoC:u.length≤9223372036854775807:=hf.1.1
 clear hf
 have hq:=hp.1
 refine⟨?_,?_⟩
 · refine⟨((nat_lit 0:Nat),([])),?_⟩
   try dsimp only
   with_reducible aa
   omega
   rfl
   exact S.Na u
 intro x1 h2
 refine⟨?_,?_⟩
 · intro h3
   try simp only [dt] at h3
   with_reducible aa
   iterate 2 omega
   iterate 2 trivial
   omega
   · have :=h2.2.2;have :=S.Fc (S.aR (List.getD u (Int.toNat (x1.1:Int)) 0));omega
   · intro h4
     try simp only [dt,tn] at h4
     exact S.Cu h2 h3 h4
   intro h5
   try simp only [df,tn] at h5
   with_reducible aa
   · have :=h2.2.2;have :=S.Fc (S.aR (List.getD u (Int.toNat (x1.1:Int)) 0));omega
   iterate 2 omega
   refine⟨((Prod.fst x1+nat_lit 1),(Prod.snd x1++S.eo (S.aR (List.getD u (Int.toNat (↑(Prod.fst x1):Int)) (0:Int))))),?_⟩
   try dsimp only
   with_reducible aa
   omega
   rfl
   exact S.Ct h2 h3 h5
   simp only [S.ag,S.len];omega
 intro h6
 try simp only [df] at h6
 exact S.Fb h2 (by with_reducible assumption)
theorem ah2(b:List UInt8)(hp:S.small b)(hf:Vg.Row.ok (Vg.PS.flat [.one (.slice [.int .u8])]) b):VI b:=by
 delta VI Iq VH My aC z0 z1 an
 have eF:b.length≤9223372036854775807:=hf.1.1
 clear hf
 have la:b.length≤1099511627776:=hp
 with_reducible aa
 omega
 · refine⟨((nat_lit 0:Nat),(([]),([]))),?_⟩
   try dsimp only
   with_reducible aa
   omega
   iterate 2 with_reducible rfl
   exact S.af8 _
 intro x1 h2
 refine⟨?_,?_⟩
 · intro h3
   try simp only [dt] at h3
   with_reducible aa
   iterate 3 omega
   trivial
   · intro h4
     trivial
   · intro h5
     trivial
   · intro h6
     try simp only [V.pO] at h6
     with_reducible aa
     · (have hq:=S.kT h2 la;simp only [lc,ln];omega)
     omega
     · (have hq:=S.kT h2 la;omega)
     refine⟨((Prod.fst x1+nat_lit 1),((Prod.fst (Prod.snd x1)),(Prod.snd (Prod.snd x1)++ [List.getD (S.decode b) (Int.toNat (↑(Prod.fst x1):Int)) (0:Int)]))),?_⟩
     try dsimp only
     with_reducible aa
     omega
     iterate 2 with_reducible rfl
     exact S.Rx h2 h3 (S.TY (by with_reducible assumption))
     · (have hq:=S.kT h2 la;simp only [S.ag,S.len];omega)
   intro h7
   try simp only [V.gh] at h7
   refine⟨?_,?_⟩
   · intro h8
     try simp only [dt] at h8
     with_reducible aa
     · (have hq:=S.kT h2 la;exact hq.1)
     · (have hq:=S.kT h2 la;simp only [lc,ln];omega)
     omega
     · (have hq:=S.kT h2 la;omega)
     refine⟨((Prod.fst x1+nat_lit 1),((Prod.fst (Prod.snd x1)++ [S.c9 (Prod.snd (Prod.snd x1))]),([]))),?_⟩
     try dsimp only
     with_reducible aa
     omega
     iterate 2 with_reducible rfl
     exact S.TX h2 h3 (S.JO (by with_reducible assumption)) (by with_reducible assumption)
     · (have hq:=S.kT h2 la;simp only [S.ag,S.len];omega)
   intro h9
   try simp only [df] at h9
   with_reducible aa
   omega
   · (have hq:=S.kT h2 la;omega)
   refine⟨((Prod.fst x1+nat_lit 1),((Prod.fst (Prod.snd x1)),(Prod.snd (Prod.snd x1)))),?_⟩
   try dsimp only
   with_reducible aa
   omega
   iterate 2 with_reducible rfl
   exact S.Ry h2 h3 (S.JO (by with_reducible assumption)) (by with_reducible assumption)
   · (have hq:=S.kT h2 la;simp only [S.ag,S.len];omega)
 intro c5
 try simp only [df] at c5
 refine⟨?_,?_⟩
 · intro fM
   try simp only [dt] at fM
   with_reducible aa
   · (have hq:=S.kT h2 la;exact hq.1)
   · (have hq:=S.kT h2 la;simp only [lc,ln];omega)
   exact S.Rz h2 (by with_reducible assumption) (by with_reducible assumption)
 intro dB
 try simp only [df] at dB
 exact S.RA h2 (by with_reducible assumption) (by with_reducible assumption)
theorem ah3(s:List UInt8)(hp:S.small s)(hf:Vg.Row.ok (Vg.PS.flat [.one (.str)]) s):VJ s:=by
 delta VJ z0 z1 an
 have Kw:s.length≤9223372036854775807:=hf.1
 clear hf
 with_reducible aa
 omega
 · intro h1
   try simp only [dt] at h1
   with_reducible aa
   iterate 3 omega
 · intro h2
   try simp only [df] at h2
   trivial
 exact S.RE s
theorem ah4(c:Int)(hp:True)(hf:Vg.Row.ok (Vg.PS.flat [.one (.int .i64)]) c):VK c:=by
 unfold VK
 have rR: -9223372036854775808≤c∧c≤9223372036854775807:=hf.1
 clear hf
 refine⟨?_,?_⟩
 · trivial
 exact S.RF c
theorem ah5(u:List Int)(hp:S.Ew u)(hf:Vg.Row.ok (Vg.PS.flat [.one (.slice [.int .i64])]) u):VL u:=by
 delta VL Mz q87 aC z0 z1 an
 have aoC:u.length≤9223372036854775807:=hf.1.1
 clear hf
 have hq:=hp.1
 refine⟨?_,?_⟩
 · refine⟨((nat_lit 0:Nat),([])),?_⟩
   try dsimp only
   with_reducible aa
   omega
   with_reducible rfl
   exact S.Na u
 intro x1 h2
 refine⟨?_,?_⟩
 · intro h3
   try simp only [dt] at h3
   with_reducible aa
   iterate 2 omega
   trivial
   · (have he:=S.ov hp h3;exact he.2.1)
   · (have he:=S.ov hp h3;exact he.2.2)
   omega
   · (have he:=S.ov hp h3;have :=h2.2.2;have :=S.Cv (S.aR (List.getD u (Int.toNat (x1.1:Int)) 0));omega)
   · intro h4
     try simp only [dt,tn] at h4
     have he:=(S.ov hp h3).1
     simp only [tn] at *
     rw [←he] at h4
     exact S.Cu h2 h3 h4
   intro h5
   try simp only [df,tn] at h5
   with_reducible aa
   · (have he:=S.ov hp h3;have :=h2.2.2;have :=S.Cv (S.aR (List.getD u (Int.toNat (x1.1:Int)) 0));omega)
   iterate 2 omega
   refine⟨((Prod.fst x1+nat_lit 1),(Prod.snd x1++S.enc (S.aR (List.getD u (Int.toNat (↑(Prod.fst x1):Int)) (0:Int))))),?_⟩
   try dsimp only
   with_reducible aa
   omega
   with_reducible rfl
   · have he:=(S.ov hp h3).1
     simp only [tn] at *
     rw [←he] at h5 ⊢
     exact S.Ct h2 h3 h5
   · (have he:=S.ov hp h3;simp only [S.ag,S.len];omega)
 intro h6
 try simp only [df] at h6
 exact S.Fb h2 (by with_reducible assumption)
theorem ah6(b:List UInt8)(hp:S.small b)(hf:Vg.Row.ok (Vg.PS.flat [.one (.slice [.int .u8])]) b):VN b:=by
 delta VN q88 q89 VM aC z0 z1 an
 have eF:b.length≤9223372036854775807:=hf.1.1
 clear hf
 have la:b.length≤1099511627776:=hp
 have SE:=S.my b
 with_reducible aa
 omega
 · refine⟨((nat_lit 0:Nat),([])),?_⟩
   try dsimp only
   with_reducible aa
   omega
   with_reducible rfl
   exact S.œ _
 intro x1 h2
 refine⟨?_,?_⟩
 · intro h3
   try simp only [dt] at h3
   refine⟨?_,?_⟩
   · refine⟨((Prod.fst x1),(Prod.fst x1)),?_⟩
     try dsimp only
     with_reducible aa
     omega
     exact S.af9 h3
     omega
   intro x4 h5
   with_reducible aa
   · intro h6
     try simp only [dt] at h6
     with_reducible aa
     iterate 3 omega
     trivial
   · intro h7
     try simp only [df] at h7
     trivial
   · intro h8
     try simp only [V.Ju,dt] at h8
     with_reducible aa
     iterate 2 omega
     refine⟨((Prod.fst x4+nat_lit 1),(Prod.fst x1)),?_⟩
     try dsimp only
     with_reducible aa
     omega
     · rw [show x4.2=x1.1 by omega] at h5
       exact S.RB h5.1 h8.1 h8.2
     omega
     · (have :=h2.2.1;have :=h2.2.2;simp only [S.ag,S.len];omega)
   intro h9
   try simp only [V.xx,df] at h9
   refine⟨?_,?_⟩
   · intro c5
     try simp only [dt] at c5
     with_reducible aa
     iterate 2 omega
     · have hr:=h5.1.1
       have ĵ:=h5.1.2.1
       omega
     exact S.Ŕ la
     · (have :=h2.2.1;have :=h2.2.2;simp only [lc,ln];omega)
     omega
     · have hr:=h5.1.1
       have ĵ:=h5.1.2.1
       omega
     refine⟨((Prod.fst x4+nat_lit 1),(Prod.snd x1++ [S.c9 (List.take (Int.toNat (↑(Prod.fst x4):Int)-Int.toNat (↑(Prod.fst x1):Int)) (List.drop (Int.toNat (↑(Prod.fst x1):Int)) (S.decode b)))])),?_⟩
     try dsimp only
     with_reducible aa
     omega
     with_reducible rfl
     · rw [show x4.2=x1.1 by omega] at h5
       exact S.RC h2 h5.1 h9 c5
     · (have :=h2.2.1;have :=h2.2.2;simp only [S.ag,S.len];omega)
   intro fM
   try simp only [df] at fM
   with_reducible aa
   iterate 2 omega
   refine⟨((Prod.fst x4+nat_lit 1),(Prod.snd x1)),?_⟩
   try dsimp only
   with_reducible aa
   omega
   with_reducible rfl
   · rw [show x4.2=x1.1 by omega] at h5
     exact S.L0 h2 h3 h5.1 h9 fM
   have hr:=h5.1.1
   have ĵ:=h5.1.2.1
   simp only [S.ag,S.len];omega
 intro dB
 try simp only [df] at dB
 exact S.RD h2 (by with_reducible assumption)
theorem ah7(l:List (List UInt8))(hp:True)(hf:Vg.Row.ok (Vg.PS.flat [.one (.slice [.str])]) l):VO l:=by
 delta VO aC z0 z1 an
 have gj:l.length≤9223372036854775807:=hf.1.1
 clear hf
 refine⟨?_,?_⟩
 · refine⟨(nat_lit 1:Nat),?_⟩
   try dsimp only
   with_reducible aa
   omega
   · rw [S.JN];rfl
   exact⟨Nat.le_refl _, .inr rfl⟩
 intro x1 h2
 refine⟨?_,?_⟩
 · intro h3
   try simp only [dt] at h3
   with_reducible aa
   iterate 3 omega
   · have :=S.tc (l:=l) x1 (by omega) (by have :=h2.2;omega);omega
   iterate 2 omega
   refine⟨(x1+nat_lit 1),?_⟩
   try dsimp only
   with_reducible aa
   omega
   exact S.JP l x1
   · simp only [S.nC] at *;omega
   simp only [S.ag,S.len];omega
 intro h4
 try simp only [df] at h4
 rw [S.L1 h2 h4]
theorem ah8(l:List (List UInt8))(hp:S.small l)(hf:Vg.Row.ok (Vg.TA.eI [.own 50000]) ())(hg:Vg.fJ.ok [.row 9 [.str]] (l,())):VP l:=by
 delta VP Ir aC z0 z1
 have gj:l.length≤9223372036854775807:=hg.1.1
 clear hf hg
 have la:l.length≤1099511627776:=hp
 refine⟨?_,?_⟩
 · refine⟨((l),([])),?_⟩
   try dsimp only
   with_reducible aa
   iterate 2 with_reducible rfl
   exact S.ŕ l
 intro x1 h2
 refine⟨?_,?_⟩
 · intro h3
   try simp only [dt] at h3
   with_reducible aa
   trivial
   omega
   iterate 2 (have :=S.tf (l:=x1.1) (by omega);omega)
   · have :=h2.2;simp only [lc,ln];omega
   · refine⟨((nat_lit 0:Nat),(([]),((Prod.fst x1),(List.getD (Prod.fst x1) (Int.toNat (↑(S.cm (Prod.fst x1)):Int)) [])))),?_⟩
     try dsimp only
     with_reducible aa
     omega
     with_reducible rfl
     exact S.Ŗ _ _
     iterate 2 with_reducible rfl
   intro x4 h5
   refine⟨?_,?_⟩
   · intro h6
     try simp only [dt] at h6
     with_reducible aa
     iterate 3 omega
     · intro h7
       try simp only [nt,df,tn] at h7
       with_reducible aa
       iterate 3 omega
       · have hr:=S.RH h5.1;have :=h2.2;simp only [lc,ln];omega
       omega
       · have :=h2.2;omega
       refine⟨((Prod.fst x4+nat_lit 1),((Prod.fst (Prod.snd x4)++ [List.getD (Prod.fst x1) (Int.toNat (↑(Prod.fst x4):Int)) []]),((Prod.fst x1),(List.getD (Prod.fst x1) (Int.toNat (↑(S.cm (Prod.fst x1)):Int)) [])))),?_⟩
       try dsimp only
       with_reducible aa
       omega
       with_reducible rfl
       exact S.L4 (S.xF h5) h6 (by simpa using h7)
       iterate 2 with_reducible rfl
       have e:x1.1=x4.2.2.1:=h5.2.1;simp only [S.ag,S.len,←e];omega
     intro h8
     try simp only [nf,dt,tn] at h8
     with_reducible aa
     omega
     · have :=h2.2;omega
     refine⟨((Prod.fst x4+nat_lit 1),((Prod.fst (Prod.snd x4)),((Prod.fst x1),(List.getD (Prod.fst x1) (Int.toNat (↑(S.cm (Prod.fst x1)):Int)) [])))),?_⟩
     try dsimp only
     with_reducible aa
     omega
     with_reducible rfl
     exact S.L5 (S.xF h5) h6 (by simpa using h8)
     iterate 2 with_reducible rfl
     have e:x1.1=x4.2.2.1:=h5.2.1;simp only [S.ag,S.len,←e];omega
   intro h9
   try simp only [df] at h9
   refine⟨((Prod.fst (Prod.snd x4)),(Prod.snd x1++ [List.getD (Prod.fst x1) (Int.toNat (↑(S.cm (Prod.fst x1)):Int)) []])),?_⟩
   try dsimp only
   with_reducible aa
   iterate 2 with_reducible rfl
   exact(S.Cx h2 h3 (S.xF h5) h9).1
   exact(S.Cx h2 h3 (S.xF h5) h9).2
 intro c5
 try simp only [df] at c5
 exact S.RG h2 c5
theorem ah9(b:List UInt8)(hp:S.small b)(hf:Vg.Row.ok (Vg.PS.flat [.one (.slice [.int .u8])]) b):VQ b:=by
 unfold VQ
 have eF:b.length≤9223372036854775807:=hf.1.1
 clear hf
 with_reducible aa
 exact hp
 · have hq:=S.rm b;simp only [S.small] at *;omega
 rfl
theorem aia(b:List UInt8)(t:List UInt8)(hp:S.small b)(hf:Vg.Row.ok (Vg.PS.flat [.one (.slice [.int .u8]), .one (.str)]) (b,t)):VR b t:=by
 delta VR aC z0 z1 an
 have eF:b.length≤9223372036854775807:=hf.1.1
 have aoD:t.length≤9223372036854775807:=hf.2.1
 clear hf
 have hq:=S.rm b
 have la:b.length≤1099511627776:=hp
 with_reducible aa
 omega
 · refine⟨((nat_lit 0:Nat),([])),?_⟩
   try dsimp only
   with_reducible aa
   omega
   with_reducible rfl
   exact S.RJ _ _
 intro x1 h2
 refine⟨?_,?_⟩
 · intro h3
   try simp only [dt] at h3
   with_reducible aa
   iterate 3 omega
   · intro h4
     try simp only [dt,tn] at h4
     with_reducible aa
     · (have :=h2.2.2;simp only [lc,ln];omega)
     iterate 2 omega
     refine⟨((Prod.fst x1+nat_lit 1),(Prod.snd x1++ [(↑(Prod.fst x1):Int)])),?_⟩
     try dsimp only
     with_reducible aa
     omega
     with_reducible rfl
     exact S.H2 h2 h3 h4
     · (have :=h2.2.2;simp only [S.ag,S.len];omega)
   intro h5
   try simp only [df,tn] at h5
   with_reducible aa
   iterate 2 omega
   refine⟨((Prod.fst x1+nat_lit 1),(Prod.snd x1)),?_⟩
   try dsimp only
   with_reducible aa
   omega
   with_reducible rfl
   exact S.H3 h2 h3 h5
   · (have :=h2.2.2;simp only [S.ag,S.len];omega)
 intro h6
 try simp only [df] at h6
 exact S.JQ h2 (by with_reducible assumption)
theorem aib(s:List UInt8)(hp:True)(hf:Vg.Row.ok (Vg.PS.flat [.one (.str)]) s):VS s:=by
 unfold VS
 have Kw:s.length≤9223372036854775807:=hf.1
 clear hf
 simp
theorem aic(a:List UInt8)(b:List UInt8)(hp:True)(hf:Vg.Row.ok (Vg.PS.flat [.one (.str), .one (.str)]) (a,b)):VT a b:=by
 delta VT z0 z1
 have yb:a.length≤9223372036854775807:=hf.1
 have eF:b.length≤9223372036854775807:=hf.2.1
 clear hf
 with_reducible aa
 iterate 2 trivial
 · intro h1
   refine⟨?_,?_⟩
   · intro h2
     simp only [S.fA] at *;grind [S.bO,S.fX,S.gM]
   intro h3
   simp only [S.fA] at *;grind [S.bO,S.fX,S.gM]
 intro h4
 refine⟨?_,?_⟩
 · intro h5
   simp only [S.fA] at *;grind [S.bO,S.fX,S.gM]
 intro h6
 refine⟨?_,?_⟩
 · intro h7
   simp only [S.fA] at *;grind [S.bO,S.fX,S.gM]
 intro h8
 refine⟨?_,?_⟩
 · intro h9
   try simp only [nt] at h9
   simp only [S.fA] at *;grind [S.bO,S.fX,S.gM]
 intro c5
 try simp only [nf] at c5
 simp only [S.fA] at *;grind [S.bO,S.fX,S.gM]
theorem aid(a:List UInt8)(b:List UInt8)(hp:True)(hf:Vg.Row.ok (Vg.TA.eI [.iO (.str), .iO (.str), .ref 50000 0]) (a,b))(hg:Vg.fJ.ok [.cells [.fn (.func 161) [] []]] ((),())):VU a b:=by
 delta VU z0
 have yb:a.length≤9223372036854775807:=hf.1
 have eF:b.length≤9223372036854775807:=hf.2.1
 clear hf hg
 refine⟨?_,?_⟩
 · trivial
 exact S.ŗ a b
theorem aie(l:List (List UInt8))(hp:S.small l)(hf:Vg.Row.ok (Vg.TA.eI [.own 50000, .fn (.func 181) [] [.ref 50001 0]]) ())(hg:Vg.fJ.ok [.row 9 [.str], .cells [.fn (.func 161) [] []]] (l,((),()))):VV l:=by
 delta VV aC z0 z1 an
 have gj:l.length≤9223372036854775807:=hg.1.1
 clear hf hg
 have la:l.length≤1099511627776:=hp
 refine⟨?_,?_⟩
 · intro h1
   try simp only [dt] at h1
   exact S.L8 h1
 intro h2
 try simp only [df] at h2
 refine⟨?_,?_⟩
 · refine⟨(nat_lit 1:Nat),?_⟩
   try dsimp only
   refine⟨?_,?_⟩
   · omega
   exact S.agb h2
 intro x3 h4
 refine⟨?_,?_⟩
 · intro h5
   try simp only [dt] at h5
   with_reducible aa
   iterate 5 omega
   · have :=h4.1;omega
   iterate 2 omega
   trivial
   · intro h6
     try simp only [dt,tn] at h6
     with_reducible aa
     iterate 2 omega
     · refine⟨((x3),((nat_lit 1:Nat),((l),(x3)))),?_⟩
       try dsimp only
       with_reducible aa
       iterate 2 omega
       trivial
       exact S.Ř h4 h5 h6
       omega
     intro x7 h8
     refine⟨?_,?_⟩
     · intro h9
       try simp only [dt,tn] at h9
       with_reducible aa
       iterate 2 omega
       · have q1:=h8.1.1;have q2:=h8.1.2.1;have q3:=h8.1.2.2.2.1;have q4:=h8.1.2.2.2.2.1;have q5:=h8.2;omega
       iterate 2 omega
       · have q1:=h8.1.1;have q2:=h8.1.2.1;have q3:=h8.1.2.2.2.1;have q4:=h8.1.2.2.2.2.1;have q5:=h8.2;omega
       omega
       · have q1:=h8.1.1;have q2:=h8.1.2.1;have q3:=h8.1.2.2.2.1;have q4:=h8.1.2.2.2.2.1;have q5:=h8.2;omega
       trivial
       · intro c5
         try simp only [nt,df,tn] at c5
         with_reducible aa
         iterate 2 omega
         · have q1:=h8.1.1;have q2:=h8.1.2.1;have q3:=h8.1.2.2.2.1;have q4:=h8.1.2.2.2.2.1;have q5:=h8.2;omega
         omega
         iterate 2 (have q1:=h8.1.1;have q2:=h8.1.2.1;have q3:=h8.1.2.2.2.1;have q4:=h8.1.2.2.2.2.1;have q5:=h8.2;omega)
         omega
         have q1:=h8.1.1;have q2:=h8.1.2.1;have q3:=h8.1.2.2.2.1;have q4:=h8.1.2.2.2.2.1;have q5:=h8.2;omega
       · intro fM
         try simp only [nf,dt,tn] at fM
         trivial
       iterate 2 omega
       refine⟨((Int.toNat (bif !Decidable.decide (List.getD (Prod.fst (Prod.snd (Prod.snd x7))) (Int.toNat (↑x3:Int)+Int.toNat (↑(Prod.fst (Prod.snd x7)):Int)) []=List.getD (Prod.fst (Prod.snd (Prod.snd x7))) (Int.toNat (↑x3:Int)+Int.toNat ((↑(Prod.fst (Prod.snd x7)):Int)-(1:Int))) []) then(↑(Prod.fst x7):Int)+(1:Int) else(↑(Prod.fst x7):Int))),((Prod.fst (Prod.snd x7)+nat_lit 1),((bif !Decidable.decide (List.getD (Prod.fst (Prod.snd (Prod.snd x7))) (Int.toNat (↑x3:Int)+Int.toNat (↑(Prod.fst (Prod.snd x7)):Int)) []=List.getD (Prod.fst (Prod.snd (Prod.snd x7))) (Int.toNat (↑x3:Int)+Int.toNat ((↑(Prod.fst (Prod.snd x7)):Int)-(1:Int))) []) then List.set (Prod.fst (Prod.snd (Prod.snd x7))) (Int.toNat (↑(Prod.fst x7):Int)) (List.getD (Prod.fst (Prod.snd (Prod.snd x7))) (Int.toNat (↑x3:Int)+Int.toNat (↑(Prod.fst (Prod.snd x7)):Int)) []) else Prod.fst (Prod.snd (Prod.snd x7))),(x3)))),?_⟩
       try dsimp only
       with_reducible aa
       · generalize (!decide (List.getD x7.2.2.1 (Int.toNat (x3:Int)+Int.toNat (x7.2.1:Int)) []=List.getD x7.2.2.1 (Int.toNat (x3:Int)+Int.toNat ((x7.2.1:Int)-1)) []))=c
         cases c<;>simp only [cond_true,cond_false]<;>omega
       omega
       trivial
       · have q1:=h8.1.1
         have e3:x7.2.2.2=x3:=by have :=h8.2;omega
         have hi:=h8.1
         rw [e3] at hi
         have e1:Int.toNat (x3:Int)+Int.toNat (x7.2.1:Int)=x3+x7.2.1:=by omega
         have e2:Int.toNat (x3:Int)+Int.toNat ((x7.2.1:Int)-1)=x3+x7.2.1-1:=by omega
         rw [e1,e2]
         by_cases hd:List.getD x7.2.2.1 (x3+x7.2.1) []=List.getD x7.2.2.1 (x3+x7.2.1-1) []
         · rw [decide_eq_true hd]
           exact S.L9 hi (by omega) hd
         rw [decide_eq_false hd]
         exact S.RM hi (by omega) hd
       omega
       simp only [S.ag,S.len]
       have q2:=h8.1.2.1
       omega
     intro dB
     try simp only [df,tn] at dB
     with_reducible aa
     omega
     iterate 2
      have q1:=h8.1.2.1
      have q2:=h8.1.2.2.2.1
      have q3:=h8.1.2.2.2.2.1
      omega
     omega
     · have q1:=h8.1.2.1
       have q2:=h8.1.2.2.2.1
       have q3:=h8.1.2.2.2.2.1
       simp only [List.length_append,List.length_take]
       omega
     have q1:=h8.1.2.1
     have q2:=h8.1.2.2.2.1
     have q3:=h8.1.2.2.2.2.1
     have e1:Int.toNat (x7.1:Int)=x7.1:=by omega
     rw [e1,S.J3 (by omega)]
     exact S.RN h8.1 (by have :=h8.2;omega)
   intro kA
   try simp only [df,tn] at kA
   with_reducible aa
   iterate 2 omega
   refine⟨(x3+nat_lit 1),?_⟩
   try dsimp only
   with_reducible aa
   omega
   exact S.RL h4 h5 kA
   simp only [S.ag,S.len]
   omega
 intro eX
 try simp only [df] at eX
 exact S.TZ h4 eX
theorem aif(l:List (List UInt8))(hp:S.small l)(hf:Vg.Row.ok (Vg.TA.eI [.iO (.slice [.str]), .fn (.func 161) [] []]) l)(hg:Vg.fJ.ok [] ()):VW l:=by
 unfold VW
 have gj:l.length≤9223372036854775807:=hf.1.1
 clear hf hg
 with_reducible aa
 iterate 2 exact hp
 exact S.H9 hp
 rfl
theorem aih(b:List UInt8)(hp:S.small b)(hf:Vg.Row.ok (Vg.PS.flat [.one (.slice [.int .u8])]) b):VX b:=by
 unfold VX
 have eF:b.length≤9223372036854775807:=hf.1.1
 clear hf
 with_reducible aa
 exact hp
 exact S.H7 hp
 exact S.T0 _
theorem aii(l:List (List UInt8))(hp:True)(hf:Vg.Row.ok (Vg.PS.flat [.one (.slice [.str])]) l):VY l:=by
 delta VY q92 aC z0 z1 an
 have gj:l.length≤9223372036854775807:=hf.1.1
 clear hf
 refine⟨?_,?_⟩
 · refine⟨(nat_lit 0:Nat),?_⟩
   try dsimp only
   refine⟨?_,?_⟩
   · omega
   exact S.Ŝ l
 intro x1 h2
 refine⟨?_,?_⟩
 · intro h3
   try simp only [dt] at h3
   with_reducible aa
   iterate 2 omega
   · intro h4
     try simp only [nt,df,tn] at h4
     exact S.RR h3 h4
   intro h5
   try simp only [nf,dt,tn] at h5
   with_reducible aa
   iterate 2 omega
   refine⟨(x1+nat_lit 1),?_⟩
   try dsimp only
   with_reducible aa
   omega
   exact S.Mb h2 h3 h5
   simp only [S.ag,S.len];omega
 intro h6
 try simp only [df] at h6
 exact S.RS h2 (by with_reducible assumption)
theorem aij(a:List UInt8)(b:List UInt8)(hp:True)(hf:Vg.Row.ok (Vg.PS.flat [.one (.str), .one (.str)]) (a,b)):VZ a b:=by
 unfold VZ
 have yb:a.length≤9223372036854775807:=hf.1
 have eF:b.length≤9223372036854775807:=hf.2.1
 clear hf
 refine⟨?_,?_⟩
 · trivial
 rfl
theorem aik(s:List (List UInt8))(hp:S.qm s)(hf:Vg.Row.ok (Vg.TA.eI [.own 50000]) ())(hg:Vg.fJ.ok [.row 9 [.str]] (s,())):V0 s:=by
 delta V0 q93 aC z0 z1 an
 have Kw:s.length≤9223372036854775807:=hg.1.1
 clear hf hg
 have h1:=hp.1
 have h2:=hp.2
 with_reducible aa
 iterate 10 omega
 trivial
 iterate 6 omega
 · rw [List.length_set];omega
 exact S.ś hp
theorem ail(l:List (List UInt8))(hp:S.iT l)(hf:Vg.Row.ok (Vg.PS.flat [.one (.slice [.slice [.int .u8]])]) l):V1 l:=by
 delta V1 aC z0 z1 an
 have gj:l.length≤9223372036854775807:=hf.1.1
 clear hf
 have h1:=hp.1
 refine⟨?_,?_⟩
 · refine⟨(nat_lit 0:Nat),?_⟩
   try dsimp only
   with_reducible aa
   omega
   rfl
   simp only [S.dY,S.ag,S.len] at *;omega
 intro x1 h2
 refine⟨?_,?_⟩
 · intro h3
   try simp only [dt] at h3
   with_reducible aa
   iterate 2 omega
   exact S.zK hp (by with_reducible assumption)
   · have :=S.vq l x1;simp only [lc,ln];omega
   iterate 2 omega
   refine⟨(x1+nat_lit 1),?_⟩
   try dsimp only
   with_reducible aa
   omega
   exact S.xK (by with_reducible assumption)
   · simp only [S.dY,S.ag,S.len] at *;omega
   simp only [S.dY,S.ag,S.len] at *;omega
 intro h4
 try simp only [df] at h4
 exact S.zJ (by with_reducible assumption)
theorem aim(l:List (List UInt8))(hp:S.dZ l)(hf:Vg.Row.ok (Vg.PS.flat [.one (.slice [.str])]) l):V2 l:=by
 delta V2 aC z0 z1 an
 have gj:l.length≤9223372036854775807:=hf.1.1
 clear hf
 have la:=hp.2
 refine⟨?_,?_⟩
 · intro h1
   try simp only [dt] at h1
   refine⟨?_,?_⟩
   · exact Nat.zero_le _
   exact S.Fi h1
 intro h2
 try simp only [df] at h2
 refine⟨?_,?_⟩
 · refine⟨((nat_lit 0:Nat),([])),?_⟩
   try dsimp only
   with_reducible aa
   omega
   with_reducible rfl
   exact S.ř l
 intro x3 h4
 refine⟨?_,?_⟩
 · intro h5
   try simp only [dt] at h5
   with_reducible aa
   iterate 2 omega
   · have :=S.JW h4;simp only [lc,ln];omega
   · refine⟨(0,x3.1,x3.2++ [List.getD l (Int.toNat (x3.1:Int)) []],x3.1),?_⟩
     try dsimp only
     with_reducible aa
     omega
     with_reducible rfl
     exact S.agd h4 h5
     omega
   intro x6 h7
   with_reducible aa
   iterate 2 omega
   · intro h8
     try simp only [dt] at h8
     with_reducible aa
     exact S.T7 (S.AD h7) h8 hp
     iterate 2 omega
     refine⟨(x6.1+1,x6.2.1/2,S.comb x6.2.2.1,x3.1),?_⟩
     try dsimp only
     with_reducible aa
     · simp only [show Int.toNat 1=1 by rfl];omega
     with_reducible rfl
     exact(S.yT (S.AD h7) h8).1
     omega
     exact(S.yT (S.AD h7) h8).2.1
   intro h9
   try simp only [df] at h9
   with_reducible aa
   iterate 2 omega
   refine⟨((Prod.fst x3+nat_lit 1),(Prod.fst (Prod.snd (Prod.snd x6)))),?_⟩
   try dsimp only
   with_reducible aa
   omega
   with_reducible rfl
   exact S.T2 (S.AD h7) h9
   simp only [S.ag,S.len];omega
 intro c5
 try simp only [df] at c5
 refine⟨?_,?_⟩
 · refine⟨(Prod.snd x3),?_⟩
   try dsimp only
   refine⟨?_,?_⟩
   · with_reducible rfl
   exact S.age h4 c5 h2
 intro WS dB
 refine⟨?_,?_⟩
 · intro kA
   try simp only [dt] at kA
   refine⟨?_,?_⟩
   · have :=S.T5 dB;exact⟨by omega,by omega⟩
   refine⟨(S.comb WS),?_⟩
   try dsimp only
   with_reducible aa
   with_reducible rfl
   exact(S.Fh dB kA).1
   exact(S.Fh dB kA).2
 intro eX
 try simp only [df] at eX
 with_reducible aa
 omega
 iterate 2 (have :=(S.JU dB eX).2;omega)
 exact(S.JU dB eX).1
theorem ain(l:List (List UInt8))(hp:S.small l)(hf:Vg.Row.ok (Vg.PS.flat [.one (.slice [.str])]) l):V3 l:=by
 delta V3 z0 z1
 have gj:l.length≤9223372036854775807:=hf.1.1
 clear hf
 have la:l.length≤1099511627776:=hp
 with_reducible aa
 trivial
 · intro h1
   try simp only [nt] at h1
   refine⟨?_,?_⟩
   · grind [S.rq,S.ru,S.dZ]
   grind [S.rq,S.ru,S.dZ]
 intro h2
 try simp only [nf] at h2
 with_reducible aa
 trivial
 iterate 2 (grind [S.rq,S.ru,S.dZ])
theorem aio(n:Int)(hp:True)(hf:Vg.Row.ok (Vg.PS.flat [.one (.int .i64)]) n):V4 n:=by
 delta V4 q94 aC z0 z1
 have WK: -9223372036854775808≤n∧n≤9223372036854775807:=hf.1
 clear hf
 refine⟨?_,?_⟩
 · intro h1
   try simp only [V.pO,dt] at h1
   exact S.T6 (by with_reducible assumption)
 intro h2
 try simp only [V.gh,df] at h2
 refine⟨?_,?_⟩
 · refine⟨(0,1),?_⟩
   try dsimp only
   refine⟨?_,?_⟩
   · omega
   exact S.JV h2.1
 intro x3 h4
 with_reducible aa
 iterate 2 ((have :=S.kW h4;omega))
 · intro h5
   try simp only [dt] at h5
   with_reducible aa
   · (have :=S.kW h4;omega)
   omega
   refine⟨(x3.1+1,2*x3.2),?_⟩
   try dsimp only
   with_reducible aa
   omega
   · (have :=S.kW h4;exact(S.CD h4 h5).1)
   · (have :=S.kW h4;omega)
 intro h6
 try simp only [df] at h6
 (have :=S.kW h4;exact S.Ez h4 h2.1 h2.2 h6)
theorem aip(m:Nat)(l:List (List UInt8))(hm:S.len l<m+1)(hp:S.dZ l)(hf:Vg.Row.ok (Vg.PS.flat [.one (.slice [.str])]) l):V5 m l:=by
 delta V5 Is z0 z1 an
 have gj:l.length≤9223372036854775807:=hf.1.1
 clear hf
 refine⟨?_,?_⟩
 · intro h1
   try simp only [dt] at h1
   refine⟨?_,?_⟩
   · exact Nat.zero_le _
   exact S.Fi h1
 intro h2
 try simp only [df] at h2
 refine⟨?_,?_⟩
 · intro h3
   try simp only [dt] at h3
   with_reducible aa
   iterate 2 omega
   exact(S.yS (by omega)).symm
 intro h4
 try simp only [df] at h4
 with_reducible aa
 trivial
 iterate 3 ((have hq:=S.ku hp (by omega);simp only [S.len] at *;omega))
 · (have hq:=S.ku hp (by omega);exact hq.2.2.1)
 iterate 3 ((have hq:=S.ku hp (by omega);simp only [S.len] at *;omega))
 · (have hq:=S.ku hp (by omega);exact hq.2.2.2.2.1)
 · (have hq:=S.ku hp (by omega);exact hq.2.2.2.2.2.1)
 · (have hq:=S.ku hp (by omega);exact hq.2.2.2.2.2.2)
theorem aiq(l:List (List UInt8))(hp:S.iT l)(hf:Vg.Row.ok (Vg.PS.flat [.one (.slice [.slice [.int .u8]])]) l):V6 l:=by
 delta V6 aC z0 z1 an
 have gj:l.length≤9223372036854775807:=hf.1.1
 clear hf
 have h1:=hp.1
 refine⟨?_,?_⟩
 · refine⟨(nat_lit 0:Nat),?_⟩
   try dsimp only
   with_reducible aa
   omega
   rfl
   simp only [S.dY,S.ag,S.len] at *;omega
 intro x1 h2
 refine⟨?_,?_⟩
 · intro h3
   try simp only [dt] at h3
   with_reducible aa
   iterate 2 omega
   exact S.zK hp (by with_reducible assumption)
   · have :=S.vq l x1;simp only [lc,ln];omega
   iterate 2 omega
   refine⟨(x1+nat_lit 1),?_⟩
   try dsimp only
   with_reducible aa
   omega
   exact S.xK (by with_reducible assumption)
   · simp only [S.dY,S.ag,S.len] at *;omega
   simp only [S.dY,S.ag,S.len] at *;omega
 intro h4
 try simp only [df] at h4
 exact S.zJ (by with_reducible assumption)
theorem air(l:List Int)(hp:True)(hf:Vg.Row.ok (Vg.PS.flat [.one (.slice [.int .i64])]) l):V7 l:=by
 delta V7 q96 aC z0 z1 an
 have gj:l.length≤9223372036854775807:=hf.1.1
 clear hf
 refine⟨?_,?_⟩
 · refine⟨(nat_lit 0:Nat),?_⟩
   try dsimp only
   with_reducible aa
   omega
   exact(S.tq l).symm
   exact S.ŝ l
 intro x1 h2
 refine⟨?_,?_⟩
 · intro h3
   try simp only [dt] at h3
   with_reducible aa
   iterate 2 omega
   · intro h4
     try simp only [V.pO,dt,tn] at h4
     exact S.RU h3 h4
   intro h5
   try simp only [V.gh,df,tn] at h5
   with_reducible aa
   iterate 2 omega
   refine⟨(x1+nat_lit 1),?_⟩
   try dsimp only
   with_reducible aa
   omega
   rw [S.kv,tn]
   exact S.Mc h2 h3 h5
   simp only [S.ag,S.len];omega
 intro h6
 try simp only [df] at h6
 exact S.RV h2 (by with_reducible assumption)
theorem ais(l:List Int)(hp:True)(hf:Vg.Row.ok (Vg.PS.flat [.one (.slice [.int .i64])]) l):V8 l:=by
 delta V8 q97 aC eS z0 z1 an
 have gj:l.length≤9223372036854775807:=hf.1.1
 clear hf
 with_reducible aa
 trivial
 · intro h1
   try simp only [nt] at h1
   refine⟨?_,?_⟩
   · simp only [S.jC,S.oz,h1];rfl
   simp only [S.jC,S.oz,h1];rfl
 intro h2
 try simp only [nf] at h2
 with_reducible aa
 exact Nat.zero_le _
 · refine⟨(nat_lit 0:Nat),?_⟩
   try dsimp only
   with_reducible aa
   omega
   exact(S.tq l).symm
   · have :=S.qo h2;rw [S.Fk (by omega) (by omega),S.yU]
   omega
 intro x3 h4
 refine⟨?_,?_⟩
 · intro h5
   try simp only [dt] at h5
   with_reducible aa
   iterate 2 omega
   iterate 4 (have :=S.uu h2 h5;omega)
   exact Nat.zero_le _
   · have :=(S.pS h2 h5 (List.getD l (Int.toNat (x3:Int)) 0-S.dV l x3-1)).1;omega
   iterate 2 omega
   refine⟨(x3+nat_lit 1),?_⟩
   try dsimp only
   with_reducible aa
   omega
   rw [S.kv,tn]
   exact S.CI h2 h5
   omega
   simp only [S.ag,S.len];omega
 intro h6
 try simp only [df] at h6
 refine⟨?_,?_⟩
 · simp only [S.jC,h2];rfl
 rw [show x3=l.length by omega];exact S.RW h2
theorem ait(l:List Int)(hp:True)(hf:Vg.Row.ok (Vg.PS.flat [.one (.slice [.int .i64])]) l):V9 l:=by
 delta V9 z0
 have gj:l.length≤9223372036854775807:=hf.1.1
 clear hf
 with_reducible aa
 trivial
 · intro h1
   try simp only [nt,df] at h1
   refine⟨?_,?_⟩
   · have hq:S.bR l=false :=by
      cases hr:S.bR l with
      |false=>rfl
      |true=>exact absurd (by simp only [S.jC,hr];rfl) h1
     simp only [S.oA,hq];rfl
   rfl
 intro h2
 try simp only [nf,dt] at h2
 with_reducible aa
 iterate 2
  have hq:S.bR l=true :=by
   cases hr:S.bR l with
   |true=>rfl
   |false=>simp only [S.jC,hr] at h2;exact absurd h2 (by decide)
  have hl:=S.CJ hq
  simp only [S.oz,S.oA,hq,if_true,S.bj]
  try (first|rfl|omega)
 omega
theorem aiu(n:Int)(p:Bool)(q:Bool)(s1:Int)(s2:Int)(hp:True)(hf:Vg.Row.ok (Vg.TA.eI [.iO (.int .i64), .iO (.bool), .iO (.bool), .ref 50000 0]) (n,p,q))(hg:Vg.fJ.ok [.cells [.iO (.int .i64), .iO (.int .i64)]] ((s1,s2),())):Wa n p q s1 s2:=by
 unfold Wa
 have WK: -9223372036854775808≤n∧n≤9223372036854775807:=hf.1
 have iW: -9223372036854775808≤s1∧s1≤9223372036854775807:=hg.1.1
 have iX: -9223372036854775808≤s2∧s2≤9223372036854775807:=hg.1.2.1
 clear hf hg
 with_reducible aa
 · simp only [S.oB];grind
 iterate 2 rfl
theorem aiv(a:List Int)(b:List Int)(s1:Int)(s2:Int)(hp:b.length=0)(hf:Vg.Row.ok (Vg.TA.eI [.iO (.slice [.int .i64]), .iO (.slice [.int .i64]), .fn (.func 154) [] [.ref 50000 0]]) (a,b))(hg:Vg.fJ.ok [.cells [.iO (.int .i64), .iO (.int .i64)]] ((s1,s2),())):Wh a b s1 s2:=by
 delta Wh Wb xW Wc Wd We Wf Wg z0 z1
 have hb:b= []:=List.eq_nil_of_length_eq_zero hp
 subst hb
 have ha:a.length≤9223372036854775807:=hf.1.1
 clear hf hg
 refine⟨trivial,trivial,?_,?_⟩
 · refine⟨(S.RT a,[]),⟨?_,?_,rfl,rfl,rfl⟩,S.Ş a s1 s2⟩
   · simp only [S.RT];cases S.bR a<;>rfl
   simp [S.fa]
 rintro⟨r,out⟩ h
 have hl:=h.2
 cases r with
 |nil=>simp [S.fa];exact S.RY h
 |cons n r=>
  simp [S.fa]
  refine⟨by omega,fun hn=>⟨?_,?_⟩,fun hn=> ?_⟩
  · simp at hl;omega
  · exact⟨r,out++ [n],⟨rfl,rfl⟩,S.RX h hn,by simp [S.len]⟩
  exact⟨r,out,⟨rfl,rfl⟩,S.T8 h hn,by simp [S.len]⟩
theorem aiw(l:List Int)(s1:Int)(s2:Int)(hp:True)(hf:Vg.Row.ok (Vg.PS.flat [.one (.slice [.int .i64]), .agg [.int .i64, .int .i64]]) (l,s1,s2)):Wi l s1 s2:=by
 unfold Wi
 have gj:l.length≤9223372036854775807:=hf.1.1
 have iW: -9223372036854775808≤s1∧s1≤9223372036854775807:=hf.2.1
 have iX: -9223372036854775808≤s2∧s2≤9223372036854775807:=hf.2.2.1
 clear hf
 refine⟨?_,?_⟩
 · rfl
 rfl
theorem aix(l:List Int)(hp:S.bR l=true)(hf:Vg.Row.ok (Vg.PS.flat [.one (.slice [.int .i64])]) l):Wj l:=by
 delta Wj Nu aC eS z0 z1 an
 have gj:l.length≤9223372036854775807:=hf.1.1
 clear hf
 with_reducible aa
 omega
 · refine⟨(nat_lit 0:Nat),?_⟩
   try dsimp only
   with_reducible aa
   omega
   exact(S.yU l).symm
   omega
 intro x1 h2
 refine⟨?_,?_⟩
 · intro h3
   try simp only [dt] at h3
   refine⟨?_,?_⟩
   · intro h4
     try simp only [dt] at h4
     with_reducible aa
     iterate 2 omega
     · have :=S.uu hp h3;rw [show(x1:Int)=0 by omega] at this;exact this.2.2
     · have :=(S.pS hp h3 (List.getD l (Int.toNat 0) 0)).2;omega
     iterate 2 omega
     refine⟨(x1+nat_lit 1),?_⟩
     try dsimp only
     with_reducible aa
     omega
     exact S.H6 h4
     omega
     simp only [S.ag,S.len];omega
   intro h5
   try simp only [df] at h5
   with_reducible aa
   iterate 6 omega
   iterate 5 (have :=S.uu hp h3;have :=S.Fj (S.Nc (k:=x1) hp (by omega));rw [S.CH (by omega)];omega)
   · have :=(S.pS hp h3 (List.getD l (Int.toNat (x1:Int)) 0-List.getD l (Int.toNat ((x1:Int)-1)) 0-1)).2;omega
   iterate 2 omega
   refine⟨(x1+nat_lit 1),?_⟩
   try dsimp only
   with_reducible aa
   omega
   exact S.JY h5
   omega
   simp only [S.ag,S.len];omega
 intro h6
 try simp only [df] at h6
 rw [show x1=l.length by omega];rfl
theorem aiy(l:List Int)(hp:S.bR l=true)(hf:Vg.Row.ok (Vg.PS.flat [.one (.slice [.int .i64])]) l):Wk l:=by
 unfold Wk
 have gj:l.length≤9223372036854775807:=hf.1.1
 clear hf
 with_reducible aa
 exact hp
 · have :=S.CJ hp;simp only [S.bj];omega
 rfl
theorem aiz(a:List Int)(b:List Int)(hp:True)(hf:Vg.Row.ok (Vg.PS.flat [.one (.slice [.int .i64]), .one (.slice [.int .i64])]) (a,b)):Wl a b:=by
 delta Wl aC z0 z1 an
 have yb:a.length≤9223372036854775807:=hf.1.1
 have eF:b.length≤9223372036854775807:=hf.2.1.1
 clear hf
 refine⟨?_,?_⟩
 · intro h1
   try simp only [nt,df] at h1
   exact S.R0 h1
 intro h2
 try simp only [nf,dt] at h2
 refine⟨?_,?_⟩
 · refine⟨(nat_lit 0:Nat),?_⟩
   try dsimp only
   refine⟨?_,?_⟩
   · omega
   exact S.ş h2
 intro x3 h4
 refine⟨?_,?_⟩
 · intro h5
   try simp only [dt] at h5
   with_reducible aa
   iterate 4 omega
   · intro h6
     try simp only [nt,df,tn] at h6
     exact S.RZ h6
   intro h7
   try simp only [nf,dt,tn] at h7
   with_reducible aa
   iterate 2 omega
   refine⟨(x3+nat_lit 1),?_⟩
   try dsimp only
   with_reducible aa
   omega
   exact S.Md h4 h5 h7
   simp only [S.ag,S.len];omega
 intro h8
 try simp only [df] at h8
 exact S.R1 h4 h8
theorem aiA(d:List (List UInt8×List Int))(hp:S.bB d)(hf:Vg.Row.ok (Vg.PS.flat [.one (.slice [.str, .slice [.int .i64]])]) d):Wo d:=by
 delta Wo tN Wm Wn aC z0 z1 an
 have FF:d.length≤9223372036854775807:=hf.1.1
 clear hf
 have la:=hp.1
 refine⟨?_,?_⟩
 · refine⟨(nat_lit 0:Nat),?_⟩
   try dsimp only
   refine⟨?_,?_⟩
   · omega
   exact S.anX d
 intro x1 h2
 refine⟨?_,?_⟩
 · intro h3
   try simp only [dt] at h3
   with_reducible aa
   iterate 2 omega
   · intro h4
     try simp only [dt] at h4
     with_reducible aa
     iterate 4 omega
   · intro h5
     try simp only [df] at h5
     trivial
   · intro h6
     try simp only [V.Ju,dt] at h6
     refine S.Nd h3 ((S.CK _ _).2 (.inl ⟨by omega,?_⟩))
     have e:Int.toNat ((x1:Int)-1)=x1-1:=by omega
     have h62:=h6.2
     rw [e] at h62
     exact h62
   intro h7
   try simp only [V.xx,df] at h7
   with_reducible aa
   · intro h8
     try simp only [dt,tn] at h8
     trivial
   · intro h9
     try simp only [df,tn] at h9
     with_reducible aa
     trivial
     · intro c5
       try simp only [nt] at c5
       trivial
     intro fM
     try simp only [nf] at fM
     exact S.R2 hp
   · intro dB
     try simp only [V.pO,dt,tn,nt] at dB
     exact S.Nd h3 ((S.CK _ _).2 (.inr (dB.imp (fun q=>by have :((S.fl d x1).length:Int)=0:=q;omega) id)))
   intro kA
   try simp only [V.gh,df,tn,nf] at kA
   with_reducible aa
   iterate 2 omega
   refine⟨(x1+nat_lit 1),?_⟩
   try dsimp only
   with_reducible aa
   omega
   · refine S.T9 h2 h3 ((S.qp _ _).2 ⟨?_,?_,kA.2.1,kA.2.2⟩)
     aao
     · have :=kA.1
       simp only [S.fl];omega
     rcases h7 with h7|h7
     · left;omega
     right
     have e:Int.toNat ((x1:Int)-1)=x1-1:=by omega
     rw [e] at h7
     exact h7
   simp only [S.ag,S.len];omega
 intro eX
 try simp only [df] at eX
 exact S.Š h2 (by with_reducible assumption)
theorem aiB(l1:List UInt8)(l2:List UInt8)(l3:List UInt8)(hp:True)(hf:Vg.Row.ok (Vg.PS.flat [.agg [.str, .str, .str]]) (l1,l2,l3)):Wq l1 l2 l3:=by
 delta Wq Wp eS z0 z1 an
 have aiC:l1.length≤9223372036854775807:=hf.1
 have aiD:l2.length≤9223372036854775807:=hf.2.1
 have aiE:l3.length≤9223372036854775807:=hf.2.2.1
 clear hf
 refine⟨?_,?_⟩
 · intro h1
   try simp only [V.pO,dt,nt,df] at h1
   refine⟨?_,?_⟩
   · have hq:=S.CO h1
     simp only [S.oC,S.wj,hq];rfl
   have hq:=S.CO h1
   simp only [S.oC,S.wj,hq];rfl
 intro h2
 try simp only [V.gh,df,nf,dt] at h2
 with_reducible aa
 · have hq:=S.mC h2
   have q:=(S.gS _ _ _).1 hq
   have t1:=S.fO (s:=l1);have t2:=S.fO (s:=l2)
   exact S.zO (Nat.zero_le _) (by omega)
 · have hq:=S.mC h2
   have q:=(S.gS _ _ _).1 hq
   have t1:=S.fO (s:=l1);have t2:=S.fO (s:=l2)
   exact S.zO (by rw [List.nil_append];omega) (by omega)
 · have hq:=S.mC h2
   have q:=(S.gS _ _ _).1 hq
   have t1:=S.fO (s:=l1);have t2:=S.fO (s:=l2)
   simp only [List.length_append,ln];omega
 · have hq:=S.mC h2
   have q:=(S.gS _ _ _).1 hq
   have t1:=S.fO (s:=l1);have t2:=S.fO (s:=l2)
   simp only [S.oC,hq,if_true];rfl
 have hq:=S.mC h2
 have q:=(S.gS _ _ _).1 hq
 have t1:=S.fO (s:=l1);have t2:=S.fO (s:=l2)
 simp only [S.wj,hq,if_true];done
theorem aiF(d:List (List UInt8×List Int))(hp:S.bB d)(hf:Vg.Row.ok (Vg.PS.flat [.one (.slice [.str, .slice [.int .i64]])]) d):Ws d:=by
 delta Ws Wr aC z0 z1 an
 have FF:d.length≤9223372036854775807:=hf.1.1
 clear hf
 have la:=hp.1
 with_reducible aa
 omega
 · intro h1
   try simp only [nt] at h1
   refine⟨?_,?_⟩
   · simp only [S.dE,S.fb,h1];rfl
   simp only [S.dE,S.fb,h1];rfl
 intro h2
 try simp only [nf] at h2
 with_reducible aa
 iterate 2 omega
 · refine⟨(nat_lit 0:Nat),?_⟩
   try dsimp only
   with_reducible aa
   omega
   rfl
   omega
 intro x3 h4
 refine⟨?_,?_⟩
 · intro h5
   try simp only [dt] at h5
   with_reducible aa
   · intro h6
     try simp only [dt] at h6
     with_reducible aa
     iterate 8 omega
   · intro h7
     try simp only [df] at h7
     trivial
   · intro h8
     try simp only [dt] at h8
     refine⟨?_,?_⟩
     · omega
     omega
   · intro h9
     try simp only [df] at h9
     trivial
   iterate 2 trivial
   · rw [S.wk];simp only [lc,ln];omega
   iterate 2 omega
   refine⟨(x3+nat_lit 1),?_⟩
   try dsimp only
   with_reducible aa
   omega
   rw [S.Ţ h2 (by omega),S.zN]
   omega
   simp only [S.ag,S.len];omega
 intro c5
 try simp only [df] at c5
 refine⟨?_,?_⟩
 · simp only [S.dE,h2];rfl
 simp only [S.fb,h2,if_true];rw [show x3=d.length+1 by omega];rfl
theorem aiG(d:List (List UInt8×List Int))(hp:S.bB d)(hf:Vg.Row.ok (Vg.PS.flat [.one (.slice [.str, .slice [.int .i64]])]) d):Wt d:=by
 delta Wt z0
 have FF:d.length≤9223372036854775807:=hf.1.1
 clear hf
 with_reducible aa
 omega
 · intro h1
   try simp only [nt,df] at h1
   refine⟨?_,?_⟩
   · simp only [S.rz,S.anY h1];rfl
   rfl
 intro h2
 try simp only [nf,dt] at h2
 with_reducible aa
 · have hr:=S.Ng h2
   have hq:=S.lM hp hr
   have e:S.fb d=S.iq d:=by simp only [S.fb,hr,if_true]
   rw [e]
   exact hq.1
 · have hr:=S.Ng h2
   have hq:=S.lM hp hr
   have e:S.fb d=S.iq d:=by simp only [S.fb,hr,if_true]
   rw [e]
   exact hq.2.2
 · have hr:=S.Ng h2
   have hq:=S.lM hp hr
   have e:S.fb d=S.iq d:=by simp only [S.fb,hr,if_true]
   rw [e]
   simp only [S.rz,S.rq,hr,hq.2.1,if_true];rfl
 have hr:=S.Ng h2
 have hq:=S.lM hp hr
 have e:S.fb d=S.iq d:=by simp only [S.fb,hr,if_true]
 rw [e]
 simp only [S.dE,S.ru,hr,hq.2.1,if_true]
theorem aiH(docs:List (List UInt8))(s1:Int)(s2:Int)(hp:True)(hf:Vg.Row.ok (Vg.PS.flat [.one (.slice [.slice [.int .u8]]), .agg [.int .i64, .int .i64]]) (docs,s1,s2)):Wu docs s1 s2:=by
 delta Wu aC z0 z1 an
 have tQ:docs.length≤9223372036854775807:=hf.1.1
 have iW: -9223372036854775808≤s1∧s1≤9223372036854775807:=hf.2.1
 have iX: -9223372036854775808≤s2∧s2≤9223372036854775807:=hf.2.2.1
 clear hf
 refine⟨?_,?_⟩
 · refine⟨(nat_lit 0:Nat),?_⟩
   try dsimp only
   refine⟨?_,?_⟩
   · omega
   exact S.Nf docs
 intro x1 h2
 refine⟨?_,?_⟩
 · intro h3
   try simp only [dt] at h3
   with_reducible aa
   iterate 2 omega
   · intro h4
     try simp only [dt,tn] at h4
     exact S.Fl h3 h4
   intro h5
   try simp only [df,tn] at h5
   with_reducible aa
   iterate 2 omega
   refine⟨(x1+nat_lit 1),?_⟩
   try dsimp only
   with_reducible aa
   omega
   exact S.CN h2 h3 (by omega)
   simp only [S.ag,S.len];omega
 intro h6
 try simp only [df] at h6
 have q:=S.Fm h2 h6
 simp only [S.cJ,q,Bool.true_and,S.qe]
theorem aap(b:List UInt8)(t:List UInt8)(hp:S.small b)(hf:Vg.Row.ok (Vg.PS.flat [.one (.slice [.int .u8]), .one (.str)]) (b,t)):Nv b t:=by
 delta Nv z0 an
 have eF:b.length≤9223372036854775807:=hf.1.1
 have aoD:t.length≤9223372036854775807:=hf.2.1
 clear hf
 refine⟨?_,?_⟩
 · exact hp
 rfl
theorem aaq(l1:List UInt8)(l2:List UInt8)(l3:List UInt8)(hp:S.iA l1 l2 l3=true)(hf:Vg.Row.ok (Vg.PS.flat [.agg [.str, .str, .str]]) (l1,l2,l3)):Nw l1 l2 l3:=by
 delta Nw eS
 have aiC:l1.length≤9223372036854775807:=hf.1
 have aiD:l2.length≤9223372036854775807:=hf.2.1
 have aiE:l3.length≤9223372036854775807:=hf.2.2.1
 clear hf
 have q:=(S.gS _ _ _).1 hp
 have t1:=S.fO (s:=l1)
 have t2:=S.fO (s:=l2)
 with_reducible aa
 iterate 2 (simp only [S.small];omega)
 omega
 · simp only [List.length_append];omega
 rfl
theorem aar(d:List (List UInt8×List Int))(hp:S.bB d∧S.bl d=true)(hf:Vg.Row.ok (Vg.PS.flat [.one (.slice [.str, .slice [.int .i64]])]) d):Nx d:=by
 delta Nx Wv FA zW aC z0 z1 an
 have FF:d.length≤9223372036854775807:=hf.1.1
 clear hf
 have la:=hp.1.1
 refine⟨?_,?_⟩
 · refine⟨0,?_⟩
   try dsimp only
   with_reducible aa
   omega
   rfl
   omega
 intro x1 h2
 refine⟨?_,?_⟩
 · intro h3
   try simp only [dt] at h3
   with_reducible aa
   rfl
   · intro h4
     try simp only [dt] at h4
     with_reducible aa
     iterate 4 omega
     have e:Int.toNat ((x1:Int)-1)=x1-1:=by omega
     rw [e]
     exact(S.tv hp.2 (i:=x1-1) (by omega)).2
   · intro h5
     try simp only [df] at h5
     trivial
   iterate 2 omega
   · intro h6
     try simp only [dt] at h6
     with_reducible aa
     iterate 4 omega
   · intro h7
     try simp only [df] at h7
     trivial
   · obtain⟨e1,e2,e3⟩:=S.Nh d x1
     rw [e1,e2,e3]
     rcases S.CM hp.2 (k:=x1) with q|q
     · exact q
     omega
   · rw [S.wk];simp only [lc,ln];omega
   iterate 2 omega
   refine⟨x1+1,?_⟩
   try dsimp only
   with_reducible aa
   omega
   · obtain⟨e1,e2,e3⟩:=S.Nh d x1
     rw [e1,e2,e3]
     exact S.zN d x1
   omega
   simp only [S.ag,S.len];omega
 intro h8
 try simp only [df] at h8
 rw [show x1=d.length+1 by omega];rfl
theorem aas(d:List (List UInt8×List Int))(hp:S.bB d∧S.bl d=true)(hf:Vg.Row.ok (Vg.PS.flat [.one (.slice [.str, .slice [.int .i64]])]) d):Ny d:=by
 unfold Ny
 have FF:d.length≤9223372036854775807:=hf.1.1
 clear hf
 with_reducible aa
 exact hp.1
 exact hp.2
 exact(S.lM hp.1 hp.2).1
 exact(S.lM hp.1 hp.2).2
 rfl
theorem aat(a:List (List UInt8×List Int))(b:List (List UInt8×List Int))(hp:True)(hf:Vg.Row.ok (Vg.PS.flat [.one (.slice [.str, .slice [.int .i64]]), .one (.slice [.str, .slice [.int .i64]])]) (a,b)):NA a b:=by
 delta NA Nz Ww aC z0 z1 an
 have yb:a.length≤9223372036854775807:=hf.1.1
 have eF:b.length≤9223372036854775807:=hf.2.1.1
 clear hf
 refine⟨?_,?_⟩
 · intro h1
   try simp only [nt,df] at h1
   exact S.Mg h1
 intro h2
 try simp only [nf,dt] at h2
 refine⟨?_,?_⟩
 · refine⟨(nat_lit 0:Nat),?_⟩
   try dsimp only
   refine⟨?_,?_⟩
   · omega
   exact S.Ua h2
 intro x3 h4
 refine⟨?_,?_⟩
 · intro h5
   try simp only [dt] at h5
   with_reducible aa
   iterate 4 omega
   · intro h6
     try simp only [nt,df,tn] at h6
     trivial
   · intro h7
     try simp only [nf,dt,tn] at h7
     with_reducible aa
     iterate 4 omega
     trivial
   · intro h8
     try simp only [V.pO,nt,df,tn] at h8
     refine S.Mf (k:=x3) fun e=> ?_
     rw [e] at h8
     rcases h8 with q|q
     · exact q rfl
     simp [S.lL] at q
   intro h9
   try simp only [V.gh,nf,dt,tn] at h9
   with_reducible aa
   iterate 2 omega
   refine⟨(x3+nat_lit 1),?_⟩
   try dsimp only
   with_reducible aa
   omega
   exact S.JZ h4 h5 (Prod.ext h9.1 (by simpa [S.lL] using h9.2))
   simp only [S.ag,S.len];omega
 intro c5
 try simp only [df] at c5
 exact S.Mh h4 c5
theorem aau(docs:List (List UInt8))(s1:Int)(s2:Int)(hp:S.eb docs s1 s2)(hf:Vg.Row.ok (Vg.PS.flat [.one (.slice [.slice [.int .u8]]), .agg [.int .i64, .int .i64]]) (docs,s1,s2)):NB docs s1 s2:=by
 delta NB pv aC z0 z1 an
 have tQ:docs.length≤9223372036854775807:=hf.1.1
 have iW: -9223372036854775808≤s1∧s1≤9223372036854775807:=hf.2.1
 have iX: -9223372036854775808≤s2∧s2≤9223372036854775807:=hf.2.2.1
 clear hf
 have p1:=hp.1
 have p2:=hp.2.1
 have p3:=hp.2.2.1
 have p4:=hp.2.2.2.1
 refine⟨?_,?_⟩
 · refine⟨0,?_⟩
   try dsimp only
   with_reducible aa
   omega
   exact S.Ub docs s1
   simp only [S.dz];omega
 intro x1 h2
 refine⟨?_,?_⟩
 · intro h3
   try simp only [dt] at h3
   with_reducible aa
   iterate 2 omega
   exact S.CP hp _
   · have q1:=S.oE hp x1
     have q2:=S.tw hp (Int.toNat (s1+(x1:Int)))
     simp only [S.dz] at h2
     omega
   iterate 2 omega
   refine⟨x1+1,?_⟩
   try dsimp only
   with_reducible aa
   omega
   exact S.ph docs s1 x1
   · simp only [S.dz];omega
   simp only [S.ag];omega
 intro h4
 try simp only [df] at h4
 with_reducible aa
 · have q1:=S.oE hp x1
   simp only [S.dz] at h2
   simp only [S.small];omega
 · refine⟨(nat_lit 0:Nat),?_⟩
   try dsimp only
   with_reducible aa
   omega
   rfl
   exact Nat.zero_le _
 intro x5 h6
 refine⟨?_,?_⟩
 · intro h7
   try simp only [dt] at h7
   with_reducible aa
   iterate 3 omega
   · refine⟨(0,List.getD (S.sorted (S.fC docs s1 x1)) (Int.toNat (x5:Int)) []),?_⟩
     try dsimp only
     with_reducible aa
     omega
     rfl
     exact S.R4 _ _ _
     · simp only [S.dz];omega
     rfl
   intro x8 h9
   refine⟨?_,?_⟩
   · intro c5
     try simp only [dt] at c5
     with_reducible aa
     iterate 5 omega
     exact S.CP hp _
     · intro fM
       with_reducible aa
       · have q:=S.zP docs s1 x8.2 x8.1
         have q2:=S.CQ h9.1 p2
         simp only [lc,ln];omega
       iterate 2 omega
       refine⟨(x8.1+1,x8.2),?_⟩
       try dsimp only
       with_reducible aa
       omega
       rfl
       · rw [h9.2] at fM
         exact S.tx fM
       · simp only [S.dz];omega
       exact h9.2
       simp only [S.ag];omega
     intro dB
     with_reducible aa
     iterate 2 omega
     refine⟨(x8.1+1,x8.2),?_⟩
     try dsimp only
     with_reducible aa
     omega
     rfl
     · rw [h9.2] at dB
       exact S.wm dB
     · simp only [S.dz];omega
     exact h9.2
     simp only [S.ag];omega
   intro kA
   try simp only [df] at kA
   with_reducible aa
   · have q:=S.J2 docs s1 s2 x5
     have q1:=S.oE hp x1
     have q2:=S.lN (S.fC docs s1 x1)
     have q3:=S.CQ h2 p2
     simp only [lc,ln];omega
   omega
   · have q1:=S.oE hp x1;have q2:=S.lN (S.fC docs s1 x1);have q3:=S.CQ h2 p2;omega
   refine⟨(x5+nat_lit 1),?_⟩
   try dsimp only
   with_reducible aa
   omega
   · have e:=S.qq (docs:=docs) h2 h4
     have h92:=h9.2
     rw [e.1] at h7 h92
     exact S.xM (by omega) (S.qq (docs:=docs) h9.1 kA).2 h92
   · have e:=S.qq (docs:=docs) h2 h4
     rw [e.1] at h7
     simp only [S.dY,S.ag,S.len];omega
   have e:=S.qq (docs:=docs) h2 h4
   rw [e.1] at h7
   simp only [S.dY,S.ag,S.len];omega
 intro eX
 try simp only [df] at eX
 have e:=S.qq (docs:=docs) h2 h4
 rw [e.1] at eX
 exact S.zQ (by omega)
theorem aav(s1:Int)(s2:Int)(hp:True)(hf:Vg.Row.ok (Vg.PS.flat [.agg [.int .i64, .int .i64]]) (s1,s2)):NC s1 s2:=by
 delta NC z0
 have iW: -9223372036854775808≤s1∧s1≤9223372036854775807:=hf.1
 have iX: -9223372036854775808≤s2∧s2≤9223372036854775807:=hf.2.1
 clear hf
 simp only [S.iC,S.qe]
theorem aaw(s1:Int)(s2:Int)(s3:List (List UInt8×List Int))(hp:S.bB s3)(hf:Vg.Row.ok (Vg.PS.flat [.agg [.int .i64, .int .i64, .slice [.str, .slice [.int .i64]]]]) (s1,s2,s3)):ND s1 s2 s3:=by
 delta ND Wx aC z0 z1 an
 have iW: -9223372036854775808≤s1∧s1≤9223372036854775807:=hf.1
 have iX: -9223372036854775808≤s2∧s2≤9223372036854775807:=hf.2.1
 have tP:s3.length≤9223372036854775807:=hf.2.2.1.1
 clear hf
 with_reducible aa
 trivial
 · intro h1
   try simp only [nt] at h1
   trivial
 · intro h2
   try simp only [nf] at h2
   omega
 · intro h3
   try simp only [V.pO,nt] at h3
   exact S.Ť h3
 intro h4
 try simp only [V.gh,nf] at h4
 refine⟨?_,?_⟩
 · refine⟨(nat_lit 0:Nat),?_⟩
   try dsimp only
   refine⟨?_,?_⟩
   · omega
   exact S.agi h4.1 h4.2
 intro x5 h6
 refine⟨?_,?_⟩
 · intro h7
   try simp only [dt] at h7
   with_reducible aa
   iterate 2 omega
   trivial
   · intro h8
     try simp only [nt,df,tn] at h8
     exact S.Ue h7 (decide_eq_false h8)
   intro h9
   try simp only [nf,dt,tn] at h9
   with_reducible aa
   iterate 2 omega
   refine⟨(x5+nat_lit 1),?_⟩
   try dsimp only
   with_reducible aa
   omega
   exact S.R7 h6 h7 (decide_eq_true h9)
   simp only [S.ag,S.len];omega
 intro c5
 try simp only [df] at c5
 exact S.Uf h6 c5
theorem aax(s1:Int)(s2:Int)(s3:List (List UInt8×List Int))(hp:S.bB s3)(hf:Vg.Row.ok (Vg.PS.flat [.agg [.int .i64, .int .i64, .slice [.str, .slice [.int .i64]]]]) (s1,s2,s3)):NF s1 s2 s3:=by
 delta NF aC z0 z1 an
 have iW: -9223372036854775808≤s1∧s1≤9223372036854775807:=hf.1
 have iX: -9223372036854775808≤s2∧s2≤9223372036854775807:=hf.2.1
 have tP:s3.length≤9223372036854775807:=hf.2.2.1.1
 clear hf
 have la:=hp.1
 with_reducible aa
 omega
 · intro h1
   try simp only [nt] at h1
   with_reducible aa
   iterate 4 (rw [S.CR h1])
   rw [S.CR h1]
 intro h2
 try simp only [nf] at h2
 with_reducible aa
 omega
 · intro h3
   try simp only [nt,df] at h3
   with_reducible aa
   iterate 5 (exact absurd (S.mD h2).2.1 h3)
 intro h4
 try simp only [nf,dt] at h4
 with_reducible aa
 iterate 2 omega
 iterate 3 (rw [(S.mD h2).1])
 · rw [(S.mD h2).1];exact(S.mD h2).2.2
 rw [(S.mD h2).1]
theorem aay(docs:List (List UInt8))(s1:Int)(s2:Int)(hp:True)(hf:Vg.Row.ok (Vg.PS.flat [.one (.slice [.slice [.int .u8]]), .agg [.int .i64, .int .i64]]) (docs,s1,s2)):NG docs s1 s2:=by
 delta NG z0 z1
 have tQ:docs.length≤9223372036854775807:=hf.1.1
 have iW: -9223372036854775808≤s1∧s1≤9223372036854775807:=hf.2.1
 have iX: -9223372036854775808≤s2∧s2≤9223372036854775807:=hf.2.2.1
 clear hf
 with_reducible aa
 trivial
 · intro h1
   try simp only [nt,df] at h1
   with_reducible aa
   iterate 3 (rw [(S.J4 (by simpa using h1)).1])
   have q:=S.J4 (docs:=docs) (a:=s1) (b:=s2) (by simpa using h1)
   rw [q.1,q.2]
 intro h2
 try simp only [nf,dt] at h2
 refine⟨?_,?_⟩
 · intro h3
   try simp only [dt] at h3
   with_reducible aa
   iterate 3 (rw [S.J5 h3])
   rw [S.J5 h3]
 intro h4
 try simp only [df] at h4
 with_reducible aa
 iterate 3 (rw [S.J6 (by simpa using h2) h4])
 rw [S.J6 (by simpa using h2) h4]
theorem aaz(docs:List (List UInt8))(s1:Int)(s2:Int)(hp:True)(hf:Vg.Row.ok (Vg.PS.flat [.one (.slice [.slice [.int .u8]]), .agg [.int .i64, .int .i64]]) (docs,s1,s2)):NH docs s1 s2:=by
 unfold NH
 have tQ:docs.length≤9223372036854775807:=hf.1.1
 have iW: -9223372036854775808≤s1∧s1≤9223372036854775807:=hf.2.1
 have iX: -9223372036854775808≤s2∧s2≤9223372036854775807:=hf.2.2.1
 clear hf
 refine⟨?_,?_⟩
 · trivial
 simp only [S.cC,S.qe]
theorem aaA(docs:List (List UInt8))(s1:Int)(s2:Int)(hp:S.eb docs s1 s2)(hf:Vg.Row.ok (Vg.PS.flat [.one (.slice [.slice [.int .u8]]), .agg [.int .i64, .int .i64]]) (docs,s1,s2)):NI docs s1 s2:=by
 unfold NI
 have tQ:docs.length≤9223372036854775807:=hf.1.1
 have iW: -9223372036854775808≤s1∧s1≤9223372036854775807:=hf.2.1
 have iX: -9223372036854775808≤s2∧s2≤9223372036854775807:=hf.2.2.1
 clear hf
 with_reducible aa
 exact hp
 iterate 3 rfl
theorem aaB(s1:Int)(s2:Int)(s3:List (List UInt8×List Int))(hp:S.bB s3∧S.bl s3=true)(hf:Vg.Row.ok (Vg.PS.flat [.agg [.int .i64, .int .i64, .slice [.str, .slice [.int .i64]]]]) (s1,s2,s3)):NJ s1 s2 s3:=by
 delta NJ an
 have iW: -9223372036854775808≤s1∧s1≤9223372036854775807:=hf.1
 have iX: -9223372036854775808≤s2∧s2≤9223372036854775807:=hf.2.1
 have tP:s3.length≤9223372036854775807:=hf.2.2.1.1
 clear hf
 with_reducible aa
 exact hp.1
 exact hp.2
 exact hp.1
 exact hp.2
 iterate 4 rfl
theorem aaC(a1:Int)(a2:Int)(a3:List (List UInt8×List Int))(b1:Int)(b2:Int)(b3:List (List UInt8×List Int))(hp:True)(hf:Vg.Row.ok (Vg.PS.flat [.agg [.int .i64, .int .i64, .slice [.str, .slice [.int .i64]]], .agg [.int .i64, .int .i64, .slice [.str, .slice [.int .i64]]]]) (a1,a2,a3,b1,b2,b3)):NK a1 a2 a3 b1 b2 b3:=by
 unfold NK
 have aiI: -9223372036854775808≤a1∧a1≤9223372036854775807:=hf.1
 have aiJ: -9223372036854775808≤a2∧a2≤9223372036854775807:=hf.2.1
 have aq1:a3.length≤9223372036854775807:=hf.2.2.1.1
 have aiK: -9223372036854775808≤b1∧b1≤9223372036854775807:=hf.2.2.2.1
 have aiL: -9223372036854775808≤b2∧b2≤9223372036854775807:=hf.2.2.2.2.1
 have aq2:b3.length≤9223372036854775807:=hf.2.2.2.2.2.1.1
 clear hf
 with_reducible aa
 · intro h1
   trivial
 · intro h2
   trivial
 simp only [S.Ug,S.rB,S.eR,S.qe,Bool.and_assoc]
theorem aaD(d:List (List UInt8×List Int))(hp:True)(hf:Vg.Row.ok (Vg.PS.flat [.one (.slice [.str, .slice [.int .i64]])]) d):NM d:=by
 delta NM NL Wy aC z0 z1 an
 have FF:d.length≤9223372036854775807:=hf.1.1
 clear hf
 refine⟨?_,?_⟩
 · refine⟨(nat_lit 0:Nat),?_⟩
   try dsimp only
   refine⟨?_,?_⟩
   · omega
   exact S.an0 d
 intro x1 h2
 refine⟨?_,?_⟩
 · intro h3
   try simp only [dt] at h3
   with_reducible aa
   iterate 2 omega
   · intro h4
     try simp only [dt,tn] at h4
     trivial
   · intro h5
     try simp only [df,tn] at h5
     refine⟨?_,?_⟩
     · omega
     omega
   · intro h6
     try simp only [V.pO,dt,tn] at h6
     refine S.ť h3 ?_
     simp only [S.pn,Bool.or_eq_true,dt];exact h6
   intro h7
   try simp only [V.gh,df,tn] at h7
   with_reducible aa
   iterate 2 omega
   refine⟨(x1+nat_lit 1),?_⟩
   try dsimp only
   with_reducible aa
   omega
   · refine S.Ui h2 h3 ?_
     simp only [S.pn,Bool.or_eq_false_iff,df];exact h7
   simp only [S.ag,S.len];omega
 intro h8
 try simp only [df] at h8
 exact S.Ŧ h2 h8
theorem aaE(docs:List (List UInt8))(hp:True)(hf:Vg.Row.ok (Vg.PS.flat [.one (.slice [.slice [.int .u8]])]) docs):NN docs:=by
 delta NN aC z0 z1 an
 have tQ:docs.length≤9223372036854775807:=hf.1.1
 clear hf
 refine⟨?_,?_⟩
 · refine⟨(nat_lit 0:Nat),?_⟩
   try dsimp only
   refine⟨?_,?_⟩
   · omega
   exact S.an1 docs
 intro x1 h2
 refine⟨?_,?_⟩
 · intro h3
   try simp only [dt] at h3
   with_reducible aa
   iterate 2 omega
   · intro h4
     try simp only [dt,tn] at h4
     exact S.ŧ h3 h4
   intro h5
   try simp only [df,tn] at h5
   with_reducible aa
   iterate 2 omega
   refine⟨(x1+nat_lit 1),?_⟩
   try dsimp only
   with_reducible aa
   omega
   exact S.Uj h2 h3 h5
   simp only [S.ag,S.len];omega
 intro h6
 try simp only [df] at h6
 exact S.Ũ h2 h6
theorem aaF(s1:Int)(s2:Int)(s3:List (List UInt8×List Int))(hp:True)(hf:Vg.Row.ok (Vg.PS.flat [.agg [.int .i64, .int .i64, .slice [.str, .slice [.int .i64]]]]) (s1,s2,s3)):NO s1 s2 s3:=by
 unfold NO
 have iW: -9223372036854775808≤s1∧s1≤9223372036854775807:=hf.1
 have iX: -9223372036854775808≤s2∧s2≤9223372036854775807:=hf.2.1
 have tP:s3.length≤9223372036854775807:=hf.2.2.1.1
 clear hf
 with_reducible aa
 iterate 3 rfl
theorem aaG(s1:Int)(s2:Int)(s3:Int)(s4:List UInt8)(hp:True)(hf:Vg.Row.ok (Vg.PS.flat [.agg [.int .i64, .int .i64, .int .i64, .str]]) (s1,s2,s3,s4)):NP s1 s2 s3 s4:=by
 unfold NP
 have iW: -9223372036854775808≤s1∧s1≤9223372036854775807:=hf.1
 have iX: -9223372036854775808≤s2∧s2≤9223372036854775807:=hf.2.1
 have tP: -9223372036854775808≤s3∧s3≤9223372036854775807:=hf.2.2.1
 have MA:s4.length≤9223372036854775807:=hf.2.2.2.1
 clear hf
 with_reducible aa
 iterate 4 rfl
theorem aaH(l:List (Int×Int×List (List UInt8×List Int)))(hp:S.mF l)(hf:Vg.Row.ok (Vg.PS.flat [.one (.slice [.int .i64, .int .i64, .slice [.str, .slice [.int .i64]]])]) l):NQ l:=by
 delta NQ Ku Kv tO FB vr vt qx aC Db z0 z1 an
 have gj:l.length≤9223372036854775807:=hf.1.1
 clear hf
 with_reducible aa
 iterate 2 omega
 · have :=hp.1;omega
 · refine⟨0,?_⟩
   try dsimp only
   with_reducible aa
   rfl
   · simp only [S.ay];exact S.Ų l
   omega
 intro x1 h2
 refine⟨?_,?_⟩
 · refine⟨(0,x1),?_⟩
   try dsimp only
   with_reducible aa
   omega
   rfl
   iterate 2 omega
   rfl
 intro x3 h4
 refine⟨?_,?_⟩
 · intro h5
   try simp only [dt] at h5
   with_reducible aa
   iterate 3 omega
   iterate 2 (rw [S.fq];omega)
   · intro h6
     try simp only [dt,tn] at h6
     with_reducible aa
     iterate 2 omega
     refine⟨(x3.1+1,x3.2),?_⟩
     try dsimp only
     with_reducible aa
     omega
     · rw [←h4.2];exact S.UA h6
     iterate 2 omega
     exact h4.2
     simp only [S.ag,S.len];omega
   intro h7
   try simp only [df,tn] at h7
   with_reducible aa
   · intro h8
     try simp only [dt] at h8
     trivial
   · intro h9
     try simp only [df] at h9
     with_reducible aa
     omega
     iterate 2 (rw [S.fq];omega)
     exact S.Uz l _ _
     exact S.an8 h5 h7
     omega
     · rw [←h4.2] at h9 ⊢;first|exact(S.fc h4.1.1 h9).1|exact(S.fc h4.1.1 h9).2.1|exact(S.fc h4.1.1 h9).2.2.1|exact(S.fc h4.1.1 h9).2.2.2
     omega
     iterate 2 (rw [←h4.2] at h9 ⊢;first|exact(S.fc h4.1.1 h9).1|exact(S.fc h4.1.1 h9).2.1|exact(S.fc h4.1.1 h9).2.2.1|exact(S.fc h4.1.1 h9).2.2.2)
     exact S.Uz l _ _
     rw [←h4.2] at h9 ⊢;first|exact(S.fc h4.1.1 h9).1|exact(S.fc h4.1.1 h9).2.1|exact(S.fc h4.1.1 h9).2.2.1|exact(S.fc h4.1.1 h9).2.2.2
   iterate 2 omega
   refine⟨(x3.1+1,x3.2),?_⟩
   try dsimp only
   with_reducible aa
   omega
   · rw [←h4.2];exact S.UB h7
   iterate 2 omega
   exact h4.2
   simp only [S.ag,S.len];omega
 intro c5
 try simp only [df] at c5
 refine⟨?_,?_⟩
 · intro fM
   try simp only [dt] at fM
   rw [←h4.2] at fM;exact S.ags hp h4.1.1 c5 fM
 intro dB
 try simp only [df] at dB
 with_reducible aa
 omega
 · rw [←h4.2] at dB ⊢;first|exact(S.fc h4.1.1 dB).1|exact(S.fc h4.1.1 dB).2.1|exact(S.fc h4.1.1 dB).2.2.1|exact(S.fc h4.1.1 dB).2.2.2
 omega
 iterate 2 (rw [←h4.2] at dB ⊢;first|exact(S.fc h4.1.1 dB).1|exact(S.fc h4.1.1 dB).2.1|exact(S.fc h4.1.1 dB).2.2.1|exact(S.fc h4.1.1 dB).2.2.2)
 exact S.Uz l _ _
 · rw [←h4.2] at dB ⊢;first|exact(S.fc h4.1.1 dB).1|exact(S.fc h4.1.1 dB).2.1|exact(S.fc h4.1.1 dB).2.2.1|exact(S.fc h4.1.1 dB).2.2.2
 · refine⟨(0,x1),?_⟩
   try dsimp only
   with_reducible aa
   omega
   exact S.ago l x1
   · rw [←h4.2] at dB ⊢;exact(S.Nl hp h4.1.1 c5 dB).2
   rfl
   omega
   · rw [←h4.2] at dB;exact(S.Nl hp h4.1.1 c5 dB).1
   rfl
 intro WW eX
 refine⟨?_,?_⟩
 · intro k9
   try simp only [dt] at k9
   with_reducible aa
   iterate 3 omega
   exact(S.pU k9).1
   exact(S.pU k9).2
   · intro EC
     try simp only [dt,tn] at EC
     with_reducible aa
     omega
     exact(S.pU k9).1
     exact(S.pU k9).2
     exact(S.UC k9).1
     exact EC
   · intro Kx
     try simp only [df,tn] at Kx
     trivial
   · intro y8
     try simp only [V.Ju,dt,tn] at y8
     with_reducible aa
     omega
     exact(S.pU k9).1
     exact(S.pU k9).2
     exact(S.UC k9).1
     exact y8.1
     · have q:=S.ű hp (k:=WW.2) k9;exact Nat.le_trans (Nat.add_le_add q.1 q.2) (by decide)
     omega
     exact(S.pU k9).1
     exact(S.pU k9).2
     exact(S.aej hp k9).1
     exact(S.aej hp k9).2
     omega
     exact(S.pU k9).1
     exact(S.pU k9).2
     iterate 2 omega
     refine⟨(WW.1+1,WW.2),?_⟩
     try dsimp only
     with_reducible aa
     omega
     exact(S.UD hp eX.1.2 k9 y8.1 y8.2).1
     rfl
     exact(S.UD hp eX.1.2 k9 y8.1 y8.2).2
     iterate 2 omega
     exact eX.2
     simp only [S.ag,S.len];omega
   intro Ky
   try simp only [V.xx,df,tn] at Ky
   with_reducible aa
   iterate 2 omega
   refine⟨(WW.1+1,WW.2),?_⟩
   try dsimp only
   with_reducible aa
   omega
   exact(S.Nn hp eX.1.2 k9 (fun q=>Ky.elim (fun z=>z q.1) (fun z=>z q.2))).1
   rfl
   exact(S.Nn hp eX.1.2 k9 (fun q=>Ky.elim (fun z=>z q.1) (fun z=>z q.2))).2
   iterate 2 omega
   exact eX.2
   simp only [S.ag,S.len];omega
 intro Sq
 try simp only [df] at Sq
 refine⟨?_,?_⟩
 · have :=S.an9 hp h2;simp only [List.length_singleton];omega
 refine⟨(x1+1),?_⟩
 try dsimp only
 with_reducible aa
 · have e:=S.Ii eX.2 h2 (Nat.le_of_lt eX.1.2);subst e;exact(S.UE eX.1.1 Sq eX.1.2).1
 · have e:=S.Ii eX.2 h2 (Nat.le_of_lt eX.1.2);subst e;exact(S.UE eX.1.1 Sq eX.1.2).2
 · have e:=S.Ii eX.2 h2 (Nat.le_of_lt eX.1.2);have e2:=eX.1.2;first|omega|(simp only [S.ag];omega)
 have e:=S.Ii eX.2 h2 (Nat.le_of_lt eX.1.2);have e2:=eX.1.2;first|omega|(simp only [S.ag];omega)
theorem aaI(l:List (Int×Int×List (List UInt8×List Int)))(hp:S.tD l)(hf:Vg.Row.ok (Vg.PS.flat [.one (.slice [.int .i64, .int .i64, .slice [.str, .slice [.int .i64]]])]) l):NR l:=by
 delta NR zX Wz aC z0 z1 an
 have gj:l.length≤9223372036854775807:=hf.1.1
 clear hf
 refine⟨?_,?_⟩
 · intro h1
   try simp only [dt] at h1
   with_reducible aa
   iterate 3 (rw [S.UF h1])
   rw [S.UF h1]
 intro h2
 try simp only [df] at h2
 refine⟨?_,?_⟩
 · refine⟨(nat_lit 0:Nat),?_⟩
   try dsimp only
   refine⟨?_,?_⟩
   · omega
   exact S.ų hp h2
 intro x3 h4
 refine⟨?_,?_⟩
 · intro h5
   try simp only [dt] at h5
   with_reducible aa
   iterate 2 omega
   exact hp.2 _ (S.fp (show x3<l.length by omega))
   · intro h6
     try simp only [nt] at h6
     with_reducible aa
     iterate 3 (rw [S.UG h5 h6])
     rw [S.UG h5 h6]
   intro h7
   try simp only [nf] at h7
   with_reducible aa
   iterate 2 omega
   refine⟨(x3+nat_lit 1),?_⟩
   try dsimp only
   with_reducible aa
   omega
   exact S.Ŵ h4 h5 h7
   simp only [S.ag,S.len];omega
 intro h8
 try simp only [df] at h8
 refine⟨?_,?_⟩
 · refine⟨0,?_⟩
   try dsimp only
   refine⟨?_,?_⟩
   · omega
   exact S.ŵ h4 h8
 intro x9 c5
 refine⟨?_,?_⟩
 · intro fM
   try simp only [dt] at fM
   with_reducible aa
   iterate 6 omega
   · intro dB
     try simp only [nt,df] at dB
     with_reducible aa
     iterate 3 (rw [S.UH c5 fM dB])
     rw [S.UH c5 fM dB]
   intro kA
   try simp only [nf,dt] at kA
   with_reducible aa
   iterate 2 omega
   refine⟨(x9+1),?_⟩
   try dsimp only
   with_reducible aa
   omega
   exact S.Ŷ c5 fM kA
   simp only [S.ag,S.len];omega
 intro eX
 try simp only [df] at eX
 with_reducible aa
 iterate 6 omega
 exact S.agu c5
 iterate 2 (rw [S.Mu c5 eX];rfl)
 rw [S.Mu c5 eX]
 rw [S.Mu c5 eX]
theorem aaJ(s1:Int)(s2:Int)(hp:True)(hf:Vg.Row.ok (Vg.PS.flat [.agg [.int .i64, .int .i64]]) (s1,s2)):NS s1 s2:=by
 delta NS WA aC z0 z1
 have iW: -9223372036854775808≤s1∧s1≤9223372036854775807:=hf.1
 have iX: -9223372036854775808≤s2∧s2≤9223372036854775807:=hf.2.1
 clear hf
 refine⟨?_,?_⟩
 · intro h1
   try simp only [V.pO,dt] at h1
   exact S.Uw h1
 intro h2
 try simp only [V.gh,df] at h2
 with_reducible aa
 iterate 2 omega
 · refine⟨(Int.toNat (s2-s1)),?_⟩
   try dsimp only
   with_reducible aa
   omega
   · rw [S.Kl (by omega)];omega
   exact S.ů h2
 intro x3 h4
 refine⟨?_,?_⟩
 · intro h5
   try simp only [dt] at h5
   with_reducible aa
   iterate 2 (have q1:=S.Uo (s2-s1) (by omega);have q2:=S.Ű (n:=(x3:Int)) h5;have q3:=S.aeg (s2-s1);have q4:=S.Ux h4;have q5:=S.Uo (x3:Int) (by omega);omega)
   iterate 2 omega
   refine⟨(Int.toNat ((↑x3:Int)/(2:Int))),?_⟩
   try dsimp only
   with_reducible aa
   omega
   exact S.Uy h5
   exact S.Mt h4 h5
   omega
 intro h6
 try simp only [df] at h6
 exact S.Se h2 h4 h6
theorem aaK(l:List (Int×Int))(hp:True)(hf:Vg.Row.ok (Vg.PS.flat [.one (.slice [.int .i64, .int .i64])]) l):NT l:=by
 delta NT WB aC z0 z1 an
 have gj:l.length≤9223372036854775807:=hf.1.1
 clear hf
 with_reducible aa
 iterate 2 omega
 · refine⟨0,?_⟩
   try dsimp only
   refine⟨?_,?_⟩
   · simp only [S.ag,S.len] at *;omega
   exact S.n_0 l
 intro x1 h2
 refine⟨?_,?_⟩
 · intro h3
   try simp only [dt] at h3
   with_reducible aa
   omega
   · simp only [S.ag,S.len] at *;omega
   trivial
   omega
   · simp only [S.ag,S.len] at *;omega
   omega
   · simp only [S.ag,S.len] at *;omega
   trivial
   · intro h4
     try simp only [dt] at h4
     refine⟨?_,?_⟩
     · rw [S.UI h2 h3 h4]
     rw [S.UI h2 h3 h4]
   intro h5
   try simp only [df] at h5
   with_reducible aa
   omega
   · simp only [S.ag,S.len] at *;omega
   refine⟨(x1+1),?_⟩
   try dsimp only
   with_reducible aa
   omega
   exact S.aoa h2 h3 h5
   simp only [S.ag,S.len] at *;omega
 intro h6
 try simp only [df] at h6
 refine⟨?_,?_⟩
 · rw [S.UJ h2 h6]
 rw [S.UJ h2 h6]
theorem aaL(l:List (Int×Int×List (List UInt8×List Int)))(hp:S.small l)(hf:Vg.Row.ok (Vg.PS.flat [.one (.slice [.int .i64, .int .i64, .slice [.str, .slice [.int .i64]]])]) l):NU l:=by
 delta NU aC z0 z1 an
 have gj:l.length≤9223372036854775807:=hf.1.1
 clear hf
 refine⟨?_,?_⟩
 · refine⟨(nat_lit 0:Nat),?_⟩
   try dsimp only
   with_reducible aa
   omega
   simp [S.fY,S.b8]
   omega
 intro x1 h2
 refine⟨?_,?_⟩
 · intro h3
   try simp only [dt] at h3
   with_reducible aa
   iterate 2 omega
   · have :=S.Ij l x1;simp only [List.length_singleton,S.small] at *;omega
   iterate 2 omega
   refine⟨(x1+nat_lit 1),?_⟩
   try dsimp only
   with_reducible aa
   omega
   exact S.Km h3
   omega
   simp only [S.ag,S.len] at *;omega
 intro h4
 try simp only [df] at h4
 exact S.Mv h4
theorem aaM(l:List UInt8)(hp:S.small l)(hf:Vg.Row.ok (Vg.PS.flat [.one (.slice [.int .u8])]) l):NV l:=by
 delta NV eS
 have gj:l.length≤9223372036854775807:=hf.1.1
 clear hf
 with_reducible aa
 · intro h1
   exact h1.symm
 · simp only [S.small,Vg.cq,ln] at *;omega
 rfl
theorem aaN(l:List (List UInt8×List Int))(hp:S.small l)(hf:Vg.Row.ok (Vg.PS.flat [.one (.slice [.str, .slice [.int .i64]])]) l):NW l:=by
 unfold NW
 have gj:l.length≤9223372036854775807:=hf.1.1
 clear hf
 with_reducible aa
 · intro h1
   exact h1.symm
 · simp only [S.small,Vg.cq,ln] at *;omega
 rfl
theorem aaO(a:List Int)(b:List Int)(hp:True)(hf:Vg.Row.ok (Vg.PS.flat [.one (.slice [.int .i64]), .one (.slice [.int .i64])]) (a,b)):NX a b:=by
 delta NX aC z0 z1 an
 have yb:a.length≤9223372036854775807:=hf.1.1
 have eF:b.length≤9223372036854775807:=hf.2.1.1
 clear hf
 refine⟨?_,?_⟩
 · intro h1
   try simp only [nt,df] at h1
   exact(decide_eq_false (S.Ko h1)).symm
 intro h2
 try simp only [nf,dt] at h2
 refine⟨?_,?_⟩
 · refine⟨(nat_lit 0:Nat),?_⟩
   try dsimp only
   refine⟨?_,?_⟩
   · omega
   exact S.UK h2
 intro x3 h4
 refine⟨?_,?_⟩
 · intro h5
   try simp only [dt] at h5
   with_reducible aa
   iterate 4 omega
   · intro h6
     try simp only [nt,df,tn] at h6
     exact(decide_eq_false (S.Kp 0 h6)).symm
   intro h7
   try simp only [nf,dt,tn] at h7
   with_reducible aa
   iterate 2 omega
   refine⟨(x3+nat_lit 1),?_⟩
   try dsimp only
   with_reducible aa
   omega
   exact S.Fx 0 h4 h5 h7
   simp only [S.ag,S.len,S.kg,S.jU] at *;omega
 intro h8
 try simp only [df] at h8
 exact(decide_eq_true (S.Kn h4 h8)).symm
theorem aaP(a1:List UInt8)(a2:List Int)(b1:List UInt8)(b2:List Int)(hp:True)(hf:Vg.Row.ok (Vg.PS.flat [.agg [.str, .slice [.int .i64]], .agg [.str, .slice [.int .i64]]]) (a1,a2,b1,b2)):NY a1 a2 b1 b2:=by
 unfold NY
 have aiI:a1.length≤9223372036854775807:=hf.1
 have aiJ:a2.length≤9223372036854775807:=hf.2.1.1
 have aiK:b1.length≤9223372036854775807:=hf.2.2.1
 have aiL:b2.length≤9223372036854775807:=hf.2.2.2.1.1
 clear hf
 with_reducible aa
 · intro h1
   try simp only [dt] at h1
   trivial
 · intro h2
   try simp only [df] at h2
   trivial
 simp only [S.tJ,S.y5];cases decide (a1=b1)<;>rfl
theorem aaQ(a:List (List UInt8×List Int))(b:List (List UInt8×List Int))(hp:True)(hf:Vg.Row.ok (Vg.TA.eI [.iO (.slice [.str, .slice [.int .i64]]), .iO (.slice [.str, .slice [.int .i64]]), .fn (.func 98) [] []]) (a,b))(hg:Vg.fJ.ok [] ()):NZ a b:=by
 delta NZ WC aC z0 z1 an
 have yb:a.length≤9223372036854775807:=hf.1.1
 have eF:b.length≤9223372036854775807:=hf.2.1.1
 clear hf hg
 refine⟨?_,?_⟩
 · intro h1
   try simp only [nt,df] at h1
   exact(decide_eq_false (S.Ko h1)).symm
 intro h2
 try simp only [nf,dt] at h2
 refine⟨?_,?_⟩
 · refine⟨(nat_lit 0:Nat),?_⟩
   try dsimp only
   refine⟨?_,?_⟩
   · omega
   exact S.UK h2
 intro x3 h4
 refine⟨?_,?_⟩
 · intro h5
   try simp only [dt] at h5
   with_reducible aa
   iterate 4 omega
   trivial
   · intro h6
     try simp only [nt] at h6
     exact(decide_eq_false (S.Kp ([],[]) (S.Ÿ h6))).symm
   intro h7
   try simp only [nf] at h7
   with_reducible aa
   iterate 2 omega
   refine⟨(x3+nat_lit 1),?_⟩
   try dsimp only
   with_reducible aa
   omega
   exact S.Fx ([],[]) h4 h5 (S.ŷ h7)
   simp only [S.ag,S.len,S.kg,S.jU] at *;omega
 intro h8
 try simp only [df] at h8
 exact(decide_eq_true (S.Kn h4 h8)).symm
theorem aaR(a:List (List UInt8×List Int))(b:List (List UInt8×List Int))(hp:True)(hf:Vg.Row.ok (Vg.PS.flat [.one (.slice [.str, .slice [.int .i64]]), .one (.slice [.str, .slice [.int .i64]])]) (a,b)):N0 a b:=by
 unfold N0
 have yb:a.length≤9223372036854775807:=hf.1.1
 have eF:b.length≤9223372036854775807:=hf.2.1.1
 clear hf
 refine⟨?_,?_⟩
 · trivial
 rfl
theorem aaS(y1:List (List UInt8))(y2:List (Int×Int×List (List UInt8×List Int)))(hp:True)(hf:Vg.Row.ok (Vg.PS.flat [.agg [.slice [.slice [.int .u8]], .slice [.int .i64, .int .i64, .slice [.str, .slice [.int .i64]]]]]) (y1,y2)):N1 y1 y2:=by
 delta N1 xX Dd WD aC z0 z1 an
 have kh:y1.length≤9223372036854775807:=hf.1.1
 have kj:y2.length≤9223372036854775807:=hf.2.1.1
 clear hf
 refine⟨?_,?_⟩
 · intro h1
   try simp only [V.pO,dt] at h1
   exact S.aob h1
 intro h2
 try simp only [V.gh,df] at h2
 refine⟨?_,?_⟩
 · refine⟨(nat_lit 0:Nat),?_⟩
   try dsimp only
   refine⟨?_,?_⟩
   · omega
   exact⟨by omega,by omega,S.Nf _⟩
 intro x3 h4
 refine⟨?_,?_⟩
 · intro h5
   try simp only [dt] at h5
   with_reducible aa
   iterate 2 omega
   · intro h6
     try simp only [dt,tn] at h6
     exact S.aoc h5 h6
   intro h7
   try simp only [df,tn] at h7
   with_reducible aa
   iterate 2 omega
   refine⟨(x3+nat_lit 1),?_⟩
   try dsimp only
   with_reducible aa
   omega
   exact⟨h4.1,h4.2.1,S.CN h4.2.2 h5 (by omega)⟩
   simp only [S.ag,S.len,S.kg,S.jU] at *;omega
 intro h8
 try simp only [df] at h8
 refine⟨?_,?_⟩
 · refine⟨(nat_lit 0:Nat),?_⟩
   try dsimp only
   with_reducible aa
   omega
   rfl
   exact S.UL h4 h8
 intro x9 c5
 refine⟨?_,?_⟩
 · intro fM
   try simp only [dt] at fM
   with_reducible aa
   iterate 2 omega
   · intro dB
     try simp only [V.pO,nt,df,tn,dt] at dB
     exact S.AJ fM (S.aod dB)
   intro kA
   try simp only [V.gh,nf,dt,tn,df] at kA
   with_reducible aa
   trivial
   · intro eX
     try simp only [nt,df,tn] at eX
     trivial
   · intro k9
     try simp only [nf,dt,tn] at k9
     trivial
   · intro EC
     try simp only [V.pO,nt,df,tn] at EC
     exact S.AJ fM (S.aoe c5 kA EC)
   intro Kx
   try simp only [V.gh,nf,dt,tn] at Kx
   with_reducible aa
   iterate 2 omega
   refine⟨(x9+nat_lit 1),?_⟩
   try dsimp only
   with_reducible aa
   omega
   exact S.Fy _ _
   exact S.Kq c5 fM (S.aof c5 kA Kx)
   simp only [S.ag,S.len,S.kg,S.jU] at *;omega
 intro y8
 try simp only [df] at y8
 exact S.Np c5 y8
theorem aaT(y1:List (List UInt8))(y2:List (Int×Int×List (List UInt8×List Int)))(hp:True)(hf:Vg.Row.ok (Vg.PS.flat [.agg [.slice [.slice [.int .u8]], .slice [.int .i64, .int .i64, .slice [.str, .slice [.int .i64]]]]]) (y1,y2)):N2 y1 y2:=by
 unfold N2
 have kh:y1.length≤9223372036854775807:=hf.1.1
 have kj:y2.length≤9223372036854775807:=hf.2.1.1
 clear hf
 with_reducible aa
 trivial
 · intro h1
   try simp only [nt] at h1
   refine⟨?_,?_⟩
   · rw [S.xT h1]
   rw [S.xT h1]
 intro h2
 try simp only [nf] at h2
 refine⟨?_,?_⟩
 · rw [S.rE h2]
 rw [S.rE h2]
theorem aaU(y1:List (List UInt8))(y2:List (Int×Int×List (List UInt8×List Int)))(hp:True)(hf:Vg.Row.ok (Vg.PS.flat [.agg [.slice [.slice [.int .u8]], .slice [.int .i64, .int .i64, .slice [.str, .slice [.int .i64]]]]]) (y1,y2)):N3 y1 y2:=by
 delta N3 aC z0 z1 an
 have kh:y1.length≤9223372036854775807:=hf.1.1
 have kj:y2.length≤9223372036854775807:=hf.2.1.1
 clear hf
 refine⟨?_,?_⟩
 · intro h1
   try simp only [dt] at h1
   exact S.agv h1
 intro h2
 try simp only [df] at h2
 with_reducible aa
 iterate 4 omega
 exact S.agw h2
theorem aaV(y1:List (List UInt8))(y2:List (Int×Int×List (List UInt8×List Int)))(hp:S.np y1 y2)(hf:Vg.Row.ok (Vg.PS.flat [.agg [.slice [.slice [.int .u8]], .slice [.int .i64, .int .i64, .slice [.str, .slice [.int .i64]]]]]) (y1,y2)):N4 y1 y2:=by
 delta N4 vu aC Db z0 z1 an
 have kh:y1.length≤9223372036854775807:=hf.1.1
 have kj:y2.length≤9223372036854775807:=hf.2.1.1
 clear hf
 with_reducible aa
 iterate 2 omega
 · have :=hp.1;omega
 iterate 2 omega
 · have :=hp.2.1;omega
 · refine⟨(nat_lit 0:Nat),?_⟩
   try dsimp only
   with_reducible aa
   omega
   exact S.Nq _ _
   simp only [S.ag,S.len,S.kg,S.jU] at *;omega
 intro x1 h2
 refine⟨?_,?_⟩
 · intro h3
   try simp only [dt] at h3
   with_reducible aa
   iterate 2 omega
   exact S.Ks hp _
   omega
   exact(S.ux _ h3).1
   exact(S.ux _ h3).2
   iterate 2 omega
   refine⟨(x1+nat_lit 1),?_⟩
   try dsimp only
   with_reducible aa
   omega
   exact S.Kr _ h3
   · simp only [S.ag,S.len,S.kg,S.jU] at *;omega
   simp only [S.ag,S.len,S.kg,S.jU] at *;omega
 intro h4
 try simp only [df] at h4
 refine⟨?_,?_⟩
 · refine⟨(nat_lit 0:Nat),?_⟩
   try dsimp only
   with_reducible aa
   omega
   exact S.Nq _ _
   simp only [S.ag,S.len,S.kg,S.jU] at *;omega
 intro x5 h6
 refine⟨?_,?_⟩
 · intro h7
   try simp only [dt] at h7
   with_reducible aa
   iterate 2 omega
   exact(S.wy hp _).1
   omega
   exact(S.ux _ h7).1
   exact(S.ux _ h7).2
   · refine⟨((nat_lit 0:Nat),((Int.toNat (↑x5:Int)),(List.set (S.cE ((0:Int),(0:Int),[]) y2 x5) (Int.toNat (↑x5:Int)) (Prod.fst (List.getD y2 (Int.toNat (↑x5:Int)) ((0:Int),(0:Int),[])),Prod.fst (Prod.snd (List.getD y2 (Int.toNat (↑x5:Int)) ((0:Int),(0:Int),[]))),[])))),?_⟩
     try dsimp only
     with_reducible aa
     omega
     rfl
     omega
     rfl
     exact S.agx h7
     omega
   intro x8 h9
   refine⟨?_,?_⟩
   · intro c5
     try simp only [dt,tn] at c5
     with_reducible aa
     omega
     trivial
     omega
     iterate 2 (have q:=h9.1.2.2.1;have q2:=h9.1.1;have q3:=h9.2;omega)
     omega
     exact(S.wy hp _).2 _
     omega
     iterate 2 (have e:x5=x8.2.1:=(by omega);subst e;first|exact c5|exact Int.ofNat_lt.1 c5)
     omega
     · have q:=(S.wy hp x5).1;exact S.Sf q c5
     refine⟨((Prod.fst x8+nat_lit 1),((Prod.fst (Prod.snd x8)),(Prod.snd (Prod.snd x8)))),?_⟩
     try dsimp only
     with_reducible aa
     omega
     rfl
     omega
     · have e:x5=x8.2.1:=(by omega);subst e;exact S.ua _ _ _
     · have e:x5=x8.2.1:=(by omega);subst e;exact S.Sh h9.1 c5
     omega
     have e:x5=x8.2.1:=(by omega);subst e;exact S.Si c5
   intro fM
   try simp only [df,tn] at fM
   with_reducible aa
   · have q:=h9.1.2.2.1;have q2:=h9.1.1;have q3:=h9.2;omega
   iterate 2 omega
   refine⟨(x5+nat_lit 1),?_⟩
   try dsimp only
   with_reducible aa
   omega
   · have e:x5=x8.2.1:=(by omega);subst e;exact S.UM h9.1
   · simp only [S.ag,S.len,S.kg,S.jU] at *;omega
   simp only [S.ag,S.len,S.kg,S.jU] at *;omega
 intro dB
 try simp only [df] at dB
 refine⟨?_,?_⟩
 · exact S.Fz _ h4
 exact S.Fz _ dB
theorem aaW(l:List (Int×Int×List (List UInt8×List Int)))(i:Int)(m:Int)(s1:Int)(s2:Int)(s3:List (List UInt8×List Int))(hp:S.xS l i m)(hf:Vg.Row.ok (Vg.PS.flat [.one (.slice [.int .i64, .int .i64, .slice [.str, .slice [.int .i64]]]), .one (.int .i64), .one (.int .i64), .agg [.int .i64, .int .i64, .slice [.str, .slice [.int .i64]]]]) (l,i,m,s1,s2,s3)):N5 l i m s1 s2 s3:=by
 delta N5 aC z0 an
 have gj:l.length≤9223372036854775807:=hf.1.1
 have arA: -9223372036854775808≤i∧i≤9223372036854775807:=hf.2.1
 have arB: -9223372036854775808≤m∧m≤9223372036854775807:=hf.2.2.1
 have iW: -9223372036854775808≤s1∧s1≤9223372036854775807:=hf.2.2.2.1
 have iX: -9223372036854775808≤s2∧s2≤9223372036854775807:=hf.2.2.2.2.1
 have tP:s3.length≤9223372036854775807:=hf.2.2.2.2.2.1.1
 clear hf
 with_reducible aa
 exact hp.2.1
 rfl
 · obtain⟨q1,q2,q3,q4⟩:=hp;first|omega|(simp only [List.length_append,List.length_take,List.length_drop,List.length_singleton];omega)
 exact Nat.one_pos
 iterate 6 (obtain⟨q1,q2,q3,q4⟩:=hp;first|omega|(simp only [List.length_append,List.length_take,List.length_drop,List.length_singleton];omega))
 · unfold S.qu;rw [show(i+m).toNat=i.toNat+m.toNat by have :=hp.2;omega]
theorem aaX(y1:List (List UInt8))(y2:List (Int×Int×List (List UInt8×List Int)))(hp:True)(hf:Vg.Row.ok (Vg.PS.flat [.agg [.slice [.slice [.int .u8]], .slice [.int .i64, .int .i64, .slice [.str, .slice [.int .i64]]]]]) (y1,y2)):N6 y1 y2:=by
 unfold N6
 have kh:y1.length≤9223372036854775807:=hf.1.1
 have kj:y2.length≤9223372036854775807:=hf.2.1.1
 clear hf
 with_reducible aa
 iterate 2 trivial
 rfl
theorem aaY(y1:List (List UInt8))(y2:List (Int×Int×List (List UInt8×List Int)))(d:List UInt8)(hp:True)(hf:Vg.Row.ok (Vg.PS.flat [.agg [.slice [.slice [.int .u8]], .slice [.int .i64, .int .i64, .slice [.str, .slice [.int .i64]]]], .one (.slice [.int .u8])]) (y1,y2,d)):N7 y1 y2 d:=by
 delta N7 z0 z1 an
 have kh:y1.length≤9223372036854775807:=hf.1.1
 have kj:y2.length≤9223372036854775807:=hf.2.1.1
 have FF:d.length≤9223372036854775807:=hf.2.2.1.1
 clear hf
 with_reducible aa
 trivial
 · intro h1
   try simp only [dt] at h1
   with_reducible aa
   iterate 2 (rw [S.aem h1])
   rw [S.aem h1]
 intro h2
 try simp only [df] at h2
 refine⟨?_,?_⟩
 · intro h3
   try simp only [dt] at h3
   with_reducible aa
   iterate 2 (rw [S.aen h2 h3])
   rw [S.aen h2 h3]
 intro h4
 try simp only [df] at h4
 with_reducible aa
 exact S.tL _ _
 · simp only [S.small];omega
 · have :=(S.k8 y1 y2).1;simp only [List.length_singleton];omega
 iterate 2 (rw [S.aeo h2 h4])
 rw [S.aeo h2 h4]
theorem aaZ(y1:List (List UInt8))(y2:List (Int×Int×List (List UInt8×List Int)))(hp:True)(hf:Vg.Row.ok (Vg.PS.flat [.agg [.slice [.slice [.int .u8]], .slice [.int .i64, .int .i64, .slice [.str, .slice [.int .i64]]]]]) (y1,y2)):N8 y1 y2:=by
 delta N8 vv z0
 have kh:y1.length≤9223372036854775807:=hf.1.1
 have kj:y2.length≤9223372036854775807:=hf.2.1.1
 clear hf
 with_reducible aa
 iterate 2 trivial
 · intro h1
   try simp only [dt] at h1
   with_reducible aa
   iterate 2 (rw [S.aep h1])
   rw [S.aep h1]
 intro h2
 try simp only [df] at h2
 refine⟨?_,?_⟩
 · intro h3
   try simp only [dt] at h3
   with_reducible aa
   iterate 2 (rw [S.aeq h2 h3])
   rw [S.aeq h2 h3]
 intro h4
 try simp only [df] at h4
 with_reducible aa
 trivial
 · intro h5
   try simp only [nt,df] at h5
   with_reducible aa
   iterate 3 (exact absurd (by rw [S.aer h2]) h5)
 intro h6
 try simp only [nf,dt] at h6
 with_reducible aa
 exact S.tL _ _
 · have :=(S.k8 y1 y2).2.1;simp only [List.length_singleton];omega
 iterate 2 (rw [S.aes h2 h4])
 rw [S.aes h2 h4]
theorem aa0(y1:List (List UInt8))(y2:List (Int×Int×List (List UInt8×List Int)))(hp:True)(hf:Vg.Row.ok (Vg.PS.flat [.agg [.slice [.slice [.int .u8]], .slice [.int .i64, .int .i64, .slice [.str, .slice [.int .i64]]]]]) (y1,y2)):N9 y1 y2:=by
 delta N9 De vw aC z0
 have kh:y1.length≤9223372036854775807:=hf.1.1
 have kj:y2.length≤9223372036854775807:=hf.2.1.1
 clear hf
 with_reducible aa
 trivial
 exact S.tL _ _
 · refine⟨(S.b8 (S.ao y1 y2).2),?_⟩
   try dsimp only
   refine⟨?_,?_⟩
   · exact(S.qv y1 y2).eq
   exact S.aoh _ _
 intro x1 h2
 with_reducible aa
 exact S.aoi h2
 trivial
 · intro h3
   try simp only [nt] at h3
   refine⟨?_,?_⟩
   · rfl
   exact S.Ź h2 h3
 intro h4
 try simp only [nf] at h4
 with_reducible aa
 iterate 5 (have q:=S.aet h2 h4;omega)
 exact(S.C5 h2 h4 rfl).1
 · intro h5
   try simp only [nt,df] at h5
   refine⟨?_,?_⟩
   · exact absurd (S.C5 h2 h4 rfl).2.1 h5
   exact absurd (S.C5 h2 h4 rfl).2.1 h5
 intro h6
 try simp only [nf,dt] at h6
 refine⟨?_,?_⟩
 · exact(S.C5 h2 h4 rfl).2.2.1
 refine⟨(S.jY x1 (S.dw (S.b8 (S.aF (S.ao y1 y2).1 x1))).1.toNat),?_⟩
 try dsimp only
 with_reducible aa
 exact(S.C5 h2 h4 rfl).2.2.2.1
 exact(S.C5 h2 h4 rfl).2.2.2.2.1
 exact(S.C5 h2 h4 rfl).2.2.2.2.2
theorem aa1(y1:List (List UInt8))(y2:List (Int×Int×List (List UInt8×List Int)))(hp:True)(hf:Vg.Row.ok (Vg.PS.flat [.agg [.slice [.slice [.int .u8]], .slice [.int .i64, .int .i64, .slice [.str, .slice [.int .i64]]]]]) (y1,y2)):Oa y1 y2:=by
 delta Oa xY aC Db z0 z1
 have kh:y1.length≤9223372036854775807:=hf.1.1
 have kj:y2.length≤9223372036854775807:=hf.2.1.1
 clear hf
 with_reducible aa
 trivial
 iterate 2 omega
 · have :=(S.k8 y1 y2).2.1;omega
 · refine⟨(nat_lit 0:Nat),?_⟩
   try dsimp only
   with_reducible aa
   omega
   rfl
   omega
 intro x1 h2
 refine⟨?_,?_⟩
 · intro h3
   try simp only [dt] at h3
   with_reducible aa
   iterate 2 omega
   exact(S.qw y1 y2 (k:=x1) (by omega)).2
   · have :=S.xU y1 y2 x1;simp only [List.length_singleton];omega
   omega
   · have :=(S.k8 y1 y2).2.1;omega
   refine⟨(x1+nat_lit 1),?_⟩
   try dsimp only
   with_reducible aa
   omega
   exact S.Kt h3
   · simp only [S.gL,S.ag] at *;omega
   simp only [S.gL,S.ag] at *;omega
 intro h4
 try simp only [df] at h4
 exact S.Nr h4
theorem aa2(y1:List (List UInt8))(y2:List (Int×Int×List (List UInt8×List Int)))(hp:True)(hf:Vg.Row.ok (Vg.PS.flat [.agg [.slice [.slice [.int .u8]], .slice [.int .i64, .int .i64, .slice [.str, .slice [.int .i64]]]]]) (y1,y2)):Ob y1 y2:=by
 delta Ob ib WE WG WH aC z0 z1 an
 have kh:y1.length≤9223372036854775807:=hf.1.1
 have kj:y2.length≤9223372036854775807:=hf.2.1.1
 clear hf
 with_reducible aa
 trivial
 · intro h1
   try simp only [V.pO,nt,dt] at h1
   exact S.aoj h1
 intro h2
 try simp only [V.gh,nf,df] at h2
 refine⟨?_,?_⟩
 · refine⟨(nat_lit 0:Nat),?_⟩
   try dsimp only
   refine⟨?_,?_⟩
   · omega
   exact⟨h2.1,by omega,fun i hi=>absurd hi (Nat.not_lt_zero i),Nat.zero_le _⟩
 intro x3 h4
 refine⟨?_,?_⟩
 · intro h5
   try simp only [dt] at h5
   with_reducible aa
   iterate 2 omega
   · intro h6
     try simp only [dt] at h6
     refine⟨?_,?_⟩
     · intro h7
       try simp only [nt,df,tn] at h7
       trivial
     intro h8
     try simp only [nf,dt,tn] at h8
     refine⟨?_,?_⟩
     · intro h9
       try simp only [dt] at h9
       with_reducible aa
       iterate 4 omega
       · intro c5
         try simp only [nt,df,tn] at c5
         trivial
       intro fM
       try simp only [nf,dt,tn] at fM
       trivial
     intro dB
     try simp only [df] at dB
     trivial
   · intro kA
     try simp only [df] at kA
     refine⟨?_,?_⟩
     · intro eX
       try simp only [dt] at eX
       with_reducible aa
       iterate 4 omega
       · intro k9
         try simp only [nt,df,tn] at k9
         trivial
       intro EC
       try simp only [nf,dt,tn] at EC
       trivial
     intro Kx
     try simp only [df] at Kx
     trivial
   · intro y8
     exact S.AJ h5 (S.ź (S.UN.symm.trans y8))
   intro Ky
   with_reducible aa
   iterate 2 omega
   exact S.lO (S.aeu (S.UN.symm.trans Ky)).2
   trivial
   · intro Sq
     try simp only [nt] at Sq
     exact S.AJ h5 (S.agy Sq)
   intro oJ
   try simp only [nf] at oJ
   with_reducible aa
   iterate 2 omega
   refine⟨(x3+nat_lit 1),?_⟩
   try dsimp only
   with_reducible aa
   omega
   exact S.Kq h4 h5 (S.Ż (S.aeu (S.UN.symm.trans Ky)) oJ)
   simp only [S.ag,S.len,S.kg,S.jU,S.gL] at *;omega
 intro h22
 try simp only [df] at h22
 exact S.Np h4 h22
theorem aa3(y1:List (List UInt8))(y2:List (Int×Int×List (List UInt8×List Int)))(hp:True)(hf:Vg.Row.ok (Vg.PS.flat [.agg [.slice [.slice [.int .u8]], .slice [.int .i64, .int .i64, .slice [.str, .slice [.int .i64]]]]]) (y1,y2)):Oc y1 y2:=by
 unfold Oc
 have kh:y1.length≤9223372036854775807:=hf.1.1
 have kj:y2.length≤9223372036854775807:=hf.2.1.1
 clear hf
 with_reducible aa
 trivial
 · intro h1
   refine⟨?_,?_⟩
   · rw [S.rE h1]
   rw [S.rE h1]
 intro h2
 refine⟨?_,?_⟩
 · rw [S.xT h2]
 rw [S.xT h2]
theorem aa4(y1:List (List UInt8))(y2:List (Int×Int×List (List UInt8×List Int)))(hp:True)(hf:Vg.Row.ok (Vg.PS.flat [.agg [.slice [.slice [.int .u8]], .slice [.int .i64, .int .i64, .slice [.str, .slice [.int .i64]]]]]) (y1,y2)):Od y1 y2:=by
 delta Od aC z0 z1
 have kh:y1.length≤9223372036854775807:=hf.1.1
 have kj:y2.length≤9223372036854775807:=hf.2.1.1
 clear hf
 with_reducible aa
 trivial
 · refine⟨(nat_lit 0:Nat),?_⟩
   try dsimp only
   with_reducible aa
   omega
   rfl
   omega
 intro x1 h2
 refine⟨?_,?_⟩
 · intro h3
   try simp only [dt] at h3
   with_reducible aa
   iterate 3 omega
   · have :=(S.k8 y1 y2).2.1;omega
   refine⟨(x1+nat_lit 1),?_⟩
   try dsimp only
   with_reducible aa
   omega
   exact S.Fy _ _
   · simp only [S.ag,S.len,S.kg,S.jU,S.gL] at *;omega
   simp only [S.ag,S.len,S.kg,S.jU,S.gL] at *;omega
 intro h4
 try simp only [df] at h4
 exact S.Sk h2 h4
theorem aa5(y1:List (List UInt8))(y2:List (Int×Int×List (List UInt8×List Int)))(hp:True)(hf:Vg.Row.ok (Vg.PS.flat [.agg [.slice [.slice [.int .u8]], .slice [.int .i64, .int .i64, .slice [.str, .slice [.int .i64]]]]]) (y1,y2)):Oe y1 y2:=by
 delta Oe xZ aC z0 z1
 have kh:y1.length≤9223372036854775807:=hf.1.1
 have kj:y2.length≤9223372036854775807:=hf.2.1.1
 clear hf
 with_reducible aa
 trivial
 · refine⟨(nat_lit 0:Nat),?_⟩
   try dsimp only
   with_reducible aa
   omega
   rfl
   omega
 intro x1 h2
 refine⟨?_,?_⟩
 · intro h3
   try simp only [dt] at h3
   with_reducible aa
   iterate 2 omega
   exact(S.qw y1 y2 (k:=x1) (by omega)).2
   exact S.C4 (S.qw y1 y2 (k:=x1) (by omega)).1
   · have :=S.xU y1 y2 x1;simp only [List.length_singleton];omega
   omega
   · have :=(S.k8 y1 y2).2.1;omega
   refine⟨(x1+nat_lit 1),?_⟩
   try dsimp only
   with_reducible aa
   omega
   exact S.Sl h3
   · simp only [S.ag,S.len,S.kg,S.jU,S.gL] at *;omega
   simp only [S.ag,S.len,S.kg,S.jU,S.gL] at *;omega
 intro h4
 try simp only [df] at h4
 exact S.Nr h4
theorem aa6(hp:True)(hf:Vg.Row.ok (Vg.PS.flat []) ()):Ol:=by
 delta Ol FC FD FE Of Og Oh Oi Oj z0 z1
 clear hf
 with_reducible aa
 iterate 7 trivial
 · intro h1
   try simp only [dt] at h1
   refine⟨?_,?_⟩
   · intro h2
     try simp only [dt] at h2
     refine⟨?_,?_⟩
     · intro h3
       try simp only [dt] at h3
       refine⟨?_,?_⟩
       · intro h4
         try simp only [dt] at h4
         with_reducible aa
         trivial
         · intro h5
           try simp only [dt] at h5
           with_reducible aa
           trivial
           · intro h6
             try simp only [dt] at h6
             trivial
           intro h7
           try simp only [df] at h7
           trivial
         intro h8
         try simp only [df] at h8
         trivial
       intro h9
       try simp only [df] at h9
       trivial
     intro c5
     try simp only [df] at c5
     trivial
   intro fM
   try simp only [df] at fM
   trivial
 · intro dB
   try simp only [df] at dB
   trivial
 rfl
theorem aa7(y1:List (List UInt8))(y2:List (Int×Int×List (List UInt8×List Int)))(hp:S.small y2)(hf:Vg.Row.ok (Vg.PS.flat [.agg [.slice [.slice [.int .u8]], .slice [.int .i64, .int .i64, .slice [.str, .slice [.int .i64]]]]]) (y1,y2)):Om y1 y2:=by
 delta Om Df aC z0 z1 an
 have kh:y1.length≤9223372036854775807:=hf.1.1
 have kj:y2.length≤9223372036854775807:=hf.2.1.1
 clear hf
 refine⟨?_,?_⟩
 · refine⟨(nat_lit 0:Nat),?_⟩
   try dsimp only
   with_reducible aa
   omega
   iterate 2 rfl
   simp only [S.ag,S.len,S.kg,S.gL,S.pL,S.pD] at *;omega
 intro x1 h2
 refine⟨?_,?_⟩
 · intro h3
   try simp only [dt] at h3
   with_reducible aa
   iterate 2 omega
   trivial
   · simp only [List.length_take,List.length_singleton,S.small] at *;omega
   iterate 2 omega
   refine⟨(x1+nat_lit 1),?_⟩
   try dsimp only
   with_reducible aa
   omega
   rfl
   exact(S.aA y2 x1 (0,0,[]) (by omega)).symm
   · simp only [S.ag,S.len,S.kg,S.gL,S.pL,S.pD] at *;omega
   simp only [S.ag,S.len,S.kg,S.gL,S.pL,S.pD] at *;omega
 intro h4
 try simp only [df] at h4
 refine⟨?_,?_⟩
 · rfl
 exact List.take_of_length_le (by omega)
theorem aa8(y1:List (List UInt8))(y2:List (Int×Int×List (List UInt8×List Int)))(hp:True)(hf:Vg.Row.ok (Vg.PS.flat [.agg [.slice [.slice [.int .u8]], .slice [.int .i64, .int .i64, .slice [.str, .slice [.int .i64]]]]]) (y1,y2)):On y1 y2:=by
 delta On aC z0 z1 an
 have kh:y1.length≤9223372036854775807:=hf.1.1
 have kj:y2.length≤9223372036854775807:=hf.2.1.1
 clear hf
 refine⟨?_,?_⟩
 · refine⟨(nat_lit 0:Nat),?_⟩
   try dsimp only
   refine⟨?_,?_⟩
   · omega
   exact S.aok _
 intro x1 h2
 refine⟨?_,?_⟩
 · intro h3
   try simp only [dt] at h3
   with_reducible aa
   iterate 2 omega
   trivial
   · intro h4
     exact S.ż h3 h4
   intro h5
   with_reducible aa
   iterate 2 omega
   refine⟨(x1+nat_lit 1),?_⟩
   try dsimp only
   with_reducible aa
   omega
   exact S.UO h2 h3 h5
   simp only [S.ag,S.len,S.kg,S.gL,S.pL,S.pD] at *;omega
 intro h6
 try simp only [df] at h6
 refine⟨?_,?_⟩
 · trivial
 exact S.Ž h2 h6
theorem aa9(y1:List (List UInt8))(y2:List (Int×Int×List (List UInt8×List Int)))(hp:True)(hf:Vg.Row.ok (Vg.PS.flat [.agg [.slice [.slice [.int .u8]], .slice [.int .i64, .int .i64, .slice [.str, .slice [.int .i64]]]]]) (y1,y2)):Oo y1 y2:=by
 delta Oo ya WI WJ aC z0 z1 an
 have kh:y1.length≤9223372036854775807:=hf.1.1
 have kj:y2.length≤9223372036854775807:=hf.2.1.1
 clear hf
 with_reducible aa
 trivial
 · intro h1
   refine⟨?_,?_⟩
   · trivial
   rfl
 intro h2
 with_reducible aa
 trivial
 exact(S.rH h2).1
 iterate 2 trivial
 exact(S.rH h2).1
 trivial
 · intro h3
   try simp only [nt] at h3
   trivial
 · intro h4
   try simp only [nf] at h4
   with_reducible aa
   trivial
   exact(S.rH h2).1
   trivial
 · intro h5
   try simp only [V.pO,nt,df] at h5
   simp at h5
 intro h6
 try simp only [V.gh,nf,dt] at h6
 refine⟨?_,?_⟩
 · refine⟨(nat_lit 0:Nat),?_⟩
   try dsimp only
   refine⟨?_,?_⟩
   · omega
   omega
 intro x7 h8
 refine⟨?_,?_⟩
 · intro h9
   try simp only [dt] at h9
   with_reducible aa
   iterate 2 omega
   trivial
   iterate 2 omega
   · intro c5
     try simp only [nt] at c5
     trivial
   intro fM
   try simp only [nf] at fM
   with_reducible aa
   omega
   · have q:=S.Ik y1 y2;first|omega|(simp only [S.ag];omega)
   refine⟨(x7+nat_lit 1),?_⟩
   try dsimp only
   with_reducible aa
   omega
   · have q:=S.Ik y1 y2;first|omega|(simp only [S.ag];omega)
   have q:=S.Ik y1 y2;first|omega|(simp only [S.ag];omega)
 intro dB
 try simp only [df] at dB
 refine⟨?_,?_⟩
 · trivial
 rfl
end Go

end
section
set_option linter.unusedVariables false
namespace Go.J
open Go Vg
def body(f:Func):Code:=f.body.getD .skip
def E0:Env:= {T:=fU,sig:=fun _=>none,kD:=G0}
abbrev aeH:List PS:= []
def aoG:Unit→Prop×AV×List AB:=fun x=>match x with
 |()=>(True, .own 0,[.row 154 [.int .u32] (S.rO) false])
def aoH:Unit→Nat→Option al:=fun _ _=>none
def aeI:bc:=au aeH aoG
def aeJ:Env:=Env.cons 170 aeI E0
abbrev aeK:List PS:= [.one (.int .u32), .one (.int .i64)]
def aoI:Int×Int→Prop×AV×List AB:=fun x=>match x with
 |(x,n)=>(S.c7 n, .int .u32 (S.right x n:Int),[])
def aoJ:Int×Int→Nat→Option al:=fun _ _=>none
def aeL:bc:=au aeK aoI
def aeM:Env:=Env.cons 171 aeL aeJ
abbrev aeN:List PS:= [.one (.slice [.int .u8])]
def aoK:List UInt8→Prop×AV×List AB:=fun x=>match x with
 |b=>(b.length=64, .own 0,[.row 154 [.int .u32] (S.sched b 64) false])
def aoL:List UInt8→Nat→Option al:=fun x=>match x with
 |b=>fun id=>(match id with
  |0=>some {τ:=Nat,aL:= [(4,fun k=> .int .i64 ((4*k:Nat):Int)),(3,fun k=> .own 300)],keys:= [(300,fun k=> .row 154 [.int .u32] (S.sched b k) false)],bM:= [(Vg.Loc.slot 3,300)],drop:= [110500,110501,110502,105,301],bm:= [],inv:=fun k=>S.bY k 16,ag:=fun k=>S.ag 16 k}
  |2=>some {τ:=Nat,aL:= [(5,fun k=> .int .i64 ((k:Nat):Int)),(3,fun k=> .own 301)],keys:= [(301,fun k=> .row 154 [.int .u32] (S.sched b k) false)],bM:= [(Vg.Loc.slot 3,301)],drop:= [300,43,104300,104301,104302],bm:= [],inv:=fun k=>16≤k∧k≤64,ag:=fun k=>S.ag 64 k}
  |_=>none)
def aeO:bc:=au aeN aoK
def aeP:Env:=Env.cons 169 aeO aeM
abbrev aeQ:List PS:= [.one (.slice [.int .u32]), .one (.slice [.int .u8])]
def aoM:List Int×List UInt8→Prop×AV×List AB:=fun x=>match x with
 |(l,p)=>(S.Cd l p, .own 0,[.row 154 [.int .u32] (S.c8 (S.block (S.qc l) p)) false])
def aoN:List Int×List UInt8→Nat→Option al:=fun x=>match x with
 |(l,p)=>fun id=>(match id with
  |0=>some {τ:=Nat,aL:= [(15,fun k=> .int .i64 ((k:Nat):Int)),(7,fun k=> .int .u32 (S.dg (S.sched p 64) (S.qc l) k).1),(8,fun k=> .int .u32 (S.dg (S.sched p 64) (S.qc l) k).2.1),(9,fun k=> .int .u32 (S.dg (S.sched p 64) (S.qc l) k).2.2.1),(10,fun k=> .int .u32 (S.dg (S.sched p 64) (S.qc l) k).2.2.2.1),(11,fun k=> .int .u32 (S.dg (S.sched p 64) (S.qc l) k).2.2.2.2.1),(12,fun k=> .int .u32 (S.dg (S.sched p 64) (S.qc l) k).2.2.2.2.2.1),(13,fun k=> .int .u32 (S.dg (S.sched p 64) (S.qc l) k).2.2.2.2.2.2.1),(14,fun k=> .int .u32 (S.dg (S.sched p 64) (S.qc l) k).2.2.2.2.2.2.2)],keys:= [],bM:= [],drop:= [],bm:= [],inv:=fun k=>S.bY k 64,ag:=fun k=>S.ag 64 k}
  |_=>none)
def aeR:bc:=au aeQ aoM
def aeS:Env:=Env.cons 142 aeR aeP
abbrev aeT:List PS:= [.one (.slice [.int .u8])]
def aoO:List UInt8→Prop×AV×List AB:=fun x=>match x with
 |b=>(S.small b, .own 0,[.row 5 [.int .u8] (S.tail b (S.jx b)) false])
def aoP:List UInt8→Nat→Option al:=fun x=>match x with
 |b=>fun id=>(match id with
  |0=>some {τ:=Nat,aL:= [(3,fun k=> .own 300)],keys:= [(300,fun k=> .row 5 [.int .u8] (S.du b k) false)],bM:= [(Vg.Loc.slot 3,300)],drop:= [11,101100,101101,101102],bm:= [],inv:=fun k=>S.bH b k,ag:=fun k=>S.ag (S.dL (S.len b)) k}
  |2=>some {τ:=Nat,aL:= [(6,fun k=> .int .i64 ((k:Nat):Int)),(4,fun k=> .int .u64 (S.iy b k)),(5,fun k=> .own 301)],keys:= [(301,fun k=> .row 5 [.int .u8] (S.gG b k) false)],bM:= [(Vg.Loc.slot 5,301)],drop:= [],bm:= [],inv:=fun k=>S.bY k 8,ag:=fun k=>S.ag 8 k}
  |_=>none)
def aeU:bc:=au aeT aoO
def aeV:Env:=Env.cons 141 aeU aeS
abbrev aeW:List PS:= [.one (.slice [.int .u8])]
def aoQ:List UInt8→Prop×AV×List AB:=fun x=>match x with
 |b=>(S.small b, .str (S.sum b),[])
def aoR:List UInt8→Nat→Option al:=fun x=>match x with
 |b=>fun id=>(match id with
  |0=>some {τ:=Nat,aL:= [(5,fun k=> .int .i64 ((64*k:Nat):Int)),(3,fun k=> .own 300)],keys:= [(300,fun k=> .row 154 [.int .u32] (S.c8 (S.proc S.H0 (S.tail b (S.jx b)) k)) false)],bM:= [(Vg.Loc.slot 3,300)],drop:= [8],bm:= [],inv:=fun k=>k≤S.blocks (S.tail b (S.jx b)),ag:=fun k=>S.ag (S.blocks (S.tail b (S.jx b))) k}
  |2=>some {τ:=Nat,aL:= [(7,fun k=> .int .i64 ((k:Nat):Int)),(6,fun k=> .own 301)],keys:= [(301,fun k=> .row 5 [.int .u8] (S.jN (S.aU S.H0 (S.tail b (S.jx b))) k) false)],bM:= [(Vg.Loc.slot 6,301)],drop:= [],bm:= [],inv:=fun k=>S.bY k 8,ag:=fun k=>S.ag 8 k}
  |_=>none)
def aeX:bc:=au aeW aoQ
def aeY:Env:=Env.cons 109 aeX aeV
abbrev aeZ:List PS:= [.one (.int .u32), .one (.int .i64)]
def aoS:Int×Int→Prop×AV×List AB:=fun x=>match x with
 |(x,k)=>(S.fE x k, .int .u32 (S.rotl x k:Int),[])
def aoT:Int×Int→Nat→Option al:=fun _ _=>none
def ae0:bc:=au aeZ aoS
def ae1:Env:=Env.cons 191 ae0 aeY
abbrev ae2:List PS:= []
def aoU:Unit→Prop×AV×List AB:=fun x=>match x with
 |()=>(True, .agg [.int .u32 1779033703, .int .u32 3144134277, .int .u32 1013904242, .int .u32 2773480762, .int .u32 1359893119, .int .u32 2600822924, .int .u32 528734635, .int .u32 1541459225, .nil, .int .i64 0],[])
def aoV:Unit→Nat→Option al:=fun _ _=>none
def ae3:bc:=au ae2 aoU
def ae4:Env:=Env.cons 107 ae3 ae1
abbrev ae5:List PS:= [.agg [.int .u32, .int .u32, .int .u32, .int .u32, .int .u32, .int .u32, .int .u32, .int .u32, .slice [.int .u8], .int .i64]]
def aoW:Int×Int×Int×Int×Int×Int×Int×Int×List UInt8×Int→Prop×AV×List AB:=fun x=>match x with
 |(s1,s2,s3,s4,s5,s6,s7,s8,s9,aI)=>(True, .bool (S.aS s9 aI),[])
def aoX:Int×Int×Int×Int×Int×Int×Int×Int×List UInt8×Int→Nat→Option al:=fun _ _=>none
def ae6:bc:=au ae5 aoW
def ae7:Env:=Env.cons 138 ae6 ae4
abbrev ae8:List PS:= [.agg [.int .u32, .int .u32, .int .u32, .int .u32, .int .u32, .int .u32, .int .u32, .int .u32], .one (.slice [.int .u8])]
def aoY:Int×Int×Int×Int×Int×Int×Int×Int×List UInt8→Prop×AV×List AB:=fun x=>match x with
 |(u1,u2,u3,u4,u5,u6,u7,u8,p)=>(S.HQ (u1,u2,u3,u4,u5,u6,u7,u8) p, .agg [.int .u32 ((S.block (u1,u2,u3,u4,u5,u6,u7,u8) p).1:Int), .int .u32 ((S.block (u1,u2,u3,u4,u5,u6,u7,u8) p).2.1:Int), .int .u32 ((S.block (u1,u2,u3,u4,u5,u6,u7,u8) p).2.2.1:Int), .int .u32 ((S.block (u1,u2,u3,u4,u5,u6,u7,u8) p).2.2.2.1:Int), .int .u32 ((S.block (u1,u2,u3,u4,u5,u6,u7,u8) p).2.2.2.2.1:Int), .int .u32 ((S.block (u1,u2,u3,u4,u5,u6,u7,u8) p).2.2.2.2.2.1:Int), .int .u32 ((S.block (u1,u2,u3,u4,u5,u6,u7,u8) p).2.2.2.2.2.2.1:Int), .int .u32 ((S.block (u1,u2,u3,u4,u5,u6,u7,u8) p).2.2.2.2.2.2.2:Int)],[])
def aoZ:Int×Int×Int×Int×Int×Int×Int×Int×List UInt8→Nat→Option al:=fun x=>match x with
 |(u1,u2,u3,u4,u5,u6,u7,u8,p)=>fun id=>(match id with
  |0=>some {τ:=Nat,aL:= [(26,fun k=> .int .i64 ((k:Nat):Int))],keys:= [(5,fun k=> .arr [.int .u32] (S.aO p k))],bM:= [],drop:= [],bm:= [],inv:=fun k=>S.bY k 16,ag:=fun k=>S.ag 16 k}
  |2=>some {τ:=Nat,aL:= [(7,fun k=> .int .i64 ((k:Nat):Int))],keys:= [(5,fun k=> .arr [.int .u32] (S.aO p k))],bM:= [],drop:= [],bm:= [],inv:=fun k=>16≤k∧k≤64,ag:=fun k=>S.ag 64 k}
  |4=>some {τ:=Nat,aL:= [(124,fun k=> .int .i64 ((k:Nat):Int)),(12,fun k=> .int .u32 (S.dg (S.sched p 64) (u1,u2,u3,u4,u5,u6,u7,u8) k).1),(13,fun k=> .int .u32 (S.dg (S.sched p 64) (u1,u2,u3,u4,u5,u6,u7,u8) k).2.1),(14,fun k=> .int .u32 (S.dg (S.sched p 64) (u1,u2,u3,u4,u5,u6,u7,u8) k).2.2.1),(15,fun k=> .int .u32 (S.dg (S.sched p 64) (u1,u2,u3,u4,u5,u6,u7,u8) k).2.2.2.1),(16,fun k=> .int .u32 (S.dg (S.sched p 64) (u1,u2,u3,u4,u5,u6,u7,u8) k).2.2.2.2.1),(17,fun k=> .int .u32 (S.dg (S.sched p 64) (u1,u2,u3,u4,u5,u6,u7,u8) k).2.2.2.2.2.1),(18,fun k=> .int .u32 (S.dg (S.sched p 64) (u1,u2,u3,u4,u5,u6,u7,u8) k).2.2.2.2.2.2.1),(19,fun k=> .int .u32 (S.dg (S.sched p 64) (u1,u2,u3,u4,u5,u6,u7,u8) k).2.2.2.2.2.2.2)],keys:= [],bM:= [],drop:= [],bm:= [],inv:=fun k=>S.bY k 64,ag:=fun k=>S.ag 64 k}
  |_=>none)
def ae9:bc:=au ae8 aoY
def afa:Env:=Env.cons 167 ae9 ae7
abbrev WX:List PS:= [.agg [.int .u32, .int .u32, .int .u32, .int .u32, .int .u32, .int .u32, .int .u32, .int .u32], .one (.slice [.int .u8])]
def aiM:Int×Int×Int×Int×Int×Int×Int×Int×List UInt8→Prop×AV×List AB:=fun x=>match x with
 |(u1,u2,u3,u4,u5,u6,u7,u8,b)=>(S.pP (u1,u2,u3,u4,u5,u6,u7,u8), .dc [.agg [.int .u32 ((((S.aU (u1,u2,u3,u4,u5,u6,u7,u8) b,S.dA b)).1).1:Int), .int .u32 ((((S.aU (u1,u2,u3,u4,u5,u6,u7,u8) b,S.dA b)).1).2.1:Int), .int .u32 ((((S.aU (u1,u2,u3,u4,u5,u6,u7,u8) b,S.dA b)).1).2.2.1:Int), .int .u32 ((((S.aU (u1,u2,u3,u4,u5,u6,u7,u8) b,S.dA b)).1).2.2.2.1:Int), .int .u32 ((((S.aU (u1,u2,u3,u4,u5,u6,u7,u8) b,S.dA b)).1).2.2.2.2.1:Int), .int .u32 ((((S.aU (u1,u2,u3,u4,u5,u6,u7,u8) b,S.dA b)).1).2.2.2.2.2.1:Int), .int .u32 ((((S.aU (u1,u2,u3,u4,u5,u6,u7,u8) b,S.dA b)).1).2.2.2.2.2.2.1:Int), .int .u32 ((((S.aU (u1,u2,u3,u4,u5,u6,u7,u8) b,S.dA b)).1).2.2.2.2.2.2.2:Int)], .sl [.int .u8] (((S.aU (u1,u2,u3,u4,u5,u6,u7,u8) b,S.dA b)).2)],[])
def aiN:Int×Int×Int×Int×Int×Int×Int×Int×List UInt8→Nat→Option al:=fun x=>match x with
 |(u1,u2,u3,u4,u5,u6,u7,u8,b)=>fun id=>(match id with
  |0=>some {τ:=Nat,aL:= [(1,fun k=> .sl [.int .u8] (S.dM b k))],keys:= [(2,fun k=> .cells [.int .u32 (S.proc (u1,u2,u3,u4,u5,u6,u7,u8) b k).1, .int .u32 (S.proc (u1,u2,u3,u4,u5,u6,u7,u8) b k).2.1, .int .u32 (S.proc (u1,u2,u3,u4,u5,u6,u7,u8) b k).2.2.1, .int .u32 (S.proc (u1,u2,u3,u4,u5,u6,u7,u8) b k).2.2.2.1, .int .u32 (S.proc (u1,u2,u3,u4,u5,u6,u7,u8) b k).2.2.2.2.1, .int .u32 (S.proc (u1,u2,u3,u4,u5,u6,u7,u8) b k).2.2.2.2.2.1, .int .u32 (S.proc (u1,u2,u3,u4,u5,u6,u7,u8) b k).2.2.2.2.2.2.1, .int .u32 (S.proc (u1,u2,u3,u4,u5,u6,u7,u8) b k).2.2.2.2.2.2.2])],bM:= [],drop:= [],bm:= [],inv:=fun k=>64*k≤b.length,ag:=fun k=>S.ag (S.blocks b) k}
  |_=>none)
def WY:bc:=au WX aiM
def WZ:Env:=Env.cons 139 WY afa
abbrev W0:List PS:= [.agg [.int .u32, .int .u32, .int .u32, .int .u32, .int .u32, .int .u32, .int .u32, .int .u32, .slice [.int .u8], .int .i64], .one (.slice [.int .u8])]
def aiO:Int×Int×Int×Int×Int×Int×Int×Int×List UInt8×Int×List UInt8→Prop×AV×List AB:=fun x=>match x with
 |(s1,s2,s3,s4,s5,s6,s7,s8,s9,aI,b)=>(S.HP (s1,s2,s3,s4,s5,s6,s7,s8) s9 aI b, .agg [.int .u32 (S.aU (s1,s2,s3,s4,s5,s6,s7,s8) b).1, .int .u32 (S.aU (s1,s2,s3,s4,s5,s6,s7,s8) b).2.1, .int .u32 (S.aU (s1,s2,s3,s4,s5,s6,s7,s8) b).2.2.1, .int .u32 (S.aU (s1,s2,s3,s4,s5,s6,s7,s8) b).2.2.2.1, .int .u32 (S.aU (s1,s2,s3,s4,s5,s6,s7,s8) b).2.2.2.2.1, .int .u32 (S.aU (s1,s2,s3,s4,s5,s6,s7,s8) b).2.2.2.2.2.1, .int .u32 (S.aU (s1,s2,s3,s4,s5,s6,s7,s8) b).2.2.2.2.2.2.1, .int .u32 (S.aU (s1,s2,s3,s4,s5,s6,s7,s8) b).2.2.2.2.2.2.2, .sl [.int .u8] (S.dA b), .int .i64 (S.jx b)],[])
def aiP:Int×Int×Int×Int×Int×Int×Int×Int×List UInt8×Int×List UInt8→Nat→Option al:=fun _ _=>none
def W2:bc:=au W0 aiO
def W3:Env:=Env.cons 106 W2 WZ
abbrev W4:List PS:= [.agg [.int .u32, .int .u32, .int .u32, .int .u32, .int .u32, .int .u32, .int .u32, .int .u32, .slice [.int .u8], .int .i64]]
def aiQ:Int×Int×Int×Int×Int×Int×Int×Int×List UInt8×Int→Prop×AV×List AB:=fun x=>match x with
 |(s1,s2,s3,s4,s5,s6,s7,s8,s9,aI)=>(S.AA (s1,s2,s3,s4,s5,s6,s7,s8) s9 aI, .str (S.Rc (S.aU (s1,s2,s3,s4,s5,s6,s7,s8) (S.tail s9 aI))),[])
def aiR:Int×Int×Int×Int×Int×Int×Int×Int×List UInt8×Int→Nat→Option al:=fun x=>match x with
 |(s1,s2,s3,s4,s5,s6,s7,s8,s9,aI)=>fun id=>(match id with
  |0=>some {τ:=Nat,aL:= [(3,fun k=> .own 300)],keys:= [(300,fun k=> .row 5 [.int .u8] (S.du s9 k) false)],bM:= [(Vg.Loc.slot 3,300)],drop:= [101700,101701,101702,43,104300,102000,17,102001,102002,20,104301,104302,301],bm:= [],inv:=fun k=>S.bH s9 k,ag:=fun k=>S.ag (S.dL (S.len s9)) k}
  |2=>some {τ:=Nat,aL:= [(32,fun k=> .int .i64 ((k:Nat):Int)),(3,fun k=> .own 301)],keys:= [(301,fun k=> .row 5 [.int .u8] (S.j5 s9 aI k) false)],bM:= [(Vg.Loc.slot 3,301)],drop:= [300,101700,101701,101702,102700,102701,102702,102000,17,102001,102002,20,27],bm:= [],inv:=fun k=>S.bY k 8,ag:=fun k=>S.ag 8 k}
  |4=>some {τ:=Nat,aL:= [(54,fun k=> .int .i64 ((k:Nat):Int)),(8,fun k=> .own 302)],keys:= [(302,fun k=> .row 5 [.int .u8] (S.jN (S.aU (s1,s2,s3,s4,s5,s6,s7,s8) (S.tail s9 aI)) k) false)],bM:= [(Vg.Loc.slot 8,302)],drop:= [52],bm:= [],inv:=fun k=>S.bY k 8,ag:=fun k=>S.ag 8 k}
  |_=>none)
def W5:bc:=au W4 aiQ
def W6:Env:=Env.cons 105 W5 W3
abbrev W7:List PS:= [.one (.slice [.int .u8])]
def aiS:List UInt8→Prop×AV×List AB:=fun x=>match x with
 |b=>(S.small b, .str (S.sum b),[])
def aiT:List UInt8→Nat→Option al:=fun _ _=>none
def W8:bc:=au W7 aiS
def MB:Env:=Env.cons 67 W8 W6
abbrev It:List PS:= [.one (.int .i64)]
def W9:Int→Prop×AV×List AB:=fun x=>match x with
 |v=>(0≤v, .own 0,[.row 5 [.int .u8] (S.num v) false])
def Xa:Int→Nat:=fun x=>match x with
 |v=>v.toNat
def aiU:Int→Nat→Option al:=fun _ _=>none
def Xb:bc:=au It W9
def aiV(m:Nat):Env:=Env.cons 177 (lG It Xa m W9) MB
def Xc:Env:=Env.cons 177 Xb MB
abbrev Xd:List PS:= [.one (.str)]
def aiW:List UInt8→Prop×AV×List AB:=fun x=>match x with
 |s=>(S.small s, .own 0,[.row 5 [.int .u8] (S.text s) false])
def aiX:List UInt8→Nat→Option al:=fun _ _=>none
def Xe:bc:=au Xd aiW
def Xf:Env:=Env.cons 158 Xe Xc
abbrev Xg:List PS:= [.one (.slice [.int .u8])]
def aiY:List UInt8→Prop×AV×List AB:=fun x=>match x with
 |b=>(b.length≤140737488355328, .own 0,[.row 5 [.int .u8] (b) false])
def aiZ:List UInt8→Nat→Option al:=fun _ _=>none
def Xh:bc:=au Xg aiY
def Xi:Env:=Env.cons 113 Xh Xf
abbrev Xj:List TA:= [.own 50000, .iO (.int .i64)]
abbrev Xk:List TB:= [.row 5 [.int .u8]]
def ai0:Int→((List UInt8)×Unit)→fe:=fun x y=>match x,y with
 |v,(l,())=> {pre:=S.xA l v,res:= .own 60000,heap:= [none],new:= [.row 5 [.int .u8] (l++S.num v) false]}
def ai1:Int→((List UInt8)×Unit)→Nat→Option al:=fun x y=>match x,y with
 |v,(l,())=>fun id=>(match id with
  |0=>some {τ:=List UInt8×Int,aL:= [(1,fun k=> .int .i64 k.2),(0,fun k=> .own 300)],keys:= [(300,fun k=> .row 5 [.int .u8] k.1 false)],bM:= [(Vg.Loc.slot 0,300)],drop:= [50000],bm:= [],inv:=fun k=>S.nd l v k.1 k.2,ag:=fun k=>k.2.toNat}
  |_=>none)
def Xl:eU:=gp Xj Xk ai0
def Xm:eU:=Xl
def Xn:Env:=Env.eP 112 [true,false] Xm Xi
abbrev Xo:List TA:= [.own 50000, .iO (.str)]
abbrev Xp:List TB:= [.row 5 [.int .u8]]
def ai2:(List UInt8)→((List UInt8)×Unit)→fe:=fun x y=>match x,y with
 |s,(l,())=> {pre:=S.kR l s,res:= .own 60000,heap:= [none],new:= [.row 5 [.int .u8] (l++S.text s) false]}
def ai3:(List UInt8)→((List UInt8)×Unit)→Nat→Option al:=fun _ _ _=>none
def Xq:eU:=gp Xo Xp ai2
def Xr:eU:=Xq
def Xs:Env:=Env.eP 194 [true,false] Xr Xn
abbrev Xt:List PS:= [.one (.slice [.int .u8]), .one (.int .i64)]
def ai4:List UInt8×Int→Prop×AV×List AB:=fun x=>match x with
 |(b,v)=>(b.length≤35184372088832, .dc [.own 0, .int .i64 (((S.mS b v,S.Ck v)).2:Int)],[.row 5 [.int .u8] (((S.mS b v,S.Ck v)).1) false])
def ai5:List UInt8×Int→Nat→Option al:=fun _ _=>none
def Xu:bc:=au Xt ai4
def Xv:Env:=Env.cons 71 Xu Xs
abbrev Xw:List PS:= [.one (.slice [.int .u8]), .one (.str)]
def ai6:List UInt8×List UInt8→Prop×AV×List AB:=fun x=>match x with
 |(b,s)=>(S.kR b s, .own 0,[.row 5 [.int .u8] (b++S.text s) false])
def ai7:List UInt8×List UInt8→Nat→Option al:=fun _ _=>none
def Xx:bc:=au Xw ai6
def Xy:Env:=Env.cons 176 Xx Xv
abbrev Xz:List PS:= [.one (.int .i64), .one (.slice [.int .u8])]
def ai8:Int×List UInt8→Prop×AV×List AB:=fun x=>match x with
 |(kind,b)=>(S.bj b, .own 0,[.row 5 [.int .u8] (S.fF kind b) false])
def ai9:Int×List UInt8→Nat→Option al:=fun x=>match x with
 |(kind,b)=>fun id=>(match id with
  |0=>some {τ:=Nat,aL:= [(6,fun k=> .int .i64 ((k:Nat):Int)),(5,fun k=> .own 300)],keys:= [(300,fun k=> .row 5 [.int .u8] (S.fF kind (b.take k)) false)],bM:= [(Vg.Loc.slot 5,300)],drop:= [9],bm:= [],inv:=fun k=>S.dY b k,ag:=fun k=>S.ag (S.len b) k}
  |_=>none)
def XA:bc:=au Xz ai8
def XB:Env:=Env.cons 152 XA Xy
abbrev XC:List PS:= [.one (.int .i64), .one (.slice [.int .u8])]
def aja:Int×List UInt8→Prop×AV×List AB:=fun x=>match x with
 |(kind,b)=>(S.bj b, .str (S.lI kind b),[])
def ajb:Int×List UInt8→Nat→Option al:=fun _ _=>none
def XD:bc:=au XC aja
def XE:Env:=Env.cons 124 XD XB
abbrev XF:List PS:= [.one (.slice [.int .u8])]
def ajc:List UInt8→Prop×AV×List AB:=fun x=>match x with
 |b=>(S.bj b, .str (S.lI 0 b),[])
def ajd:List UInt8→Nat→Option al:=fun _ _=>none
def XG:bc:=au XF ajc
def XH:Env:=Env.cons 87 XG XE
abbrev XI:List PS:= [.one (.str), .one (.str)]
def aje:List UInt8×List UInt8→Prop×AV×List AB:=fun x=>match x with
 |(l,r)=>(S.bj (l++r), .str (S.lI 1 (l++r)),[])
def ajf:List UInt8×List UInt8→Nat→Option al:=fun _ _=>none
def XJ:bc:=au XI aje
def XK:Env:=Env.cons 111 XJ XH
abbrev XL:List PS:= [.one (.int .u8), .one (.slice [.slice [.int .u8]])]
def ajg:UInt8×List (List UInt8)→Prop×AV×List AB:=fun x=>match x with
 |(kind,parts)=>(S.iP parts, .own 0,[.row 5 [.int .u8] (S.dN kind parts) false])
def ajh:UInt8×List (List UInt8)→Nat→Option al:=fun x=>match x with
 |(kind,parts)=>fun id=>(match id with
  |0=>some {τ:=Nat,aL:= [(12,fun k=> .int .i64 ((k:Nat):Int)),(5,fun k=> .own 300)],keys:= [(300,fun k=> .row 5 [.int .u8] (S.jm kind parts k) false)],bM:= [(Vg.Loc.slot 5,300)],drop:= [9],bm:= [],inv:=fun k=>S.dY parts k,ag:=fun k=>S.ag (S.len parts) k}
  |_=>none)
def XM:bc:=au XL ajg
def XN:Env:=Env.cons 168 XM XK
abbrev XO:List PS:= [.one (.slice [.int .u8])]
def aji:List UInt8→Prop×AV×List AB:=fun x=>match x with
 |b=>(S.bj b, .own 0,[.row 5 [.int .u8] (S.iQ 0 b) false])
def ajj:List UInt8→Nat→Option al:=fun _ _=>none
def XP:bc:=au XO aji
def XQ:Env:=Env.cons 140 XP XN
abbrev XR:List PS:= [.one (.str), .one (.str)]
def ajk:List UInt8×List UInt8→Prop×AV×List AB:=fun x=>match x with
 |(l,r)=>(S.bj (l++r), .own 0,[.row 5 [.int .u8] (S.iQ 1 (l++r)) false])
def ajl:List UInt8×List UInt8→Nat→Option al:=fun _ _=>none
def XS:bc:=au XR ajk
def XT:Env:=Env.cons 192 XS XQ
abbrev XU:List PS:= [.one (.slice [.int .u8])]
def ajm:List UInt8→Prop×AV×List AB:=fun x=>match x with
 |b=>(S.bj b, .own 0,[.row 5 [.int .u8] (S.iQ 2 b) false])
def ajn:List UInt8→Nat→Option al:=fun _ _=>none
def XV:bc:=au XU ajm
def XW:Env:=Env.cons 193 XV XT
abbrev XX:List PS:= [.one (.slice [.int .u8])]
def ajo:List UInt8→Prop×AV×List AB:=fun x=>match x with
 |b=>(S.bj b, .str (S.leaf b),[])
def ajp:List UInt8→Nat→Option al:=fun _ _=>none
def XY:bc:=au XX ajo
def XZ:Env:=Env.cons 108 XY XW
abbrev X0:List PS:= [.one (.str), .one (.str)]
def ajq:List UInt8×List UInt8→Prop×AV×List AB:=fun x=>match x with
 |(l,r)=>(True, .dc [.str (((S.cM l r,S.j6 l r)).1), .int .i64 (((S.cM l r,S.j6 l r)).2:Int)],[])
def ajr:List UInt8×List UInt8→Nat→Option al:=fun _ _=>none
def X1:bc:=au X0 ajq
def X2:Env:=Env.cons 173 X1 XZ
abbrev X3:List PS:= [.one (.slice [.int .u8])]
def ajs:List UInt8→Prop×AV×List AB:=fun x=>match x with
 |b=>(S.bj b, .str (S.oh 2 b),[])
def ajt:List UInt8→Nat→Option al:=fun _ _=>none
def X4:bc:=au X3 ajs
def X5:Env:=Env.cons 175 X4 X2
abbrev X6:List PS:= [.one (.int .i64)]
def aju:Int→Prop×AV×List AB:=fun x=>match x with
 |c=>(True, .bool (S.bh c),[])
def ajv:Int→Nat→Option al:=fun _ _=>none
def X7:bc:=au X6 aju
def X8:Env:=Env.cons 218 X7 X5
abbrev X9:List PS:= [.one (.int .i64)]
def ajw:Int→Prop×AV×List AB:=fun x=>match x with
 |c=>(True, .int .i64 (S.cI c:Int),[])
def ajx:Int→Nat→Option al:=fun _ _=>none
def Ya:bc:=au X9 ajw
def Yb:Env:=Env.cons 219 Ya X8
abbrev Yc:List PS:= [.one (.int .i64)]
def ajy:Int→Prop×AV×List AB:=fun x=>match x with
 |c=>(0≤c, .int .u8 ((S.more c).toNat:Int),[])
def ajz:Int→Nat→Option al:=fun _ _=>none
def Yd:bc:=au Yc ajy
def Ye:Env:=Env.cons 220 Yd Yb
abbrev Yf:List PS:= [.one (.int .i64)]
def ajA:Int→Prop×AV×List AB:=fun x=>match x with
 |c=>(True, .dc [.own 0, .int .i64 (((S.eo c,S.rP c)).2:Int)],[.row 5 [.int .u8] (((S.eo c,S.rP c)).1) false])
def ajB:Int→Nat→Option al:=fun _ _=>none
def Yg:bc:=au Yf ajA
def Yh:Env:=Env.cons 197 Yg Ye
abbrev Yi:List PS:= [.one (.slice [.int .u8])]
def ajC:List UInt8→Prop×AV×List AB:=fun x=>match x with
 |b=>(0<b.length, .dc [.int .i64 ((S.aK b).1:Int), .int .i64 ((S.aK b).2:Int)],[])
def ajD:List UInt8→Nat→Option al:=fun x=>match x with
 |b=>fun id=>(match id with
  |1=>some {τ:=Nat,aL:= [(42,fun k=> .int .i64 ((k:Nat):Int)),(4,fun k=> .int .i64 (S.bq b k))],keys:= [],bM:= [],drop:= [],bm:= [],inv:=fun k=>S.kt b k,ag:=fun k=>S.ag 4 k}
  |_=>none)
def Yj:bc:=au Yi ajC
def Yk:Env:=Env.cons 196 Yj Yh
abbrev Yl:List PS:= [.one (.slice [.int .u8])]
def ajE:List UInt8→Prop×AV×List AB:=fun x=>match x with
 |b=>(S.small b, .own 0,[.row 3 [.int .i64] (S.decode b) false])
def ajF:List UInt8→Nat→Option al:=fun x=>match x with
 |b=>fun id=>(match id with
  |0=>some {τ:=List UInt8×List Int,aL:= [(0,fun k=> .sl [.int .u8] k.1),(3,fun k=> .own 300)],keys:= [(300,fun k=> .row 3 [.int .i64] k.2 false)],bM:= [(Vg.Loc.slot 3,300)],drop:= [],bm:= [],inv:=fun k=>S.gq b k.1 k.2,ag:=fun k=>S.len k.1}
  |_=>none)
def Ym:bc:=au Yl ajE
def Yn:Env:=Env.cons 182 Ym Yk
abbrev Yo:List PS:= [.one (.int .i64)]
def ajG:Int→Prop×AV×List AB:=fun x=>match x with
 |c=>(True, .bool (S.letter c),[])
def ajH:Int→Nat→Option al:=fun x=>match x with
 |c=>fun id=>(match id with
  |0=>some {τ:=Nat,aL:= [(6,fun k=> .int .i64 ((k:Nat):Int))],keys:= [],bM:= [],drop:= [],bm:= [],inv:=fun k=>S.kq c k,ag:=fun k=>S.ag 9 k}
  |_=>none)
def Yp:bc:=au Yo ajG
def Yq:Env:=Env.cons 183 Yp Yn
abbrev Yr:List PS:= [.one (.int .i64)]
def ajI:Int→Prop×AV×List AB:=fun x=>match x with
 |c=>(True, .bool (S.digit c),[])
def ajJ:Int→Nat→Option al:=fun _ _=>none
def Ys:bc:=au Yr ajI
def Yt:Env:=Env.cons 184 Ys Yq
abbrev Yu:List PS:= [.one (.int .i64)]
def ajK:Int→Prop×AV×List AB:=fun x=>match x with
 |c=>(True, .int .i64 (S.aR c:Int),[])
def ajL:Int→Nat→Option al:=fun x=>match x with
 |c=>fun id=>(match id with
  |0=>some {τ:=Nat,aL:= [(6,fun k=> .int .i64 ((k:Nat):Int))],keys:= [],bM:= [],drop:= [],bm:= [],inv:=fun k=>S.kS c k,ag:=fun k=>S.ag 7 k}
  |_=>none)
def Yv:bc:=au Yu ajK
def Yw:Env:=Env.cons 198 Yv Yt
abbrev Yx:List PS:= [.one (.int .i64), .one (.int .i64), .one (.int .i64)]
def ajM:Int×Int×Int→Prop×AV×List AB:=fun x=>match x with
 |(c,a,b)=>(True, .bool (S.bz c a b),[])
def ajN:Int×Int×Int→Nat→Option al:=fun _ _=>none
def Yy:bc:=au Yx ajM
def Yz:Env:=Env.cons 172 Yy Yw
abbrev YA:List PS:= [.one (.int .i64)]
def ajO:Int→Prop×AV×List AB:=fun x=>match x with
 |c=>(True, .bool (S.gY c),[])
def ajP:Int→Nat→Option al:=fun _ _=>none
def YB:bc:=au YA ajO
def YC:Env:=Env.cons 146 YB Yz
abbrev YD:List PS:= [.one (.int .i64)]
def ajQ:Int→Prop×AV×List AB:=fun x=>match x with
 |c=>(0≤c∧c≤1114111, .own 0,[.row 5 [.int .u8] (S.enc c) false])
def ajR:Int→Nat→Option al:=fun _ _=>none
def YE:bc:=au YD ajQ
def YF:Env:=Env.cons 147 YE YC
abbrev YG:List PS:= [.one (.int .i64), .one (.int .i64)]
def ajS:Int×Int→Prop×AV×List AB:=fun x=>match x with
 |(a,b)=>(True, .int .i64 (S.jq a b:Int),[])
def ajT:Int×Int→Nat→Option al:=fun _ _=>none
def YH:bc:=au YG ajS
def YI:Env:=Env.cons 148 YH YF
abbrev YJ:List PS:= [.one (.int .i64)]
def ajU:Int→Prop×AV×List AB:=fun x=>match x with
 |c=>(True, .bool (S.letter c),[])
def ajV:Int→Nat→Option al:=fun _ _=>none
def YK:bc:=au YJ ajU
def YL:Env:=Env.cons 149 YK YI
abbrev YM:List PS:= [.one (.int .i64)]
def ajW:Int→Prop×AV×List AB:=fun x=>match x with
 |c=>(True, .int .i64 (S.aR c:Int),[])
def ajX:Int→Nat→Option al:=fun _ _=>none
def YN:bc:=au YM ajW
def YO:Env:=Env.cons 150 YN YL
abbrev YP:List PS:= [.one (.slice [.int .u8]), .one (.int .i64)]
def ajY:List UInt8×Int→Prop×AV×List AB:=fun x=>match x with
 |(b,n)=>(S.uo b n, .int .i64 (S.aX b n:Int),[])
def ajZ:List UInt8×Int→Nat→Option al:=fun x=>match x with
 |(b,n)=>fun id=>(match id with
  |0=>some {τ:=Nat,aL:= [(7,fun k=> .int .i64 ((k:Nat):Int)),(6,fun k=> .int .i64 (S.jQ b n (k-1)))],keys:= [],bM:= [],drop:= [],bm:= [],inv:=fun k=>S.lY b n k,ag:=fun k=>S.ag n.toNat k}
  |_=>none)
def YQ:bc:=au YP ajY
def YR:Env:=Env.cons 145 YQ YO
abbrev YS:List PS:= [.one (.slice [.int .u8])]
def aj0:List UInt8→Prop×AV×List AB:=fun x=>match x with
 |b=>(S.small b, .own 0,[.row 3 [.int .i64] (S.decode b) false])
def aj1:List UInt8→Nat→Option al:=fun x=>match x with
 |b=>fun id=>(match id with
  |0=>some {τ:=Nat×List Int,aL:= [(4,fun k=> .int .i64 ((k.1:Nat):Int)),(3,fun k=> .own 300)],keys:= [(300,fun k=> .row 3 [.int .i64] k.2 false)],bM:= [(Vg.Loc.slot 3,300)],drop:= [],bm:= [],inv:=fun k=>S.gq b (b.drop k.1) k.2∧k.1≤b.length,ag:=fun k=>S.ag (S.len b) k.1}
  |2=>some {τ:=Nat×Nat,aL:= [(7,fun k=> .int .i64 ((k.1+1:Nat):Int)),(5,fun k=> .int .i64 (S.eD (b.drop k.2) k.1).1),(6,fun k=> .int .i64 (S.eD (b.drop k.2) k.1).2)],keys:= [],bM:= [],drop:= [],bm:= [(4,fun k=> .int .i64 ((k.2:Nat):Int))],inv:=fun k=>k.1≤4,ag:=fun k=>S.ag 4 k.1}
  |_=>none)
def YT:bc:=au YS aj0
def YU:Env:=Env.cons 119 YT YR
abbrev YV:List PS:= [.one (.slice [.int .i64])]
def aj2:List Int→Prop×AV×List AB:=fun x=>match x with
 |u=>(S.Ew u, .str (S.c9 u),[])
def aj3:List Int→Nat→Option al:=fun x=>match x with
 |u=>fun id=>(match id with
  |0=>some {τ:=Nat×List UInt8,aL:= [(10,fun k=> .int .i64 ((k.1:Nat):Int)),(3,fun k=> .own 300)],keys:= [(300,fun k=> .row 5 [.int .u8] k.2 false)],bM:= [(Vg.Loc.slot 3,300)],drop:= [],bm:= [],inv:=fun k=>S.gJ u k.1 k.2,ag:=fun k=>S.ag (S.len u) k.1}
  |_=>none)
def YW:bc:=au YV aj2
def YX:Env:=Env.cons 185 YW YU
abbrev YY:List PS:= [.one (.slice [.int .u8])]
def aj4:List UInt8→Prop×AV×List AB:=fun x=>match x with
 |b=>(S.small b, .own 0,[.row 9 [.str] (S.aT b) false])
def aj5:List UInt8→Nat→Option al:=fun x=>match x with
 |b=>fun id=>(match id with
  |0=>some {τ:=Nat×List (List UInt8)×List Int,aL:= [(10,fun k=> .int .i64 ((k.1:Nat):Int)),(3,fun k=> .own 300),(4,fun k=> .own 301)],keys:= [(300,fun k=> .row 9 [.str] k.2.1 false),(301,fun k=> .row 3 [.int .i64] k.2.2 false)],bM:= [(Vg.Loc.slot 3,300),(Vg.Loc.slot 4,301)],drop:= [104000,104001,104002,40],bm:= [],inv:=fun k=>S.gr (S.decode b) k.1 k.2.1 k.2.2,ag:=fun k=>S.ag (S.len (S.decode b)) k.1}
  |_=>none)
def YZ:bc:=au YY aj4
def Y0:Env:=Env.cons 160 YZ YX
abbrev Y1:List PS:= [.one (.str)]
def aj6:List UInt8→Prop×AV×List AB:=fun x=>match x with
 |s=>(S.small s, .bool (S.isTerm s),[])
def aj7:List UInt8→Nat→Option al:=fun _ _=>none
def Y2:bc:=au Y1 aj6
def Y3:Env:=Env.cons 144 Y2 Y0
abbrev Y4:List PS:= [.one (.int .i64)]
def aj8:Int→Prop×AV×List AB:=fun x=>match x with
 |c=>(True, .bool (S.dU c),[])
def aj9:Int→Nat→Option al:=fun _ _=>none
def Y5:bc:=au Y4 aj8
def Y6:Env:=Env.cons 120 Y5 Y3
abbrev Y7:List PS:= [.one (.slice [.int .i64])]
def aka:List Int→Prop×AV×List AB:=fun x=>match x with
 |u=>(S.Ew u, .str (S.c9 u),[])
def akb:List Int→Nat→Option al:=fun x=>match x with
 |u=>fun id=>(match id with
  |0=>some {τ:=Nat×List UInt8,aL:= [(4,fun k=> .int .i64 ((k.1:Nat):Int)),(3,fun k=> .str k.2)],keys:= [],bM:= [],drop:= [],bm:= [],inv:=fun k=>S.gJ u k.1 k.2,ag:=fun k=>S.ag (S.len u) k.1}
  |_=>none)
def Y8:bc:=au Y7 aka
def Y9:Env:=Env.cons 121 Y8 Y6
abbrev Za:List PS:= [.one (.slice [.int .u8])]
def akc:List UInt8→Prop×AV×List AB:=fun x=>match x with
 |b=>(S.small b, .own 0,[.row 9 [.str] (S.aT b) false])
def akd:List UInt8→Nat→Option al:=fun x=>match x with
 |b=>fun id=>(match id with
  |0=>some {τ:=Nat×List (List UInt8),aL:= [(5,fun k=> .int .i64 ((k.1:Nat):Int)),(4,fun k=> .own 300)],keys:= [(300,fun k=> .row 9 [.str] k.2 false)],bM:= [(Vg.Loc.slot 4,300)],drop:= [],bm:= [],inv:=fun k=>S.iR (S.decode b) k.1 k.2,ag:=fun k=>S.ag (S.len (S.decode b)+1) k.1}
  |2=>some {τ:=Nat×Nat,aL:= [(6,fun k=> .int .i64 ((k.1:Nat):Int))],keys:= [],bM:= [],drop:= [],bm:= [(5,fun k=> .int .i64 ((k.2:Nat):Int))],inv:=fun k=>S.ng (S.decode b) k.2 k.1,ag:=fun k=>S.ag (S.len (S.decode b)) k.1}
  |_=>none)
def Zb:bc:=au Za akc
def Zc:Env:=Env.cons 82 Zb Y9
abbrev Zd:List PS:= [.one (.slice [.str])]
def ake:List (List UInt8)→Prop×AV×List AB:=fun x=>match x with
 |l=>(True, .int .i64 (((S.cm l:Nat):Int):Int),[])
def akf:List (List UInt8)→Nat→Option al:=fun x=>match x with
 |l=>fun id=>(match id with
  |0=>some {τ:=Nat,aL:= [(4,fun k=> .int .i64 ((k:Nat):Int)),(3,fun k=> .int .i64 ((S.cu l k:Nat):Int))],keys:= [],bM:= [],drop:= [],bm:= [],inv:=fun k=>S.nC l k,ag:=fun k=>S.ag (S.len l) k}
  |_=>none)
def Ze:bc:=au Zd ake
def Zf:Env:=Env.cons 165 Ze Zc
abbrev Zg:List TA:= [.own 50000]
abbrev Zh:List TB:= [.row 9 [.str]]
def akg:Unit→((List (List UInt8))×Unit)→fe:=fun x y=>match x,y with
 |(),(l,())=> {pre:=S.small l,res:= .own 60000,heap:= [none],new:= [.row 9 [.str] (S.sorted l) false]}
def akh:Unit→((List (List UInt8))×Unit)→Nat→Option al:=fun x y=>match x,y with
 |(),(l,())=>fun id=>(match id with
  |0=>some {τ:=List (List UInt8)×List (List UInt8),aL:= [(0,fun k=> .own 310),(3,fun k=> .own 300)],keys:= [(310,fun k=> .row 9 [.str] k.1 false),(300,fun k=> .row 9 [.str] k.2 false)],bM:= [(Vg.Loc.slot 0,310),(Vg.Loc.slot 3,300)],drop:= [50000,301],bm:= [],inv:=fun k=>S.mA l k.1 k.2,ag:=fun k=>S.len k.1}
  |2=>some {τ:=Nat×List (List UInt8)×List (List UInt8)×List UInt8,aL:= [(6,fun k=> .int .i64 ((k.1:Nat):Int)),(5,fun k=> .own 301)],keys:= [(301,fun k=> .row 9 [.str] k.2.1 false)],bM:= [(Vg.Loc.slot 5,301)],drop:= [],bm:= [(0,fun k=> .sl [.str] k.2.2.1),(4,fun k=> .str k.2.2.2)],inv:=fun k=>S.fW k.2.2.1 k.2.2.2 k.1 k.2.1,ag:=fun k=>S.ag (S.len k.2.2.1) k.1}
  |_=>none)
def Zi:eU:=gp Zg Zh akg
def Zj:eU:=Zi
def Zk:Env:=Env.eP 135 [true] Zj Zf
abbrev Zl:List PS:= [.one (.slice [.int .u8])]
def aki:List UInt8→Prop×AV×List AB:=fun x=>match x with
 |b=>(S.small b, .own 0,[.row 9 [.str] (S.sorted (S.aT b)) false])
def akj:List UInt8→Nat→Option al:=fun _ _=>none
def Zm:bc:=au Zl aki
def Zn:Env:=Env.cons 134 Zm Zk
abbrev Zo:List PS:= [.one (.slice [.int .u8]), .one (.str)]
def akk:List UInt8×List UInt8→Prop×AV×List AB:=fun x=>match x with
 |(b,t)=>(S.small b, .own 0,[.row 3 [.int .i64] (S.places b t) false])
def akl:List UInt8×List UInt8→Nat→Option al:=fun x=>match x with
 |(b,t)=>fun id=>(match id with
  |0=>some {τ:=Nat×List Int,aL:= [(7,fun k=> .int .i64 ((k.1:Nat):Int)),(6,fun k=> .own 300)],keys:= [(300,fun k=> .row 3 [.int .i64] k.2 false)],bM:= [(Vg.Loc.slot 6,300)],drop:= [],bm:= [],inv:=fun k=>S.gK (S.aT b) t k.1 k.2,ag:=fun k=>S.ag (S.len (S.aT b)) k.1}
  |_=>none)
def Zp:bc:=au Zo akk
def Zq:Env:=Env.cons 41 Zp Zn
abbrev Zr:List PS:= [.one (.str)]
def akm:List UInt8→Prop×AV×List AB:=fun x=>match x with
 |s=>(True, .bool false,[])
def akn:List UInt8→Nat→Option al:=fun _ _=>none
def Zs:bc:=au Zr akm
def Zt:Env:=Env.cons 186 Zs Zq
abbrev Zu:List PS:= [.one (.str), .one (.str)]
def ako:List UInt8×List UInt8→Prop×AV×List AB:=fun x=>match x with
 |(a,b)=>(True, .int .i64 (S.fA a b:Int),[])
def akp:List UInt8×List UInt8→Nat→Option al:=fun _ _=>none
def Zv:bc:=au Zu ako
def Zw:Env:=Env.cons 161 Zv Zt
abbrev Zx:List TA:= [.iO (.str), .iO (.str), .ref 50000 0]
abbrev Zy:List TB:= [.cells [.fn (.func 161) [] []]]
def akq:(List UInt8×List UInt8)→(Unit×Unit)→fe:=fun x y=>match x,y with
 |(a,b),((),())=> {pre:=True,res:= .bool (decide (a=b)),heap:= [some (.cells [.fn (.func 161) [] []])],new:= []}
def akr:(List UInt8×List UInt8)→(Unit×Unit)→Nat→Option al:=fun _ _ _=>none
def Zz:eU:=gp Zx Zy akq
def ZA:eU:=Zz
def ZB:Env:=Env.eP 181 [false,false,true] ZA Zw
abbrev ZC:List TA:= [.own 50000, .fn (.func 181) [] [.ref 50001 0]]
abbrev ZD:List TB:= [.row 9 [.str], .cells [.fn (.func 161) [] []]]
def aks:Unit→((List (List UInt8))×Unit×Unit)→fe:=fun x y=>match x,y with
 |(),(l,((),()))=> {pre:=S.small l,res:= .own 60000,heap:= [none,some (.cells [.fn (.func 161) [] []])],new:= [.row 9 [.str] (S.bJ l) false]}
def akt:Unit→((List (List UInt8))×Unit×Unit)→Nat→Option al:=fun x y=>match x,y with
 |(),(l,((),()))=>fun id=>(match id with
  |0=>some {τ:=Nat,aL:= [(5,fun k=> .int .i64 ((k:Nat):Int))],keys:= [(50001,fun k=> .cells [.fn (.func 161) [] []])],bM:= [],drop:= [],bm:= [],inv:=fun k=>S.ni l k,ag:=fun k=>S.ag (S.len l) k}
  |2=>some {τ:=Nat×Nat×List (List UInt8)×Nat,aL:= [(5,fun k=> .int .i64 ((k.1:Nat):Int)),(7,fun k=> .int .i64 ((k.2.1:Nat):Int))],keys:= [(50000,fun k=> .row 9 [.str] k.2.2.1 false),(50001,fun k=> .cells [.fn (.func 161) [] []])],bM:= [],drop:= [],bm:= [(30,fun k=> .int .i64 ((k.2.2.2:Nat):Int))],inv:=fun k=>S.iS l k.2.2.2 k.1 k.2.1 k.2.2.1,ag:=fun k=>S.ag (S.len l) k.2.1}
  |_=>none)
def ZE:eU:=gp ZC ZD aks
def ZF:eU:=ZE
def ZG:Env:=Env.eP 180 [true,true] ZF ZB
abbrev aku:List PS:= [.one (.slice [.str])]
def akv:List (List UInt8)→Prop×AV×List AB:=fun x=>match x with
 |l=>(S.small l, .own 0,[.row 9 [.str] (l) false])
def ZH:bc:=au aku akv
def ZI:Env:=Env.cons 178 ZH ZG
abbrev akw:List PS:= [.one (.slice [.int .i64])]
def akx:List Int→Prop×AV×List AB:=fun x=>match x with
 |l=>(S.small l, .own 0,[.row 3 [.int .i64] (l) false])
def ZJ:bc:=au akw akx
def ZK:Env:=Env.cons 81 ZJ ZI
abbrev aky:List TA:= [.own 50000, .fn (.func 161) [] []]
abbrev akz:List TB:= [.row 9 [.str]]
def akA:Unit→((List (List UInt8))×Unit)→fe:=fun x y=>match x,y with
 |(),(l,())=> {pre:=S.small l,res:= .dc [],heap:= [some (.row 9 [.str] (S.fB l) false)],new:= []}
def ZL:eU:=gp aky akz akA
def ZM:eU:=ZL
def ZN:Env:=Env.eP 179 [true,true] ZM ZK
abbrev ZO:List TA:= [.iO (.slice [.str]), .fn (.func 161) [] []]
abbrev ZP:List TB:= []
def akB:(List (List UInt8))→Unit→fe:=fun x y=>match x,y with
 |l,()=> {pre:=S.small l,res:= .own 60000,heap:= [],new:= [.row 9 [.str] (S.bJ (S.fB l)) false]}
def akC:(List (List UInt8))→Unit→Nat→Option al:=fun _ _ _=>none
def ZQ:eU:=gp ZO ZP akB
def ZR:eU:=ZQ
def ZS:Env:=Env.eP 159 [false,true] ZR ZN
abbrev ZT:List PS:= [.one (.slice [.int .u8])]
def akD:List UInt8→Prop×AV×List AB:=fun x=>match x with
 |b=>(S.small b, .own 0,[.row 9 [.str] (S.sorted (S.aT b)) false])
def akE:List UInt8→Nat→Option al:=fun _ _=>none
def ZU:bc:=au ZT akD
def ZV:Env:=Env.cons 131 ZU ZS
abbrev ZW:List PS:= [.one (.slice [.str])]
def akF:List (List UInt8)→Prop×AV×List AB:=fun x=>match x with
 |l=>(True, .bool (S.mT l),[])
def akG:List (List UInt8)→Nat→Option al:=fun x=>match x with
 |l=>fun id=>(match id with
  |0=>some {τ:=Nat,aL:= [(7,fun k=> .int .i64 ((k:Nat):Int))],keys:= [],bM:= [],drop:= [],bm:= [],inv:=fun k=>S.mB l k,ag:=fun k=>S.ag (S.len l) k}
  |_=>none)
def ZX:bc:=au ZW akF
def ZY:Env:=Env.cons 85 ZX ZV
abbrev ZZ:List PS:= [.one (.str), .one (.str)]
def akH:List UInt8×List UInt8→Prop×AV×List AB:=fun x=>match x with
 |(a,b)=>(True, .str (S.cM a b),[])
def akI:List UInt8×List UInt8→Nat→Option al:=fun _ _=>none
def Z0:bc:=au ZZ akH
def Z1:Env:=Env.cons 151 Z0 ZY
abbrev Z2:List TA:= [.own 50000]
abbrev Z3:List TB:= [.row 9 [.str]]
def akJ:Unit→((List (List UInt8))×Unit)→fe:=fun x y=>match x,y with
 |(),(s,())=> {pre:=S.qm s,res:= .own 60000,heap:= [none],new:= [.row 9 [.str] (S.comb s) false]}
def akK:Unit→((List (List UInt8))×Unit)→Nat→Option al:=fun _ _ _=>none
def Z4:eU:=gp Z2 Z3 akJ
def Z5:eU:=Z4
def Z6:Env:=Env.eP 123 [true] Z5 Z1
abbrev Z7:List PS:= [.one (.slice [.slice [.int .u8]])]
def akL:List (List UInt8)→Prop×AV×List AB:=fun x=>match x with
 |l=>(S.iT l, .own 0,[.row 9 [.str] (S.leaves l) false])
def akM:List (List UInt8)→Nat→Option al:=fun x=>match x with
 |l=>fun id=>(match id with
  |0=>some {τ:=Nat,aL:= [(8,fun k=> .int .i64 ((k:Nat):Int)),(3,fun k=> .own 300)],keys:= [(300,fun k=> .row 9 [.str] (S.db l k) false)],bM:= [(Vg.Loc.slot 3,300)],drop:= [],bm:= [],inv:=fun k=>S.dY l k,ag:=fun k=>S.ag (S.len l) k}
  |_=>none)
def Z8:bc:=au Z7 akL
def Z9:Env:=Env.cons 68 Z8 Z6
abbrev À:List PS:= [.one (.slice [.str])]
def akN:List (List UInt8)→Prop×AV×List AB:=fun x=>match x with
 |l=>(S.dZ l, .str (S.root l),[])
def akO:List (List UInt8)→Nat→Option al:=fun x=>match x with
 |l=>fun id=>(match id with
  |0=>some {τ:=Nat×List (List UInt8),aL:= [(12,fun k=> .int .i64 ((k.1:Nat):Int)),(3,fun k=> .own 300)],keys:= [(300,fun k=> .row 9 [.str] k.2 false)],bM:= [(Vg.Loc.slot 3,300)],drop:= [302,35,103500,103501,103502,304],bm:= [],inv:=fun k=>S.kU l k.1 k.2,ag:=fun k=>S.ag (S.len l) k.1}
  |2=>some {τ:=Nat×Nat×List (List UInt8)×Nat,aL:= [(5,fun k=> .int .i64 ((k.2.1:Nat):Int)),(3,fun k=> .own 302)],keys:= [(302,fun k=> .row 9 [.str] k.2.2.1 false)],bM:= [(Vg.Loc.slot 3,302)],drop:= [35,103500,103501,103502,102100,102101,21,102102,300,304],bm:= [(4,fun k=> .int .i64 ((k.2.2.2:Nat):Int))],inv:=fun k=>S.jW l k.2.2.2 k.1 k.2.1 k.2.2.1,ag:=fun k=>k.2.1}
  |4=>some {τ:=List (List UInt8),aL:= [(3,fun k=> .own 304)],keys:= [(304,fun k=> .row 9 [.str] k false)],bM:= [(Vg.Loc.slot 3,304)],drop:= [102100,102101,21,102102,102901,102900,102902,29,300,302],bm:= [],inv:=fun k=>S.kV l k,ag:=fun k=>S.len k}
  |_=>none)
def Á:bc:=au À akN
def Â:Env:=Env.cons 86 Á Z9
abbrev Ã:List PS:= [.one (.slice [.str])]
def akP:List (List UInt8)→Prop×AV×List AB:=fun x=>match x with
 |l=>(S.small l, .dc [.str (((S.rq l,S.ru l)).1), .int .i64 (((S.rq l,S.ru l)).2:Int)],[])
def akQ:List (List UInt8)→Nat→Option al:=fun _ _=>none
def Ä:bc:=au Ã akP
def Å:Env:=Env.cons 45 Ä Â
abbrev Æ:List PS:= [.one (.int .i64)]
def akR:Int→Prop×AV×List AB:=fun x=>match x with
 |n=>(True, .int .i64 (S.split n:Int),[])
def akS:Int→Nat→Option al:=fun x=>match x with
 |n=>fun id=>(match id with
  |0=>some {τ:=Nat×Int,aL:= [(3,fun k=> .int .i64 k.2)],keys:= [],bM:= [],drop:= [],bm:= [],inv:=fun k=>S.jt n k.2 k.1,ag:=fun k=>(n-k.2).toNat}
  |_=>none)
def Ç:bc:=au Æ akR
def MC:Env:=Env.cons 110 Ç Å
abbrev Iu:List PS:= [.one (.slice [.str])]
def È:List (List UInt8)→Prop×AV×List AB:=fun x=>match x with
 |l=>(S.dZ l, .str (S.root l),[])
def É:List (List UInt8)→Nat:=fun x=>match x with
 |l=>S.len l
def akT:List (List UInt8)→Nat→Option al:=fun _ _=>none
def Ê:bc:=au Iu È
def akU(m:Nat):Env:=Env.cons 69 (lG Iu É m È) MC
def Ë:Env:=Env.cons 69 Ê MC
abbrev Ì:List PS:= [.one (.slice [.slice [.int .u8]])]
def akV:List (List UInt8)→Prop×AV×List AB:=fun x=>match x with
 |l=>(S.iT l, .own 0,[.row 9 [.str] (S.leaves l) false])
def akW:List (List UInt8)→Nat→Option al:=fun x=>match x with
 |l=>fun id=>(match id with
  |0=>some {τ:=Nat,aL:= [(4,fun k=> .int .i64 ((k:Nat):Int)),(3,fun k=> .own 300)],keys:= [(300,fun k=> .row 9 [.str] (S.db l k) false)],bM:= [(Vg.Loc.slot 3,300)],drop:= [],bm:= [],inv:=fun k=>S.dY l k,ag:=fun k=>S.ag (S.len l) k}
  |_=>none)
def Í:bc:=au Ì akV
def Î:Env:=Env.cons 46 Í Ë
abbrev Ï:List PS:= [.one (.slice [.int .i64])]
def akX:List Int→Prop×AV×List AB:=fun x=>match x with
 |l=>(True, .bool (S.bR l),[])
def akY:List Int→Nat→Option al:=fun x=>match x with
 |l=>fun id=>(match id with
  |0=>some {τ:=Nat,aL:= [(8,fun k=> .int .i64 ((k:Nat):Int)),(3,fun k=> .int .i64 (S.dV l k))],keys:= [],bM:= [],drop:= [],bm:= [],inv:=fun k=>S.hY l k,ag:=fun k=>S.ag (S.len l) k}
  |_=>none)
def Ð:bc:=au Ï akX
def Ñ:Env:=Env.cons 143 Ð Î
abbrev Ò:List PS:= [.one (.slice [.int .i64])]
def akZ:List Int→Prop×AV×List AB:=fun x=>match x with
 |l=>(True, .dc [.own 0, .int .i64 (((S.oz l,S.jC l)).2:Int)],[.row 5 [.int .u8] (((S.oz l,S.jC l)).1) false])
def ak0:List Int→Nat→Option al:=fun x=>match x with
 |l=>fun id=>(match id with
  |0=>some {τ:=Nat,aL:= [(22,fun k=> .int .i64 ((k:Nat):Int)),(6,fun k=> .int .i64 (S.dV l k)),(4,fun k=> .own 300)],keys:= [(300,fun k=> .row 5 [.int .u8] (S.cB l k) false)],bM:= [(Vg.Loc.slot 4,300)],drop:= [101700,101701,101702,17],bm:= [],inv:=fun k=>k≤l.length,ag:=fun k=>S.ag (S.len l) k}
  |_=>none)
def Ó:bc:=au Ò akZ
def Ô:Env:=Env.cons 174 Ó Ñ
abbrev Õ:List PS:= [.one (.slice [.int .i64])]
def ak1:List Int→Prop×AV×List AB:=fun x=>match x with
 |l=>(True, .dc [.str (((S.oA l,S.jC l)).1), .int .i64 (((S.oA l,S.jC l)).2:Int)],[])
def ak2:List Int→Nat→Option al:=fun _ _=>none
def Ö:bc:=au Õ ak1
def Ø:Env:=Env.cons 155 Ö Ô
abbrev Ù:List TA:= [.iO (.int .i64), .iO (.bool), .iO (.bool), .ref 50000 0]
abbrev Ú:List TB:= [.cells [.iO (.int .i64), .iO (.int .i64)]]
def ak3:(Int×Bool×Bool)→((Int×Int)×Unit)→fe:=fun x y=>match x,y with
 |(n,p,q),((s1,s2),())=> {pre:=True,res:= .bool (S.oB n s1 s2),heap:= [some (.cells [.int .i64 s1, .int .i64 s2])],new:= []}
def ak4:(Int×Bool×Bool)→((Int×Int)×Unit)→Nat→Option al:=fun _ _ _=>none
def Û:eU:=gp Ù Ú ak3
def Ü:eU:=Û
def Ý:Env:=Env.eP 154 [false,false,false,true] Ü Ø
abbrev Þ:List TA:= [.iO (.slice [.int .i64]), .iO (.slice [.int .i64]), .fn (.func 154) [] [.ref 50000 0]]
abbrev ß:List TB:= [.cells [.iO (.int .i64), .iO (.int .i64)]]
def ak5:(List Int×List Int)→((Int×Int)×Unit)→fe:=fun x y=>match x,y with
 |(a,b),((s1,s2),())=> {pre:=b.length=0,res:= .own 60000,heap:= [some (.cells [.int .i64 s1, .int .i64 s2])],new:= [.row 3 [.int .i64] (S.CG a s1 s2) false]}
def ak6:(List Int×List Int)→((Int×Int)×Unit)→Nat→Option al:=fun x y=>match x,y with
 |(a,b),((s1,s2),())=>fun id=>(match id with
  |0=>some {τ:=List Int×List Int,aL:= [(0,fun k=> .sl [.int .i64] k.1),(1,fun k=> .sl [.int .i64] S.fa),(7,fun k=> .own 300)],keys:= [(300,fun k=> .row 3 [.int .i64] k.2 false),(50000,fun k=> .cells [.int .i64 s1, .int .i64 s2])],bM:= [(Vg.Loc.slot 7,300)],drop:= [],bm:= [],inv:=fun k=>S.iU a s1 s2 k.1 k.2,ag:=fun k=>S.len k.1}
  |_=>none)
def à:eU:=gp Þ ß ak5
def á:eU:=à
def â:Env:=Env.eP 153 [false,false,true] á Ý
abbrev ã:List PS:= [.one (.slice [.int .i64]), .agg [.int .i64, .int .i64]]
def ak7:List Int×Int×Int→Prop×AV×List AB:=fun x=>match x with
 |(l,s1,s2)=>(True, .own 0,[.row 3 [.int .i64] (S.CG l s1 s2) false])
def ak8:List Int×Int×Int→Nat→Option al:=fun _ _=>none
def ä:bc:=au ã ak7
def å:Env:=Env.cons 127 ä â
abbrev æ:List PS:= [.one (.slice [.int .i64])]
def ak9:List Int→Prop×AV×List AB:=fun x=>match x with
 |l=>(S.bR l=true, .own 0,[.row 5 [.int .u8] (S.rv l) false])
def ala:List Int→Nat→Option al:=fun x=>match x with
 |l=>fun id=>(match id with
  |0=>some {τ:=Nat,aL:= [(4,fun k=> .int .i64 ((k:Nat):Int)),(3,fun k=> .own 300)],keys:= [(300,fun k=> .row 5 [.int .u8] (S.cB l k) false)],bM:= [(Vg.Loc.slot 3,300)],drop:= [7,100700,100701,100702],bm:= [],inv:=fun k=>k≤l.length,ag:=fun k=>S.ag (S.len l) k}
  |_=>none)
def ç:bc:=au æ ak9
def è:Env:=Env.cons 157 ç å
abbrev é:List PS:= [.one (.slice [.int .i64])]
def alb:List Int→Prop×AV×List AB:=fun x=>match x with
 |l=>(S.bR l=true, .str (S.eJ l),[])
def alc:List Int→Nat→Option al:=fun _ _=>none
def ê:bc:=au é alb
def ë:Env:=Env.cons 129 ê è
abbrev ì:List PS:= [.one (.slice [.int .i64]), .one (.slice [.int .i64])]
def ald:List Int×List Int→Prop×AV×List AB:=fun x=>match x with
 |(a,b)=>(True, .bool (S.lL a b),[])
def ale:List Int×List Int→Nat→Option al:=fun x=>match x with
 |(a,b)=>fun id=>(match id with
  |0=>some {τ:=Nat,aL:= [(5,fun k=> .int .i64 ((k:Nat):Int))],keys:= [],bM:= [],drop:= [],bm:= [],inv:=fun k=>S.pg a b k,ag:=fun k=>S.ag (S.len a) k}
  |_=>none)
def í:bc:=au ì ald
def î:Env:=Env.cons 42 í ë
abbrev ï:List PS:= [.one (.slice [.str, .slice [.int .i64]])]
def alf:List (List UInt8×List Int)→Prop×AV×List AB:=fun x=>match x with
 |d=>(S.bB d, .bool (S.bl d),[])
def alg:List (List UInt8×List Int)→Nat→Option al:=fun x=>match x with
 |d=>fun id=>(match id with
  |0=>some {τ:=Nat,aL:= [(7,fun k=> .int .i64 ((k:Nat):Int))],keys:= [],bM:= [],drop:= [],bm:= [],inv:=fun k=>S.zL d k,ag:=fun k=>S.ag (S.len d) k}
  |_=>none)
def ð:bc:=au ï alf
def ñ:Env:=Env.cons 118 ð î
abbrev ò:List PS:= [.agg [.str, .str, .str]]
def alh:List UInt8×List UInt8×List UInt8→Prop×AV×List AB:=fun x=>match x with
 |(l1,l2,l3)=>(True, .dc [.sl [.int .u8] (((S.oC l1 l2 l3,S.wj l1 l2 l3)).1), .int .i64 (((S.oC l1 l2 l3,S.wj l1 l2 l3)).2:Int)],[])
def ali:List UInt8×List UInt8×List UInt8→Nat→Option al:=fun _ _=>none
def ó:bc:=au ò alh
def ô:Env:=Env.cons 156 ó ñ
abbrev õ:List PS:= [.one (.slice [.str, .slice [.int .i64]])]
def alj:List (List UInt8×List Int)→Prop×AV×List AB:=fun x=>match x with
 |d=>(S.bB d, .dc [.own 0, .int .i64 (((S.fb d,S.dE d)).2:Int)],[.row 46 [.slice [.int .u8]] (((S.fb d,S.dE d)).1) false])
def alk:List (List UInt8×List Int)→Nat→Option al:=fun x=>match x with
 |d=>fun id=>(match id with
  |0=>some {τ:=Nat,aL:= [(16,fun k=> .int .i64 ((k:Nat):Int)),(4,fun k=> .own 300)],keys:= [(300,fun k=> .row 46 [.slice [.int .u8]] (S.dy d k) false)],bM:= [(Vg.Loc.slot 4,300)],drop:= [],bm:= [],inv:=fun k=>k≤d.length+1,ag:=fun k=>S.ag (S.len d+1) k}
  |_=>none)
def ö:bc:=au õ alj
def ø:Env:=Env.cons 128 ö ô
abbrev ù:List PS:= [.one (.slice [.str, .slice [.int .i64]])]
def alm:List (List UInt8×List Int)→Prop×AV×List AB:=fun x=>match x with
 |d=>(S.bB d, .dc [.str (((S.rz d,S.dE d)).1), .int .i64 (((S.rz d,S.dE d)).2:Int)],[])
def aln:List (List UInt8×List Int)→Nat→Option al:=fun _ _=>none
def ú:bc:=au ù alm
def û:Env:=Env.cons 93 ú ø
abbrev alo:List PS:= [.one (.slice [.slice [.int .u8]]), .agg [.int .i64, .int .i64]]
def alp:List (List UInt8)×Int×Int→Prop×AV×List AB:=fun x=>match x with
 |(docs,s1,s2)=>(True, .dc [.sl [.str, .slice [.int .i64]] ((S.fK docs s1 s2).1), .int .i64 ((S.fK docs s1 s2).2:Int)],[])
def ü:bc:=au alo alp
def ý:Env:=Env.cons 96 ü û
abbrev þ:List PS:= [.one (.slice [.slice [.int .u8]]), .agg [.int .i64, .int .i64]]
def alq:List (List UInt8)×Int×Int→Prop×AV×List AB:=fun x=>match x with
 |(docs,s1,s2)=>(True, .bool (S.cJ docs s1 s2),[])
def alr:List (List UInt8)×Int×Int→Nat→Option al:=fun x=>match x with
 |(docs,s1,s2)=>fun id=>(match id with
  |0=>some {τ:=Nat,aL:= [(5,fun k=> .int .i64 ((k:Nat):Int))],keys:= [],bM:= [],drop:= [],bm:= [],inv:=fun k=>S.kX docs k,ag:=fun k=>S.ag (S.len docs) k}
  |_=>none)
def ÿ:bc:=au þ alq
def Ā:Env:=Env.cons 57 ÿ ý
abbrev Ot:List PS:= [.one (.slice [.int .u8]), .one (.str)]
def aba:List UInt8×List UInt8→Prop×AV×List AB:=fun x=>match x with
 |(b,t)=>(S.small b, .bool (S.oD b t),[])
def abb:List UInt8×List UInt8→Nat→Option al:=fun _ _=>none
def Ou:bc:=au Ot aba
def Ov:Env:=Env.cons 136 Ou Ā
abbrev Ow:List PS:= [.agg [.str, .str, .str]]
def abc:List UInt8×List UInt8×List UInt8→Prop×AV×List AB:=fun x=>match x with
 |(l1,l2,l3)=>(S.iA l1 l2 l3=true, .sl [.int .u8] (S.wi l1 l2 l3),[])
def abd:List UInt8×List UInt8×List UInt8→Nat→Option al:=fun _ _=>none
def Ox:bc:=au Ow abc
def Oy:Env:=Env.cons 130 Ox Ov
abbrev Oz:List PS:= [.one (.slice [.str, .slice [.int .i64]])]
def abe:List (List UInt8×List Int)→Prop×AV×List AB:=fun x=>match x with
 |d=>(S.bB d∧S.bl d=true, .own 0,[.row 46 [.slice [.int .u8]] (S.iq d) false])
def abf:List (List UInt8×List Int)→Nat→Option al:=fun x=>match x with
 |d=>fun id=>(match id with
  |0=>some {τ:=Nat,aL:= [(4,fun k=> .int .i64 (((k:Nat):Int)-1)),(3,fun k=> .own 300)],keys:= [(300,fun k=> .row 46 [.slice [.int .u8]] (S.dy d k) false)],bM:= [(Vg.Loc.slot 3,300)],drop:= [],bm:= [],inv:=fun k=>k≤d.length+1,ag:=fun k=>S.ag (S.len d+1) k}
  |_=>none)
def OA:bc:=au Oz abe
def OB:Env:=Env.cons 94 OA Oy
abbrev OC:List PS:= [.one (.slice [.str, .slice [.int .i64]])]
def abg:List (List UInt8×List Int)→Prop×AV×List AB:=fun x=>match x with
 |d=>(S.bB d∧S.bl d=true, .str (S.l7 d),[])
def abh:List (List UInt8×List Int)→Nat→Option al:=fun _ _=>none
def OD:bc:=au OC abg
def OE:Env:=Env.cons 95 OD OB
abbrev OF:List PS:= [.one (.slice [.str, .slice [.int .i64]]), .one (.slice [.str, .slice [.int .i64]])]
def abi:List (List UInt8×List Int)×List (List UInt8×List Int)→Prop×AV×List AB:=fun x=>match x with
 |(a,b)=>(True, .bool (S.eR a b),[])
def abj:List (List UInt8×List Int)×List (List UInt8×List Int)→Nat→Option al:=fun x=>match x with
 |(a,b)=>fun id=>(match id with
  |0=>some {τ:=Nat,aL:= [(5,fun k=> .int .i64 ((k:Nat):Int))],keys:= [],bM:= [],drop:= [],bm:= [],inv:=fun k=>S.hZ a b k,ag:=fun k=>S.ag (S.len a) k}
  |_=>none)
def OG:bc:=au OF abi
def OH:Env:=Env.cons 100 OG OE
abbrev OI:List PS:= [.one (.slice [.slice [.int .u8]]), .agg [.int .i64, .int .i64]]
def abk:List (List UInt8)×Int×Int→Prop×AV×List AB:=fun x=>match x with
 |(docs,s1,s2)=>(S.eb docs s1 s2, .own 0,[.row 132 [.str, .slice [.int .i64]] (S.make docs s1 s2) false])
def abl:List (List UInt8)×Int×Int→Nat→Option al:=fun x=>match x with
 |(docs,s1,s2)=>fun id=>(match id with
  |0=>some {τ:=Nat,aL:= [(6,fun k=> .int .i64 (s1+(k:Nat))),(5,fun k=> .own 300)],keys:= [(300,fun k=> .row 9 [.str] (S.fC docs s1 k) false)],bM:= [(Vg.Loc.slot 5,300)],drop:= [102700,102701,102702,27],bm:= [],inv:=fun k=>S.dz s1 s2 k,ag:=fun k=>S.ag (s2-s1).toNat k}
  |2=>some {τ:=Nat,aL:= [(8,fun k=> .int .i64 ((k:Nat):Int)),(7,fun k=> .own 301)],keys:= [(301,fun k=> .row 132 [.str, .slice [.int .i64]] (S.iB docs s1 s2 k) false)],bM:= [(Vg.Loc.slot 7,301)],drop:= [302],bm:= [],inv:=fun k=>S.dY (S.bP docs s1 s2) k,ag:=fun k=>S.ag (S.len (S.bP docs s1 s2)) k}
  |4=>some {τ:=Nat×List UInt8,aL:= [(10,fun k=> .int .i64 (s1+(k.1:Nat)))],keys:= [(9,fun k=> .cells [.str k.2, .own 302]),(302,fun k=> .row 3 [.int .i64] (S.bC docs s1 k.2 k.1) false)],bM:= [(Vg.Loc.cell 9 1,302)],drop:= [],bm:= [(37,fun k=> .str k.2)],inv:=fun k=>S.dz s1 s2 k.1,ag:=fun k=>S.ag (s2-s1).toNat k.1}
  |_=>none)
def OJ:bc:=au OI abk
def OK:Env:=Env.cons 101 OJ OH
abbrev OL:List PS:= [.agg [.int .i64, .int .i64]]
def abn:Int×Int→Prop×AV×List AB:=fun x=>match x with
 |(s1,s2)=>(True, .bool (S.iC s1 s2),[])
def abo:Int×Int→Nat→Option al:=fun _ _=>none
def OM:bc:=au OL abn
def ON:Env:=Env.cons 117 OM OK
abbrev OO:List PS:= [.agg [.int .i64, .int .i64, .slice [.str, .slice [.int .i64]]]]
def abp:Int×Int×List (List UInt8×List Int)→Prop×AV×List AB:=fun x=>match x with
 |(s1,s2,s3)=>(S.bB s3, .bool (S.dh s1 s2 s3),[])
def abq:Int×Int×List (List UInt8×List Int)→Nat→Option al:=fun x=>match x with
 |(s1,s2,s3)=>fun id=>(match id with
  |0=>some {τ:=Nat,aL:= [(18,fun k=> .int .i64 ((k:Nat):Int))],keys:= [],bM:= [],drop:= [],bm:= [],inv:=fun k=>S.pj s1 s2 s3 k,ag:=fun k=>S.ag (S.len s3) k}
  |_=>none)
def OP:bc:=au OO abp
def OQ:Env:=Env.cons 92 OP ON
abbrev OR:List PS:= [.agg [.int .i64, .int .i64, .slice [.str, .slice [.int .i64]]]]
def abr:Int×Int×List (List UInt8×List Int)→Prop×AV×List AB:=fun x=>match x with
 |(s1,s2,s3)=>(S.bB s3, .dc [.agg [.int .i64 (((S.lh s1 s2 s3).1).1:Int), .int .i64 (((S.lh s1 s2 s3).1).2.1:Int), .int .i64 (((S.lh s1 s2 s3).1).2.2.1:Int), .str (((S.lh s1 s2 s3).1).2.2.2)], .int .i64 ((S.lh s1 s2 s3).2:Int)],[])
def abt:Int×Int×List (List UInt8×List Int)→Nat→Option al:=fun _ _=>none
def OS:bc:=au OR abr
def OT:Env:=Env.cons 51 OS OQ
abbrev OU:List PS:= [.one (.slice [.slice [.int .u8]]), .agg [.int .i64, .int .i64]]
def abu:List (List UInt8)×Int×Int→Prop×AV×List AB:=fun x=>match x with
 |(docs,s1,s2)=>(True, .dc [.agg [.int .i64 (((S.cb docs s1 s2).1).1:Int), .int .i64 (((S.cb docs s1 s2).1).2.1:Int), .sl [.str, .slice [.int .i64]] (((S.cb docs s1 s2).1).2.2)], .int .i64 ((S.cb docs s1 s2).2:Int)],[])
def abv:List (List UInt8)×Int×Int→Nat→Option al:=fun _ _=>none
def OV:bc:=au OU abu
def OW:Env:=Env.cons 55 OV OT
abbrev OX:List PS:= [.one (.slice [.slice [.int .u8]]), .agg [.int .i64, .int .i64]]
def abw:List (List UInt8)×Int×Int→Prop×AV×List AB:=fun x=>match x with
 |(docs,s1,s2)=>(True, .bool (S.cC docs s1 s2),[])
def abx:List (List UInt8)×Int×Int→Nat→Option al:=fun _ _=>none
def OY:bc:=au OX abw
def OZ:Env:=Env.cons 58 OY OW
abbrev O0:List PS:= [.one (.slice [.slice [.int .u8]]), .agg [.int .i64, .int .i64]]
def aby:List (List UInt8)×Int×Int→Prop×AV×List AB:=fun x=>match x with
 |(docs,s1,s2)=>(S.eb docs s1 s2, .agg [.int .i64 (((s1,s2,S.make docs s1 s2)).1:Int), .int .i64 (((s1,s2,S.make docs s1 s2)).2.1:Int), .sl [.str, .slice [.int .i64]] (((s1,s2,S.make docs s1 s2)).2.2)],[])
def abz:List (List UInt8)×Int×Int→Nat→Option al:=fun _ _=>none
def O1:bc:=au O0 aby
def O2:Env:=Env.cons 60 O1 OZ
abbrev O3:List PS:= [.agg [.int .i64, .int .i64, .slice [.str, .slice [.int .i64]]]]
def abA:Int×Int×List (List UInt8×List Int)→Prop×AV×List AB:=fun x=>match x with
 |(s1,s2,s3)=>(S.bB s3∧S.bl s3=true, .agg [.int .i64 ((S.yW s1 s2 s3).1:Int), .int .i64 ((S.yW s1 s2 s3).2.1:Int), .int .i64 ((S.yW s1 s2 s3).2.2.1:Int), .str ((S.yW s1 s2 s3).2.2.2)],[])
def abB:Int×Int×List (List UInt8×List Int)→Nat→Option al:=fun _ _=>none
def O4:bc:=au O3 abA
def O5:Env:=Env.cons 53 O4 O2
abbrev O6:List PS:= [.agg [.int .i64, .int .i64, .slice [.str, .slice [.int .i64]]], .agg [.int .i64, .int .i64, .slice [.str, .slice [.int .i64]]]]
def abC:Int×Int×List (List UInt8×List Int)×Int×Int×List (List UInt8×List Int)→Prop×AV×List AB:=fun x=>match x with
 |(a1,a2,a3,b1,b2,b3)=>(True, .bool (S.rB a1 a2 a3 b1 b2 b3),[])
def abD:Int×Int×List (List UInt8×List Int)×Int×Int×List (List UInt8×List Int)→Nat→Option al:=fun _ _=>none
def O7:bc:=au O6 abC
def O8:Env:=Env.cons 59 O7 O5
abbrev O9:List PS:= [.one (.slice [.str, .slice [.int .i64]])]
def abE:List (List UInt8×List Int)→Prop×AV×List AB:=fun x=>match x with
 |d=>(True, .bool (S.fG d),[])
def abF:List (List UInt8×List Int)→Nat→Option al:=fun x=>match x with
 |d=>fun id=>(match id with
  |0=>some {τ:=Nat,aL:= [(3,fun k=> .int .i64 ((k:Nat):Int))],keys:= [],bM:= [],drop:= [],bm:= [],inv:=fun k=>S.tA d k,ag:=fun k=>S.ag (S.len d) k}
  |_=>none)
def Pa:bc:=au O9 abE
def Pb:Env:=Env.cons 47 Pa O8
abbrev Pc:List PS:= [.one (.slice [.slice [.int .u8]])]
def abG:List (List UInt8)→Prop×AV×List AB:=fun x=>match x with
 |docs=>(True, .bool (S.jX docs),[])
def abH:List (List UInt8)→Nat→Option al:=fun x=>match x with
 |docs=>fun id=>(match id with
  |0=>some {τ:=Nat,aL:= [(3,fun k=> .int .i64 ((k:Nat):Int))],keys:= [],bM:= [],drop:= [],bm:= [],inv:=fun k=>S.tB docs k,ag:=fun k=>S.ag (S.len docs) k}
  |_=>none)
def Pd:bc:=au Pc abG
def Pe:Env:=Env.cons 48 Pd Pb
abbrev Pf:List PS:= [.agg [.int .i64, .int .i64, .slice [.str, .slice [.int .i64]]]]
def abI:Int×Int×List (List UInt8×List Int)→Prop×AV×List AB:=fun x=>match x with
 |(s1,s2,s3)=>(True, .agg [.int .i64 (((s1,s2,s3)).1:Int), .int .i64 (((s1,s2,s3)).2.1:Int), .sl [.str, .slice [.int .i64]] (((s1,s2,s3)).2.2)],[])
def abJ:Int×Int×List (List UInt8×List Int)→Nat→Option al:=fun _ _=>none
def Pg:bc:=au Pf abI
def Ph:Env:=Env.cons 54 Pg Pe
abbrev Pj:List PS:= [.agg [.int .i64, .int .i64, .int .i64, .str]]
def abK:Int×Int×Int×List UInt8→Prop×AV×List AB:=fun x=>match x with
 |(s1,s2,s3,s4)=>(True, .agg [.int .i64 (((s1,s2,s3,s4)).1:Int), .int .i64 (((s1,s2,s3,s4)).2.1:Int), .int .i64 (((s1,s2,s3,s4)).2.2.1:Int), .str (((s1,s2,s3,s4)).2.2.2)],[])
def abL:Int×Int×Int×List UInt8→Nat→Option al:=fun _ _=>none
def Pk:bc:=au Pj abK
def Pl:Env:=Env.cons 23 Pk Ph
abbrev Pm:List PS:= [.one (.slice [.int .i64, .int .i64, .slice [.str, .slice [.int .i64]]])]
def abM:List (Int×Int×List (List UInt8×List Int))→Prop×AV×List AB:=fun x=>match x with
 |l=>(S.mF l, .sl [.str, .slice [.int .i64]] (S.l9 l),[])
def abN:List (Int×Int×List (List UInt8×List Int))→Nat→Option al:=fun x=>match x with
 |l=>fun id=>(match id with
  |0=>some {τ:=Nat,aL:= [(3,fun k=> .own 300)],keys:= [(300,fun k=> .row 132 [.str, .slice [.int .i64]] (S.cc l k) false),(13,fun k=> .row 3 [.int .i64] (S.ay l k) false)],bM:= [(Vg.Loc.slot 3,300)],drop:= [302],bm:= [],inv:=fun k=>k≤S.uL l,ag:=fun k=>S.ag (S.uL l) k}
  |2=>some {τ:=Nat×Nat,aL:= [(16,fun k=> .int .i64 ((k.1:Nat):Int)),(5,fun k=> .int .i64 (S.cv l (S.ay l k.2) k.1))],keys:= [],bM:= [],drop:= [],bm:= [(4,fun k=> .sl [.int .i64] (S.ay l k.2))],inv:=fun k=>k.1≤l.length∧k.2≤S.uL l,ag:=fun k=>S.ag (S.len l) k.1}
  |4=>some {τ:=Nat×Nat,aL:= [(74,fun k=> .int .i64 ((k.1:Nat):Int))],keys:= [(13,fun k=> .row 3 [.int .i64] (S.aY l k.2 k.1) false),(8,fun k=> .cells [.str (S.kz l k.2), .own 302]),(302,fun k=> .row 3 [.int .i64] (S.cw l (S.kz l k.2) k.1) false)],bM:= [(Vg.Loc.cell 8 1,302)],drop:= [],bm:= [(3,fun k=> .sl [.str, .slice [.int .i64]] (S.cc l k.2))],inv:=fun k=>k.1≤l.length∧k.2<S.uL l,ag:=fun k=>S.ag (S.len l) k.1}
  |_=>none)
def Pn:bc:=au Pm abM
def Po:Env:=Env.cons 126 Pn Pl
abbrev Pq:List PS:= [.one (.slice [.int .i64, .int .i64, .slice [.str, .slice [.int .i64]]])]
def abO:List (Int×Int×List (List UInt8×List Int))→Prop×AV×List AB:=fun x=>match x with
 |l=>(S.tD l, .dc [.agg [.int .i64 (((S.dC l).1).1:Int), .int .i64 (((S.dC l).1).2.1:Int), .sl [.str, .slice [.int .i64]] (((S.dC l).1).2.2)], .int .i64 ((S.dC l).2:Int)],[])
def abP:List (Int×Int×List (List UInt8×List Int))→Nat→Option al:=fun x=>match x with
 |l=>fun id=>(match id with
  |0=>some {τ:=Nat,aL:= [(14,fun k=> .int .i64 ((k:Nat):Int))],keys:= [],bM:= [],drop:= [],bm:= [],inv:=fun k=>S.nm l k,ag:=fun k=>S.ag (S.len l) k}
  |2=>some {τ:=Nat,aL:= [(6,fun k=> .int .i64 ((k:Int)+1))],keys:= [],bM:= [],drop:= [],bm:= [],inv:=fun k=>S.pT l k,ag:=fun k=>S.ag (S.len l) k}
  |_=>none)
def Pr:bc:=au Pq abO
def Ps:Env:=Env.cons 90 Pr Po
abbrev Pt:List PS:= [.agg [.int .i64, .int .i64]]
def abQ:Int×Int→Prop×AV×List AB:=fun x=>match x with
 |(s1,s2)=>(True, .int .i64 (S.kZ s1 s2:Int),[])
def abR:Int×Int→Nat→Option al:=fun x=>match x with
 |(s1,s2)=>fun id=>(match id with
  |0=>some {τ:=Nat,aL:= [(4,fun n=> .int .i64 ((n:Nat):Int)),(3,fun n=> .int .i64 (S.lg (s2-s1)-S.lg n))],keys:= [],bM:= [],drop:= [],bm:= [],inv:=fun n=>S.k6 s1 s2 n,ag:=fun n=>n}
  |_=>none)
def Pu:bc:=au Pt abQ
def Pv:Env:=Env.cons 125 Pu Ps
abbrev Pw:List PS:= [.one (.slice [.int .i64, .int .i64])]
def abS:List (Int×Int)→Prop×AV×List AB:=fun x=>match x with
 |l=>(True, .dc [.int .i64 ((S.dw l).1:Int), .bool ((S.dw l).2)],[])
def abT:List (Int×Int)→Nat→Option al:=fun x=>match x with
 |l=>fun id=>(match id with
  |0=>some {τ:=Nat,aL:= [(4,fun k=> .int .i64 (((S.len l:Nat):Int)-2-(k:Int)))],keys:= [],bM:= [],drop:= [],bm:= [],inv:=fun k=>S.jS l k,ag:=fun k=>S.ag (S.len l) k}
  |_=>none)
def Px:bc:=au Pw abS
def Py:Env:=Env.cons 88 Px Pv
abbrev Pz:List PS:= [.one (.slice [.int .i64, .int .i64, .slice [.str, .slice [.int .i64]]])]
def abU:List (Int×Int×List (List UInt8×List Int))→Prop×AV×List AB:=fun x=>match x with
 |l=>(S.small l, .sl [.int .i64, .int .i64] (S.b8 l),[])
def abV:List (Int×Int×List (List UInt8×List Int))→Nat→Option al:=fun x=>match x with
 |l=>fun id=>(match id with
  |0=>some {τ:=Nat,aL:= [(8,fun k=> .int .i64 ((k:Nat):Int)),(3,fun k=> .own 300)],keys:= [(300,fun k=> .row 40 [.int .i64, .int .i64] (S.fY l k) false)],bM:= [(Vg.Loc.slot 3,300)],drop:= [],bm:= [],inv:=fun k=>k≤l.length,ag:=fun k=>S.ag (S.len l) k}
  |_=>none)
def PA:bc:=au Pz abU
def PB:Env:=Env.cons 89 PA Py
abbrev PC:List PS:= [.one (.slice [.int .u8])]
def abW:List UInt8→Prop×AV×List AB:=fun x=>match x with
 |l=>(S.small l, .own 0,[.row 5 [.int .u8] (l) false])
def abX:List UInt8→Nat→Option al:=fun _ _=>none
def PD:bc:=au PC abW
def PE:Env:=Env.cons 84 PD PB
abbrev PF:List PS:= [.one (.slice [.str, .slice [.int .i64]])]
def abY:List (List UInt8×List Int)→Prop×AV×List AB:=fun x=>match x with
 |l=>(S.small l, .own 0,[.row 132 [.str, .slice [.int .i64]] (l) false])
def abZ:List (List UInt8×List Int)→Nat→Option al:=fun _ _=>none
def PG:bc:=au PF abY
def PH:Env:=Env.cons 122 PG PE
abbrev PI:List PS:= [.one (.slice [.int .i64]), .one (.slice [.int .i64])]
def ab1:List Int×List Int→Prop×AV×List AB:=fun x=>match x with
 |(a,b)=>(True, .bool (S.y5 a b),[])
def ab2:List Int×List Int→Nat→Option al:=fun x=>match x with
 |(a,b)=>fun id=>(match id with
  |0=>some {τ:=Nat,aL:= [(13,fun k=> .int .i64 ((k:Nat):Int))],keys:= [],bM:= [],drop:= [],bm:= [],inv:=fun k=>S.xR a b k,ag:=fun k=>S.ag (S.len a) k}
  |_=>none)
def PJ:bc:=au PI ab1
def PK:Env:=Env.cons 99 PJ PH
abbrev PL:List PS:= [.agg [.str, .slice [.int .i64]], .agg [.str, .slice [.int .i64]]]
def ab3:List UInt8×List Int×List UInt8×List Int→Prop×AV×List AB:=fun x=>match x with
 |(a1,a2,b1,b2)=>(True, .bool (S.tJ a1 a2 b1 b2),[])
def ab4:List UInt8×List Int×List UInt8×List Int→Nat→Option al:=fun _ _=>none
def PM:bc:=au PL ab3
def PN:Env:=Env.cons 98 PM PK
abbrev PO:List TA:= [.iO (.slice [.str, .slice [.int .i64]]), .iO (.slice [.str, .slice [.int .i64]]), .fn (.func 98) [] []]
abbrev PQ:List TB:= []
def ab5:(List (List UInt8×List Int)×List (List UInt8×List Int))→Unit→fe:=fun x y=>match x,y with
 |(a,b),()=> {pre:=True,res:= .bool (S.eR a b),heap:= [],new:= []}
def ab6:(List (List UInt8×List Int)×List (List UInt8×List Int))→Unit→Nat→Option al:=fun x y=>match x,y with
 |(a,b),()=>fun id=>(match id with
  |0=>some {τ:=Nat,aL:= [(17,fun k=> .int .i64 ((k:Nat):Int))],keys:= [],bM:= [],drop:= [],bm:= [],inv:=fun k=>S.hZ a b k,ag:=fun k=>S.ag (S.len a) k}
  |_=>none)
def PR:eU:=gp PO PQ ab5
def PT:eU:=PR
def PU:Env:=Env.eP 97 [false,false,true] PT PN
abbrev PV:List PS:= [.one (.slice [.str, .slice [.int .i64]]), .one (.slice [.str, .slice [.int .i64]])]
def ab7:List (List UInt8×List Int)×List (List UInt8×List Int)→Prop×AV×List AB:=fun x=>match x with
 |(a,b)=>(True, .bool (S.eR a b),[])
def ab8:List (List UInt8×List Int)×List (List UInt8×List Int)→Nat→Option al:=fun _ _=>none
def PW:bc:=au PV ab7
def PX:Env:=Env.cons 56 PW PU
abbrev PY:List PS:= [.agg [.slice [.slice [.int .u8]], .slice [.int .i64, .int .i64, .slice [.str, .slice [.int .i64]]]]]
def ab9:List (List UInt8)×List (Int×Int×List (List UInt8×List Int))→Prop×AV×List AB:=fun x=>match x with
 |(y1,y2)=>(True, .bool (S.bE y1 y2),[])
def aca:List (List UInt8)×List (Int×Int×List (List UInt8×List Int))→Nat→Option al:=fun x=>match x with
 |(y1,y2)=>fun id=>(match id with
  |0=>some {τ:=Nat,aL:= [(23,fun k=> .int .i64 ((k:Nat):Int))],keys:= [],bM:= [],drop:= [],bm:= [],inv:=fun k=>S.C3 y1 y2 k,ag:=fun k=>S.ag (S.len y1) k}
  |2=>some {τ:=Nat,aL:= [(34,fun k=> .int .i64 ((k:Nat):Int)),(5,fun k=> .int .i64 (S.cD y2 k))],keys:= [],bM:= [],drop:= [],bm:= [],inv:=fun k=>S.oG y1 y2 k,ag:=fun k=>S.ag (S.len y2) k}
  |_=>none)
def PZ:bc:=au PY ab9
def P0:Env:=Env.cons 19 PZ PX
abbrev P1:List PS:= [.agg [.slice [.slice [.int .u8]], .slice [.int .i64, .int .i64, .slice [.str, .slice [.int .i64]]]]]
def acb:List (List UInt8)×List (Int×Int×List (List UInt8×List Int))→Prop×AV×List AB:=fun x=>match x with
 |(y1,y2)=>(True, .agg [.sl [.slice [.int .u8]] ((S.ao y1 y2).1), .sl [.int .i64, .int .i64, .slice [.str, .slice [.int .i64]]] ((S.ao y1 y2).2)],[])
def acd:List (List UInt8)×List (Int×Int×List (List UInt8×List Int))→Nat→Option al:=fun _ _=>none
def P2:bc:=au P1 acb
def P3:Env:=Env.cons 50 P2 P0
abbrev P4:List PS:= [.agg [.slice [.slice [.int .u8]], .slice [.int .i64, .int .i64, .slice [.str, .slice [.int .i64]]]]]
def ace:List (List UInt8)×List (Int×Int×List (List UInt8×List Int))→Prop×AV×List AB:=fun x=>match x with
 |(y1,y2)=>(True, .int .i64 (S.eE y2:Int),[])
def acf:List (List UInt8)×List (Int×Int×List (List UInt8×List Int))→Nat→Option al:=fun _ _=>none
def P5:bc:=au P4 ace
def Iv:Env:=Env.cons 61 P5 P3
abbrev P6:List PS:= [.agg [.slice [.slice [.int .u8]], .slice [.int .i64, .int .i64, .slice [.str, .slice [.int .i64]]]]]
def acg:List (List UInt8)×List (Int×Int×List (List UInt8×List Int))→Prop×AV×List AB:=fun x=>match x with
 |(y1,y2)=>(S.np y1 y2, .agg [.own 0, .own 1],[.row 46 [.slice [.int .u8]] y1 false, .row 81 [.int .i64, .int .i64, .slice [.str, .slice [.int .i64]]] y2 false])
def ach:List (List UInt8)×List (Int×Int×List (List UInt8×List Int))→Nat→Option al:=fun x=>match x with
 |(y1,y2)=>fun id=>(match id with
  |0=>some {τ:=Nat,aL:= [(22,fun k=> .int .i64 ((k:Nat):Int))],keys:= [(13,fun k=> .row 46 [.slice [.int .u8]] (S.cE [] y1 k) false)],bM:= [],drop:= [],bm:= [],inv:=fun k=>S.kg y1 k,ag:=fun k=>S.ag (S.len y1) k}
  |2=>some {τ:=Nat,aL:= [(37,fun k=> .int .i64 ((k:Nat):Int))],keys:= [(17,fun k=> .row 81 [.int .i64, .int .i64, .slice [.str, .slice [.int .i64]]] (S.cE (0,0,[]) y2 k) false)],bM:= [],drop:= [],bm:= [],inv:=fun k=>S.kg y2 k,ag:=fun k=>S.ag (S.len y2) k}
  |4=>some {τ:=Nat×Nat×List S.aD,aL:= [(55,fun k=> .int .i64 ((k.1:Nat):Int))],keys:= [(17,fun k=> .fZ 81 (some 104900) [.int .i64, .int .i64, .slice [.str, .slice [.int .i64]]] k.2.2 k.2.1),(104900,fun k=> .row 132 [.str, .slice [.int .i64]] (S.aq y2 k.2.1).2.2 false)],bM:= [],drop:= [],bm:= [(6,fun k=> .int .i64 ((k.2.1:Nat):Int))],inv:=fun k=>S.pt y2 k.2.2 k.2.1 k.1,ag:=fun k=>S.ag (S.jU y2 k.2.1) k.1}
  |_=>none)
def P7:bc:=au P6 acg
def P8:Env:=Env.cons 83 P7 Iv
def aci:Env:= {Iv with fZ:=fun t=>Nat.beq t 81,cls:=fun d=>bif Nat.beq d 73 then some 17 else none}
abbrev P9:List PS:= [.one (.slice [.int .i64, .int .i64, .slice [.str, .slice [.int .i64]]]), .one (.int .i64), .one (.int .i64), .agg [.int .i64, .int .i64, .slice [.str, .slice [.int .i64]]]]
def acj:List (Int×Int×List (List UInt8×List Int))×Int×Int×Int×Int×List (List UInt8×List Int)→Prop×AV×List AB:=fun x=>match x with
 |(l,i,m,s1,s2,s3)=>(S.xS l i m, .own 0,[.row 81 [.int .i64, .int .i64, .slice [.str, .slice [.int .i64]]] (S.qu l i.toNat m.toNat (s1,s2,s3)) false])
def ack:List (Int×Int×List (List UInt8×List Int))×Int×Int×Int×Int×List (List UInt8×List Int)→Nat→Option al:=fun _ _=>none
def Qa:bc:=au P9 acj
def Qb:Env:=Env.cons 91 Qa P8
abbrev Qc:List PS:= [.agg [.slice [.slice [.int .u8]], .slice [.int .i64, .int .i64, .slice [.str, .slice [.int .i64]]]]]
def acm:List (List UInt8)×List (Int×Int×List (List UInt8×List Int))→Prop×AV×List AB:=fun x=>match x with
 |(y1,y2)=>(True, .int .i64 (S.ka y1 y2:Int),[])
def acn:List (List UInt8)×List (Int×Int×List (List UInt8×List Int))→Nat→Option al:=fun _ _=>none
def Qd:bc:=au Qc acm
def Qe:Env:=Env.cons 21 Qd Qb
abbrev Qf:List PS:= [.agg [.slice [.slice [.int .u8]], .slice [.int .i64, .int .i64, .slice [.str, .slice [.int .i64]]]], .one (.slice [.int .u8])]
def aco:List (List UInt8)×List (Int×Int×List (List UInt8×List Int))×List UInt8→Prop×AV×List AB:=fun x=>match x with
 |(y1,y2,d)=>(True, .dc [.agg [.sl [.slice [.int .u8]] (((S.b6 y1 y2 d).1).1), .sl [.int .i64, .int .i64, .slice [.str, .slice [.int .i64]]] (((S.b6 y1 y2 d).1).2)], .int .i64 ((S.b6 y1 y2 d).2:Int)],[])
def acp:List (List UInt8)×List (Int×Int×List (List UInt8×List Int))×List UInt8→Nat→Option al:=fun _ _=>none
def Qg:bc:=au Qf aco
def Qh:Env:=Env.cons 44 Qg Qe
abbrev Qi:List PS:= [.agg [.slice [.slice [.int .u8]], .slice [.int .i64, .int .i64, .slice [.str, .slice [.int .i64]]]]]
def acq:List (List UInt8)×List (Int×Int×List (List UInt8×List Int))→Prop×AV×List AB:=fun x=>match x with
 |(y1,y2)=>(True, .dc [.agg [.sl [.slice [.int .u8]] (((S.cU y1 y2).1).1), .sl [.int .i64, .int .i64, .slice [.str, .slice [.int .i64]]] (((S.cU y1 y2).1).2)], .int .i64 ((S.cU y1 y2).2:Int)],[])
def acr:List (List UInt8)×List (Int×Int×List (List UInt8×List Int))→Nat→Option al:=fun _ _=>none
def Qj:bc:=au Qi acq
def Qk:Env:=Env.cons 43 Qj Qh
abbrev Ql:List PS:= [.agg [.slice [.slice [.int .u8]], .slice [.int .i64, .int .i64, .slice [.str, .slice [.int .i64]]]]]
def acs:List (List UInt8)×List (Int×Int×List (List UInt8×List Int))→Prop×AV×List AB:=fun x=>match x with
 |(y1,y2)=>(True, .agg [.sl [.slice [.int .u8]] ((S.jT y1 y2).1), .sl [.int .i64, .int .i64, .slice [.str, .slice [.int .i64]]] ((S.jT y1 y2).2)],[])
def acu:List (List UInt8)×List (Int×Int×List (List UInt8×List Int))→Nat→Option al:=fun x=>match x with
 |(y1,y2)=>fun id=>(match id with
  |0=>some {τ:=List (Int×Int),aL:= [],keys:= [(3,fun L=> .cells [.own 101100, .own 300]),(300,fun L=> .row 81 [.int .i64, .int .i64, .slice [.str, .slice [.int .i64]]] (S.aF (S.ao y1 y2).1 L) false)],bM:= [(Vg.Loc.cell 3 1,300)],drop:= [101101],bm:= [],inv:=fun L=>S.ma y1 y2 L,ag:=fun L=>L.length}
  |_=>none)
def Qm:bc:=au Ql acs
def Qn:Env:=Env.cons 49 Qm Qk
abbrev Qo:List PS:= [.agg [.slice [.slice [.int .u8]], .slice [.int .i64, .int .i64, .slice [.str, .slice [.int .i64]]]]]
def acv:List (List UInt8)×List (Int×Int×List (List UInt8×List Int))→Prop×AV×List AB:=fun x=>match x with
 |(y1,y2)=>(True, .sl [.int .i64, .int .i64, .int .i64, .str] (S.dW y1 y2),[])
def acw:List (List UInt8)×List (Int×Int×List (List UInt8×List Int))→Nat→Option al:=fun x=>match x with
 |(y1,y2)=>fun id=>(match id with
  |0=>some {τ:=Nat,aL:= [(17,fun k=> .int .i64 ((k:Nat):Int)),(3,fun k=> .own 300)],keys:= [(300,fun k=> .row 44 [.int .i64, .int .i64, .int .i64, .str] (S.dn y1 y2 k) false)],bM:= [(Vg.Loc.slot 3,300)],drop:= [13],bm:= [],inv:=fun k=>k≤S.gL y1 y2,ag:=fun k=>S.ag (S.gL y1 y2) k}
  |_=>none)
def Qp:bc:=au Qo acv
def Qq:Env:=Env.cons 16 Qp Qn
abbrev Qr:List PS:= [.agg [.slice [.slice [.int .u8]], .slice [.int .i64, .int .i64, .slice [.str, .slice [.int .i64]]]]]
def acx:List (List UInt8)×List (Int×Int×List (List UInt8×List Int))→Prop×AV×List AB:=fun x=>match x with
 |(y1,y2)=>(True, .bool (S.bE y1 y2),[])
def acy:List (List UInt8)×List (Int×Int×List (List UInt8×List Int))→Nat→Option al:=fun x=>match x with
 |(y1,y2)=>fun id=>(match id with
  |0=>some {τ:=Nat,aL:= [(3,fun k=> .int .i64 ((k:Nat):Int))],keys:= [],bM:= [],drop:= [],bm:= [],inv:=fun k=>S.oG y1 y2 k,ag:=fun k=>S.ag (S.len y2) k}
  |_=>none)
def Qs:bc:=au Qr acx
def Qt:Env:=Env.cons 20 Qs Qq
abbrev Qu:List PS:= [.agg [.slice [.slice [.int .u8]], .slice [.int .i64, .int .i64, .slice [.str, .slice [.int .i64]]]]]
def acz:List (List UInt8)×List (Int×Int×List (List UInt8×List Int))→Prop×AV×List AB:=fun x=>match x with
 |(y1,y2)=>(True, .agg [.sl [.slice [.int .u8]] ((S.ao y1 y2).1), .sl [.int .i64, .int .i64, .slice [.str, .slice [.int .i64]]] ((S.ao y1 y2).2)],[])
def acA:List (List UInt8)×List (Int×Int×List (List UInt8×List Int))→Nat→Option al:=fun _ _=>none
def Qv:bc:=au Qu acz
def Qw:Env:=Env.cons 52 Qv Qt
abbrev Qx:List PS:= [.agg [.slice [.slice [.int .u8]], .slice [.int .i64, .int .i64, .slice [.str, .slice [.int .i64]]]]]
def acB:List (List UInt8)×List (Int×Int×List (List UInt8×List Int))→Prop×AV×List AB:=fun x=>match x with
 |(y1,y2)=>(True, .int .i64 (S.ka y1 y2:Int),[])
def acC:List (List UInt8)×List (Int×Int×List (List UInt8×List Int))→Nat→Option al:=fun x=>match x with
 |(y1,y2)=>fun id=>(match id with
  |0=>some {τ:=Nat,aL:= [(4,fun k=> .int .i64 ((k:Nat):Int)),(3,fun k=> .int .i64 (S.cD (S.ao y1 y2).2 k))],keys:= [],bM:= [],drop:= [],bm:= [],inv:=fun k=>k≤S.gL y1 y2,ag:=fun k=>S.ag (S.gL y1 y2) k}
  |_=>none)
def Qy:bc:=au Qx acB
def Qz:Env:=Env.cons 22 Qy Qw
abbrev QA:List PS:= [.agg [.slice [.slice [.int .u8]], .slice [.int .i64, .int .i64, .slice [.str, .slice [.int .i64]]]]]
def acD:List (List UInt8)×List (Int×Int×List (List UInt8×List Int))→Prop×AV×List AB:=fun x=>match x with
 |(y1,y2)=>(True, .sl [.int .i64, .int .i64, .int .i64, .str] (S.dW y1 y2),[])
def acE:List (List UInt8)×List (Int×Int×List (List UInt8×List Int))→Nat→Option al:=fun x=>match x with
 |(y1,y2)=>fun id=>(match id with
  |0=>some {τ:=Nat,aL:= [(4,fun k=> .int .i64 ((k:Nat):Int)),(3,fun k=> .own 300)],keys:= [(300,fun k=> .row 42 [.int .i64, .int .i64, .int .i64, .str] (S.dn y1 y2 k) false)],bM:= [(Vg.Loc.slot 3,300)],drop:= [],bm:= [],inv:=fun k=>k≤S.gL y1 y2,ag:=fun k=>S.ag (S.gL y1 y2) k}
  |_=>none)
def QB:bc:=au QA acD
def QC:Env:=Env.cons 17 QB Qz
abbrev QD:List PS:= []
def acF:Unit→Prop×AV×List AB:=fun x=>match x with
 |()=>(True, .bool true,[])
def acG:Unit→Nat→Option al:=fun _ _=>none
def QE:bc:=au QD acF
def QF:Env:=Env.cons 15 QE QC
abbrev QG:List PS:= [.agg [.slice [.slice [.int .u8]], .slice [.int .i64, .int .i64, .slice [.str, .slice [.int .i64]]]]]
def acH:List (List UInt8)×List (Int×Int×List (List UInt8×List Int))→Prop×AV×List AB:=fun x=>match x with
 |(y1,y2)=>(S.small y2, .agg [.sl [.slice [.int .u8]] (((y1,y2)).1), .sl [.int .i64, .int .i64, .slice [.str, .slice [.int .i64]]] (((y1,y2)).2)],[])
def acI:List (List UInt8)×List (Int×Int×List (List UInt8×List Int))→Nat→Option al:=fun x=>match x with
 |(y1,y2)=>fun id=>(match id with
  |0=>some {τ:=Nat,aL:= [(4,fun k=> .int .i64 ((k:Nat):Int))],keys:= [(3,fun k=> .cells [.sl [.slice [.int .u8]] y1, .own 300]),(300,fun k=> .row 100 [.int .i64, .int .i64, .slice [.str, .slice [.int .i64]]] (y2.take k) false)],bM:= [(Vg.Loc.cell 3 1,300)],drop:= [],bm:= [],inv:=fun k=>S.kg y2 k,ag:=fun k=>S.ag (S.len y2) k}
  |_=>none)
def QH:bc:=au QG acH
def QI:Env:=Env.cons 18 QH QF
abbrev QJ:List PS:= [.agg [.slice [.slice [.int .u8]], .slice [.int .i64, .int .i64, .slice [.str, .slice [.int .i64]]]]]
def acJ:List (List UInt8)×List (Int×Int×List (List UInt8×List Int))→Prop×AV×List AB:=fun x=>match x with
 |(y1,y2)=>(True, .bool (S.k7 y1 y2),[])
def acK:List (List UInt8)×List (Int×Int×List (List UInt8×List Int))→Nat→Option al:=fun x=>match x with
 |(y1,y2)=>fun id=>(match id with
  |0=>some {τ:=Nat,aL:= [(3,fun k=> .int .i64 ((k:Nat):Int))],keys:= [],bM:= [],drop:= [],bm:= [],inv:=fun k=>S.tK y2 k,ag:=fun k=>S.ag (S.len y2) k}
  |_=>none)
def QK:bc:=au QJ acJ
def acL:Env:=Env.cons 14 QK QI
abbrev Iw:List PS:= [.agg [.slice [.slice [.int .u8]], .slice [.int .i64, .int .i64, .slice [.str, .slice [.int .i64]]]]]
def acM:List (List UInt8)×List (Int×Int×List (List UInt8×List Int))→Prop×AV×List AB:=fun x=>match x with
 |(y1,y2)=>(True, .bool true,[])
def acN:List (List UInt8)×List (Int×Int×List (List UInt8×List Int))→Nat→Option al:=fun x=>match x with
 |(y1,y2)=>fun id=>(match id with
  |0=>some {τ:=Nat,aL:= [(5,fun k=> .int .i64 ((k:Nat):Int))],keys:= [],bM:= [],drop:= [],bm:= [],inv:=fun k=>k≤S.gL y1 y2,ag:=fun k=>S.ag (S.gL y1 y2) k}
  |_=>none)
def acO:bc:=au Iw acM
end Go.J

end
section
namespace Go.Vg
open Go Go.Shelf Go.RowKit Go.Proofs
def encS(s:List UInt8):Value:= .string ⟨s.toArray⟩
section
variable {w w':World} {A:Nat→Prop} {G:Nat→Option GD}
theorem yc:∀(l:List (List UInt8)) (cs:List Value),bW (bg w A [.str]) cs l→cs=l.map encS∧∀s∈l,s.length≤maxLen
 | [],cs,h=>by simp only [bW] at h;simp [h]
 |s::l,cs,⟨c1,c2,hc,h1,h2⟩=>by
  subst hc
  simp only [bg] at h1
  obtain⟨v,bX,rfl,hv,rfl⟩:=h1
  simp only [Rd] at hv
  obtain⟨g1,g2⟩:=yc l c2 h2
  obtain⟨rfl,hl⟩:=hv
  refine⟨by rw [g1];rfl,fun s' gg=> ?_⟩
  rcases List.mem_cons.1 gg with rfl|gg
  · exact hl
  · exact g2 s' gg
theorem y9:∀(l:List (List UInt8)),(∀s∈l,s.length≤maxLen)→bW (bg w A [.str]) (l.map encS) l
 | [],_=>rfl
 |s::l,h=>⟨[encS s],l.map encS,rfl,by
   simp only [bg]
   exact⟨_,[],rfl,by simp only [Rd];exact⟨rfl,h s (by simp)⟩,rfl⟩,y9 l fun s' gg=>h s' (by simp [gg])⟩
theorem Kz:∀(l:List Int) (cs:List Value),bW (bg w A [.int .i64]) cs l→cs=l.map (Value.int .i64)∧∀z∈l,lo .i64≤z∧z≤hi .i64
 | [],cs,h=>by simp only [bW] at h;simp [h]
 |s::l,cs,⟨c1,c2,hc,h1,h2⟩=>by
  subst hc
  simp only [bg] at h1
  obtain⟨v,bX,rfl,hv,rfl⟩:=h1
  simp only [Rd] at hv
  obtain⟨g1,g2⟩:=Kz l c2 h2
  obtain⟨rfl,hl⟩:=hv
  refine⟨by rw [g1];rfl,fun s' gg=> ?_⟩
  rcases List.mem_cons.1 gg with rfl|gg
  · exact hl
  · exact g2 s' gg
theorem za:∀(l:List Int),(∀z∈l,lo .i64≤z∧z≤hi .i64)→bW (bg w A [.int .i64]) (l.map (Value.int .i64)) l
 | [],_=>rfl
 |s::l,h=>⟨[.int .i64 s],l.map (Value.int .i64),rfl,by
   simp only [bg]
   exact⟨_,[],rfl,by simp only [Rd];exact⟨rfl,h s (by simp)⟩,rfl⟩,za l fun s' gg=>h s' (by simp [gg])⟩
theorem FG {e:Nat} {row:List Ty} {l:List (Row row)} {v:Value} {xs:List Value}(hA:∀b,A b→b<w.heap.size)(hb:Below w.heap.size w w')(ho:w'.ownsRow w.heap.size e row.length v l.length xs)(hr:bW (bg w' A row) xs l):
  ∃A' aJ,je w A w' v (.own 0) [.row e row l false] A' aJ:=by
 have hblk:∀b,ax v=some b→w.heap.size≤b:=by
  intro b bu
  rcases ho.2 with⟨rfl,_⟩|⟨g,cap,cur,rfl,hg,_⟩
  · cases bu
  · simp only [ax,Option.some.injEq] at bu;omega
 have h1:v.oneCell'=true :=by
  rcases ho.2 with⟨rfl,_⟩|⟨g,cap,cur,rfl,hg,_⟩<;>rfl
 have ho0:w'.ownsRow 0 e row.length v l.length xs:=by
  refine⟨ho.1,?_⟩
  rcases ho.2 with h|⟨g,cap,cur,g1,g2,g3⟩
  · exact .inl h
  · exact .inr ⟨g,cap,cur,g1,Nat.zero_le _,g3⟩
 refine⟨A,fun _=>v,{os:=hb.os,tape:=hb.tape,output:=hb.output,size:=hb.size,same:=hb.block,mono:=fun _ h=>h,jZ:=fun _ _ h=>h,bound:=fun b h=>Nat.lt_of_lt_of_le (hA b h) hb.size,res:= ?_,rows:= ?_,apart:= ?_}⟩
 · simp only [ae];exact⟨trivial,h1⟩
 · intro i ab hi
   match i,hi with
   |0,hi=>
    simp only [List.getElem?_cons_zero,Option.some.injEq] at hi
    subst hi
    refine⟨⟨xs,ho0,hr,fun b bu=> ?_⟩,hblk⟩
    simp only [Bool.false_eq_true,if_false]
    intro wb
    have :=hA b wb
    have :=hblk b bu
    omega
   |i+1,hi=>simp at hi
 · intro i j b hi hj _ _
   simp at hi hj;omega
end
theorem Ix {α γ:Type}(f:α→γ)(l:List α)(j:Nat)(d:γ)(hj:j<l.length):(l.map f).getD j d=f l[j]:=by
 rw [List.getD_eq_getElem?_getD,List.getElem?_map,List.getElem?_eq_getElem hj];rfl
theorem vz {P:Program} {f:FuncId} {args:Array Value} {w:World} {A:Nat→Prop} {e:Nat} {row:List Ty}(hA:∀b,A b→b<w.heap.size)
  (h:Calls P f args w fun e w'=>e= .returned (.slice none 0 0)∧w'=w):Calls P f args w fun ex w'=>∃v,ex= .returned v∧∃A' aJ,je w A w' v (.own 0) [.row e row [] false] A' aJ:=
 h.mono fun ex w' ⟨he,hw⟩=>by
  subst hw
  exact⟨_,he,FG (xs:= []) hA (Below.refl _ _) ⟨by simp, .inl ⟨rfl,rfl⟩⟩ rfl⟩
theorem mc {P:Program} {f:FuncId} {args:Array Value} {w:World} {A:Nat→Prop} {e:Nat} {row:List Ty} {l:List (Row row)} {xs:List Value}(hA:∀b,A b→b<w.heap.size)
  (hr:∀w',bW (bg w' A row) xs l)
  (h:Calls P f args w fun ex w'=>∃v',ex= .returned v'∧w'.ownsRow w.heap.size e row.length v' l.length xs∧v'≠ .slice none 0 0∧Below w.heap.size w w'):
  Calls P f args w fun ex w'=>∃v,ex= .returned v∧∃A' aJ,je w A w' v (.own 0) [.row e row l false] A' aJ:=
 h.mono fun ex w' ⟨v',he,ho,_,hb⟩=>⟨v',he,FG hA hb ho (hr w')⟩
theorem FH {w:World} {A:Nat→Prop} {β:Nat→Value} {row:List Ty} {args:List Value} {l:List (Row row)}(h:ai w A β args [.sl row l]):∃a cap cs,args= [.slice a l.length cap]∧l.length≤cap∧cap≤maxLen∧bW (bg w A row) cs l∧
  (cs≠ []→∃b o,a=some ⟨b,o,none⟩∧A b∧w.rangeAt b o cs):=by
 simp only [ai] at h
 obtain⟨v,bX,rfl,hv,rfl⟩:=h
 simp only [ae,Rd] at hv
 obtain⟨a,cap,cs,rfl,h1,h2,h3,h4⟩:=hv
 exact⟨a,cap,cs,rfl,h1,h2,h3,h4⟩
theorem zb {P:Program} {ρ:Ren} {G:Nat→Option GD}(L:SlLaysN.n42 P ρ) {F:Row (PS.flat [.one (.slice [.str])])→Prop×AV×List AB}
  (hF:∀l:List (List UInt8),F l=(l.length≤1099511627776, .own 0,[.row (ρ.t 26) [.str] l false])):Valid P G (ρ.f 42) (au [.one (.slice [.str])] F):=by
 intro w A β args cd pre res bs hA hG bp hs hp
 unfold au at hs
 split at hs
 · rename_i x hx
   change List (List UInt8) at x
   have gg:=hs
   rw [hF x] at gg
   simp only [Option.some.injEq,Prod.mk.injEq] at gg
   obtain⟨rfl,rfl,rfl⟩:=gg
   obtain⟨g1,g2⟩:=qY _ hx bp
   obtain⟨a,cap,cs,rfl,h1,h2,h3,h4⟩:=FH (row:= [.str]) (l:=x) g1
   obtain⟨rfl,hl⟩:=yc x cs h3
   cases x with
   |nil=>cases a with
    |none=>exact vz hA (AnyG.slices_Clone_string_nil L 0 cap w)
    |some ad=>exact mc (xs:= []) hA (fun _=>rfl) (AnyG.slices_Clone_string_zero L ad cap w)
   |cons s x=>
    obtain⟨b,o,rfl,wb,hr⟩:=h4 (by simp)
    refine mc (xs:=(s::x).map encS) hA (fun _=>y9 _ hl) ?_
    have :=AnyG.slices_Clone_string L b o (s::x).length cap ((s::x).map fun s=>⟨s.toArray⟩) w (by simp) (by omega) (fun j hj=>by
     refine hr j _ ?_
     simp only [List.length_map] at hj
     rw [Ix _ _ _ _ hj,List.getElem?_map,List.getElem?_eq_getElem hj]
     rfl)
    have e1:(((s::x).map fun s=>(⟨s.toArray⟩:ByteArray)).take (s::x).length).map Value.string=(s::x).map encS:=by
     rw [List.take_of_length_le (by simp),List.map_map];rfl
    rw [e1] at this
    exact this
 · cases hs
theorem zc {P:Program} {ρ:Ren} {G:Nat→Option GD}(L:SlLaysN.n41 P ρ) {F:Row (PS.flat [.one (.slice [.int .i64])])→Prop×AV×List AB}
  (hF:∀l:List Int,F l=(l.length≤1099511627776, .own 0,[.row (ρ.t 23) [.int .i64] l false])):Valid P G (ρ.f 41) (au [.one (.slice [.int .i64])] F):=by
 intro w A β args cd pre res bs hA hG bp hs hp
 unfold au at hs
 split at hs
 · rename_i x hx
   change List Int at x
   have gg:=hs
   rw [hF x] at gg
   simp only [Option.some.injEq,Prod.mk.injEq] at gg
   obtain⟨rfl,rfl,rfl⟩:=gg
   obtain⟨g1,g2⟩:=qY _ hx bp
   obtain⟨a,cap,cs,rfl,h1,h2,h3,h4⟩:=FH (row:= [.int .i64]) (l:=x) g1
   obtain⟨rfl,hl⟩:=Kz x cs h3
   cases x with
   |nil=>cases a with
    |none=>exact vz hA (AnyG.slices_Clone_int_nil L 0 cap w)
    |some ad=>exact mc (xs:= []) hA (fun _=>rfl) (AnyG.slices_Clone_int_zero L ad cap w)
   |cons s x=>
    obtain⟨b,o,rfl,wb,hr⟩:=h4 (by simp)
    refine mc (xs:=(s::x).map (Value.int .i64)) hA (fun _=>za _ hl) ?_
    have :=AnyG.slices_Clone_int L b o (s::x).length cap (s::x) w (by simp) (by omega) (fun j hj=>by
     refine hr j _ ?_
     rw [List.getElem?_map,List.getElem?_eq_getElem hj]
     simp [List.getD,List.getElem?_eq_getElem hj])
    rw [List.take_of_length_le (by simp)] at this
    exact this
 · cases hs
end Go.Vg

end
section
namespace Go.Vg
open Go Go.Shelf Go.RowKit Go.Proofs Go.Sort Go.Lib
theorem tR(a b:List UInt8):ltOf S.fA a b=Op.bytesLess a b:=by
 unfold ltOf S.fA
 by_cases h:Op.bytesLess a b
 · simp [h]
 · simp only [h]
   by_cases h2:Op.bytesLess b a<;>simp [h2]
theorem Sr:SWO (ltOf S.fA) where
 irrefl x:=by rw [tR];exact S.bO x
 trans x y z h1 h2:=by rw [tR] at *;exact S.jr _ _ _ h1 h2
 ntrans x y z h1 h2:=by
  rw [tR] at *
  cases h:Op.bytesLess x z with
  |false=>rfl
  |true=>
   rcases S.fX x y with t|t|t
   · rw [t] at h1;cases h1
   · subst t;rw [h] at h2;cases h2
   · rw [S.jr _ _ _ t h] at h2;cases h2
theorem KA(x y:List UInt8)(h1:ltOf S.fA x y=false)(h2:ltOf S.fA y x=false):x=y:=by
 rw [tR] at *
 rcases S.fX x y with t|t|t
 · rw [t] at h1;cases h1
 · exact t
 · rw [t] at h2;cases h2
theorem Iy {α:Type} [Inhabited α](enc:α→Value)(w:World)(nj off:Nat)(d:Array α) {c:Array Value} {e:TypeId} {fr:Nat×Nat}(h:w.heap[nj]? =some (.cells c e fr)):
  (putRow enc w nj off d).heap[nj]? =some (.cells (putCells enc off d c) e fr):=by
 unfold putRow mapBlock
 simp [Array.getElem?_modify,h,onCells]
theorem Al {α:Type} [Inhabited α](enc:α→Value)(w:World)(nj off k:Nat)(d:Array α)(h:k≠nj):(putRow enc w nj off d).heap[k]? =w.heap[k]? :=by
 unfold putRow mapBlock
 simp [Array.getElem?_modify,Ne.symm h]
theorem size_putRow {α:Type} [Inhabited α](enc:α→Value)(w:World)(nj off:Nat)(d:Array α):(putRow enc w nj off d).heap.size=w.heap.size:=by
 unfold putRow mapBlock
 simp
theorem Dg(l:List (List UInt8))(c:Array Value)(h:l.length≤c.size):(putCells encS 0 l.toArray c).toList.take l.length=l.map encS:=by
 apply List.ext_getElem?
 intro k
 rw [List.getElem?_take]
 by_cases hk:k<l.length
 · rw [if_pos hk,List.getElem?_map,List.getElem?_eq_getElem hk,Array.getElem?_toList]
   simp only [putCells,Array.getElem?_mapIdx,Array.getElem?_eq_getElem (show k<c.size by omega),Option.map_some]
   rw [if_pos ⟨Nat.zero_le _,by simpa using hk⟩]
   simp [hk]
 · rw [if_neg hk,List.getElem?_eq_none (by simp;omega)]
theorem Dh {α:Type} [Inhabited α](enc:α→Value)(d:Array α)(c:Array Value):(putCells enc 0 d c).size=c.size:=by simp [putCells]
theorem Am {P:Program} {ρ:Ren} {G:Nat→Option GD}(L:SlLaysF.n6 P ρ) {g e:Nat}(eg:∀args w,(callFunc g args).run P w= .ok (.enter g args) w)
  (ao0:∀(x y:List UInt8) (w:World),Calls P g #[encS x,encS y] w fun e w'=>e= .returned (.int .i64 (S.fA x y))∧w'=w)
  {F:Row (TA.eI [.own 50000, .fn (.func g) [] []])→fJ [.row e [.str]]→fe}
  (hF:∀l:List (List UInt8),F () (l,())= {pre:=l.length≤1099511627776,res:= .dc [],heap:= [some (.row e [.str] (S.fB l) false)],new:= []}):
  ca P G (ρ.f 6) (gp [.own 50000, .fn (.func g) [] []] [.row e [.str]] F):=by
 intro w A β args cd hs r hA hG bp fm Ah mM hp hlen B7
 unfold gp at mM
 split at mM
 · rename_i cs cQ
   split at mM
   · rename_i x y hx hy
     obtain⟨l,u⟩:=y
     simp only [Option.some.injEq] at mM
     have hxu:x=():=rfl
     subst hxu
     rw [hF l] at mM
     subst mM
     obtain⟨g1,g2⟩:=yJ cQ hx bp
     obtain⟨q1,q2,q3⟩:=B9 (w:=w) (A:=A) (β:=β) [.row e [.str]] hs (l,u) 50000 hy fm
     have hb:=q2 0 (.row e [.str] l false) rfl
     have als:hs.length=1:=by rw [←q1];rfl
     simp only [TA.qb,TA.put,ai] at g1
     obtain⟨v0,bX,rfl,ā,v1,ao1,rfl,II,rfl⟩:=g1
     simp only [ae] at ā II
     obtain⟨ā,gi⟩:=ā
     obtain⟨a1,a2,rfl,ha1,ha2⟩:=II
     simp only [TA.qb,ai,List.drop_nil,List.take_nil] at ha1 ha2
     have ea1:a1= #[]:=by apply Array.ext';simpa using ha1
     have ea2:a2= #[]:=by apply Array.ext';simpa using ha2
     subst ea1;subst ea2
     obtain⟨xs,ho,pF,iE⟩:=hb
     obtain⟨rfl,hl⟩:=yc l xs pF
     have vN:∀s∈S.fB l,s.length≤maxLen:=fun s gg=>hl s ((List.mergeSort_perm l _).subset gg)
     have Ă:(S.fB l).length=l.length:=(List.mergeSort_perm l _).length_eq
     simp only [Bool.false_eq_true,if_false] at iE
     rcases ho.2 with⟨K4,hn2⟩|⟨g0,cap,cur,hv,_,hg0,I1,ă,cz,IV⟩
     ·
      have KY:l= []:=List.length_eq_zero_iff.1 hn2
      subst KY
      rw [ā,K4]
      have SV:S.fB []= []:=List.length_eq_zero_iff.1 Ă
      rw [SV]
      refine(AnyF.slices_SortFunc_none {L with} none 0 (.func (.func g) #[] #[]) w).mono fun ex w' ⟨he,hw⟩=> ?_
      subst hw
      refine⟨_,he,A,β,{os:=rfl,tape:=rfl,output:=rfl,size:=Nat.le_refl _,same:=fun _ _ _=>rfl,mono:=fun b h=>⟨h,rfl⟩,jZ:=fun _ _ h=> .inl h,bound:=hA,res:=by simp only [ae];exact⟨#[],rfl,by simp [ai]⟩,kept:= ?_,rows:= ?_,apart:= ?_}⟩
      · intro i ab hi
        match i,hi with
        |0,hi=>
         simp only [List.getElem?_cons_zero,Option.some.injEq] at hi
         subst hi
         exact⟨⟨_,ho,pF,by simpa using iE⟩,rfl⟩
        |i+1,hi=>simp at hi
      · intro j ab hj;simp at hj
      · intro k k' b hk c6 _ _
        rcases hk with⟨i,ab,rfl,_,hi⟩|⟨j,_,hj⟩
        · rcases c6 with⟨i',AR,rfl,_,iD⟩|⟨j,_,hj⟩
          · match i,i',hi,iD with
            |0,0,_,_=>rfl
            |i+1,_,hi,_=>simp at hi
            |0,i+1,_,iD=>simp at iD
          · simp at hj
        · simp at hj
     · have Ą:g0<w.heap.size:=(Array.getElem?_eq_some_iff.1 hg0).1
       simp only [List.length_cons,List.length_nil,Nat.zero_add,Nat.mul_one] at cz IV
       have ao4:∀j,j<l.length→cur[j]? =some (encS (l.toArray)[j]!):=fun j hj=>by
        have h1:(cur.toList.take l.length)[j]? =some (encS l[j]):=by rw [IV,List.getElem?_map,List.getElem?_eq_getElem hj];rfl
        rw [List.getElem?_take,if_pos hj,Array.getElem?_toList] at h1
        rw [h1];simp [hj]
       have hH:Holds encS w g0 0 l.toArray:=fun j hj=>by
        have dO:j<l.length:=by simpa using hj
        refine⟨?_,?_⟩
        · simp only [World.cell?,hg0]
          simpa using ao4 j dO
        · simp only [World.frozen?,hg0]
          simp
       rw [ā,hv]
       have hc:=Any.slices_SortFunc_total L encS (fun _=>rfl) S.fA Sr g #[] g0 0 cap l.toArray w eg (fun m os dk _ x y=>(ao0 x y _).mono fun ex w' ⟨he,hw⟩=>⟨he,0, #[],by rw [hw];rfl⟩) hH Ą (by simp only [List.size_toArray];omega) KA
       have e1:(l.toArray.toList.mergeSort fun x y=> !(ltOf S.fA) y x)=S.fB l:=by
        unfold S.fB
        simp only [List.toList_toArray,tR]
       rw [e1] at hc
       refine hc.mono fun ex w' ⟨he,n,os,hw⟩=> ?_
       have hw0:(putRow encS (Go.Sort.ahead w n) g0 0 (S.fB l).toArray).heap[g0]? =some (.cells (putCells encS 0 (S.fB l).toArray cur) e (0,0)):=Iy encS (Go.Sort.ahead w n) g0 0 _ hg0
       have hg1:w'.heap[g0]? =some (.cells (putCells encS 0 (S.fB l).toArray cur) e (0,0)):=by
        rw [hw];unfold sortWorld grow
        simp only
        rw [Array.getElem?_append_left (by rw [size_putRow];exact Ą)]
        exact hw0
       have vC:∀b,b<w.heap.size→b≠g0→w'.heap[b]? =w.heap[b]? :=fun b hb dp=>by
        rw [hw];unfold sortWorld grow
        simp only
        rw [Array.getElem?_append_left (by rw [size_putRow];exact hb),Al encS (Go.Sort.ahead w n) g0 0 b _ dp]
        rfl
       have mI:w.heap.size≤w'.heap.size:=by
        rw [hw];unfold sortWorld grow
        simp only [Array.size_append,size_putRow]
        exact Nat.le_add_right _ _
       have ĩ:HM β 1 g0:=⟨0,by omega,by rw [show β (50000+0)=β 50000 from rfl,hv];rfl⟩
       have ao5:¬A g0:=iE g0 (by rw [hv];rfl)
       refine⟨_,he,A,β,{os:=by rw [hw];rfl,tape:=by rw [hw];rfl,output:=by rw [hw];rfl,size:=mI,same:= ?_,mono:= ?_,jZ:=fun _ _ h=> .inl h,bound:=fun b h=>Nat.lt_of_lt_of_le (hA b h) mI,res:=by simp only [ae];exact⟨#[],rfl,by simp [ai]⟩,kept:= ?_,rows:= ?_,apart:= ?_}⟩
       · intro b hb dp
         rw [als] at dp
         exact vC b hb (fun h=>dp (h▸ĩ))
       · intro b wb
         exact⟨wb,vC b (hA b wb) (fun h=>ao5 (h▸wb))⟩
       · intro i ab hi
         match i,hi with
         |0,hi=>
          simp only [List.getElem?_cons_zero,Option.some.injEq] at hi
          subst hi
          refine⟨⟨(S.fB l).map encS,⟨by simp, .inr ⟨g0,cap,_,?_,Nat.zero_le _,hg1,by omega,ă,by rw [Dh];simpa using cz,?_⟩⟩,y9 _ vN,by simpa using iE⟩,rfl⟩
          · rw [Ă];exact hv
          · have :=Dg (S.fB l) cur (by omega)
            simpa using this
         |i+1,hi=>simp at hi
       · intro j ab hj;simp at hj
       · intro k k' b hk c6 _ _
         rcases hk with⟨i,ab,rfl,_,hi⟩|⟨j,_,hj⟩
         · rcases c6 with⟨i',AR,rfl,_,iD⟩|⟨j,_,hj⟩
           · match i,i',hi,iD with
             |0,0,_,_=>rfl
             |i+1,_,hi,_=>simp at hi
             |0,i+1,_,iD=>simp at iD
           · simp at hj
         · simp at hj
   · cases mM
 · cases mM
end Go.Vg

end
section
namespace Go.Proofs
open Go.Shelf
def Tryz.zY:Go.Shelf.Ren:=⟨fun|7=>133|10=>164|n=>n,fun|23=>183|26=>9|3=>77|28=>186|0=>0|27=>185|33=>196|4=>4|n=>n,fun|n=>n⟩
theorem Tryz.QL:Go.Proofs.SlLaysZ.n7 Tryz.prog Tryz.zY:= {
 mixed:=by kernel_rfl
 f7:=⟨Tryz.f133.name,by decide,Tryz.func133.trans (congrArg some (by kernel_rfl))⟩
 f10:=⟨Tryz.f164.name,by decide,Tryz.func164.trans (congrArg some (by kernel_rfl))⟩
 t0:=Tryz.underlying0
 a0:=Tryz.isAgg0
 z0:=Tryz.sizeOf0
 v0:=Tryz.zeroValue0
 t4:=Tryz.underlying4
 a4:=Tryz.isAgg4
 z4:=Tryz.sizeOf4
 v4:=Tryz.zeroValue4
 t23:=Tryz.underlying183
 a23:=Tryz.isAgg183
 z23:=Tryz.sizeOf183
 v23:=Tryz.zeroValue183
 t26:=Tryz.underlying9
 a26:=Tryz.isAgg9
 z26:=Tryz.sizeOf9
 v26:=Tryz.zeroValue9
 t27:=Tryz.underlying185
 a27:=Tryz.isAgg185
 z27:=Tryz.sizeOf185
 v27:=Tryz.zeroValue185
 t28:=Tryz.underlying186
 a28:=Tryz.isAgg186
 z28:=Tryz.sizeOf186
 v28:=Tryz.zeroValue186
 t33:=Tryz.underlying196
 a33:=Tryz.isAgg196
 z33:=Tryz.sizeOf196
 v33:=Tryz.zeroValue196}
def Tryz.vA:Go.Shelf.Ren:=⟨fun|6=>132|8=>162|9=>163|11=>187|13=>189|12=>188|23=>208|24=>209|14=>199|15=>200|16=>201|17=>202|18=>203|19=>204|20=>205|21=>206|22=>207|25=>221|26=>222|27=>223|28=>224|29=>225|30=>186|31=>229|n=>n,fun|26=>9|28=>186|24=>89|0=>0|3=>3|37=>172|48=>154|50=>190|4=>4|40=>238|39=>237|45=>128|5=>5|9=>9|51=>254|55=>258|57=>262|58=>230|33=>196|n=>n,fun|n=>n⟩
theorem Tryz.Ss:Go.Proofs.SlLaysZ.n6 Tryz.prog Tryz.vA:= {
 mixed:=by kernel_rfl
 f6:=⟨Tryz.f132.name,by decide,Tryz.func132.trans (congrArg some (by kernel_rfl))⟩
 f8:=⟨Tryz.f162.name,by decide,Tryz.func162.trans (congrArg some (by kernel_rfl))⟩
 f11:=⟨Tryz.f187.name,by decide,Tryz.func187.trans (congrArg some (by kernel_rfl))⟩
 t0:=Tryz.underlying0
 a0:=Tryz.isAgg0
 z0:=Tryz.sizeOf0
 v0:=Tryz.zeroValue0
 t24:=Tryz.underlying89
 a24:=Tryz.isAgg89
 z24:=Tryz.sizeOf89
 v24:=Tryz.zeroValue89
 t26:=Tryz.underlying9
 a26:=Tryz.isAgg9
 z26:=Tryz.sizeOf9
 v26:=Tryz.zeroValue9
 t28:=Tryz.underlying186
 a28:=Tryz.isAgg186
 z28:=Tryz.sizeOf186
 v28:=Tryz.zeroValue186
 i26:=by kernel_rfl}
def Tryz.KB:Go.Shelf.Ren:=⟨fun|6=>163|8=>189|9=>188|19=>208|20=>209|21=>199|22=>200|23=>201|24=>202|25=>203|26=>204|27=>205|28=>206|29=>207|36=>221|31=>222|32=>223|37=>224|38=>225|39=>186|41=>229|n=>n,fun|27=>89|29=>9|3=>3|32=>172|26=>89|0=>0|44=>154|46=>190|4=>4|36=>238|35=>237|41=>128|5=>5|9=>9|53=>254|57=>258|63=>262|64=>230|n=>n,fun|n=>n⟩
theorem Tryz.QM:Go.Proofs.SlLaysM.n6 Tryz.prog Tryz.KB:= {
 mixed:=by kernel_rfl
 f6:=⟨Tryz.f163.name,by decide,Tryz.func163.trans (congrArg some (by kernel_rfl))⟩
 f8:=Tryz.func189.trans (congrArg some (by kernel_rfl))
 f9:=⟨Tryz.f188.name,by decide,Tryz.func188.trans (congrArg some (by kernel_rfl))⟩
 f19:=Tryz.func208.trans (congrArg some (by kernel_rfl))
 f20:=Tryz.func209.trans (congrArg some (by kernel_rfl))
 f21:=⟨Tryz.f199.name,by decide,Tryz.func199.trans (congrArg some (by kernel_rfl))⟩
 f22:=⟨Tryz.f200.name,by decide,Tryz.func200.trans (congrArg some (by kernel_rfl))⟩
 f23:=⟨Tryz.f201.name,by decide,Tryz.func201.trans (congrArg some (by kernel_rfl))⟩
 f24:=⟨Tryz.f202.name,by decide,Tryz.func202.trans (congrArg some (by kernel_rfl))⟩
 f25:=⟨Tryz.f203.name,by decide,Tryz.func203.trans (congrArg some (by kernel_rfl))⟩
 f26:=⟨Tryz.f204.name,by decide,Tryz.func204.trans (congrArg some (by kernel_rfl))⟩
 f27:=⟨Tryz.f205.name,by decide,Tryz.func205.trans (congrArg some (by kernel_rfl))⟩
 f28:=⟨Tryz.f206.name,by decide,Tryz.func206.trans (congrArg some (by kernel_rfl))⟩
 f29:=⟨Tryz.f207.name,by decide,Tryz.func207.trans (congrArg some (by kernel_rfl))⟩
 f31:=Tryz.func222.trans (congrArg some (by kernel_rfl))
 f32:=Tryz.func223.trans (congrArg some (by kernel_rfl))
 f36:=⟨Tryz.f221.name,by decide,Tryz.func221.trans (congrArg some (by kernel_rfl))⟩
 f37:=⟨Tryz.f224.name,by decide,Tryz.func224.trans (congrArg some (by kernel_rfl))⟩
 f38:=⟨Tryz.f225.name,by decide,Tryz.func225.trans (congrArg some (by kernel_rfl))⟩
 f39:=⟨Tryz.f186.name,by decide,Tryz.func186.trans (congrArg some (by kernel_rfl))⟩
 f41:=⟨Tryz.f229.name,by decide,Tryz.func229.trans (congrArg some (by kernel_rfl))⟩
 t0:=Tryz.underlying0
 a0:=Tryz.isAgg0
 z0:=Tryz.sizeOf0
 v0:=Tryz.zeroValue0
 t3:=Tryz.underlying3
 a3:=Tryz.isAgg3
 z3:=Tryz.sizeOf3
 v3:=Tryz.zeroValue3
 t4:=Tryz.underlying4
 a4:=Tryz.isAgg4
 z4:=Tryz.sizeOf4
 v4:=Tryz.zeroValue4
 t5:=Tryz.underlying5
 a5:=Tryz.isAgg5
 z5:=Tryz.sizeOf5
 v5:=Tryz.zeroValue5
 t9:=Tryz.underlying9
 a9:=Tryz.isAgg9
 z9:=Tryz.sizeOf9
 v9:=Tryz.zeroValue9
 t26:=Tryz.underlying89
 a26:=Tryz.isAgg89
 z26:=Tryz.sizeOf89
 v26:=Tryz.zeroValue89
 t27:=Tryz.underlying89
 a27:=Tryz.isAgg89
 z27:=Tryz.sizeOf89
 v27:=Tryz.zeroValue89
 t29:=Tryz.underlying9
 a29:=Tryz.isAgg9
 z29:=Tryz.sizeOf9
 v29:=Tryz.zeroValue9
 t32:=Tryz.underlying172
 a32:=Tryz.isAgg172
 z32:=Tryz.sizeOf172
 v32:=Tryz.zeroValue172
 t35:=Tryz.underlying237
 a35:=Tryz.isAgg237
 z35:=Tryz.sizeOf237
 v35:=Tryz.zeroValue237
 t36:=Tryz.underlying238
 a36:=Tryz.isAgg238
 z36:=Tryz.sizeOf238
 v36:=Tryz.zeroValue238
 t41:=Tryz.underlying128
 a41:=Tryz.isAgg128
 z41:=Tryz.sizeOf128
 v41:=Tryz.zeroValue128
 t44:=Tryz.underlying154
 a44:=Tryz.isAgg154
 z44:=Tryz.sizeOf154
 v44:=Tryz.zeroValue154
 t46:=Tryz.underlying190
 a46:=Tryz.isAgg190
 z46:=Tryz.sizeOf190
 v46:=Tryz.zeroValue190
 t53:=Tryz.underlying254
 a53:=Tryz.isAgg254
 z53:=Tryz.sizeOf254
 v53:=Tryz.zeroValue254
 t57:=Tryz.underlying258
 a57:=Tryz.isAgg258
 z57:=Tryz.sizeOf258
 v57:=Tryz.zeroValue258
 t63:=Tryz.underlying262
 a63:=Tryz.isAgg262
 z63:=Tryz.sizeOf262
 v63:=Tryz.zeroValue262
 t64:=Tryz.underlying230
 a64:=Tryz.isAgg230
 z64:=Tryz.sizeOf230
 v64:=Tryz.zeroValue230}
def Tryz.Di:Go.Shelf.Ren:=⟨fun|42=>178|n=>n,fun|25=>89|26=>9|4=>4|n=>n,fun|n=>n⟩
theorem Tryz.MD:Go.Proofs.SlLaysN.n42 Tryz.prog Tryz.Di:= {
 mixed:=by kernel_rfl
 f42:=⟨Tryz.f178.name,by decide,Tryz.func178.trans (congrArg some (by kernel_rfl))⟩
 t4:=Tryz.underlying4
 a4:=Tryz.isAgg4
 z4:=Tryz.sizeOf4
 v4:=Tryz.zeroValue4
 t25:=Tryz.underlying89
 a25:=Tryz.isAgg89
 z25:=Tryz.sizeOf89
 v25:=Tryz.zeroValue89
 t26:=Tryz.underlying9
 a26:=Tryz.isAgg9
 z26:=Tryz.sizeOf9
 v26:=Tryz.zeroValue9
 i26:=by kernel_rfl}
def Tryz.Dj:Go.Shelf.Ren:=⟨fun|41=>81|n=>n,fun|22=>77|23=>3|4=>4|n=>n,fun|n=>n⟩
theorem Tryz.ME:Go.Proofs.SlLaysN.n41 Tryz.prog Tryz.Dj:= {
 mixed:=by kernel_rfl
 f41:=⟨Tryz.f81.name,by decide,Tryz.func81.trans (congrArg some (by kernel_rfl))⟩
 t4:=Tryz.underlying4
 a4:=Tryz.isAgg4
 z4:=Tryz.sizeOf4
 v4:=Tryz.zeroValue4
 t22:=Tryz.underlying77
 a22:=Tryz.isAgg77
 z22:=Tryz.sizeOf77
 v22:=Tryz.zeroValue77
 t23:=Tryz.underlying3
 a23:=Tryz.isAgg3
 z23:=Tryz.sizeOf3
 v23:=Tryz.zeroValue3
 i23:=by kernel_rfl}
def Tryz.MF:Go.Shelf.Ren:=⟨fun|6=>179|15=>189|14=>195|28=>208|29=>209|20=>210|21=>211|22=>212|23=>213|24=>214|25=>215|26=>216|27=>217|46=>226|47=>222|48=>223|49=>227|50=>228|57=>230|n=>n,fun|22=>89|24=>9|25=>209|3=>3|39=>172|0=>0|53=>154|55=>190|4=>4|46=>238|45=>237|50=>128|5=>5|9=>9|66=>254|70=>258|76=>262|77=>230|n=>n,fun|n=>n⟩
theorem Tryz.alv:Go.Proofs.SlLaysF.n6 Tryz.prog Tryz.MF:= {
 mixed:=by kernel_rfl
 f6:=⟨Tryz.f179.name,by decide,Tryz.func179.trans (congrArg some (by kernel_rfl))⟩
 f14:=⟨Tryz.f195.name,by decide,Tryz.func195.trans (congrArg some (by kernel_rfl))⟩
 f15:=Tryz.func189.trans (congrArg some (by kernel_rfl))
 f20:=⟨Tryz.f210.name,by decide,Tryz.func210.trans (congrArg some (by kernel_rfl))⟩
 f21:=⟨Tryz.f211.name,by decide,Tryz.func211.trans (congrArg some (by kernel_rfl))⟩
 f22:=⟨Tryz.f212.name,by decide,Tryz.func212.trans (congrArg some (by kernel_rfl))⟩
 f23:=⟨Tryz.f213.name,by decide,Tryz.func213.trans (congrArg some (by kernel_rfl))⟩
 f24:=⟨Tryz.f214.name,by decide,Tryz.func214.trans (congrArg some (by kernel_rfl))⟩
 f25:=⟨Tryz.f215.name,by decide,Tryz.func215.trans (congrArg some (by kernel_rfl))⟩
 f26:=⟨Tryz.f216.name,by decide,Tryz.func216.trans (congrArg some (by kernel_rfl))⟩
 f27:=⟨Tryz.f217.name,by decide,Tryz.func217.trans (congrArg some (by kernel_rfl))⟩
 f28:=Tryz.func208.trans (congrArg some (by kernel_rfl))
 f29:=Tryz.func209.trans (congrArg some (by kernel_rfl))
 f46:=⟨Tryz.f226.name,by decide,Tryz.func226.trans (congrArg some (by kernel_rfl))⟩
 f47:=Tryz.func222.trans (congrArg some (by kernel_rfl))
 f48:=Tryz.func223.trans (congrArg some (by kernel_rfl))
 f49:=⟨Tryz.f227.name,by decide,Tryz.func227.trans (congrArg some (by kernel_rfl))⟩
 f50:=⟨Tryz.f228.name,by decide,Tryz.func228.trans (congrArg some (by kernel_rfl))⟩
 f57:=⟨Tryz.f230.name,by decide,Tryz.func230.trans (congrArg some (by kernel_rfl))⟩
 t0:=Tryz.underlying0
 a0:=Tryz.isAgg0
 z0:=Tryz.sizeOf0
 v0:=Tryz.zeroValue0
 t3:=Tryz.underlying3
 a3:=Tryz.isAgg3
 z3:=Tryz.sizeOf3
 v3:=Tryz.zeroValue3
 t4:=Tryz.underlying4
 a4:=Tryz.isAgg4
 z4:=Tryz.sizeOf4
 v4:=Tryz.zeroValue4
 t5:=Tryz.underlying5
 a5:=Tryz.isAgg5
 z5:=Tryz.sizeOf5
 v5:=Tryz.zeroValue5
 t9:=Tryz.underlying9
 a9:=Tryz.isAgg9
 z9:=Tryz.sizeOf9
 v9:=Tryz.zeroValue9
 t22:=Tryz.underlying89
 a22:=Tryz.isAgg89
 z22:=Tryz.sizeOf89
 v22:=Tryz.zeroValue89
 a24:=Tryz.isAgg9
 z24:=Tryz.sizeOf9
 t25:=Tryz.underlying209
 a25:=Tryz.isAgg209
 z25:=Tryz.sizeOf209
 v25:=Tryz.zeroValue209
 t39:=Tryz.underlying172
 a39:=Tryz.isAgg172
 z39:=Tryz.sizeOf172
 v39:=Tryz.zeroValue172
 t45:=Tryz.underlying237
 a45:=Tryz.isAgg237
 z45:=Tryz.sizeOf237
 v45:=Tryz.zeroValue237
 t46:=Tryz.underlying238
 a46:=Tryz.isAgg238
 z46:=Tryz.sizeOf238
 v46:=Tryz.zeroValue238
 t50:=Tryz.underlying128
 a50:=Tryz.isAgg128
 z50:=Tryz.sizeOf128
 v50:=Tryz.zeroValue128
 t53:=Tryz.underlying154
 a53:=Tryz.isAgg154
 z53:=Tryz.sizeOf154
 v53:=Tryz.zeroValue154
 t55:=Tryz.underlying190
 a55:=Tryz.isAgg190
 z55:=Tryz.sizeOf190
 v55:=Tryz.zeroValue190
 t66:=Tryz.underlying254
 a66:=Tryz.isAgg254
 z66:=Tryz.sizeOf254
 v66:=Tryz.zeroValue254
 t70:=Tryz.underlying258
 a70:=Tryz.isAgg258
 z70:=Tryz.sizeOf258
 v70:=Tryz.zeroValue258
 t76:=Tryz.underlying262
 a76:=Tryz.isAgg262
 z76:=Tryz.sizeOf262
 v76:=Tryz.zeroValue262
 t77:=Tryz.underlying230
 a77:=Tryz.isAgg230
 z77:=Tryz.sizeOf230
 v77:=Tryz.zeroValue230}
end Go.Proofs

end
section
namespace Go.Proofs
open Go.RowKit Go.Maps Go.Sort Go.Shelf
theorem Tryz.ą(m:Nat):AnyZ.SortsIn Tryz.prog Tryz.vA Fence.wide m:=
 ⟨fun nj off cap ss W hH hblk cz=>callsIn_wide.2 (AnyM.slices_Sort_string Tryz.QM nj off cap ss W hH hblk cz),
  fun p cap W=>callsIn_wide.2 (AnyM.slices_Sort_string_none Tryz.QM p cap W)⟩
theorem Tryz.ED(mb:Option Nat)(W:World):CallsIn Fence.wide 5 Tryz.prog 133 #[.map mb] W fun e w'=>e= .returned (.func (.func 164) #[] #[.pointer (some ⟨W.heap.size,0,none⟩)])∧w'=W.alloc (.cells #[.map mb] 183):=
 AnyZ.keys_in Tryz.QL Fence.wide 5 trivial rfl mb W
set_option maxHeartbeats 1000000 in
theorem Tryz.oK {H:Type}(b nn:Nat)(D0:DataW H)(R:Value→Option (DataW H×List MemPlace))(w:World)(fj:w.ownsMap Tryz.prog 9 R b nn D0)(IP:Maps.size D0≤maxLen)(tX:Maps.size D0*16≤140737488355328):
  CallsIn Fence.wide 5 Tryz.prog 132 #[.func (.func 164) #[] #[.pointer (some ⟨w.heap.size,0,none⟩)]] (w.alloc (.cells #[.map (some b)] 183)) fun e w'=>∃(v:Value) (ss:List (List UInt8)),e= .returned v∧ss.Perm (strKeys D0)∧
   w'.ownsRow (w.alloc (.cells #[.map (some b)] 183)).heap.size 9 1 v ss.length ((ss.mergeSort (fun x y=>decide (x≤y))).map encStr)∧(v= .slice none 0 0↔ss= [])∧Below (w.alloc (.cells #[.map (some b)] 183)).heap.size (w.alloc (.cells #[.map (some b)] 183)) w':=by
 have tm:=fj.lt
 have ao6:SeqGives Fence.wide 2 Tryz.prog 164 #[.pointer (some ⟨w.heap.size,0,none⟩)] encStr (fun ss=>ss.Perm (strKeys D0)) (Maps.size D0) (w.alloc (.cells #[.map (some b)] 183)):=
  AnyZ.keys_gives (ρ:=Tryz.zY) {Tryz.QL with} Fence.wide _ trivial rfl (by omega) w.heap.size b nn D0 _ (by simp) (by simp) (by
   obtain⟨es,clock,hb,Ft,hs,hD⟩:=fj
   exact⟨es,clock,(Below.heap_alloc _ _ b tm).trans hb,Ft,hs,hD⟩)
 exact AnyZ.sorted_in Tryz.Ss Fence.wide 5 trivial trivial trivial trivial rfl (by omega) (Tryz.ą _) (enters_of Tryz.func163 (by kernel_rfl) rfl) 164 #[.pointer (some ⟨w.heap.size,0,none⟩)] trivial (enters_of Tryz.func164 (by kernel_rfl) rfl) _ _ IP tX _ ao6
end Go.Proofs

end
section
namespace Go.Proofs
open Go.Shelf Go.RowKit Go.Lib Go.Sort
theorem acQ {x y:List UInt8}(h:Op.bytesLess x y=true):S.fA x y= -1:=by unfold S.fA;rw [if_pos h]
theorem acR {x y:List UInt8}(h:Op.bytesLess x y=false)(h2:(!x==y)=true):S.fA x y=1:=by
 have dp:x≠y:=by simpa using h2
 unfold S.fA
 rw [h]
 rcases S.fX x y with t|t|t
 · rw [t] at h;cases h
 · exact absurd t dp
 · rw [t];rfl
theorem acS {x y:List UInt8}(h:Op.bytesLess x y=false)(h2:(!x==y)=false):S.fA x y=0:=by
 have he:x=y:=by simpa using h2
 subst he
 unfold S.fA
 rw [h];rfl
theorem Tryz.MG(x:ByteArray)(w:World):Calls Tryz.prog 186 #[.string x] w fun e w'=>e= .returned (.bool false)∧w'=w:=by
 uy Tryz.func186,Tryz.ntmps186
 nq
 acT
 exact⟨by simp,rfl⟩
set_option maxHeartbeats 1000000 in
theorem Tryz.Iz(x y:List UInt8)(w:World):Calls Tryz.prog 161 #[Vg.encS x,Vg.encS y] w fun e w'=>e= .returned (.int .i64 (S.fA x y))∧w'=w:=by
 unfold Vg.encS
 uy Tryz.func161,Tryz.ntmps161
 nr (tS 186;refine(Tryz.MG _ _).mono ?_;rintro e w' ⟨rfl,rfl⟩)
 all_goals acT
 all_goals refine⟨?_,rfl⟩
 all_goals first
  |(rw [acQ (by assumption)];rfl)
  |(rw [acR (by assumption) (by assumption)];rfl)
  |(rw [acS (by assumption) (by assumption)];rfl)
theorem Tryz.acU {G:Nat→Option Vg.GD} {F:Vg.Row (Vg.TA.eI [.own 50000, .fn (.func 161) [] []])→Vg.fJ [.row 9 [.str]]→Vg.fe}
  (hF:∀l:List (List UInt8),F () (l,())= {pre:=l.length≤1099511627776,res:= .dc [],heap:= [some (.row 9 [.str] (S.fB l) false)],new:= []}):
  Vg.ca Tryz.prog G 179 (Vg.gp [.own 50000, .fn (.func 161) [] []] [.row 9 [.str]] F):=
 Vg.Am Tryz.alv (enters_of Tryz.func161 (by kernel_rfl) rfl) Tryz.Iz hF
end Go.Proofs

end
section
namespace Go.DM
open Go Go.Vg Go.Maps Go.RowKit Go.ChangeShapes
section
variable {H:Type}
def items:DataW H→List Int
 | .slice ls _=>ls.filterMap fun d=>match d with| .lit (.int _ z)=>some z|_=>none
 |_=> []
theorem KC(zs:List Int):items (H:=H) (.slice (lits .i64 zs) [])=zs:=by
 induction zs with
 |nil=>rfl
 |cons z zs ih=>
  simp only [items,lits,List.map_cons,List.filterMap_cons] at ih ⊢
  rw [ih]
theorem wB {w:World} {base:Nat} {e:TypeId} {v:Value} {zs:List Int}(h:w.ownsInts base e .i64 v zs):items (H:=H) (rowDatum .i64 v zs)=zs:=by
 rcases h.datum (H:=H) with⟨h1,h2⟩|h1
 · rw [h1,h2];rfl
 · rw [h1];exact KC zs
def Repr(D:DataW H)(m:List UInt8→List Int):Prop :=IsMap D∧∀s,items (D.atKey (.string s) .nil)=m s∧(has D (.string s)=true↔m s≠ [])
theorem Repr.empty:Repr (H:=H) (.map []) (fun _=> []):=⟨isMap_empty,fun s=>⟨rfl,by simp [has]⟩⟩
theorem Repr.ext {D:DataW H} {m m':List UInt8→List Int}(h:Repr D m)(e:∀s,m s=m' s):Repr D m':=by
 rw [←funext e];exact h
theorem Repr.put {D:DataW H} {m m':List UInt8→List Int}(h:Repr D m) {t:List UInt8} {w:World} {base:Nat} {e:TypeId} {v:Value} {zs:List Int}(ho:w.ownsInts base e .i64 v zs)(hz:zs≠ [])
  (h1:m' t=zs) (h2:∀s,s≠t→m' s=m s):Repr (D.put (.string t) (rowDatum .i64 v zs)) m':=by
 refine⟨h.1.put _ _,fun s=> ?_⟩
 by_cases hs:s=t
 · subst hs
   refine⟨?_,?_⟩
   · rw [atKey_put_same h.1 (by trivial),wB ho,h1]
   · rw [has_put_same h.1 (by trivial),h1];simp [hz]
 · have dp:Lit.string s≠Lit.string t:=fun hh=>hs (by injection hh)
   rw [atKey_put_other dp,has_put_other dp,h2 s hs]
   exact h.2 s
theorem Ć {w:World} {Q:Nat→Prop} {base:Nat} {e:TypeId} {v:Value} {zs:List Int}(h:w.ownsInts base e .i64 v zs)(hq:∀g,v.ownBlock=some g→Q g):Rd w Q (.slice [.int .i64]) v zs:=by
 obtain⟨ho,hw⟩:=h
 have hz:∀z∈zs,lo .i64≤z∧z≤hi .i64:=fun z hz=>by
  have :=hw z hz
  simp [Lit.wf,IntKind.min,IntKind.max,IntKind.signed,IntKind.bits] at this
  simp only [lo,hi];omega
 simp only [Rd]
 rcases ho.2 with⟨rfl,h0⟩|⟨g,cap,cur,rfl,hg,hh,hn,hc,cz,IV⟩
 · have :zs= []:=List.length_eq_zero_iff.1 h0
   subst this
   exact⟨none,0,[],rfl,Nat.le_refl _,Nat.zero_le _,rfl,fun h=>absurd rfl h⟩
 · refine⟨some ⟨g,0,none⟩,cap,zs.map (Value.int .i64),rfl,hn,hc,za zs hz,fun _=>⟨g,0,rfl,hq g rfl,fun j v hj=> ?_⟩⟩
   have :=ho.cells (g:=g) rfl j v hj
   rwa [Addr.add_mid] at this
end
end Go.DM
namespace Go.DM
open Go Go.Vg Go.Maps Go.RowKit Go.ChangeShapes
section
variable {H:Type} {P:Program}
theorem yd(w:World)(c:Array Value)(e:TypeId)(o:Obj)(j:Nat):((w.alloc (.cells c e)).alloc o).cell? ⟨w.heap.size,j,none⟩=c[j]? :=by
 have h1:((w.alloc (.cells c e)).alloc o).heap[w.heap.size]? =some (.cells c e (0,0)):=by
  rw [((World.grownBy_alloc (w.alloc (.cells c e)) o none).block w.heap.size (by simp) (by simp))]
  exact(MapKept.heap_alloc w _).1
 simp [World.cell?,h1]
theorem zd {w:World} {base:Nat} {e:TypeId} {size:Nat} {v:Value} {n:Nat} {xs:List Value}(h:w.ownsRow base e size v n xs):∃av cp,v= .slice av n cp∧(0<n→∃g,av=some ⟨g,0,none⟩∧base≤g∧g<w.heap.size):=by
 have hl:=h.lt
 rcases h.2 with⟨rfl,h0⟩|⟨g,cap,cur,rfl,hg,_⟩
 · exact⟨none,0,by rw [h0],fun h=>by omega⟩
 · exact⟨_,cap,rfl,fun _=>⟨g,rfl,hl g rfl⟩⟩
theorem rS {w w':World}(h:Below w.heap.size w w'):w.grownBy w' none:=⟨h.os,h.tape,h.output,h.size,fun i hi _=>h.block i hi⟩
theorem pV {w w':World} {k:TypeId} {base:Nat} {e:TypeId} {q:IntKind} {b n:Nat} {D:DataW H}(h:w.ownsGroups P k base e q b n D)(hb:Below w.heap.size w w'):w'.ownsGroups P k base e q b n D:=
 h.kept (rS hb) (by simp) (fun es clock _ x _=>by cases x.val.ownBlock<;>simp)
theorem MH {w:World} {k:TypeId} {base:Nat} {e:TypeId} {q:IntKind} {b n:Nat} {D:DataW H}(h:w.ownsGroups P k base e q b n D):b<w.heap.size:=by
 obtain⟨es,clock,hb,_⟩:=h
 exact(Array.getElem?_eq_some_iff.1 hb).1
theorem Dk {w w':World} {k:TypeId} {base:Nat} {e:TypeId} {q:IntKind} {b n:Nat} {D:DataW H}(h:w.ownsGroups P k base e q b n D)(hb:Below w.heap.size w w') {No:Nat→Prop}(hn:∀g,No g→w.heap.size≤g):w'.Shuns b No:=by
 have h1:w.Shuns b (fun _=>False):=fun _ _ _ _ _ _ _ hf=>hf
 exact(h1.reno (No':=No) h (fun g hg=> .inr (hn g hg))).kept (rS hb) (MH h) (by simp)
theorem FI {w:World} {base:Nat} {e:TypeId} {g cp:Nat} {n:Nat} {l:List (List UInt8)}(h:w.ownsRow base e 1 (.slice (some ⟨g,0,none⟩) n cp) n (l.map encS)) {j:Nat}(hj:j<l.length):w.cell? ⟨g,0+j,none⟩=some (encS (l.getD j [])):=by
 have :=h.cells (g:=g) rfl j (encS (l.getD j [])) (by rw [List.getElem?_map,List.getElem?_eq_getElem hj,List.getD_eq_getElem?_getD,List.getElem?_eq_getElem hj];rfl)
 rwa [Addr.add_mid] at this
end
end Go.DM
namespace Go.DM
open Go Go.Vg Go.Maps Go.RowKit Go.ChangeShapes
section
variable {H:Type} {P:Program}
theorem KD {w w':World} {row:Option Nat}(h:w.grownBy w' row) {a:Addr} {v:Value}(hl:a.block<w.heap.size)(hn:some a.block≠row)(hc:w.cell? a=some v):w'.cell? a=some v:=
 (World.cell?_of_block (h.block _ hl hn)).trans hc
theorem KE {k:TypeId}(hk:P.underlying k=some .string) {s:List UInt8}(h:s.length≤maxLen):keyOf P k (.string ⟨s.toArray⟩)=some (.string s):=by
 have :=Go.WideMaps.keyOf_string_mk (P:=P) (k:=k) (s:=⟨s.toArray⟩) hk (by simpa [ByteArray.size] using h)
 simpa using this
theorem acV {wr:World} {b g:Nat} {v v':Value} {o:Obj} {n cp:Nat}(Eg:∀No:Nat→Prop,wr.Shuns b No→∀g,v.ownBlock=some g→¬No g)(hs:wr.Shuns b (fun g'=>(Value.slice (some ⟨g,0,none⟩) n cp).ownBlock=some g'))
  (sN:v'.ownBlock=v.ownBlock∨v'.ownBlock=some (wr.alloc o).heap.size) (hg:g<wr.heap.size):∀g',v'.ownBlock=some g'→¬((Value.slice (some ⟨g,0,none⟩) n cp).ownBlock=some g'):=fun g' uE hh=>by
 rcases sN with h|h
 · rw [h] at uE
   exact Eg _ hs g' uE hh
 · rw [h] at uE
   simp only [Value.ownBlock,Option.some.injEq] at uE hh
   simp at uE
   omega
end
end Go.DM
namespace Go.DM
open Go Go.Vg Go.Maps Go.RowKit Go.ChangeShapes
section
variable {H:Type} {P:Program}
theorem Dl {w:World} {k:TypeId} {base:Nat} {e:TypeId} {q:IntKind} {b n:Nat} {D:DataW H}(h:w.ownsGroups P k base e q b n D):w.ownsMap P k (rowElem w base e q) b n D:=by
 obtain⟨es,clock,hb,F,hs,hD,_⟩:=h
 exact⟨es,clock,hb,F,hs,hD⟩
theorem ze {w:World} {k:TypeId} {R:Value→Option (DataW H×List MemPlace)} {b n:Nat} {D:DataW H}(h:w.ownsMap P k R b n D):Maps.size D≤n:=by
 obtain⟨es,clock,hb,F,hs,rfl⟩:=h
 rw [size_eq,length_sorted]
 simpa using hs
theorem MI(docs:List (List UInt8))(a b:Int)(x:List UInt8):x∈S.bP docs a b↔S.rA docs a (b-a).toNat 0 x≠ []:=by
 unfold S.bP
 rw [S.fk,S.wo]
 simp [S.rA]
theorem Su {w:World} {R:Value→Option (DataW H×List MemPlace)} {k:TypeId} {b n:Nat} {D:DataW H}(h:w.ownsMap P k R b n D)(K:Keyed P k)(hk:P.underlying k=some .string) {docs:List (List UInt8)} {f t:Int}
  (hr:Repr D (S.rA docs f (t-f).toNat 0)) {ss:List (List UInt8)} (hs:ss.Perm (strKeys D)):ss.mergeSort (fun x y=>decide (x≤y))=S.bP docs f t∧ss.length=(S.bP docs f t).length∧(∀s∈S.bP docs f t,s.length≤maxLen)∧(S.bP docs f t).length≤n:=by
 obtain⟨es,hD,hpw,_⟩:=h.entries K
 obtain⟨es',hD',hko⟩:=h.keysOf
 have hle:=strKeys_le h hk
 have cz:=ze h
 obtain rfl :es=es':=by rw [hD] at hD';simpa using hD'
 subst hD
 have hi:S.lp (S.bP docs f t):=S.js _
 have la:=perm_strKeys hpw (fun p hp=>by obtain⟨v,hv⟩:=hko p hp;obtain⟨x,_,hx,_⟩:=Maps.keyOf_str hk hv;exact⟨x,hx⟩) (S.tz hi) (fun x=>by rw [MI,(hr.2 x).2])
 have EB:=hs.trans la.symm
 have hlen:(S.bP docs f t).length≤n:=by
  rw [la.length_eq]
  simpa [strKeys,size_eq] using cz
 refine⟨?_,EB.length_eq,fun s gg=>hle s (la.subset gg),hlen⟩
 have e1:ss.mergeSort leB=(S.bP docs f t).mergeSort leB:=mergeSort_of_perm EB
 have e2:(S.bP docs f t).mergeSort leB=S.bP docs f t:=by
  refine List.mergeSort_of_pairwise (hi.imp fun {a b} eV=> ?_)
  rw [Go.Proofs.bytesLess_eq] at eV
  simp only [leB,decide_eq_true_eq] at eV ⊢
  exact List.le_of_lt eV
 exact e1.trans e2
end
end Go.DM
namespace Go.DM
open Go Go.Vg Go.Maps Go.RowKit Go.ChangeShapes
section
variable {H:Type} {P:Program}
theorem Bq {w:World} {base:Nat} {e:TypeId} {q:IntKind} {v:Value} {zs:List Int}(h:w.ownsInts base e q v zs):v.oneCell'=true :=by
 rcases h.1.2 with⟨rfl,_⟩|⟨g,cap,cur,rfl,_⟩<;>rfl
theorem Sv {w:World} {Q:Nat→Prop} {s:List UInt8} {v:Value} {zs:List Int}(hs:s.length≤maxLen)(hv:Rd w Q (.slice [.int .i64]) v zs):bg w Q [.str, .slice [.int .i64]] [.string ⟨s.toArray⟩,v] (s,zs):=by
 simp only [bg]
 refine⟨_,[v],rfl,?_,v,[],rfl,hv,rfl⟩
 simp only [Rd]
 exact⟨rfl,hs⟩
theorem FJ {α:Type} {R:List Value→α→Prop}:∀(l:List α) (cs:List Value) (c:List Value) (x:α),bW R cs l→R c x→bW R (cs++c) (l++ [x])
 | [],cs,c,x,h,hx=>by
   simp only [bW] at h
   subst h
   exact⟨c,[],by simp,hx,rfl⟩
 |y::l,cs,c,x,⟨c1,c2,hc,h1,h2⟩,hx=>by
  subst hc
  exact⟨c1,c2++c,by simp,h1,FJ l c2 c x h2 hx⟩
theorem ć {w w':World} {base:Nat} {e:TypeId} {v:Value} {zs:List Int} {Q:Nat→Prop}(h:w'.ownsInts base e .i64 v zs)(hb:Below w.heap.size w w')(hl:∀g,v.ownBlock=some g→g<w.heap.size)(hq:∀g,base≤g→g<w.heap.size→Q g):Rd w Q (.slice [.int .i64]) v zs:=by
 have h':w.ownsInts base e .i64 v zs:=by
  refine⟨⟨h.1.1,?_⟩,h.2⟩
  rcases h.1.2 with hn|⟨g,cap,cur,rfl,hg,hh,rest⟩
  · exact .inl hn
  · exact .inr ⟨g,cap,cur,rfl,hg,(hb.block g (hl g rfl)).symm.trans hh,rest⟩
 exact Ć h' (fun g hg=>hq g (h'.1.lt g hg).1 (hl g hg))
theorem IA(w:World)(a b:Value)(t:TypeId):∀j u,[a,b][j]? =some u→(w.alloc (.cells #[a,b] t)).cell? ((⟨w.heap.size,0,none⟩:Addr).add j)=some u:=by
 intro j u hj
 rw [Addr.add_mid,Nat.zero_add]
 have h1:(w.alloc (.cells #[a,b] t)).heap[w.heap.size]? =some (.cells #[a,b] t (0,0)):=(MapKept.heap_alloc w _).1
 simp only [World.cell?,h1]
 simpa using hj
end
end Go.DM

end
section
namespace Go.Proofs
open Go Go.Vg Go.Maps Go.RowKit Go.ChangeShapes Go.DM Go.WideMaps
theorem Tryz.QN:Keyed Tryz.prog 9:=string_keyed Tryz.underlying9
theorem Tryz.alw:(Tryz.prog.info? 3).map (fun i=>(i.zero,i.size,i.bytes))=some (some (.int .i64 0),1,8):=by kernel_rfl
theorem Tryz.acW:(Tryz.prog.info? 132).map (fun i=>(i.zero,i.size,i.bytes))=some (some (.agg #[.string ⟨#[]⟩, .slice none 0 0]),2,40):=by kernel_rfl
theorem Tryz.QO(w:World):(zeroValue 77).run Tryz.prog w= .ok (.slice none 0 0) w:=by kernel_rfl
theorem Tryz.Ĉ(mb:Option Nat)(W:World):Calls Tryz.prog 133 #[.map mb] W fun e w'=>e= .returned (.func (.func 164) #[] #[.pointer (some ⟨W.heap.size,0,none⟩)])∧w'=W.alloc (.cells #[.map mb] 183):=callsIn_wide.1 (Tryz.ED mb W)
set_option maxRecDepth 100000 in
set_option maxHeartbeats 4000000 in
theorem Tryz.MJ {H:Type}(docs:List (List UInt8))(f t:Int)(da:Option Addr)(cap:Nat)(w:World)
  (hp:S.eb docs f t) (h4:∀j,(docs.getD j []).length≤2000) (dv:Nat→Value)
  (hd:∀j,j<docs.length→∃b o aj cj,da=some ⟨b,o,none⟩∧b<w.heap.size∧w.cell? ⟨b,o+j,none⟩=some (dv j)∧dv j= .slice aj (docs.getD j []).length cj)
  (uS:∀(j:Nat) (W:World),j<docs.length→Below w.heap.size w W→Calls Tryz.prog 131 #[dv j] W fun e w'=>∃v,e= .returned v∧w'.ownsRow W.heap.size 9 1 v (S.ec docs 0 j).length ((S.ec docs 0 j).map encS)∧Below W.heap.size W w')
  (IB:∀(j:Nat),∀s∈S.ec docs 0 j,s.length≤maxLen):
  Calls Tryz.prog 96 #[.slice da docs.length cap, .agg #[.int .i64 f, .int .i64 t]] w fun e w'=>∃v xs W1,e= .returned (.tuple #[v, .int .i64 0])∧Below w.heap.size w w'∧Below W1.heap.size W1 w'∧w.heap.size≤W1.heap.size∧
   w'.ownsRow W1.heap.size 132 2 v (S.make docs f t).length xs∧bW (bg W1 (fun b=>w.heap.size≤b∧b<W1.heap.size) [.str, .slice [.int .i64]]) xs (S.make docs f t):=by
 have hmm:= @run_makeMap Tryz.prog
 have h0:0≤f:=hp.1
 have h1:f≤t:=hp.2.1
 have h2:t≤docs.length:=hp.2.2.1
 have h3:docs.length≤1000:=hp.2.2.2.1
 obtain⟨i0,hi,hz0,Ě,hz2⟩:=info_parts Tryz.alw
 obtain⟨i1,hi1,hy0,hy1,hy2⟩:=info_parts Tryz.acW
 uy Tryz.func96,Tryz.ntmps96
 nq
 uz [39] (fun i wr=>∃k:Nat,k≤docs.length∧i= .int .i64 k∧wr=w.alloc (.cells #[.int .i64 f, .int .i64 t] 40))
  (fun i _=>docs.length-(intOf i).toNat)
 case ye=>exact⟨0,Nat.zero_le _,rfl,rfl⟩
 case round=>
  obtain⟨k,hk,rfl,rfl⟩:=hJ
  by_cases dX:k<docs.length
  · obtain⟨b,o,aj,cj,rfl,hb,hc,hv⟩:=hd k dX
    rw [hv] at hc
    have hl:=h4 k
    generalize (docs.getD k []).length=n at hc hl
    have mL:(w.alloc (.cells #[.int .i64 f, .int .i64 t] 40)).cell? ⟨b,o+k,none⟩=some (.slice aj n cj):=by
     rw [←hc];exact World.cell?_of_block ((World.grownBy_alloc w _ none).block b hb (by simp))
    clear hd uS
    nq
    MK
    case rel=>exact⟨k+1,by omega,by IC,by first|rfl|trivial⟩
    case measure=>simp [intOf];omega
  · have :k=docs.length:=by omega
    subst this
    clear dX
    nq
    uz [9] (fun i wr=>∃k:Nat,i= .int .i64 (f+k)∧f+k≤t∧∃(m:Nat) (D:DataW H),m≤4000*k∧wr.ownsGroups Tryz.prog 9 (w.heap.size+2) 3 .i64 (w.heap.size+1) m D∧Repr D (S.rA docs f k 0)∧
        Below w.heap.size w wr∧wr.cell? ⟨w.heap.size,1,none⟩=some (.int .i64 t)∧w.heap.size+2≤wr.heap.size)
     (fun i _=>(t-intOf i).toNat)
    case ye=>
     have cz:(w.alloc (.cells #[.int .i64 f, .int .i64 t] 40)).heap.size=w.heap.size+1:=by simp
     have hg:=World.ownsGroups_made (H:=H) (w.alloc (.cells #[.int .i64 f, .int .i64 t] 40)) Tryz.prog 9 3 .i64
     rw [cz] at hg
     refine⟨0,by simp,by simpa using h1,0,_,Nat.le_refl _,hg,Repr.empty.ext (fun s=>(S.agf docs f s).symm),((Below.refl _ _).alloc (Nat.le_refl _) _).alloc (by simp) _,?_,by simp⟩
     rw [yd];rfl
    case round=>
     obtain⟨k,rfl,hk,m,D,hm,fj,ĉ,hnx,ao8,hws⟩:=hJ
     by_cases dX:f+k<t
     · obtain⟨n,hn⟩:∃n:Nat,f+(k:Int)=n:=⟨(f+k).toNat,by omega⟩
       have SS:n<docs.length:=by omega
       obtain⟨b,o,aj,cj,rfl,hb,hc,hv⟩:=hd n SS
       have hs:=uS n wr SS hnx
       rw [hv] at hs hc
       have mL:wr.cell? ⟨b,o+n,none⟩=some (.slice aj (docs.getD n []).length cj):=(hnx.cell (by exact hb)).trans hc
       have eL:S.ec docs 0 n=S.ec docs f k:=by unfold S.ec;rw [hn];simp
       rw [eL] at hs
       have AK:=IB n
       rw [eL] at AK
       obtain⟨ID,rfl⟩:∃x,x=wr:=⟨wr,rfl⟩
       have hL:(S.ec docs f k).length≤4000:=by unfold S.ec;exact S.tw hp _
       simp only [hn] at hk ⊢
       generalize (docs.getD n []).length=dl at mL hs
       clear hd uS hc hv
       nr (first
        |(tS 131;refine hs.mono ?_;rintro e w1 ⟨vs,rfl,jv,LB⟩;obtain⟨av,cp,rfl,Hn⟩:=zd jv)
        |ML)
       have alx:=pV fj LB
       have ao9:w1.Shuns (w.heap.size+1) (fun g=>(Value.slice av (S.ec docs f k).length cp).ownBlock=some g):=Dk fj LB (fun g hg=>(jv.lt g hg).1)
       have apa:Below w.heap.size w w1:=hnx.trans (LB.mono (by omega))
       have aly:w1.cell? ⟨w.heap.size,1,none⟩=some (.int .i64 t):=(LB.cell (by show w.heap.size<ID.heap.size;omega)).trans ao8
       have apb:ID.heap.size≤w1.heap.size:=LB.size
       clear hs LB mL
       uz [62] (fun i wq=>∃j:Nat,i= .int .i64 j∧j≤(S.ec docs f k).length∧∃(m2:Nat) (D2:DataW H),m2≤m+j∧wq.ownsGroups Tryz.prog 9 (w.heap.size+2) 3 .i64 (w.heap.size+1) m2 D2∧Repr D2 (S.rA docs f k j)∧
           wq.Shuns (w.heap.size+1) (fun g=>(Value.slice av (S.ec docs f k).length cp).ownBlock=some g)∧Below w.heap.size w wq∧wq.cell? ⟨w.heap.size,1,none⟩=some (.int .i64 t)∧
           wq.ownsRow ID.heap.size 9 1 (.slice av (S.ec docs f k).length cp) (S.ec docs f k).length ((S.ec docs f k).map encS)∧ID.heap.size≤wq.heap.size)
        (fun i _=>(S.ec docs f k).length-(intOf i).toNat)
       case ye=>exact⟨0,rfl,Nat.zero_le _,m,D,by omega,alx,ĉ,ao9,apa,aly,jv,apb⟩
       case round=>
        obtain⟨j,rfl,hj,m2,D2,ĳ,MM,IE,Ċ,ċ,Č,MN,hwq⟩:=hJ
        by_cases rW:j<(S.ec docs f k).length
        · obtain⟨g,rfl,hg1,ī⟩:=Hn (by omega)
          have kN:=FI MN rW
          rw [Nat.zero_add] at kN
          have FK:=KE (P:=Tryz.prog) Tryz.underlying9 (AK _ (S.bQ _ j [] rW))
          have afb:=S.Uc (docs:=docs) (a:=f) (k:=k) rW
          have č:=fun s=>S.R5 (docs:=docs) (a:=f) (k:=k) (j:=j) rW (s:=s)
          have alz:=S.Ud docs f k j ((S.ec docs f k).getD j [])
          unfold Vg.encS at kN
          generalize (S.ec docs f k).getD j []=sj at kN FK afb č alz
          have apc:g<wr.heap.size:=(MN.lt g rfl).2
          have QP:m2<maxLen:=by unfold maxLen;omega
          clear IB AK Hn
          nr (first
           |(MO;refine wpList_lookup_groups_shuns _ rfl _ _ 183 rfl 9 77 3 .i64 Tryz.QN Tryz.underlying183 (Tryz.QO _) (w.heap.size+2) (w.heap.size+1) m2 _ rfl MM QP _ _ rfl FK ?_;intro v zs Rn v7 Lf Ď Eg)
           |(KF;refine wpList_append_own_at _ rfl _ _ 77 rfl (w.heap.size+2) 3 i0 (.int .i64 0) 1 8 Tryz.underlying77 hi hz0 Ě hz2 rfl (by decide) _ _ _ rfl (v7.1.alloc _) ⟨wr.heap.size,0,none⟩ 1 1 [.int .i64 n] rfl rfl (cell_one_new _ _ _) (ints_oneCell .i64 [(n:Int)]) (by unfold maxLen;omega) (by omega) (by simp;omega) ?_;intro v' w3 ď IF I0 sN)
           |(Ė;have vI:=acV Eg Ċ sN apc;refine wpList_mapUpdate_back_shuns _ rfl _ _ _ 183 rfl Tryz.QN Tryz.underlying183 FK MM QP v7 Ċ vI Ď rfl rfl rfl ((World.grownBy_alloc _ _ _).trans IF) (v7.appended ď (WalkArith.wf_i64 (by omega))) (by simp;omega) (sN.imp id (fun h=>⟨_,h,by simp⟩)) ?_;intro w4 alA AL apd)
           |ML)
          have hX:=(World.grownBy_alloc wr _ _).trans IF
          have hw3:wr.heap.size≤w3.heap.size:=hX.size
          have hvb:∀g',v.ownBlock=some g'→w.heap.size+2≤g':=fun g' uE=>(v7.1.lt g' uE).1
          refine⟨⟨j+1,by IC,by omega,m2+1,_,by omega,alA,?_,apd,?_,?_,?_,?_⟩,by simp [intOf];omega⟩
          · refine IE.put (v7.appended ď (WalkArith.wf_i64 (by omega))) (by simp) ?_ č
            rw [afb,hn]
            have :=wB (H:=H) v7
            rw [←Rn,(IE.2 sj).1] at this
            rw [this]
          · exact ċ.groups v7 hX AL ċ.size (by omega) (by omega)
          · refine KD AL (by show w.heap.size<w3.heap.size;omega) (by show some w.heap.size≠some (w.heap.size+1);simp) (KD hX (by show w.heap.size<wr.heap.size;omega) ?_ Č)
            show some w.heap.size≠v.ownBlock
            intro h
            have :=hvb _ h.symm
            omega
          · refine(MN.kept hX (.inr ?_)).kept AL (.inr ?_)
            · intro h
              exact Eg _ Ċ g h.symm rfl
            · intro h
              simp only [Value.ownBlock,Option.some.injEq] at h
              omega
          · exact Nat.le_trans hwq (Nat.le_trans hw3 AL.size)
        · have :j=(S.ec docs f k).length:=by omega
          subst this
          clear rW IB AK
          have alB:=IE.ext (fun s=>S.R6 (docs:=docs) (a:=f) (k:=k) (j:=(S.ec docs f k).length) (by omega) s)
          clear IE
          nq
          exact⟨⟨k+1,by rw [show f+((k+1:Nat):Int)=(n:Int)+1 by omega],by omega,m2,D2,by omega,MM,alB,ċ,Č,by omega⟩,by simp [intOf];omega⟩
     · have Į:t=f+k:=by omega
       have SL:(t-f).toNat=k:=by omega
       have sM:=Dl fj
       have hcS:=callsIn_wide.1 (Tryz.oK (w.heap.size+1) m D _ wr sM (by have :=ze sM;unfold maxLen;omega) (by have :=ze sM;omega))
       have Sw:=fun(ss:List (List UInt8)) (hss:ss.Perm (strKeys D))=>Su (docs:=docs) (f:=f) (t:=t) sM Tryz.QN Tryz.underlying9 (by rw [SL];exact ĉ) hss
       obtain⟨ID,rfl⟩:∃x,x=wr:=⟨wr,rfl⟩
       clear hd uS IB
       subst Į
       nr (first
        |(tS 133;refine(Tryz.Ĉ _ _).mono ?_;rintro e w4 ⟨rfl,rfl⟩)
        |(tS 132;refine hcS.mono ?_;rintro e w5 ⟨vs,ss,rfl,hS,jv,I0,hb5⟩;obtain⟨hk3,hk4,rU,hk6⟩:=Sw ss hS;rw [hk3,hk4] at jv;obtain⟨av,cp,rfl,Hn⟩:=zd jv)
        |ML)
       have Đ:Below ID.heap.size ID w5:=((Below.refl _ ID).alloc (Nat.le_refl _) _).trans (hb5.mono (by simp))
       have đ:=pV fj Đ
       have aph:Below w.heap.size w w5:=hnx.trans (Đ.mono (by omega))
       have arC:ID.heap.size≤w5.heap.size:=Đ.size
       clear hcS Sw sM hb5 fj hS I0 hk3
       uz [12,79] (fun d i wq=>∃j:Nat,i= .int .i64 j∧j≤(S.bP docs f (f+k)).length∧∃xs,wq.ownsRow w5.heap.size 132 2 d j xs∧
           bW (bg w5 (fun b=>w.heap.size≤b∧b<w5.heap.size) [.str, .slice [.int .i64]]) xs (S.iB docs f (f+k) j)∧Below w5.heap.size w5 wq)
        (fun _ i _=>(S.bP docs f (f+k)).length-(intOf i).toNat)
       case ye=>exact⟨0,rfl,Nat.zero_le _,[],World.ownsRow_nil _ _ _ _,rfl,Below.refl _ _⟩
       case round=>
        obtain⟨j,rfl,hj,xs,MP,KG,uA⟩:=hJ
        by_cases rW:j<(S.bP docs f (f+k)).length
        · obtain⟨g,rfl,hg1,ī⟩:=Hn (by omega)
          have QQ:=FI jv rW
          have kN:wr.cell? ⟨g,0+j,none⟩=some (Vg.encS ((S.bP docs f (f+k)).getD j [])):=(uA.cell ī).trans QQ
          rw [Nat.zero_add] at kN
          have Sw:=rU _ (S.bQ _ j [] rW)
          have FK:=KE (P:=Tryz.prog) Tryz.underlying9 Sw
          have Ē:=fun tt (ht:(S.bP docs f (f+k)).getD j []=tt)=>S.xM (docs:=docs) (a:=f) (b:=f+k) (k:=j) (j:=k) rW SL.symm ht
          unfold Vg.encS at kN
          have alC:=pV đ uA
          have api:wr.Shuns (w.heap.size+1) (fun g=>w5.heap.size≤g):=Dk đ uA (fun g hg=>hg)
          have apj:=fun s=>(ĉ.2 s).1
          generalize (S.bP docs f (f+k)).getD j []=sj at kN FK Sw Ē
          have QP:m<maxLen:=by unfold maxLen;omega
          clear QQ rU
          nr (first
           |(MO;refine wpList_lookup_groups_shuns _ rfl _ _ 183 rfl 9 77 3 .i64 Tryz.QN Tryz.underlying183 (Tryz.QO _) (w.heap.size+2) (w.heap.size+1) m _ rfl alC QP _ _ rfl FK ?_;intro v zs Rn v7 Lf Ď Eg;obtain⟨av2,cp2,rfl,arD⟩:=zd v7.1)
           |(KF;refine wpList_append_own_at _ rfl _ _ 79 rfl w5.heap.size 132 i1 (.agg #[.string ⟨#[]⟩, .slice none 0 0]) 2 40 Tryz.underlying79 hi1 hy0 hy1 hy2 rfl (by decide) _ j xs rfl (MP.alloc _) ⟨wr.heap.size,0,none⟩ 1 1 [.string ⟨sj.toArray⟩, .slice av2 zs.length cp2] rfl rfl (IA _ _ _ _) (by intro u hu;simp at hu;rcases hu with rfl|rfl<;>rfl) (by unfold maxLen;omega) (by omega) (by have :=uA.size;simp;omega) ?_;intro v' w6 alD IF I0 sN)
           |ML)
          have pF:Rd w5 (fun b=>w.heap.size≤b∧b<w5.heap.size) (.slice [.int .i64]) (.slice av2 zs.length cp2) zs:=
           ć v7 uA (fun g' uE=>by have :=Eg _ api g' uE;omega) (fun g' h1 h2=>⟨by omega,h2⟩)
          have hz:zs=S.bC docs f sj k:=by
           have e1:=wB (H:=H) v7
           rw [←Rn,apj] at e1
           rw [←e1];simp [S.rA]
          have hX:=(World.grownBy_alloc wr (.cells #[.string ⟨sj.toArray⟩, .slice av2 zs.length cp2] 132) _).trans IF
          refine⟨⟨j+1,by IC,by omega,xs++ [.string ⟨sj.toArray⟩, .slice av2 zs.length cp2],alD,?_,?_⟩,by simp [intOf];omega⟩
          · rw [←Ē sj rfl,←hz]
            exact FJ _ _ _ _ KG (Sv Sw pF)
          · exact uA.grown hX uA.size (fun g' uE=>(MP.lt g' uE).1)
        · have hje:j=(S.bP docs f (f+k)).length:=by omega
          subst hje
          rw [S.zQ (by omega)] at KG
          clear Hn rU
          nq
          KH
          refine⟨_,xs,w5,rfl,aph.trans (uA.mono (by omega)),uA,by omega,?_,KG⟩
          have wX:(S.make docs f (f+k)).length=(S.bP docs f (f+k)).length:=by simp [S.make]
          rw [wX]
          exact MP
set_option maxRecDepth 100000 in
set_option maxHeartbeats 4000000 in
theorem Tryz.MQ(docs:List (List UInt8))(f t:Int)(da:Option Addr)(cap:Nat)(w:World)(hc:1000<docs.length∨f<0∨t<f∨(docs.length:Int)<t):
  Calls Tryz.prog 96 #[.slice da docs.length cap, .agg #[.int .i64 f, .int .i64 t]] w fun e w'=>e= .returned (.tuple #[.slice none 0 0, .int .i64 1])∧Below w.heap.size w w':=by
 generalize docs.length=n at hc
 uy Tryz.func96,Tryz.ntmps96
 nq
 all_goals (KH;exact⟨rfl,(Below.refl _ _).alloc (Nat.le_refl _) _⟩)
set_option maxRecDepth 100000 in
set_option maxHeartbeats 4000000 in
theorem Tryz.MR(docs:List (List UInt8))(f t:Int)(da:Option Addr)(cap:Nat)(w:World)(h0:0≤f)(h1:f≤t)(h2:t≤docs.length)(h3:docs.length≤1000)(dv:Nat→Value)
  (hd:∀j,j<docs.length→∃b o aj cj,da=some ⟨b,o,none⟩∧b<w.heap.size∧w.cell? ⟨b,o+j,none⟩=some (dv j)∧dv j= .slice aj (docs.getD j []).length cj)
  (hc:¬∀j,j<docs.length→(docs.getD j []).length≤2000):
  Calls Tryz.prog 96 #[.slice da docs.length cap, .agg #[.int .i64 f, .int .i64 t]] w fun e w'=>e= .returned (.tuple #[.slice none 0 0, .int .i64 1])∧Below w.heap.size w w':=by
 uy Tryz.func96,Tryz.ntmps96
 nq
 uz [39] (fun i wr=>∃k:Nat,k≤docs.length∧i= .int .i64 k∧wr=w.alloc (.cells #[.int .i64 f, .int .i64 t] 40)∧∀j,j<k→(docs.getD j []).length≤2000)
  (fun i _=>docs.length-(intOf i).toNat)
 case ye=>exact⟨0,Nat.zero_le _,rfl,rfl,fun j hj=>by omega⟩
 case round=>
  obtain⟨k,hk,rfl,rfl,hX⟩:=hJ
  by_cases dX:k<docs.length
  · obtain⟨b,o,aj,cj,rfl,hb,fS,hv⟩:=hd k dX
    rw [hv] at fS
    have mL:(w.alloc (.cells #[.int .i64 f, .int .i64 t] 40)).cell? ⟨b,o+k,none⟩=some (.slice aj (docs.getD k []).length cj):=by
     rw [←fS];exact World.cell?_of_block ((World.grownBy_alloc w _ none).block b hb (by simp))
    clear hd fS hv hc
    by_cases hl:(docs.getD k []).length≤2000
    · have Lv:∀j,j<k+1→(docs.getD j []).length≤2000:=fun j hj=>by
       by_cases e:j=k
       · subst e;exact hl
       · exact hX j (by omega)
      clear hX
      generalize (docs.getD k []).length=n at mL hl
      nq
      MK
      case rel=>exact⟨k+1,by omega,by IC,by first|rfl|trivial,Lv⟩
      case measure=>simp [intOf];omega
    · clear hX
      generalize (docs.getD k []).length=n at mL hl
      nq
      KH
      exact⟨rfl,(Below.refl _ _).alloc (Nat.le_refl _) _⟩
  · exact absurd (fun j hj=>hX j (by omega)) hc
end Go.Proofs

end
section
namespace Go.S
theorem KI {docs:List (List UInt8)} {a:Int} {j:Nat}:∀s∈ec docs a j,s.length≤maxLen:=fun s hs=>by
 have h1:=(fk _ _).1 hs
 simp only [aT,List.mem_map] at h1
 obtain⟨w,_,rfl⟩:=h1
 have :=uq w [] (by simp)
 unfold c9 maxLen
 omega
theorem Sx {docs:List (List UInt8)} {f t:Int}(h:cJ docs f t=true):eb docs f t∧∀j,(docs.getD j []).length≤2000:=by
 simp only [cJ,Bool.and_eq_true,List.all_eq_true,decide_eq_true_eq] at h
 obtain⟨h1,h2,h3,h4,h5⟩:=h
 refine⟨⟨h3,h4,h5,by omega,fun d hd=>by have :=h1 d hd;omega⟩,fun j=> ?_⟩
 by_cases hj:j<docs.length
 · have :=h1 _ (bQ docs j [] hj)
   omega
 · rw [List.getD_eq_getElem?_getD,List.getElem?_eq_none (by omega)];simp
end Go.S
namespace Go.DM
open Go Go.Vg Go.Maps Go.RowKit Go.Proofs
theorem QR {w:World} {A:Nat→Prop} {τ:Ty}:∀(l:List (D τ)) (cs:List Value),bW (bg w A [τ]) cs l→cs.length=l.length∧∀(j:Nat) (x:D τ),l[j]? =some x→Rd w A τ (cs.getD j undef) x
 | [],cs,h=>by simp only [bW] at h;subst h;exact⟨rfl,fun j x hx=>by simp at hx⟩
 |y::l,cs,⟨c1,c2,hc,h1,h2⟩=>by
  subst hc
  simp only [bg] at h1
  obtain⟨v,bX,rfl,hv,rfl⟩:=h1
  obtain⟨g1,g2⟩:=QR l c2 h2
  refine⟨by simp [g1],fun j x hx=> ?_⟩
  cases j with
  |zero=>simp at hx;subst hx;exact hv
  |succ j=>simpa using g2 j x (by simpa using hx)
theorem IG(b:List UInt8):BV [.one (.slice [.int .u8])] [.sl [.int .u8] b]=some b:=rfl
set_option maxRecDepth 100000 in
theorem KJ {G:Nat→Option GD} {Fs:Row (PS.flat [.one (.slice [.int .u8])])→Prop×AV×List AB}(uS:Valid Tryz.prog G 131 (au [.one (.slice [.int .u8])] Fs))
  (hFs:∀b:List UInt8,Fs b=(S.small b, .own 0,[.row 9 [.str] (S.sorted (S.aT b)) false]))
  {F:Row (PS.flat [.one (.slice [.slice [.int .u8]]), .agg [.int .i64, .int .i64]])→Prop×AV×List AB}
  (hF:∀(docs:List (List UInt8)) (f t:Int),F (docs,f,t)=(True, .dc [.sl [.str, .slice [.int .i64]] (S.fK docs f t).1, .int .i64 ((S.fK docs f t).2:Int)],[])):
  Valid Tryz.prog G 96 (au [.one (.slice [.slice [.int .u8]]), .agg [.int .i64, .int .i64]] F):=by
 intro w A β args cd pre res bs hA hG bp hs hp
 unfold au at hs
 split at hs
 · rename_i x hx
   obtain⟨docs,f,t⟩:=x
   change List (List UInt8) at docs
   change Int at f
   change Int at t
   have gg:=hs
   rw [hF docs f t] at gg
   simp only [Option.some.injEq,Prod.mk.injEq] at gg
   obtain⟨rfl,rfl,rfl⟩:=gg
   obtain⟨g1,g2⟩:=qY _ hx bp
   clear hs hp hx bp g2
   change ai w A β args [.sl [.slice [.int .u8]] docs, .agg [.int .i64 f, .int .i64 t]] at g1
   simp only [ai,ae] at g1
   obtain⟨vd,bX,rfl,hvd,va,ao1,rfl,⟨arr,rfl,SZ⟩,rfl⟩:=g1
   obtain⟨u1,us,e1,⟨rfl,hf⟩,u2,vF,rfl,⟨rfl,ht⟩,rfl⟩:=SZ
   obtain rfl :arr= #[.int .i64 f, .int .i64 t]:=by apply Array.ext';simpa using e1
   simp only [Rd] at hvd
   obtain⟨a,cap,cs,rfl,I1,ă,KG,aG⟩:=hvd
   obtain⟨fS,cQ⟩:=QR (τ:= .slice [.int .u8]) docs cs KG
   have hd:∀j,j<docs.length→∃b o aj cj,a=some ⟨b,o,none⟩∧b<w.heap.size∧w.cell? ⟨b,o+j,none⟩=some (cs.getD j undef)∧cs.getD j undef= .slice aj (docs.getD j []).length cj:=by
    intro j hj
    obtain⟨b,o,rfl,wb,hr⟩:=aG (by intro h;rw [h] at fS;simp at fS;omega)
    have h1:=cQ j (docs.getD j []) (by rw [List.getD_eq_getElem?_getD,List.getElem?_eq_getElem hj];rfl)
    simp only [Rd] at h1
    obtain⟨aj,cj,eh,h2,_⟩:=h1
    refine⟨b,o,aj,cj,rfl,hA b wb,hr j _ ?_,h2⟩
    rw [List.getD_eq_getElem?_getD,List.getElem?_eq_getElem (by omega)];rfl
   show Calls Tryz.prog 96 #[.slice a docs.length cap, .agg #[.int .i64 f, .int .i64 t]] w _
   have bad:Calls Tryz.prog 96 #[.slice a docs.length cap, .agg #[.int .i64 f, .int .i64 t]] w (fun e w'=>e= .returned (.tuple #[.slice none 0 0, .int .i64 1])∧Below w.heap.size w w')→S.cJ docs f t=false→
     Calls Tryz.prog 96 #[.slice a docs.length cap, .agg #[.int .i64 f, .int .i64 t]] w (fun e w'=>∃v,e= .returned v∧∃A' aJ,je w A w' v (.dc [.sl [.str, .slice [.int .i64]] (S.fK docs f t).1, .int .i64 ((S.fK docs f t).2:Int)]) [] A' aJ):=by
    intro hc hb
    refine hc.mono fun e w' ⟨he,tm⟩=>⟨_,he,A,β,{os:=tm.os,tape:=tm.tape,output:=tm.output,size:=tm.size,same:=tm.block,mono:=fun _ h=>h,jZ:=fun _ _ h=>h,bound:=fun b h=>Nat.lt_of_lt_of_le (hA b h) tm.size,res:= ?_,rows:=fun i ab hi=>by simp at hi,apart:=fun i j b hi=>by simp at hi}⟩
    have e2:S.fK docs f t=([],1):=by unfold S.fK;rw [hb];rfl
    rw [e2]
    simp only [ae,ai]
    refine⟨_,rfl,_,_,rfl,?_,_,_,rfl,⟨rfl,by simp only [lo,hi];omega⟩,rfl⟩
    simp only [Rd]
    exact⟨none,0,[],rfl,Nat.le_refl _,Nat.zero_le _,rfl,fun h=>absurd rfl h⟩
   cases Dm:S.cJ docs f t with
   |false=>
    refine bad ?_ Dm
    by_cases hc:1000<docs.length∨f<0∨t<f∨(docs.length:Int)<t
    · exact Tryz.MQ docs f t a cap w hc
    · refine Tryz.MR docs f t a cap w (by omega) (by omega) (by omega) (by omega) _ hd fun hX=> ?_
      have :S.cJ docs f t=true :=by
       simp only [S.cJ,Bool.and_eq_true,List.all_eq_true,decide_eq_true_eq]
       refine⟨fun d oI=> ?_,by omega,by omega,by omega,by omega⟩
       obtain⟨i,iD,rfl⟩:=List.getElem_of_mem oI
       have :=hX i iD
       rw [List.getD_eq_getElem?_getD,List.getElem?_eq_getElem iD] at this
       simp only [Option.getD_some] at this
       omega
      rw [this] at Dm;cases Dm
   |true=>
    obtain⟨hmp,h4⟩:=S.Sx Dm
    have alE:∀(j:Nat) (W:World),j<docs.length→Below w.heap.size w W→Calls Tryz.prog 131 #[cs.getD j undef] W fun e w'=>∃v,e= .returned v∧w'.ownsRow W.heap.size 9 1 v (S.ec docs 0 j).length ((S.ec docs 0 j).map Vg.encS)∧Below W.heap.size W w':=by
     intro j W hj hW
     have hk:cy w W A A:=fun b hb=>⟨hb,hW.block b (hA b hb)⟩
     have h1:=wQ hk _ _ _ (cQ j (docs.getD j []) (by rw [List.getD_eq_getElem?_getD,List.getElem?_eq_getElem hj];rfl))
     have h2:=uS W A β [cs.getD j undef] [.sl [.int .u8] (docs.getD j [])] (S.small (docs.getD j [])) (.own 0) [.row 9 [.str] (S.sorted (S.aT (docs.getD j []))) false]
      (fun b hb=>Nat.lt_of_lt_of_le (hA b hb) hW.size) (fun i d hi=>(hG i d hi).mono hk) (by simp only [ai,ae];exact⟨_,_,rfl,h1,rfl⟩)
      (by unfold au;rw [IG];simp only [hFs]) (by have :=h4 j;unfold S.small;omega)
     refine h2.mono fun e w' ⟨v,he,A',aJ,nS⟩=>⟨v,he,?_,nS.os,nS.tape,nS.output,nS.size,nS.same⟩
     have hr:=nS.res
     simp only [ae] at hr
     obtain⟨⟨xs,ho,pF,_⟩,hblk⟩:=nS.rows 0 _ rfl
     obtain⟨rfl,_⟩:=yc _ xs pF
     have eK:S.ec docs 0 j=S.sorted (S.aT (docs.getD j [])):=by unfold S.ec;simp
     rw [eK,hr.1]
     refine⟨ho.1,?_⟩
     rcases ho.2 with hn|⟨g,gx,cur,hv,_,rest⟩
     · exact .inl hn
     · exact .inr ⟨g,gx,cur,hv,hblk g (by rw [hv];rfl),rest⟩
    refine(Tryz.MJ (H:=Unit) docs f t a cap w hmp h4 _ hd alE (fun j s hs=>S.KI s hs)).mono fun e w' ⟨v,xs,W1,he,tm,afc,hW1,ho,pF⟩=> ?_
    have e2:S.fK docs f t=(S.make docs f t,0):=by unfold S.fK;rw [Dm];rfl
    rw [e2]
    refine⟨_,he,fun b=>A b∨(w.heap.size≤b∧b<w'.heap.size),β,{os:=tm.os,tape:=tm.tape,output:=tm.output,size:=tm.size,same:=tm.block,mono:=fun _ h=> .inl h,jZ:=fun b hb h=> ?_,bound:=fun b h=> ?_,res:= ?_,rows:=fun i ab hi=>by simp at hi,apart:=fun i j b hi=>by simp at hi}⟩
    · rcases h with h|h
      · exact h
      · omega
    · rcases h with h|h
      · exact Nat.lt_of_lt_of_le (hA b h) tm.size
      · exact h.2
    · simp only [ae,ai]
      refine⟨_,rfl,_,_,rfl,?_,_,_,rfl,⟨rfl,by simp only [lo,hi];omega⟩,rfl⟩
      have hk:cy W1 w' (fun b=>w.heap.size≤b∧b<W1.heap.size) (fun b=>A b∨(w.heap.size≤b∧b<w'.heap.size)):=fun b hb=>⟨.inr ⟨hb.1,Nat.lt_of_lt_of_le hb.2 afc.size⟩,afc.block b hb.2⟩
      have apl:=br (fun c x hx=>bt hk _ c x hx) _ _ pF
      simp only [Rd]
      rcases ho.2 with⟨rfl,h0⟩|⟨g,gx,cur,rfl,hg,hh,hn,hc,cz,IV⟩
      · have hm0:S.make docs f t= []:=List.length_eq_zero_iff.1 h0
        rw [hm0]
        exact⟨none,0,[],rfl,Nat.le_refl _,Nat.zero_le _,rfl,fun h=>absurd rfl h⟩
      · refine⟨some ⟨g,0,none⟩,gx,xs,rfl,hn,hc,apl,fun _=>⟨g,0,rfl, .inr ⟨by omega,(Array.getElem?_eq_some_iff.1 hh).1⟩,fun j u hj=> ?_⟩⟩
        have :=ho.cells (g:=g) rfl j u hj
        rwa [Addr.add_mid] at this
 · cases hs
end Go.DM

end
