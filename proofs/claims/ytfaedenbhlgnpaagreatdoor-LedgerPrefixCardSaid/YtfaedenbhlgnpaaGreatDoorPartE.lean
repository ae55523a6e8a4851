import Derived.Test.YtfaedenbhlgnpaaGreatDoorPartD
import Derived.Shelf.SlicesG.Clone
import Derived.Shelf.SlSortCmp.NoneTotal
import Derived.Shelf.SlIter.Nil
import Derived.Shelf.SortM.Plain
import Derived.Shelf.SortM.SortNone
import Derived.Test.YtfaedenbhlgnpaaGreatDoorProg
import Derived.Lib.Small
import Derived.Lib.Walk
import Derived.Sort.Walk0
import Derived.Laws.Cover1
import Derived.Maps.GroupsBeside
import Derived.Sort.KeysCollected
import Derived.WalkKit
set_option linter.unusedVariables false
set_option linter.unusedSimpArgs false
section
set_option linter.unusedVariables false
namespace Go
theorem df {p:Prop} [Decidable p]:decide p=false↔¬p:=decide_eq_false_iff_not
theorem dt {p:Prop} [Decidable p]:(decide p=true)=p:=decide_eq_true_eq
theorem lc {α:Type} {a:α} {l:List α}:(a::l).length=l.length+1:=List.length_cons
theorem ln {α:Type}:([]:List α).length=0:=List.length_nil
theorem tn(n:Nat):(n:Int).toNat=n:=Int.toNat_natCast n
theorem nf {b:Bool}:((!b)=false)=(b=true):=Bool.not_eq_false' b
theorem nt {b:Bool}:((!b)=true)=(b=false):=Bool.not_eq_true' b
theorem anN(b:List UInt8)(hp:b.length≤140737488355328)(hf:Vg.Row.ok (Vg.PS.flat [.one (.slice [.int .u8])]) b):afk b:=by
 delta afk lZ
 have mi:b.length≤9223372036854775807:=hf.1.1
 clear hf
 refine⟨?_,?_⟩
 · omega
 rfl
theorem anO(v:Int)(l:List UInt8)(hp:S.yT l v)(hf:Vg.Row.ok (Vg.TA.fc [.own 50000, .cD (.int .i64)]) v)(hg:Vg.gg.ok [.row 5 [.int .u8]] (l,())):afl v l:=by
 delta afl q0 lZ z0
 have anP: -9223372036854775808≤v∧v≤9223372036854775807:=hf.1
 have mj:l.length≤9223372036854775807:=hg.1.1
 clear hf hg
 obtain⟨Y0,hp2⟩:=hp
 refine⟨?_,?_⟩
 · refine⟨((l),(v)),?_⟩
   try dsimp only
   with_reducible and_intros
   omega
   rfl
   exact⟨Y0,Int.le_refl _,rfl⟩
 intro x1 h2
 refine⟨?_,?_⟩
 · intro h3
   try simp only [dt] at h3
   with_reducible and_intros
   iterate 2 omega
   · (have hl:=S.uv h2;have hu:=S.yW h2;simp;omega)
   iterate 2 omega
   refine⟨((Prod.fst x1++ [UInt8.ofNat (Int.toNat (Vg.cG (Vg.bf (Prod.snd x1) (127:Int)%(256:Int)) (128:Int)))]),(Prod.snd x1/(2:Int)^Int.toNat (7:Int))),?_⟩
   try dsimp only
   with_reducible and_intros
   omega
   rfl
   · (have hl:=S.uv h2;have hu:=S.yW h2;exact S.T5 h2 h3 (by omega))
   · (have hl:=S.uv h2;have hu:=S.yW h2;simp;omega)
 intro h4
 try simp only [df] at h4
 refine⟨?_,?_⟩
 · (have hl:=S.uv h2;have hu:=S.yW h2;simp;omega)
 (have hl:=S.uv h2;have hu:=S.yW h2;exact S.We h2 h4)
theorem anQ(s:List UInt8)(l:List UInt8)(hp:S.lE l s)(hf:Vg.Row.ok (Vg.TA.fc [.own 50000, .cD (.str)]) s)(hg:Vg.gg.ok [.row 5 [.int .u8]] (l,())):afm s l:=by
 delta afm lZ au
 have Y1:s.length≤9223372036854775807:=hf.1
 have mj:l.length≤9223372036854775807:=hg.1.1
 clear hf hg
 obtain⟨Y0,hp2⟩:=hp
 have :=S.kC s.length
 with_reducible and_intros
 · simp only [S.yT];omega
 · simp only [List.length_append];omega
 simp [S.text]
theorem anR(b:List UInt8)(v:Int)(hp:b.length≤35184372088832)(hf:Vg.Row.ok (Vg.PS.flat [.one (.slice [.int .u8]), .one (.int .i64)]) (b,v)):afn b v:=by
 delta afn q1 lZ z0 z1
 have mi:b.length≤9223372036854775807:=hf.1.1
 have anP: -9223372036854775808≤v∧v≤9223372036854775807:=hf.2.1
 clear hf
 refine⟨?_,?_⟩
 · intro h1
   try simp only [V.pQ,dt] at h1
   refine⟨?_,?_⟩
   · grind [S.iS,S.ij,S.iM]
   grind [S.iS,S.ij,S.iM]
 intro h2
 try simp only [V.gm,df] at h2
 with_reducible and_intros
 omega
 exact⟨by omega,by omega⟩
 iterate 2 (grind [S.iS,S.ij,S.iM])
theorem anS(b:List UInt8)(s:List UInt8)(hp:S.lE b s)(hf:Vg.Row.ok (Vg.PS.flat [.one (.slice [.int .u8]), .one (.str)]) (b,s)):afo b s:=by
 delta afo lZ
 have mi:b.length≤9223372036854775807:=hf.1.1
 have Y1:s.length≤9223372036854775807:=hf.2.1
 clear hf
 with_reducible and_intros
 · simp only [S.lE] at *;omega
 omega
 rfl
theorem anT(r1:List UInt8)(r2:Int)(r3:Int)(hp:True)(hf:Vg.Row.ok (Vg.PS.flat [.agg [.slice [.int .u8], .int .i64, .int .i64]]) (r1,r2,r3)):afp r1 r2 r3:=by
 delta afp z0 au
 have Kb:r1.length≤9223372036854775807:=hf.1.1
 have Kc: -9223372036854775808≤r2∧r2≤9223372036854775807:=hf.2.1
 have Kd: -9223372036854775808≤r3∧r3≤9223372036854775807:=hf.2.2.1
 clear hf
 simp only [S.inside];cases decide (0≤r2)<;>rfl
theorem anU(r1:List UInt8)(r2:Int)(r3:Int)(hp:r1.length≤140737488355328)(hf:Vg.Row.ok (Vg.PS.flat [.agg [.slice [.int .u8], .int .i64, .int .i64]]) (r1,r2,r3)):afq r1 r2 r3:=by
 delta afq lZ z0 z1
 have Kb:r1.length≤9223372036854775807:=hf.1.1
 have Kc: -9223372036854775808≤r2∧r2≤9223372036854775807:=hf.2.1
 have Kd: -9223372036854775808≤r3∧r3≤9223372036854775807:=hf.2.2.1
 clear hf
 with_reducible and_intros
 omega
 · intro h1
   try simp only [dt] at h1
   trivial
 · intro h2
   try simp only [df] at h2
   trivial
 rfl
 · cases decide (r3=0)<;>cases S.inside r1 r2<;>rfl
 simp only [S.cT];by_cases h:r3=0<;>cases S.inside r1 r2<;>simp [h]
theorem anV(b:List UInt8)(p:Int)(hp:S.dC b p)(hf:Vg.Row.ok (Vg.PS.flat [.one (.slice [.int .u8]), .one (.int .i64)]) (b,p)):afr b p:=by
 delta afr q2 q3 q4 aU z0 z1 au
 have mi:b.length≤9223372036854775807:=hf.1.1
 have anW: -9223372036854775808≤p∧p≤9223372036854775807:=hf.2.1
 clear hf
 have s8:=hp
 simp only [S.dC] at s8
 refine⟨?_,?_⟩
 · refine⟨(nat_lit 0:Nat),?_⟩
   try dsimp only
   with_reducible and_intros
   exact(S.am3 b p).symm
   omega
   exact S.am2 hp
 intro x1 h2
 refine⟨?_,?_⟩
 · intro h3
   try simp only [dt] at h3
   with_reducible and_intros
   iterate 3 (grind [S.Wc,S.Lo])
 intro h4
 try simp only [df] at h4
 with_reducible and_intros
 iterate 2 omega
 · intro h5
   try simp only [dt] at h5
   with_reducible and_intros
   iterate 3 (grind [S.Wc,S.Lo])
 intro h6
 try simp only [df] at h6
 with_reducible and_intros
 omega
 · (have hg:=S.eW h2;omega)
 omega
 · (have hg:=S.eW h2;omega)
 omega
 · (have hg:=S.eW h2;omega)
 omega
 · (have hg:=S.eW h2;omega)
 iterate 2
  · have hg:=S.eW h2
    have hn:=S.gE ((b.getD (p+(x1:Int)).toNat 0).toNat:Int) (by omega)
    have hs:=S.sr (Vg.bf ((b.getD (p+(x1:Int)).toNat 0).toNat:Int) 127) x1 (by omega) (by omega) (by omega)
    try clear h8
    try clear h9
    clear hn
    generalize Vg.bf ((b.getD (p+(x1:Int)).toNat 0).toNat:Int) 127*2^(7*(x1:Int)).toNat=z at *
    omega
 · (have hg:=S.eW h2;have hv:=S.vL (b:=b) (p:=p) hg.1;have hw:=S.vL (b:=b) (p:=p) (x:=x1+1) (by omega);have hn:=S.gE ((b.getD (p+(x1:Int)).toNat 0).toNat:Int) (by omega);have hs:=S.sr (Vg.bf ((b.getD (p+(x1:Int)).toNat 0).toNat:Int) 127) x1 (by omega) (by omega) (by omega);exact hv.1)
 · (have hg:=S.eW h2;have hv:=S.vL (b:=b) (p:=p) hg.1;have hw:=S.vL (b:=b) (p:=p) (x:=x1+1) (by omega);have hn:=S.gE ((b.getD (p+(x1:Int)).toNat 0).toNat:Int) (by omega);have hs:=S.sr (Vg.bf ((b.getD (p+(x1:Int)).toNat 0).toNat:Int) 127) x1 (by omega) (by omega) (by omega);exact hs.1)
 omega
 · (have hg:=S.eW h2;omega)
 · intro h7
   try simp only [dt] at h7
   with_reducible and_intros
   · intro h8
     try simp only [dt] at h8
     with_reducible and_intros
     omega
     · have hg:=S.eW h2
       have hn:=S.gE ((b.getD (p+(x1:Int)).toNat 0).toNat:Int) (by omega)
       have hs:=S.sr (Vg.bf ((b.getD (p+(x1:Int)).toNat 0).toNat:Int) 127) x1 (by omega) (by omega) (by omega)
       try clear h8
       try clear h9
       clear hn
       generalize Vg.bf ((b.getD (p+(x1:Int)).toNat 0).toNat:Int) 127*2^(7*(x1:Int)).toNat=z at *
       omega
     omega
     · have hg:=S.eW h2
       have hn:=S.gE ((b.getD (p+(x1:Int)).toNat 0).toNat:Int) (by omega)
       have hs:=S.sr (Vg.bf ((b.getD (p+(x1:Int)).toNat 0).toNat:Int) 127) x1 (by omega) (by omega) (by omega)
       try clear h8
       try clear h9
       clear hn
       generalize Vg.bf ((b.getD (p+(x1:Int)).toNat 0).toNat:Int) 127*2^(7*(x1:Int)).toNat=z at *
       omega
     omega
     have hg:=S.eW h2
     have hn:=S.gE ((b.getD (p+(x1:Int)).toNat 0).toNat:Int) (by omega)
     have hs:=S.sr (Vg.bf ((b.getD (p+(x1:Int)).toNat 0).toNat:Int) 127) x1 (by omega) (by omega) (by omega)
     try clear h8
     try clear h9
     clear hn
     generalize Vg.bf ((b.getD (p+(x1:Int)).toNat 0).toNat:Int) 127*2^(7*(x1:Int)).toNat=z at *
     omega
   · intro h9
     try simp only [df] at h9
     trivial
   · intro dW
     with_reducible and_intros
     · exact(S.Ac hp h2 (by have hg:=S.eW h2;omega) (by omega) (by omega) dW).1
     · exact(S.Ac hp h2 (by have hg:=S.eW h2;omega) (by omega) (by omega) dW).2.1
     · exact(S.Ac hp h2 (by have hg:=S.eW h2;omega) (by omega) (by omega) dW).2.2
   intro fh
   with_reducible and_intros
   omega
   · clear fh
     have hg:=S.eW h2
     omega
   · exact(S.Ad hp h2 (by have hg:=S.eW h2;omega) (by omega) (by omega) fh).1
   · exact(S.Ad hp h2 (by have hg:=S.eW h2;omega) (by omega) (by omega) fh).2.1
   · exact(S.Ad hp h2 (by have hg:=S.eW h2;omega) (by omega) (by omega) fh).2.2
 intro cO
 try simp only [df] at cO
 refine⟨(x1+nat_lit 1),?_⟩
 try dsimp only
 with_reducible and_intros
 · (have hg:=S.eW h2;have hv:=S.vL (b:=b) (p:=p) hg.1;have hw:=S.vL (b:=b) (p:=p) (x:=x1+1) (by omega);have hn:=S.gE ((b.getD (p+(x1:Int)).toNat 0).toNat:Int) (by omega);have hs:=S.sr (Vg.bf ((b.getD (p+(x1:Int)).toNat 0).toNat:Int) 127) x1 (by omega) (by omega) (by omega);exact S.PU hp h2 (by omega))
 omega
 · (have hg:=S.eW h2;exact S.T4 hp h2 (by omega) (by omega) (by omega))
 · (have hg:=S.eW h2;simp only [S.ah];omega)
theorem ah7(b:List UInt8)(p:Int)(b9:Int)(hp:S.dC b p)(hf:Vg.Row.ok (Vg.PS.flat [.one (.slice [.int .u8]), .one (.int .i64), .one (.int .i64)]) (b,p,b9)):XX b p b9:=by
 delta XX q5 aU z0 au
 have mi:b.length≤9223372036854775807:=hf.1.1
 have anW: -9223372036854775808≤p∧p≤9223372036854775807:=hf.2.1
 have Y2: -9223372036854775808≤b9∧b9≤9223372036854775807:=hf.2.2.1
 clear hf
 have hb:=S.N0 hp
 with_reducible and_intros
 omega
 · intro h1
   try simp only [nt,df] at h1
   with_reducible and_intros
   iterate 3 (grind [S.bS])
 intro h2
 try simp only [nf,dt] at h2
 refine⟨?_,?_⟩
 · intro h3
   try simp only [dt] at h3
   with_reducible and_intros
   iterate 3 (grind [S.bS])
 intro h4
 try simp only [df] at h4
 with_reducible and_intros
 iterate 2 omega
 · intro h5
   try simp only [dt] at h5
   with_reducible and_intros
   iterate 3 (grind [S.bS])
 intro h6
 try simp only [df] at h6
 with_reducible and_intros
 iterate 7 omega
 iterate 3 (grind [S.bS])
theorem ah8(r1:List UInt8)(r2:Int)(r3:Int)(b9:Int)(hp:r1.length≤140737488355328)(hf:Vg.Row.ok (Vg.PS.flat [.agg [.slice [.int .u8], .int .i64, .int .i64], .one (.int .i64)]) (r1,r2,r3,b9)):XY r1 r2 r3 b9:=by
 delta XY lZ z0
 have Kb:r1.length≤9223372036854775807:=hf.1.1
 have Kc: -9223372036854775808≤r2∧r2≤9223372036854775807:=hf.2.1
 have Kd: -9223372036854775808≤r3∧r3≤9223372036854775807:=hf.2.2.1
 have Y2: -9223372036854775808≤b9∧b9≤9223372036854775807:=hf.2.2.2.1
 clear hf
 with_reducible and_intros
 omega
 · intro h1
   try simp only [nt,df] at h1
   with_reducible and_intros
   iterate 4 (grind [S.bj,S.dC,S.cT,S.inside])
 intro h2
 try simp only [nf,dt] at h2
 with_reducible and_intros
 grind [S.bj,S.dC,S.cT,S.inside]
 · intro h3
   try simp only [nt,df] at h3
   with_reducible and_intros
   iterate 4 (grind [S.bj,S.dC,S.cT,S.inside])
 intro h4
 try simp only [nf,dt] at h4
 with_reducible and_intros
 iterate 4 (grind [S.bj,S.dC,S.cT,S.inside])
theorem ah9(r1:List UInt8)(r2:Int)(r3:Int)(hp:r1.length≤140737488355328)(hf:Vg.Row.ok (Vg.PS.flat [.agg [.slice [.int .u8], .int .i64, .int .i64]]) (r1,r2,r3)):XZ r1 r2 r3:=by
 delta XZ lZ z0
 have Kb:r1.length≤9223372036854775807:=hf.1.1
 have Kc: -9223372036854775808≤r2∧r2≤9223372036854775807:=hf.2.1
 have Kd: -9223372036854775808≤r3∧r3≤9223372036854775807:=hf.2.2.1
 clear hf
 with_reducible and_intros
 omega
 · intro h1
   try simp only [nt,df] at h1
   with_reducible and_intros
   iterate 4 (grind [S.ag,S.dC,S.cT,S.inside])
 intro h2
 try simp only [nf,dt] at h2
 with_reducible and_intros
 grind [S.ag,S.dC,S.cT,S.inside]
 · intro h3
   try simp only [nt,df] at h3
   with_reducible and_intros
   iterate 4 (grind [S.ag,S.dC,S.cT,S.inside])
 intro h4
 try simp only [nf,dt] at h4
 with_reducible and_intros
 iterate 4 (grind [S.ag,S.dC,S.cT,S.inside])
theorem aia(c:Int)(hp:True)(hf:Vg.Row.ok (Vg.PS.flat [.one (.int .i64)]) c):X0 c:=by
 delta X0 z0
 have HN: -9223372036854775808≤c∧c≤9223372036854775807:=hf.1
 clear hf
 simp only [S.bm];grind
theorem aib(c:Int)(hp:True)(hf:Vg.Row.ok (Vg.PS.flat [.one (.int .i64)]) c):X1 c:=by
 delta X1 z1
 have HN: -9223372036854775808≤c∧c≤9223372036854775807:=hf.1
 clear hf
 refine⟨?_,?_⟩
 · intro h1
   try simp only [dt] at h1
   grind [S.cZ]
 intro h2
 try simp only [df] at h2
 refine⟨?_,?_⟩
 · intro h3
   try simp only [dt] at h3
   grind [S.cZ]
 intro h4
 try simp only [df] at h4
 refine⟨?_,?_⟩
 · intro h5
   try simp only [dt] at h5
   grind [S.cZ]
 intro h6
 try simp only [df] at h6
 grind [S.cZ]
theorem aic(c:Int)(hp:0≤c)(hf:Vg.Row.ok (Vg.PS.flat [.one (.int .i64)]) c):X2 c:=by
 delta X2 z0
 have HN: -9223372036854775808≤c∧c≤9223372036854775807:=hf.1
 clear hf
 have e:Vg.bf c 63%256=c%64:=by rw [S.D9 _ hp];omega
 with_reducible and_intros
 iterate 2 omega
 rw [e,S.uu]
 exact S.ů c
theorem aid(c:Int)(hp:True)(hf:Vg.Row.ok (Vg.PS.flat [.one (.int .i64)]) c):X3 c:=by
 delta X3 q6 q7 q8 q9 z0 z1
 have HN: -9223372036854775808≤c∧c≤9223372036854775807:=hf.1
 clear hf
 with_reducible and_intros
 trivial
 · intro h1
   try simp only [nt] at h1
   refine⟨?_,?_⟩
   · simp only [S.sX,nt] at *
     grind
   simp only [S.fg,nt] at *
   grind
 intro h2
 try simp only [nf] at h2
 with_reducible and_intros
 trivial
 · intro h3
   try simp only [dt] at h3
   refine⟨?_,?_⟩
   · (have hc:=S.dF h2;simp only [S.sX,h2];rfl)
   (have hc:=S.dF h2;(simp only [S.fg,h2,if_true];exact S.Ű c hc.1 (by simp only [S.cZ] at *;grind)))
 intro h4
 try simp only [df] at h4
 refine⟨?_,?_⟩
 · intro h5
   try simp only [dt] at h5
   with_reducible and_intros
   iterate 2 omega
   · (have hc:=S.dF h2;omega)
   · (have hc:=S.dF h2;simp only [S.sX,h2];rfl)
   · (have hc:=S.dF h2;(simp only [S.fg,h2,if_true];exact S.Ŵ c hc.1 (by simp only [S.cZ] at *;grind)))
 intro h6
 try simp only [df] at h6
 refine⟨?_,?_⟩
 · intro h7
   try simp only [dt] at h7
   with_reducible and_intros
   iterate 4 omega
   · (have hc:=S.dF h2;simp only [show Int.toNat 6=6 by rfl,show Int.toNat 12=12 by rfl,show Int.toNat 18=18 by rfl];omega)
   · (have hc:=S.dF h2;omega)
   · (have hc:=S.dF h2;simp only [S.sX,h2];rfl)
   · (have hc:=S.dF h2;(simp only [S.fg,h2,if_true];exact S.ŵ c hc.1 (by simp only [S.cZ] at *;grind)))
 intro h8
 try simp only [df] at h8
 with_reducible and_intros
 iterate 4 omega
 · (have hc:=S.dF h2;simp only [show Int.toNat 6=6 by rfl,show Int.toNat 12=12 by rfl,show Int.toNat 18=18 by rfl];omega)
 iterate 2 omega
 · (have hc:=S.dF h2;simp only [show Int.toNat 6=6 by rfl,show Int.toNat 12=12 by rfl,show Int.toNat 18=18 by rfl];omega)
 · (have hc:=S.dF h2;omega)
 · (have hc:=S.dF h2;simp only [S.sX,h2];rfl)
 · (have hc:=S.dF h2;(simp only [S.fg,h2,if_true];exact S.Ŷ c hc.1 hc.2 (by simp only [S.cZ] at *;grind)))
theorem aie(b:List UInt8)(hp:0<b.length)(hf:Vg.Row.ok (Vg.PS.flat [.one (.slice [.int .u8])]) b):X7 b:=by
 delta X7 wi X4 X5 X6 q14 O4 q16 q17 q18 q19 q20 q21 q22 q23 aU z0 z1 au
 have mi:b.length≤9223372036854775807:=hf.1.1
 clear hf
 have s8:(0:Int)<b.length:=by omega
 with_reducible and_intros
 iterate 2 omega
 · intro h1
   try simp only [dt] at h1
   refine⟨?_,?_⟩
   · rw [S.uf1 (b:=b) (by with_reducible assumption)]
   rw [S.uf1 (b:=b) (by with_reducible assumption)]
 intro h2
 try simp only [df] at h2
 with_reducible and_intros
 iterate 2 omega
 · intro h3
   try simp only [dt] at h3
   with_reducible and_intros
   iterate 2 omega
   · intro h4
     try simp only [dt] at h4
     refine⟨?_,?_⟩
     · (have hn:=S.pt (b:=b) (by with_reducible assumption) (by with_reducible assumption);rw [S.oG hn (by omega) (by omega)])
     (have hn:=S.pt (b:=b) (by with_reducible assumption) (by with_reducible assumption);rw [S.oG hn (by omega) (by omega)])
   intro h5
   try simp only [df] at h5
   with_reducible and_intros
   iterate 3 omega
   · refine⟨(nat_lit 0:Nat),?_⟩
     try dsimp only
     with_reducible and_intros
     omega
     · (have hn:=S.pt (b:=b) (by with_reducible assumption) (by with_reducible assumption);exact S.am7 (by with_reducible assumption))
     · (have hn:=S.pt (b:=b) (by with_reducible assumption) (by with_reducible assumption);exact S.N2 hn (by omega) (by omega))
   intro x6 h7
   refine⟨?_,?_⟩
   · intro h8
     try simp only [dt] at h8
     with_reducible and_intros
     iterate 4 omega
     · intro h9
       try simp only [nt,df,tn] at h9
       refine⟨?_,?_⟩
       · have hn:=S.pt (b:=b) (by with_reducible assumption) (by with_reducible assumption)
         have hb:=S.bu h7
         have hx:(x6:Int)+1<2:=by(have hc:=S.bL b 2 (by omega) (by omega);simp only [hc,show Int.toNat 2=2 by rfl] at *;omega)
         simp only [S.ik b 2 x6 hx,S.jV b 2 x6 hx] at *
         rw [S.ru hn h7 (by omega) (by with_reducible assumption)]
       have hn:=S.pt (b:=b) (by with_reducible assumption) (by with_reducible assumption)
       have hb:=S.bu h7
       have hx:(x6:Int)+1<2:=by(have hc:=S.bL b 2 (by omega) (by omega);simp only [hc,show Int.toNat 2=2 by rfl] at *;omega)
       simp only [S.ik b 2 x6 hx,S.jV b 2 x6 hx] at *
       rw [S.ru hn h7 (by omega) (by with_reducible assumption)]
     intro dW
     try simp only [nf,dt,tn] at dW
     with_reducible and_intros
     iterate 2 omega
     iterate 3
      · (have hn:=S.pt (b:=b) (by with_reducible assumption) (by with_reducible assumption);(have hb:=S.bu h7;(try simp only [S.bL b 2 (by omega) (by omega),show Int.toNat 2=2 by rfl] at *);simp only [show Int.toNat 6=6 by rfl,S.ah] at *;omega))
     exact Int.natCast_nonneg _
     omega
     · (have hn:=S.pt (b:=b) (by with_reducible assumption) (by with_reducible assumption);(have hb:=S.bu h7;(try simp only [S.bL b 2 (by omega) (by omega),show Int.toNat 2=2 by rfl] at *);omega))
     refine⟨(x6+nat_lit 1),?_⟩
     try dsimp only
     with_reducible and_intros
     omega
     · have hn:=S.pt (b:=b) (by with_reducible assumption) (by with_reducible assumption)
       have hb:=S.bu h7
       have hx:(x6:Int)+1<2:=by(have hc:=S.bL b 2 (by omega) (by omega);simp only [hc,show Int.toNat 2=2 by rfl] at *;omega)
       rw [S.ik b 2 x6 hx]
       exact S.N4 h7 (by omega)
     · have hn:=S.pt (b:=b) (by with_reducible assumption) (by with_reducible assumption)
       have hb:=S.bu h7
       have hx:(x6:Int)+1<2:=by(have hc:=S.bL b 2 (by omega) (by omega);simp only [hc,show Int.toNat 2=2 by rfl] at *;omega)
       simp only [S.ik b 2 x6 hx,S.jV b 2 x6 hx] at *
       exact S.JA h7 (by with_reducible assumption) (by omega)
     · (have hn:=S.pt (b:=b) (by with_reducible assumption) (by with_reducible assumption);(have hb:=S.bu h7;(try simp only [S.bL b 2 (by omega) (by omega),show Int.toNat 2=2 by rfl] at *);simp only [show Int.toNat 6=6 by rfl,S.ah] at *;omega))
   intro fh
   try simp only [df] at fh
   with_reducible and_intros
   trivial
   · intro cO
     try simp only [nt] at cO
     trivial
   · intro fj
     try simp only [nf] at fj
     trivial
   · intro fH
     try simp only [V.pQ,nt,df] at fH
     refine⟨?_,?_⟩
     · have hn:=S.pt (b:=b) (by with_reducible assumption) (by with_reducible assumption)
       have hb:=S.bu h7
       have hc:=S.bL b 2 (by omega) (by omega)
       rw [hc] at fh
       have hx:x6+1=2:=by omega
       rw [S.rv hn h7 hx fH rfl]
     have hn:=S.pt (b:=b) (by with_reducible assumption) (by with_reducible assumption)
     have hb:=S.bu h7
     have hc:=S.bL b 2 (by omega) (by omega)
     rw [hc] at fh
     have hx:x6+1=2:=by omega
     rw [S.rv hn h7 hx fH rfl]
   intro iQ
   try simp only [V.gm,nf,dt] at iQ
   refine⟨?_,?_⟩
   · have hn:=S.pt (b:=b) (by with_reducible assumption) (by with_reducible assumption)
     have hb:=S.bu h7
     have hc:=S.bL b 2 (by omega) (by omega)
     rw [hc] at fh
     have hx:x6+1=2:=by omega
     rw [S.ry hn h7 hx iQ rfl]
   have hn:=S.pt (b:=b) (by with_reducible assumption) (by with_reducible assumption)
   have hb:=S.bu h7
   have hc:=S.bL b 2 (by omega) (by omega)
   rw [hc] at fh
   have hx:x6+1=2:=by omega
   rw [S.ry hn h7 hx iQ rfl]
 intro xN
 try simp only [df] at xN
 with_reducible and_intros
 iterate 2 omega
 · intro xO
   try simp only [dt] at xO
   with_reducible and_intros
   iterate 2 omega
   · intro ma
     try simp only [dt] at ma
     refine⟨?_,?_⟩
     · (have hn:=S.pv (b:=b) (by with_reducible assumption) (by with_reducible assumption) (by with_reducible assumption);rw [S.oG hn (by omega) (by omega)])
     (have hn:=S.pv (b:=b) (by with_reducible assumption) (by with_reducible assumption) (by with_reducible assumption);rw [S.oG hn (by omega) (by omega)])
   intro AE
   try simp only [df] at AE
   with_reducible and_intros
   iterate 3 omega
   · refine⟨(nat_lit 0:Nat),?_⟩
     try dsimp only
     with_reducible and_intros
     omega
     · (have hn:=S.pv (b:=b) (by with_reducible assumption) (by with_reducible assumption) (by with_reducible assumption);exact S.am8 (by with_reducible assumption) (by with_reducible assumption))
     · (have hn:=S.pv (b:=b) (by with_reducible assumption) (by with_reducible assumption) (by with_reducible assumption);exact S.N2 hn (by omega) (by omega))
   intro wk qW
   refine⟨?_,?_⟩
   · intro h22
     try simp only [dt] at h22
     with_reducible and_intros
     iterate 4 omega
     · intro h23
       try simp only [nt,df,tn] at h23
       refine⟨?_,?_⟩
       · have hn:=S.pv (b:=b) (by with_reducible assumption) (by with_reducible assumption) (by with_reducible assumption)
         have hb:=S.bu qW
         have hx:(wk:Int)+1<3:=by(have hc:=S.bL b 3 (by omega) (by omega);simp only [hc,show Int.toNat 3=3 by rfl] at *;omega)
         simp only [S.ik b 3 wk hx,S.jV b 3 wk hx] at *
         rw [S.ru hn qW (by omega) (by with_reducible assumption)]
       have hn:=S.pv (b:=b) (by with_reducible assumption) (by with_reducible assumption) (by with_reducible assumption)
       have hb:=S.bu qW
       have hx:(wk:Int)+1<3:=by(have hc:=S.bL b 3 (by omega) (by omega);simp only [hc,show Int.toNat 3=3 by rfl] at *;omega)
       simp only [S.ik b 3 wk hx,S.jV b 3 wk hx] at *
       rw [S.ru hn qW (by omega) (by with_reducible assumption)]
     intro Vs
     try simp only [nf,dt,tn] at Vs
     with_reducible and_intros
     iterate 2 omega
     iterate 3
      · (have hn:=S.pv (b:=b) (by with_reducible assumption) (by with_reducible assumption) (by with_reducible assumption);(have hb:=S.bu qW;(try simp only [S.bL b 3 (by omega) (by omega),show Int.toNat 3=3 by rfl] at *);simp only [show Int.toNat 6=6 by rfl,S.ah] at *;omega))
     exact Int.natCast_nonneg _
     omega
     · (have hn:=S.pv (b:=b) (by with_reducible assumption) (by with_reducible assumption) (by with_reducible assumption);(have hb:=S.bu qW;(try simp only [S.bL b 3 (by omega) (by omega),show Int.toNat 3=3 by rfl] at *);omega))
     refine⟨(wk+nat_lit 1),?_⟩
     try dsimp only
     with_reducible and_intros
     omega
     · have hn:=S.pv (b:=b) (by with_reducible assumption) (by with_reducible assumption) (by with_reducible assumption)
       have hb:=S.bu qW
       have hx:(wk:Int)+1<3:=by(have hc:=S.bL b 3 (by omega) (by omega);simp only [hc,show Int.toNat 3=3 by rfl] at *;omega)
       rw [S.ik b 3 wk hx]
       exact S.N4 qW (by omega)
     · have hn:=S.pv (b:=b) (by with_reducible assumption) (by with_reducible assumption) (by with_reducible assumption)
       have hb:=S.bu qW
       have hx:(wk:Int)+1<3:=by(have hc:=S.bL b 3 (by omega) (by omega);simp only [hc,show Int.toNat 3=3 by rfl] at *;omega)
       simp only [S.ik b 3 wk hx,S.jV b 3 wk hx] at *
       exact S.JA qW (by with_reducible assumption) (by omega)
     · (have hn:=S.pv (b:=b) (by with_reducible assumption) (by with_reducible assumption) (by with_reducible assumption);(have hb:=S.bu qW;(try simp only [S.bL b 3 (by omega) (by omega),show Int.toNat 3=3 by rfl] at *);simp only [show Int.toNat 6=6 by rfl,S.ah] at *;omega))
   intro Pc
   try simp only [df] at Pc
   with_reducible and_intros
   trivial
   · intro h26
     try simp only [nt] at h26
     trivial
   · intro h27
     try simp only [nf] at h27
     trivial
   · intro Y3
     try simp only [V.pQ,nt,df] at Y3
     refine⟨?_,?_⟩
     · have hn:=S.pv (b:=b) (by with_reducible assumption) (by with_reducible assumption) (by with_reducible assumption)
       have hb:=S.bu qW
       have hc:=S.bL b 3 (by omega) (by omega)
       rw [hc] at Pc
       have hx:wk+1=3:=by omega
       rw [S.rv hn qW hx Y3 rfl]
     have hn:=S.pv (b:=b) (by with_reducible assumption) (by with_reducible assumption) (by with_reducible assumption)
     have hb:=S.bu qW
     have hc:=S.bL b 3 (by omega) (by omega)
     rw [hc] at Pc
     have hx:wk+1=3:=by omega
     rw [S.rv hn qW hx Y3 rfl]
   intro Y4
   try simp only [V.gm,nf,dt] at Y4
   refine⟨?_,?_⟩
   · have hn:=S.pv (b:=b) (by with_reducible assumption) (by with_reducible assumption) (by with_reducible assumption)
     have hb:=S.bu qW
     have hc:=S.bL b 3 (by omega) (by omega)
     rw [hc] at Pc
     have hx:wk+1=3:=by omega
     rw [S.ry hn qW hx Y4 rfl]
   have hn:=S.pv (b:=b) (by with_reducible assumption) (by with_reducible assumption) (by with_reducible assumption)
   have hb:=S.bu qW
   have hc:=S.bL b 3 (by omega) (by omega)
   rw [hc] at Pc
   have hx:wk+1=3:=by omega
   rw [S.ry hn qW hx Y4 rfl]
 intro h30
 try simp only [df] at h30
 with_reducible and_intros
 iterate 2 omega
 · intro h31
   try simp only [dt] at h31
   with_reducible and_intros
   iterate 2 omega
   · intro h32
     try simp only [dt] at h32
     refine⟨?_,?_⟩
     · (have hn:=S.pw (b:=b) (by with_reducible assumption) (by with_reducible assumption) (by with_reducible assumption) (by with_reducible assumption);rw [S.oG hn (by omega) (by omega)])
     (have hn:=S.pw (b:=b) (by with_reducible assumption) (by with_reducible assumption) (by with_reducible assumption) (by with_reducible assumption);rw [S.oG hn (by omega) (by omega)])
   intro Mw
   try simp only [df] at Mw
   with_reducible and_intros
   iterate 3 omega
   · refine⟨(nat_lit 0:Nat),?_⟩
     try dsimp only
     with_reducible and_intros
     omega
     · (have hn:=S.pw (b:=b) (by with_reducible assumption) (by with_reducible assumption) (by with_reducible assumption) (by with_reducible assumption);exact S.am9 (by with_reducible assumption) (by with_reducible assumption))
     · (have hn:=S.pw (b:=b) (by with_reducible assumption) (by with_reducible assumption) (by with_reducible assumption) (by with_reducible assumption);exact S.N2 hn (by omega) (by omega))
   intro wm qX
   refine⟨?_,?_⟩
   · intro h36
     try simp only [dt] at h36
     with_reducible and_intros
     iterate 4 omega
     · intro h37
       try simp only [nt,df,tn] at h37
       refine⟨?_,?_⟩
       · have hn:=S.pw (b:=b) (by with_reducible assumption) (by with_reducible assumption) (by with_reducible assumption) (by with_reducible assumption)
         have hb:=S.bu qX
         have hx:(wm:Int)+1<4:=by(have hc:=S.bL b 4 (by omega) (by omega);simp only [hc,show Int.toNat 4=4 by rfl] at *;omega)
         simp only [S.ik b 4 wm hx,S.jV b 4 wm hx] at *
         rw [S.ru hn qX (by omega) (by with_reducible assumption)]
       have hn:=S.pw (b:=b) (by with_reducible assumption) (by with_reducible assumption) (by with_reducible assumption) (by with_reducible assumption)
       have hb:=S.bu qX
       have hx:(wm:Int)+1<4:=by(have hc:=S.bL b 4 (by omega) (by omega);simp only [hc,show Int.toNat 4=4 by rfl] at *;omega)
       simp only [S.ik b 4 wm hx,S.jV b 4 wm hx] at *
       rw [S.ru hn qX (by omega) (by with_reducible assumption)]
     intro h38
     try simp only [nf,dt,tn] at h38
     with_reducible and_intros
     iterate 2 omega
     iterate 3
      · (have hn:=S.pw (b:=b) (by with_reducible assumption) (by with_reducible assumption) (by with_reducible assumption) (by with_reducible assumption);(have hb:=S.bu qX;(try simp only [S.bL b 4 (by omega) (by omega),show Int.toNat 4=4 by rfl] at *);simp only [show Int.toNat 6=6 by rfl,S.ah] at *;omega))
     exact Int.natCast_nonneg _
     omega
     · (have hn:=S.pw (b:=b) (by with_reducible assumption) (by with_reducible assumption) (by with_reducible assumption) (by with_reducible assumption);(have hb:=S.bu qX;(try simp only [S.bL b 4 (by omega) (by omega),show Int.toNat 4=4 by rfl] at *);omega))
     refine⟨(wm+nat_lit 1),?_⟩
     try dsimp only
     with_reducible and_intros
     omega
     · have hn:=S.pw (b:=b) (by with_reducible assumption) (by with_reducible assumption) (by with_reducible assumption) (by with_reducible assumption)
       have hb:=S.bu qX
       have hx:(wm:Int)+1<4:=by(have hc:=S.bL b 4 (by omega) (by omega);simp only [hc,show Int.toNat 4=4 by rfl] at *;omega)
       rw [S.ik b 4 wm hx]
       exact S.N4 qX (by omega)
     · have hn:=S.pw (b:=b) (by with_reducible assumption) (by with_reducible assumption) (by with_reducible assumption) (by with_reducible assumption)
       have hb:=S.bu qX
       have hx:(wm:Int)+1<4:=by(have hc:=S.bL b 4 (by omega) (by omega);simp only [hc,show Int.toNat 4=4 by rfl] at *;omega)
       simp only [S.ik b 4 wm hx,S.jV b 4 wm hx] at *
       exact S.JA qX (by with_reducible assumption) (by omega)
     · (have hn:=S.pw (b:=b) (by with_reducible assumption) (by with_reducible assumption) (by with_reducible assumption) (by with_reducible assumption);(have hb:=S.bu qX;(try simp only [S.bL b 4 (by omega) (by omega),show Int.toNat 4=4 by rfl] at *);simp only [show Int.toNat 6=6 by rfl,S.ah] at *;omega))
   intro MG
   try simp only [df] at MG
   with_reducible and_intros
   trivial
   · intro Nr
     try simp only [nt] at Nr
     trivial
   · intro Pd
     try simp only [nf] at Pd
     trivial
   · intro Y5
     try simp only [V.pQ,nt,df] at Y5
     refine⟨?_,?_⟩
     · have hn:=S.pw (b:=b) (by with_reducible assumption) (by with_reducible assumption) (by with_reducible assumption) (by with_reducible assumption)
       have hb:=S.bu qX
       have hc:=S.bL b 4 (by omega) (by omega)
       rw [hc] at MG
       have hx:wm+1=4:=by omega
       rw [S.rv hn qX hx Y5 rfl]
     have hn:=S.pw (b:=b) (by with_reducible assumption) (by with_reducible assumption) (by with_reducible assumption) (by with_reducible assumption)
     have hb:=S.bu qX
     have hc:=S.bL b 4 (by omega) (by omega)
     rw [hc] at MG
     have hx:wm+1=4:=by omega
     rw [S.rv hn qX hx Y5 rfl]
   intro Y6
   try simp only [V.gm,nf,dt] at Y6
   refine⟨?_,?_⟩
   · have hn:=S.pw (b:=b) (by with_reducible assumption) (by with_reducible assumption) (by with_reducible assumption) (by with_reducible assumption)
     have hb:=S.bu qX
     have hc:=S.bL b 4 (by omega) (by omega)
     rw [hc] at MG
     have hx:wm+1=4:=by omega
     rw [S.ry hn qX hx Y6 rfl]
   have hn:=S.pw (b:=b) (by with_reducible assumption) (by with_reducible assumption) (by with_reducible assumption) (by with_reducible assumption)
   have hb:=S.bu qX
   have hc:=S.bL b 4 (by omega) (by omega)
   rw [hc] at MG
   have hx:wm+1=4:=by omega
   rw [S.ry hn qX hx Y6 rfl]
 intro h44
 try simp only [df] at h44
 refine⟨?_,?_⟩
 · rw [S.uf0 (b:=b) (by with_reducible assumption) (by with_reducible assumption) (by with_reducible assumption) (by with_reducible assumption)]
 rw [S.uf0 (b:=b) (by with_reducible assumption) (by with_reducible assumption) (by with_reducible assumption) (by with_reducible assumption)]
theorem aiq(b:List UInt8)(hp:S.small b)(hf:Vg.Row.ok (Vg.PS.flat [.one (.slice [.int .u8])]) b):X8 b:=by
 delta X8 z0
 have mi:b.length≤9223372036854775807:=hf.1.1
 clear hf
 simp only [S.small] at hp
 refine⟨?_,?_⟩
 · refine⟨((b),([])),?_⟩
   try dsimp only
   with_reducible and_intros
   iterate 2 with_reducible rfl
   exact S.agX b
 intro x1 h2
 refine⟨?_,?_⟩
 · intro h3
   try simp only [dt] at h3
   with_reducible and_intros
   omega
   · (have hd:=S.JB h2 (by with_reducible assumption);simp only [S.len,List.length_drop,lc,ln] at *;omega)
   iterate 2
    · (have hd:=S.JB h2 (by with_reducible assumption);omega)
   refine⟨((List.drop (Int.toNat (Prod.snd (S.aM (Prod.fst x1)))) (Prod.fst x1)),(Prod.snd x1++ [Prod.fst (S.aM (Prod.fst x1))])),?_⟩
   try dsimp only
   with_reducible and_intros
   iterate 2 with_reducible rfl
   exact S.T7 h2 h3
   · (have hd:=S.JB h2 (by with_reducible assumption);simp only [S.len,List.length_drop,lc,ln] at *;omega)
 intro h4
 try simp only [df] at h4
 exact(S.Wf h2 (by with_reducible assumption))
theorem air(c:Int)(hp:True)(hf:Vg.Row.ok (Vg.PS.flat [.one (.int .i64)]) c):X9 c:=by
 delta X9 q24 aU z0 z1
 have HN: -9223372036854775808≤c∧c≤9223372036854775807:=hf.1
 clear hf
 refine⟨?_,?_⟩
 · refine⟨(nat_lit 0:Nat),?_⟩
   try dsimp only
   refine⟨?_,?_⟩
   · omega
   simp [S.k7]
 intro x1 h2
 refine⟨?_,?_⟩
 · intro h3
   try simp only [dt] at h3
   with_reducible and_intros
   iterate 2 omega
   · intro h4
     try simp only [V.Ha,dt,tn] at h4
     exact S.N6 (x:=x1) (by omega) (S.N9 h4)
   intro h5
   try simp only [V.vI,df,tn] at h5
   with_reducible and_intros
   iterate 2 omega
   refine⟨(x1+nat_lit 1),?_⟩
   try dsimp only
   with_reducible and_intros
   omega
   exact S.N7 (x:=x1) h2 (by omega) (S.Wg h5)
   simp only [S.ah];omega
 intro h6
 try simp only [df] at h6
 exact S.N8 h2 (by omega)
theorem ais(c:Int)(hp:True)(hf:Vg.Row.ok (Vg.PS.flat [.one (.int .i64)]) c):Ya c:=by
 unfold Ya
 have HN: -9223372036854775808≤c∧c≤9223372036854775807:=hf.1
 clear hf
 simp only [S.digit];grind
theorem ait(c:Int)(hp:True)(hf:Vg.Row.ok (Vg.PS.flat [.one (.int .i64)]) c):Yb c:=by
 delta Yb q25 aU z0 z1
 have HN: -9223372036854775808≤c∧c≤9223372036854775807:=hf.1
 clear hf
 refine⟨?_,?_⟩
 · refine⟨(nat_lit 0:Nat),?_⟩
   try dsimp only
   refine⟨?_,?_⟩
   · omega
   simp [S.lF]
 intro x1 h2
 refine⟨?_,?_⟩
 · intro h3
   try simp only [dt] at h3
   with_reducible and_intros
   iterate 2 omega
   · intro h4
     try simp only [V.Ha,dt,tn] at h4
     with_reducible and_intros
     iterate 2
      · have hs:=(S.Hf (c:=c) (x:=x1) h2 h3 (S.N9 h4)).2
        clear h4
        generalize List.getD [32,32,32,32,32,80,32] (Int.toNat (x1:Int)) (0:Int)=X at *
        omega
     exact(S.Hf (x:=x1) h2 (by omega) (S.N9 h4)).1
   intro h5
   try simp only [V.vI,df,tn] at h5
   with_reducible and_intros
   iterate 2 omega
   refine⟨(x1+nat_lit 1),?_⟩
   try dsimp only
   with_reducible and_intros
   omega
   exact S.T8 (x:=x1) h2 (by omega) (S.Wg h5)
   simp only [S.ah];omega
 intro h6
 try simp only [df] at h6
 exact S.T9 h2 (by omega)
theorem aiu(u:List Int)(hp:S.Wp u)(hf:Vg.Row.ok (Vg.PS.flat [.one (.slice [.int .i64])]) u):Yc u:=by
 delta Yc U1 aU lZ z0 z1 au
 have aq3:u.length≤9223372036854775807:=hf.1.1
 clear hf
 have hq:=hp.1
 refine⟨?_,?_⟩
 · refine⟨((nat_lit 0:Nat),([])),?_⟩
   try dsimp only
   with_reducible and_intros
   omega
   rfl
   exact S.ŷ u
 intro x1 h2
 refine⟨?_,?_⟩
 · intro h3
   try simp only [dt] at h3
   with_reducible and_intros
   iterate 2 omega
   iterate 2 trivial
   omega
   · have :=h2.2.2;have :=S.Hh (S.br (List.getD u (Int.toNat (x1.1:Int)) 0));omega
   · intro h4
     try simp only [dt,tn] at h4
     exact S.Oe h2 h3 h4
   intro h5
   try simp only [df,tn] at h5
   with_reducible and_intros
   · have :=h2.2.2;have :=S.Hh (S.br (List.getD u (Int.toNat (x1.1:Int)) 0));omega
   iterate 2 omega
   refine⟨((Prod.fst x1+nat_lit 1),(Prod.snd x1++S.fg (S.br (List.getD u (Int.toNat (↑(Prod.fst x1):Int)) (0:Int))))),?_⟩
   try dsimp only
   with_reducible and_intros
   omega
   rfl
   exact S.Od h2 h3 h5
   simp only [S.ah,S.len];omega
 intro h6
 try simp only [df] at h6
 exact S.Ud h2 (by with_reducible assumption)
theorem aiv(b:List UInt8)(hp:S.small b)(hf:Vg.Row.ok (Vg.PS.flat [.one (.slice [.int .u8])]) b):Yd b:=by
 delta Yd J5 O5 aU z0 z1 au
 have mi:b.length≤9223372036854775807:=hf.1.1
 clear hf
 have s9:b.length≤1099511627776:=hp
 with_reducible and_intros
 omega
 · refine⟨((nat_lit 0:Nat),(([]),([]))),?_⟩
   try dsimp only
   with_reducible and_intros
   omega
   iterate 2 with_reducible rfl
   exact S.agZ _
 intro x1 h2
 refine⟨?_,?_⟩
 · intro h3
   try simp only [dt] at h3
   with_reducible and_intros
   iterate 3 omega
   trivial
   · intro h4
     trivial
   · intro h5
     trivial
   · intro h6
     try simp only [V.pQ] at h6
     with_reducible and_intros
     · (have hq:=S.lH h2 s9;simp only [lc,ln];omega)
     omega
     · (have hq:=S.lH h2 s9;omega)
     refine⟨((Prod.fst x1+nat_lit 1),((Prod.fst (Prod.snd x1)),(Prod.snd (Prod.snd x1)++ [List.getD (S.decode b) (Int.toNat (↑(Prod.fst x1):Int)) (0:Int)]))),?_⟩
     try dsimp only
     with_reducible and_intros
     omega
     iterate 2 with_reducible rfl
     exact S.Ue h2 h3 (S.Wt (by with_reducible assumption))
     · (have hq:=S.lH h2 s9;simp only [S.ah,S.len];omega)
   intro h7
   try simp only [V.gm] at h7
   refine⟨?_,?_⟩
   · intro h8
     try simp only [dt] at h8
     with_reducible and_intros
     · (have hq:=S.lH h2 s9;exact hq.1)
     · (have hq:=S.lH h2 s9;simp only [lc,ln];omega)
     omega
     · (have hq:=S.lH h2 s9;omega)
     refine⟨((Prod.fst x1+nat_lit 1),((Prod.fst (Prod.snd x1)++ [S.gf (Prod.snd (Prod.snd x1))]),([]))),?_⟩
     try dsimp only
     with_reducible and_intros
     omega
     iterate 2 with_reducible rfl
     exact S.Wr h2 h3 (S.LA (by with_reducible assumption)) (by with_reducible assumption)
     · (have hq:=S.lH h2 s9;simp only [S.ah,S.len];omega)
   intro h9
   try simp only [df] at h9
   with_reducible and_intros
   omega
   · (have hq:=S.lH h2 s9;omega)
   refine⟨((Prod.fst x1+nat_lit 1),((Prod.fst (Prod.snd x1)),(Prod.snd (Prod.snd x1)))),?_⟩
   try dsimp only
   with_reducible and_intros
   omega
   iterate 2 with_reducible rfl
   exact S.Uf h2 h3 (S.LA (by with_reducible assumption)) (by with_reducible assumption)
   · (have hq:=S.lH h2 s9;simp only [S.ah,S.len];omega)
 intro dW
 try simp only [df] at dW
 refine⟨?_,?_⟩
 · intro fh
   try simp only [dt] at fh
   with_reducible and_intros
   · (have hq:=S.lH h2 s9;exact hq.1)
   · (have hq:=S.lH h2 s9;simp only [lc,ln];omega)
   exact S.Ug h2 (by with_reducible assumption) (by with_reducible assumption)
 intro cO
 try simp only [df] at cO
 exact S.Uh h2 (by with_reducible assumption) (by with_reducible assumption)
theorem aiw(s:List UInt8)(hp:S.small s)(hf:Vg.Row.ok (Vg.PS.flat [.one (.str)]) s):Ye s:=by
 delta Ye z0 z1 au
 have Y1:s.length≤9223372036854775807:=hf.1
 clear hf
 with_reducible and_intros
 omega
 · intro h1
   try simp only [dt] at h1
   with_reducible and_intros
   iterate 3 omega
 · intro h2
   try simp only [df] at h2
   trivial
 exact S.Ui s
theorem aix(s:List UInt8)(hp:True)(hf:Vg.Row.ok (Vg.PS.flat [.one (.str)]) s):Yf s:=by
 unfold Yf
 have Y1:s.length≤9223372036854775807:=hf.1
 clear hf
 simp
theorem aiy(a:List UInt8)(b:List UInt8)(hp:True)(hf:Vg.Row.ok (Vg.PS.flat [.one (.str), .one (.str)]) (a,b)):Yg a b:=by
 delta Yg z0 z1
 have Fg:a.length≤9223372036854775807:=hf.1
 have mi:b.length≤9223372036854775807:=hf.2.1
 clear hf
 with_reducible and_intros
 iterate 2 trivial
 · intro h1
   refine⟨?_,?_⟩
   · intro h2
     simp only [S.fY] at *;grind [S.bR,S.gG,S.iq]
   intro h3
   simp only [S.fY] at *;grind [S.bR,S.gG,S.iq]
 intro h4
 refine⟨?_,?_⟩
 · intro h5
   simp only [S.fY] at *;grind [S.bR,S.gG,S.iq]
 intro h6
 refine⟨?_,?_⟩
 · intro h7
   simp only [S.fY] at *;grind [S.bR,S.gG,S.iq]
 intro h8
 refine⟨?_,?_⟩
 · intro h9
   try simp only [nt] at h9
   simp only [S.fY] at *;grind [S.bR,S.gG,S.iq]
 intro dW
 try simp only [nf] at dW
 simp only [S.fY] at *;grind [S.bR,S.gG,S.iq]
theorem aiz(a:List UInt8)(b:List UInt8)(hp:True)(hf:Vg.Row.ok (Vg.TA.fc [.cD (.str), .cD (.str), .ref 50000 0]) (a,b))(hg:Vg.gg.ok [.cells [.fn (.func 137) [] []]] ((),())):Yh a b:=by
 delta Yh z0
 have Fg:a.length≤9223372036854775807:=hf.1
 have mi:b.length≤9223372036854775807:=hf.2.1
 clear hf hg
 refine⟨?_,?_⟩
 · trivial
 exact S.Ÿ a b
theorem aiA(l:List (List UInt8))(hp:S.small l)(hf:Vg.Row.ok (Vg.TA.fc [.own 50000, .fn (.func 152) [] [.ref 50001 0]]) ())(hg:Vg.gg.ok [.row 9 [.str], .cells [.fn (.func 137) [] []]] (l,((),()))):Yi l:=by
 delta Yi aU z0 z1 au
 have mj:l.length≤9223372036854775807:=hg.1.1
 clear hf hg
 have s9:l.length≤1099511627776:=hp
 refine⟨?_,?_⟩
 · intro h1
   try simp only [dt] at h1
   exact S.Oj h1
 intro h2
 try simp only [df] at h2
 refine⟨?_,?_⟩
 · refine⟨(nat_lit 1:Nat),?_⟩
   try dsimp only
   refine⟨?_,?_⟩
   · omega
   exact S.ag2 h2
 intro x3 h4
 refine⟨?_,?_⟩
 · intro h5
   try simp only [dt] at h5
   with_reducible and_intros
   iterate 5 omega
   · have :=h4.1;omega
   iterate 2 omega
   trivial
   · intro h6
     try simp only [dt,tn] at h6
     with_reducible and_intros
     iterate 2 omega
     · refine⟨((x3),((nat_lit 1:Nat),((l),(x3)))),?_⟩
       try dsimp only
       with_reducible and_intros
       iterate 2 omega
       trivial
       exact S.Ź h4 h5 h6
       omega
     intro x7 h8
     refine⟨?_,?_⟩
     · intro h9
       try simp only [dt,tn] at h9
       with_reducible and_intros
       iterate 2 omega
       · have q1:=h8.1.1;have q2:=h8.1.2.1;have q3:=h8.1.2.2.2.1;have q4:=h8.1.2.2.2.2.1;have q5:=h8.2;omega
       iterate 2 omega
       · have q1:=h8.1.1;have q2:=h8.1.2.1;have q3:=h8.1.2.2.2.1;have q4:=h8.1.2.2.2.2.1;have q5:=h8.2;omega
       omega
       · have q1:=h8.1.1;have q2:=h8.1.2.1;have q3:=h8.1.2.2.2.1;have q4:=h8.1.2.2.2.2.1;have q5:=h8.2;omega
       trivial
       · intro dW
         try simp only [nt,df,tn] at dW
         with_reducible and_intros
         iterate 2 omega
         · have q1:=h8.1.1;have q2:=h8.1.2.1;have q3:=h8.1.2.2.2.1;have q4:=h8.1.2.2.2.2.1;have q5:=h8.2;omega
         omega
         iterate 2
          · have q1:=h8.1.1;have q2:=h8.1.2.1;have q3:=h8.1.2.2.2.1;have q4:=h8.1.2.2.2.2.1;have q5:=h8.2;omega
         omega
         have q1:=h8.1.1;have q2:=h8.1.2.1;have q3:=h8.1.2.2.2.1;have q4:=h8.1.2.2.2.2.1;have q5:=h8.2;omega
       · intro fh
         try simp only [nf,dt,tn] at fh
         trivial
       iterate 2 omega
       refine⟨((Int.toNat (bif !Decidable.decide (List.getD (Prod.fst (Prod.snd (Prod.snd x7))) (Int.toNat (↑x3:Int)+Int.toNat (↑(Prod.fst (Prod.snd x7)):Int)) []=List.getD (Prod.fst (Prod.snd (Prod.snd x7))) (Int.toNat (↑x3:Int)+Int.toNat ((↑(Prod.fst (Prod.snd x7)):Int)-(1:Int))) []) then(↑(Prod.fst x7):Int)+(1:Int) else(↑(Prod.fst x7):Int))),((Prod.fst (Prod.snd x7)+nat_lit 1),((bif !Decidable.decide (List.getD (Prod.fst (Prod.snd (Prod.snd x7))) (Int.toNat (↑x3:Int)+Int.toNat (↑(Prod.fst (Prod.snd x7)):Int)) []=List.getD (Prod.fst (Prod.snd (Prod.snd x7))) (Int.toNat (↑x3:Int)+Int.toNat ((↑(Prod.fst (Prod.snd x7)):Int)-(1:Int))) []) then List.set (Prod.fst (Prod.snd (Prod.snd x7))) (Int.toNat (↑(Prod.fst x7):Int)) (List.getD (Prod.fst (Prod.snd (Prod.snd x7))) (Int.toNat (↑x3:Int)+Int.toNat (↑(Prod.fst (Prod.snd x7)):Int)) []) else Prod.fst (Prod.snd (Prod.snd x7))),(x3)))),?_⟩
       try dsimp only
       with_reducible and_intros
       · generalize (!decide (List.getD x7.2.2.1 (Int.toNat (x3:Int)+Int.toNat (x7.2.1:Int)) []=List.getD x7.2.2.1 (Int.toNat (x3:Int)+Int.toNat ((x7.2.1:Int)-1)) []))=c
         cases c<;>simp only [cond_true,cond_false]<;>omega
       omega
       trivial
       · have q1:=h8.1.1
         have e3:x7.2.2.2=x3:=by have :=h8.2;omega
         have hi:=h8.1
         rw [e3] at hi
         have e1:Int.toNat (x3:Int)+Int.toNat (x7.2.1:Int)=x3+x7.2.1:=by omega
         have e2:Int.toNat (x3:Int)+Int.toNat ((x7.2.1:Int)-1)=x3+x7.2.1-1:=by omega
         rw [e1,e2]
         by_cases hd:List.getD x7.2.2.1 (x3+x7.2.1) []=List.getD x7.2.2.1 (x3+x7.2.1-1) []
         · rw [decide_eq_true hd]
           exact S.Ol hi (by omega) hd
         rw [decide_eq_false hd]
         exact S.Ul hi (by omega) hd
       omega
       simp only [S.ah,S.len]
       have q2:=h8.1.2.1
       omega
     intro cO
     try simp only [df,tn] at cO
     with_reducible and_intros
     omega
     iterate 2
      · have q1:=h8.1.2.1
        have q2:=h8.1.2.2.2.1
        have q3:=h8.1.2.2.2.2.1
        omega
     omega
     · have q1:=h8.1.2.1
       have q2:=h8.1.2.2.2.1
       have q3:=h8.1.2.2.2.2.1
       simp only [List.length_append,List.length_take]
       omega
     have q1:=h8.1.2.1
     have q2:=h8.1.2.2.2.1
     have q3:=h8.1.2.2.2.2.1
     have e1:Int.toNat (x7.1:Int)=x7.1:=by omega
     rw [e1,S.LM (by omega)]
     exact S.Um h8.1 (by have :=h8.2;omega)
   intro fj
   try simp only [df,tn] at fj
   with_reducible and_intros
   iterate 2 omega
   refine⟨(x3+nat_lit 1),?_⟩
   try dsimp only
   with_reducible and_intros
   omega
   exact S.Uk h4 h5 fj
   simp only [S.ah,S.len]
   omega
 intro fH
 try simp only [df] at fH
 exact S.Wu h4 fH
theorem aiB(l:List (List UInt8))(hp:S.small l)(hf:Vg.Row.ok (Vg.TA.fc [.cD (.slice [.str]), .fn (.func 137) [] []]) l)(hg:Vg.gg.ok [] ()):Yj l:=by
 unfold Yj
 have mj:l.length≤9223372036854775807:=hf.1.1
 clear hf hg
 with_reducible and_intros
 iterate 2 exact hp
 exact S.JI hp
 rfl
theorem aiC(b:List UInt8)(hp:S.small b)(hf:Vg.Row.ok (Vg.PS.flat [.one (.slice [.int .u8])]) b):Yk b:=by
 unfold Yk
 have mi:b.length≤9223372036854775807:=hf.1.1
 clear hf
 with_reducible and_intros
 exact hp
 exact S.JH hp
 exact S.Wv _
theorem aiD(l:List Int)(hp:True)(hf:Vg.Row.ok (Vg.PS.flat [.one (.slice [.int .i64])]) l):Yl l:=by
 delta Yl q29 aU z0 z1 au
 have mj:l.length≤9223372036854775807:=hf.1.1
 clear hf
 refine⟨?_,?_⟩
 · refine⟨(nat_lit 0:Nat),?_⟩
   try dsimp only
   with_reducible and_intros
   omega
   exact(S.LF l).symm
   exact S.ż l
 intro x1 h2
 refine⟨?_,?_⟩
 · intro h3
   try simp only [dt] at h3
   with_reducible and_intros
   iterate 2 omega
   · intro h4
     try simp only [V.pQ,dt,tn] at h4
     exact S.Up h3 h4
   intro h5
   try simp only [V.gm,df,tn] at h5
   with_reducible and_intros
   iterate 2 omega
   refine⟨(x1+nat_lit 1),?_⟩
   try dsimp only
   with_reducible and_intros
   omega
   rw [S.qj,tn]
   exact S.On h2 h3 h5
   simp only [S.ah,S.len];omega
 intro h6
 try simp only [df] at h6
 exact S.Uq h2 (by with_reducible assumption)
theorem aiE(n:Int)(p:Bool)(q:Bool)(s1:Int)(s2:Int)(hp:True)(hf:Vg.Row.ok (Vg.TA.fc [.cD (.int .i64), .cD (.bool), .cD (.bool), .ref 50000 0]) (n,p,q))(hg:Vg.gg.ok [.cells [.cD (.int .i64), .cD (.int .i64)]] ((s1,s2),())):Ym n p q s1 s2:=by
 unfold Ym
 have Y7: -9223372036854775808≤n∧n≤9223372036854775807:=hf.1
 have sO: -9223372036854775808≤s1∧s1≤9223372036854775807:=hg.1.1
 have sP: -9223372036854775808≤s2∧s2≤9223372036854775807:=hg.1.2.1
 clear hf hg
 with_reducible and_intros
 · simp only [S.pB];grind
 iterate 2 rfl
theorem aiF(a:List Int)(b:List Int)(s1:Int)(s2:Int)(hp:b.length=0)(hf:Vg.Row.ok (Vg.TA.fc [.cD (.slice [.int .i64]), .cD (.slice [.int .i64]), .fn (.func 148) [] [.ref 50000 0]]) (a,b))(hg:Vg.gg.ok [.cells [.cD (.int .i64), .cD (.int .i64)]] ((s1,s2),())):Yo a b s1 s2:=by
 delta Yo Yn zy q32 q33 q34 q35 q36 z0 z1
 have hb:b= []:=List.eq_nil_of_length_eq_zero hp
 subst hb
 have ha:a.length≤9223372036854775807:=hf.1.1
 clear hf hg
 refine⟨trivial,trivial,?_,?_⟩
 · refine⟨(S.Uo a,[]),⟨?_,?_,rfl,rfl,rfl⟩,S.Ž a s1 s2⟩
   · simp only [S.Uo];cases S.fE a<;>rfl
   simp [S.fF]
 rintro⟨r,out⟩ h
 have hl:=h.2
 cases r with
 |nil=>simp [S.fF];exact S.Ut h
 |cons n r=>
  simp [S.fF]
  refine⟨by omega,fun hn=>⟨?_,?_⟩,fun hn=> ?_⟩
  · simp at hl;omega
  · exact⟨r,out++ [n],⟨rfl,rfl⟩,S.Us h hn,by simp [S.len]⟩
  exact⟨r,out,⟨rfl,rfl⟩,S.Wx h hn,by simp [S.len]⟩
theorem aiG(l:List Int)(s1:Int)(s2:Int)(hp:True)(hf:Vg.Row.ok (Vg.PS.flat [.one (.slice [.int .i64]), .agg [.int .i64, .int .i64]]) (l,s1,s2)):Yp l s1 s2:=by
 unfold Yp
 have mj:l.length≤9223372036854775807:=hf.1.1
 have sO: -9223372036854775808≤s1∧s1≤9223372036854775807:=hf.2.1
 have sP: -9223372036854775808≤s2∧s2≤9223372036854775807:=hf.2.2.1
 clear hf
 refine⟨?_,?_⟩
 · rfl
 rfl
theorem aiH(d:List (List UInt8×List Int))(hp:S.jv d)(hf:Vg.Row.ok (Vg.PS.flat [.one (.slice [.str, .slice [.int .i64]])]) d):Yq d:=by
 delta Yq E7 q38 q39 aU z0 z1 au
 have anX:d.length≤9223372036854775807:=hf.1.1
 clear hf
 have s9:=hp.1
 refine⟨?_,?_⟩
 · refine⟨(nat_lit 0:Nat),?_⟩
   try dsimp only
   refine⟨?_,?_⟩
   · omega
   exact S.anb d
 intro x1 h2
 refine⟨?_,?_⟩
 · intro h3
   try simp only [dt] at h3
   with_reducible and_intros
   iterate 2 omega
   · intro h4
     try simp only [dt] at h4
     with_reducible and_intros
     iterate 4 omega
   · intro h5
     try simp only [df] at h5
     trivial
   · intro h6
     try simp only [V.Ha,dt] at h6
     refine S.PX h3 ((S.Eo _ _).2 (.inl ⟨by omega,?_⟩))
     have e:Int.toNat ((x1:Int)-1)=x1-1:=by omega
     have h62:=h6.2
     rw [e] at h62
     exact h62
   intro h7
   try simp only [V.vI,df] at h7
   with_reducible and_intros
   · intro h8
     try simp only [dt,tn] at h8
     trivial
   · intro h9
     try simp only [df,tn] at h9
     with_reducible and_intros
     trivial
     · intro dW
       try simp only [nt] at dW
       trivial
     intro fh
     try simp only [nf] at fh
     exact S.Uu hp
   · intro cO
     try simp only [V.pQ,dt,tn,nt] at cO
     exact S.PX h3 ((S.Eo _ _).2 (.inr (cO.imp (fun q=>by have :((S.iC d x1).length:Int)=0:=q;omega) id)))
   intro fj
   try simp only [V.gm,df,tn,nf] at fj
   with_reducible and_intros
   iterate 2 omega
   refine⟨(x1+nat_lit 1),?_⟩
   try dsimp only
   with_reducible and_intros
   omega
   · refine S.WA h2 h3 ((S.rA _ _).2 ⟨?_,?_,fj.2.1,fj.2.2⟩)
     rotate_left
     · have :=fj.1
       simp only [S.iC];omega
     rcases h7 with h7|h7
     · left;omega
     right
     have e:Int.toNat ((x1:Int)-1)=x1-1:=by omega
     rw [e] at h7
     exact h7
   simp only [S.ah,S.len];omega
 intro fH
 try simp only [df] at fH
 exact S.aaa h2 (by with_reducible assumption)
theorem aiI(a:List (List UInt8))(b:List (List UInt8))(hp:True)(hf:Vg.Row.ok (Vg.PS.flat [.one (.slice [.slice [.int .u8]]), .one (.slice [.slice [.int .u8]])]) (a,b)):Yr a b:=by
 delta Yr aU z0 z1 au
 have Fg:a.length≤9223372036854775807:=hf.1.1
 have mi:b.length≤9223372036854775807:=hf.2.1.1
 clear hf
 refine⟨?_,?_⟩
 · intro h1
   try simp only [nt,df] at h1
   exact S.Oq h1
 intro h2
 try simp only [nf,dt] at h2
 refine⟨?_,?_⟩
 · refine⟨(nat_lit 0:Nat),?_⟩
   try dsimp only
   refine⟨?_,?_⟩
   · omega
   exact S.WC h2
 intro x3 h4
 refine⟨?_,?_⟩
 · intro h5
   try simp only [dt] at h5
   with_reducible and_intros
   iterate 4 omega
   · intro h6
     try simp only [nt,df,tn] at h6
     exact S.Oo h6
   intro h7
   try simp only [nf,dt,tn] at h7
   with_reducible and_intros
   iterate 2 omega
   refine⟨(x3+nat_lit 1),?_⟩
   try dsimp only
   with_reducible and_intros
   omega
   exact S.LG h4 h5 h7
   simp only [S.ah,S.len];omega
 intro h8
 try simp only [df] at h8
 exact S.Ot h4 h8
theorem aiJ(s1:Int)(s2:Int)(hp:True)(hf:Vg.Row.ok (Vg.PS.flat [.agg [.int .i64, .int .i64]]) (s1,s2)):Ys s1 s2:=by
 delta Ys z0
 have sO: -9223372036854775808≤s1∧s1≤9223372036854775807:=hf.1
 have sP: -9223372036854775808≤s2∧s2≤9223372036854775807:=hf.2.1
 clear hf
 simp only [S.iP,S.Ed]
theorem aiK(s1:Int)(s2:Int)(s3:List (List UInt8×List Int))(hp:S.jv s3)(hf:Vg.Row.ok (Vg.PS.flat [.agg [.int .i64, .int .i64, .slice [.str, .slice [.int .i64]]]]) (s1,s2,s3)):Yt s1 s2 s3:=by
 delta Yt q40 aU z0 z1 au
 have sO: -9223372036854775808≤s1∧s1≤9223372036854775807:=hf.1
 have sP: -9223372036854775808≤s2∧s2≤9223372036854775807:=hf.2.1
 have Ke:s3.length≤9223372036854775807:=hf.2.2.1.1
 clear hf
 with_reducible and_intros
 trivial
 · intro h1
   try simp only [nt] at h1
   trivial
 · intro h2
   try simp only [nf] at h2
   omega
 · intro h3
   try simp only [V.pQ,nt] at h3
   exact S.aad h3
 intro h4
 try simp only [V.gm,nf] at h4
 refine⟨?_,?_⟩
 · refine⟨(nat_lit 0:Nat),?_⟩
   try dsimp only
   refine⟨?_,?_⟩
   · omega
   exact S.ag6 h4.1 h4.2
 intro x5 h6
 refine⟨?_,?_⟩
 · intro h7
   try simp only [dt] at h7
   with_reducible and_intros
   iterate 2 omega
   trivial
   · intro h8
     try simp only [nt,df,tn] at h8
     exact S.WH h7 (decide_eq_false h8)
   intro h9
   try simp only [nf,dt,tn] at h9
   with_reducible and_intros
   iterate 2 omega
   refine⟨(x5+nat_lit 1),?_⟩
   try dsimp only
   with_reducible and_intros
   omega
   exact S.UA h6 h7 (decide_eq_true h9)
   simp only [S.ah,S.len];omega
 intro dW
 try simp only [df] at dW
 exact S.WI h6 dW
theorem aiL(docs:List (List UInt8))(s1:Int)(s2:Int)(hp:True)(hf:Vg.Row.ok (Vg.PS.flat [.one (.slice [.slice [.int .u8]]), .agg [.int .i64, .int .i64]]) (docs,s1,s2)):Yu docs s1 s2:=by
 delta Yu z0 z1
 have anZ:docs.length≤9223372036854775807:=hf.1.1
 have sO: -9223372036854775808≤s1∧s1≤9223372036854775807:=hf.2.1
 have sP: -9223372036854775808≤s2∧s2≤9223372036854775807:=hf.2.2.1
 clear hf
 with_reducible and_intros
 trivial
 · intro h1
   try simp only [nt,df] at h1
   with_reducible and_intros
   iterate 3 (rw [(S.LN (by simpa using h1)).1])
   have q:=S.LN (docs:=docs) (a:=s1) (b:=s2) (by simpa using h1)
   rw [q.1,q.2]
 intro h2
 try simp only [nf,dt] at h2
 refine⟨?_,?_⟩
 · intro h3
   try simp only [dt] at h3
   with_reducible and_intros
   iterate 3 (rw [S.LO h3])
   rw [S.LO h3]
 intro h4
 try simp only [df] at h4
 with_reducible and_intros
 iterate 3 (rw [S.LP (by simpa using h2) h4])
 rw [S.LP (by simpa using h2) h4]
theorem aiM(l:List (Int×Int×List (List UInt8×List Int)))(hp:S.nI l)(hf:Vg.Row.ok (Vg.PS.flat [.one (.slice [.int .i64, .int .i64, .slice [.str, .slice [.int .i64]]])]) l):Yw l:=by
 delta Yw Yv E8 O6 U2 u6 Cc GC aU Cb z0 z1 au
 have mj:l.length≤9223372036854775807:=hf.1.1
 clear hf
 with_reducible and_intros
 iterate 2 omega
 · have :=hp.1;omega
 · refine⟨0,?_⟩
   try dsimp only
   with_reducible and_intros
   rfl
   · simp only [S.az];exact S.aaj l
   omega
 intro x1 h2
 refine⟨?_,?_⟩
 · refine⟨(0,x1),?_⟩
   try dsimp only
   with_reducible and_intros
   omega
   rfl
   iterate 2 omega
   rfl
 intro x3 h4
 refine⟨?_,?_⟩
 · intro h5
   try simp only [dt] at h5
   with_reducible and_intros
   iterate 3 omega
   iterate 2
    · rw [S.fQ];omega
   · intro h6
     try simp only [dt,tn] at h6
     with_reducible and_intros
     iterate 2 omega
     refine⟨(x3.1+1,x3.2),?_⟩
     try dsimp only
     with_reducible and_intros
     omega
     · rw [←h4.2];exact S.W3 h6
     iterate 2 omega
     exact h4.2
     simp only [S.ah,S.len];omega
   intro h7
   try simp only [df,tn] at h7
   with_reducible and_intros
   · intro h8
     try simp only [dt] at h8
     trivial
   · intro h9
     try simp only [df] at h9
     with_reducible and_intros
     omega
     iterate 2
      · rw [S.fQ];omega
     exact S.W2 l _ _
     exact S.anj h5 h7
     omega
     · rw [←h4.2] at h9 ⊢;first|exact(S.fG h4.1.1 h9).1|exact(S.fG h4.1.1 h9).2.1|exact(S.fG h4.1.1 h9).2.2.1|exact(S.fG h4.1.1 h9).2.2.2
     omega
     iterate 2
      · rw [←h4.2] at h9 ⊢;first|exact(S.fG h4.1.1 h9).1|exact(S.fG h4.1.1 h9).2.1|exact(S.fG h4.1.1 h9).2.2.1|exact(S.fG h4.1.1 h9).2.2.2
     exact S.W2 l _ _
     rw [←h4.2] at h9 ⊢;first|exact(S.fG h4.1.1 h9).1|exact(S.fG h4.1.1 h9).2.1|exact(S.fG h4.1.1 h9).2.2.1|exact(S.fG h4.1.1 h9).2.2.2
   iterate 2 omega
   refine⟨(x3.1+1,x3.2),?_⟩
   try dsimp only
   with_reducible and_intros
   omega
   · rw [←h4.2];exact S.W4 h7
   iterate 2 omega
   exact h4.2
   simp only [S.ah,S.len];omega
 intro dW
 try simp only [df] at dW
 refine⟨?_,?_⟩
 · intro fh
   try simp only [dt] at fh
   rw [←h4.2] at fh;exact S.ahe hp h4.1.1 dW fh
 intro cO
 try simp only [df] at cO
 with_reducible and_intros
 omega
 · rw [←h4.2] at cO ⊢;first|exact(S.fG h4.1.1 cO).1|exact(S.fG h4.1.1 cO).2.1|exact(S.fG h4.1.1 cO).2.2.1|exact(S.fG h4.1.1 cO).2.2.2
 omega
 iterate 2
  · rw [←h4.2] at cO ⊢;first|exact(S.fG h4.1.1 cO).1|exact(S.fG h4.1.1 cO).2.1|exact(S.fG h4.1.1 cO).2.2.1|exact(S.fG h4.1.1 cO).2.2.2
 exact S.W2 l _ _
 · rw [←h4.2] at cO ⊢;first|exact(S.fG h4.1.1 cO).1|exact(S.fG h4.1.1 cO).2.1|exact(S.fG h4.1.1 cO).2.2.1|exact(S.fG h4.1.1 cO).2.2.2
 · refine⟨(0,x1),?_⟩
   try dsimp only
   with_reducible and_intros
   omega
   exact S.ahc l x1
   · rw [←h4.2] at cO ⊢;exact(S.P2 hp h4.1.1 dW cO).2
   rfl
   omega
   · rw [←h4.2] at cO;exact(S.P2 hp h4.1.1 dW cO).1
   rfl
 intro tc fH
 refine⟨?_,?_⟩
 · intro iQ
   try simp only [dt] at iQ
   with_reducible and_intros
   iterate 3 omega
   exact(S.qR iQ).1
   exact(S.qR iQ).2
   · intro xN
     try simp only [dt,tn] at xN
     with_reducible and_intros
     omega
     exact(S.qR iQ).1
     exact(S.qR iQ).2
     exact(S.W5 iQ).1
     exact xN
   · intro xO
     try simp only [df,tn] at xO
     trivial
   · intro ma
     try simp only [V.Ha,dt,tn] at ma
     with_reducible and_intros
     omega
     exact(S.qR iQ).1
     exact(S.qR iQ).2
     exact(S.W5 iQ).1
     exact ma.1
     · have q:=S.aai hp (k:=tc.2) iQ;exact Nat.le_trans (Nat.add_le_add q.1 q.2) (by decide)
     omega
     exact(S.qR iQ).1
     exact(S.qR iQ).2
     exact(S.aeO hp iQ).1
     exact(S.aeO hp iQ).2
     omega
     exact(S.qR iQ).1
     exact(S.qR iQ).2
     iterate 2 omega
     refine⟨(tc.1+1,tc.2),?_⟩
     try dsimp only
     with_reducible and_intros
     omega
     exact(S.W6 hp fH.1.2 iQ ma.1 ma.2).1
     rfl
     exact(S.W6 hp fH.1.2 iQ ma.1 ma.2).2
     iterate 2 omega
     exact fH.2
     simp only [S.ah,S.len];omega
   intro AE
   try simp only [V.vI,df,tn] at AE
   with_reducible and_intros
   iterate 2 omega
   refine⟨(tc.1+1,tc.2),?_⟩
   try dsimp only
   with_reducible and_intros
   omega
   exact(S.P3 hp fH.1.2 iQ (fun q=>AE.elim (fun z=>z q.1) (fun z=>z q.2))).1
   rfl
   exact(S.P3 hp fH.1.2 iQ (fun q=>AE.elim (fun z=>z q.1) (fun z=>z q.2))).2
   iterate 2 omega
   exact fH.2
   simp only [S.ah,S.len];omega
 intro Kf
 try simp only [df] at Kf
 refine⟨?_,?_⟩
 · have :=S.ank hp h2;simp only [List.length_singleton];omega
 refine⟨(x1+1),?_⟩
 try dsimp only
 with_reducible and_intros
 · have e:=S.JQ fH.2 h2 (Nat.le_of_lt fH.1.2);subst e;exact(S.W7 fH.1.1 Kf fH.1.2).1
 · have e:=S.JQ fH.2 h2 (Nat.le_of_lt fH.1.2);subst e;exact(S.W7 fH.1.1 Kf fH.1.2).2
 · have e:=S.JQ fH.2 h2 (Nat.le_of_lt fH.1.2);have e2:=fH.1.2;first|omega|(simp only [S.ah];omega)
 have e:=S.JQ fH.2 h2 (Nat.le_of_lt fH.1.2);have e2:=fH.1.2;first|omega|(simp only [S.ah];omega)
theorem aiN(l:List (Int×Int×List (List UInt8×List Int)))(hp:S.rC l)(hf:Vg.Row.ok (Vg.PS.flat [.one (.slice [.int .i64, .int .i64, .slice [.str, .slice [.int .i64]]])]) l):Yx l:=by
 delta Yx Mz q49 aU z0 z1 au
 have mj:l.length≤9223372036854775807:=hf.1.1
 clear hf
 refine⟨?_,?_⟩
 · intro h1
   try simp only [dt] at h1
   with_reducible and_intros
   iterate 3 (rw [S.W8 h1])
   rw [S.W8 h1]
 intro h2
 try simp only [df] at h2
 refine⟨?_,?_⟩
 · refine⟨(nat_lit 0:Nat),?_⟩
   try dsimp only
   refine⟨?_,?_⟩
   · omega
   exact S.aak hp h2
 intro x3 h4
 refine⟨?_,?_⟩
 · intro h5
   try simp only [dt] at h5
   with_reducible and_intros
   iterate 2 omega
   exact hp.2 _ (S.ir (show x3<l.length by omega))
   · intro h6
     try simp only [nt] at h6
     with_reducible and_intros
     iterate 3 (rw [S.W9 h5 h6])
     rw [S.W9 h5 h6]
   intro h7
   try simp only [nf] at h7
   with_reducible and_intros
   iterate 2 omega
   refine⟨(x3+nat_lit 1),?_⟩
   try dsimp only
   with_reducible and_intros
   omega
   exact S.aal h4 h5 h7
   simp only [S.ah,S.len];omega
 intro h8
 try simp only [df] at h8
 refine⟨?_,?_⟩
 · refine⟨0,?_⟩
   try dsimp only
   refine⟨?_,?_⟩
   · omega
   exact S.aam h4 h8
 intro x9 dW
 refine⟨?_,?_⟩
 · intro fh
   try simp only [dt] at fh
   with_reducible and_intros
   iterate 6 omega
   · intro cO
     try simp only [nt,df] at cO
     with_reducible and_intros
     iterate 3 (rw [S.Xa dW fh cO])
     rw [S.Xa dW fh cO]
   intro fj
   try simp only [nf,dt] at fj
   with_reducible and_intros
   iterate 2 omega
   refine⟨(x9+1),?_⟩
   try dsimp only
   with_reducible and_intros
   omega
   exact S.aan dW fh fj
   simp only [S.ah,S.len];omega
 intro fH
 try simp only [df] at fH
 with_reducible and_intros
 iterate 6 omega
 exact S.ahg dW
 iterate 2
  · rw [S.OM dW fH];rfl
 rw [S.OM dW fH]
 rw [S.OM dW fH]
theorem aiO(s1:Int)(s2:Int)(hp:True)(hf:Vg.Row.ok (Vg.PS.flat [.agg [.int .i64, .int .i64]]) (s1,s2)):Yy s1 s2:=by
 delta Yy q50 aU z0 z1
 have sO: -9223372036854775808≤s1∧s1≤9223372036854775807:=hf.1
 have sP: -9223372036854775808≤s2∧s2≤9223372036854775807:=hf.2.1
 clear hf
 refine⟨?_,?_⟩
 · intro h1
   try simp only [V.pQ,dt] at h1
   exact S.WY h1
 intro h2
 try simp only [V.gm,df] at h2
 with_reducible and_intros
 iterate 2 omega
 · refine⟨(Int.toNat (s2-s1)),?_⟩
   try dsimp only
   with_reducible and_intros
   omega
   · rw [S.L3 (by omega)];omega
   exact S.aag h2
 intro x3 h4
 refine⟨?_,?_⟩
 · intro h5
   try simp only [dt] at h5
   with_reducible and_intros
   iterate 2
    · have q1:=S.WO (s2-s1) (by omega);have q2:=S.aah (n:=(x3:Int)) h5;have q3:=S.aeN (s2-s1);have q4:=S.WZ h4;have q5:=S.WO (x3:Int) (by omega);omega
   iterate 2 omega
   refine⟨(Int.toNat ((↑x3:Int)/(2:Int))),?_⟩
   try dsimp only
   with_reducible and_intros
   omega
   exact S.W0 h5
   exact S.OL h4 h5
   omega
 intro h6
 try simp only [df] at h6
 exact S.UI h2 h4 h6
theorem aiP(l:List (Int×Int))(hp:True)(hf:Vg.Row.ok (Vg.PS.flat [.one (.slice [.int .i64, .int .i64])]) l):YB l:=by
 delta YB Yz YA aU z0 z1 au
 have mj:l.length≤9223372036854775807:=hf.1.1
 clear hf
 with_reducible and_intros
 iterate 2 omega
 · refine⟨0,?_⟩
   try dsimp only
   refine⟨?_,?_⟩
   · simp only [S.ah,S.len] at *;omega
   exact S.n_0 l
 intro x1 h2
 refine⟨?_,?_⟩
 · intro h3
   try simp only [dt] at h3
   with_reducible and_intros
   omega
   · simp only [S.ah,S.len] at *;omega
   trivial
   omega
   · simp only [S.ah,S.len] at *;omega
   omega
   · simp only [S.ah,S.len] at *;omega
   trivial
   · intro h4
     try simp only [dt] at h4
     refine⟨?_,?_⟩
     · rw [S.Xb h2 h3 h4]
     rw [S.Xb h2 h3 h4]
   intro h5
   try simp only [df] at h5
   with_reducible and_intros
   omega
   · simp only [S.ah,S.len] at *;omega
   refine⟨(x1+1),?_⟩
   try dsimp only
   with_reducible and_intros
   omega
   exact S.anl h2 h3 h5
   simp only [S.ah,S.len] at *;omega
 intro h6
 try simp only [df] at h6
 refine⟨?_,?_⟩
 · rw [S.Xc h2 h6]
 rw [S.Xc h2 h6]
theorem aiQ(l:List (Int×Int×List (List UInt8×List Int)))(hp:S.small l)(hf:Vg.Row.ok (Vg.PS.flat [.one (.slice [.int .i64, .int .i64, .slice [.str, .slice [.int .i64]]])]) l):YC l:=by
 delta YC aU z0 z1 au
 have mj:l.length≤9223372036854775807:=hf.1.1
 clear hf
 refine⟨?_,?_⟩
 · refine⟨(nat_lit 0:Nat),?_⟩
   try dsimp only
   with_reducible and_intros
   omega
   simp [S.gH,S.cr]
   omega
 intro x1 h2
 refine⟨?_,?_⟩
 · intro h3
   try simp only [dt] at h3
   with_reducible and_intros
   iterate 2 omega
   · have :=S.JR l x1;simp only [List.length_singleton,S.small] at *;omega
   iterate 2 omega
   refine⟨(x1+nat_lit 1),?_⟩
   try dsimp only
   with_reducible and_intros
   omega
   exact S.L5 h3
   omega
   simp only [S.ah,S.len] at *;omega
 intro h4
 try simp only [df] at h4
 exact S.ON h4
theorem aiR(l:List UInt8)(hp:S.small l)(hf:Vg.Row.ok (Vg.PS.flat [.one (.slice [.int .u8])]) l):YD l:=by
 delta YD lZ
 have mj:l.length≤9223372036854775807:=hf.1.1
 clear hf
 with_reducible and_intros
 · intro h1
   exact h1.symm
 · simp only [S.small,Vg.fb,ln] at *;omega
 rfl
theorem aiS(l:List (List UInt8×List Int))(hp:S.small l)(hf:Vg.Row.ok (Vg.PS.flat [.one (.slice [.str, .slice [.int .i64]])]) l):YE l:=by
 unfold YE
 have mj:l.length≤9223372036854775807:=hf.1.1
 clear hf
 with_reducible and_intros
 · intro h1
   exact h1.symm
 · simp only [S.small,Vg.fb,ln] at *;omega
 rfl
theorem aiT(a:List Int)(b:List Int)(hp:True)(hf:Vg.Row.ok (Vg.PS.flat [.one (.slice [.int .i64]), .one (.slice [.int .i64])]) (a,b)):YF a b:=by
 delta YF aU z0 z1 au
 have Fg:a.length≤9223372036854775807:=hf.1.1
 have mi:b.length≤9223372036854775807:=hf.2.1.1
 clear hf
 refine⟨?_,?_⟩
 · intro h1
   try simp only [nt,df] at h1
   exact(decide_eq_false (S.L7 h1)).symm
 intro h2
 try simp only [nf,dt] at h2
 refine⟨?_,?_⟩
 · refine⟨(nat_lit 0:Nat),?_⟩
   try dsimp only
   refine⟨?_,?_⟩
   · omega
   exact S.Xd h2
 intro x3 h4
 refine⟨?_,?_⟩
 · intro h5
   try simp only [dt] at h5
   with_reducible and_intros
   iterate 4 omega
   · intro h6
     try simp only [nt,df,tn] at h6
     exact(decide_eq_false (S.L8 0 h6)).symm
   intro h7
   try simp only [nf,dt,tn] at h7
   with_reducible and_intros
   iterate 2 omega
   refine⟨(x3+nat_lit 1),?_⟩
   try dsimp only
   with_reducible and_intros
   omega
   exact S.Hr 0 h4 h5 h7
   simp only [S.ah,S.len,S.gh,S.gS] at *;omega
 intro h8
 try simp only [df] at h8
 exact(decide_eq_true (S.L6 h4 h8)).symm
theorem aiU(a1:List UInt8)(a2:List Int)(b1:List UInt8)(b2:List Int)(hp:True)(hf:Vg.Row.ok (Vg.PS.flat [.agg [.str, .slice [.int .i64]], .agg [.str, .slice [.int .i64]]]) (a1,a2,b1,b2)):YG a1 a2 b1 b2:=by
 unfold YG
 have Y8:a1.length≤9223372036854775807:=hf.1
 have Y9:a2.length≤9223372036854775807:=hf.2.1.1
 have aqj:b1.length≤9223372036854775807:=hf.2.2.1
 have aqk:b2.length≤9223372036854775807:=hf.2.2.2.1.1
 clear hf
 with_reducible and_intros
 · intro h1
   try simp only [dt] at h1
   trivial
 · intro h2
   try simp only [df] at h2
   trivial
 simp only [S.uO,S.Aq];cases decide (a1=b1)<;>rfl
theorem aiV(a:List (List UInt8×List Int))(b:List (List UInt8×List Int))(hp:True)(hf:Vg.Row.ok (Vg.TA.fc [.cD (.slice [.str, .slice [.int .i64]]), .cD (.slice [.str, .slice [.int .i64]]), .fn (.func 109) [] []]) (a,b))(hg:Vg.gg.ok [] ()):YH a b:=by
 delta YH q53 aU z0 z1 au
 have Fg:a.length≤9223372036854775807:=hf.1.1
 have mi:b.length≤9223372036854775807:=hf.2.1.1
 clear hf hg
 refine⟨?_,?_⟩
 · intro h1
   try simp only [nt,df] at h1
   exact(decide_eq_false (S.L7 h1)).symm
 intro h2
 try simp only [nf,dt] at h2
 refine⟨?_,?_⟩
 · refine⟨(nat_lit 0:Nat),?_⟩
   try dsimp only
   refine⟨?_,?_⟩
   · omega
   exact S.Xd h2
 intro x3 h4
 refine⟨?_,?_⟩
 · intro h5
   try simp only [dt] at h5
   with_reducible and_intros
   iterate 4 omega
   trivial
   · intro h6
     try simp only [nt] at h6
     exact(decide_eq_false (S.L8 ([],[]) (S.aaq h6))).symm
   intro h7
   try simp only [nf] at h7
   with_reducible and_intros
   iterate 2 omega
   refine⟨(x3+nat_lit 1),?_⟩
   try dsimp only
   with_reducible and_intros
   omega
   exact S.Hr ([],[]) h4 h5 (S.aap h7)
   simp only [S.ah,S.len,S.gh,S.gS] at *;omega
 intro h8
 try simp only [df] at h8
 exact(decide_eq_true (S.L6 h4 h8)).symm
theorem aiW(a:List (List UInt8×List Int))(b:List (List UInt8×List Int))(hp:True)(hf:Vg.Row.ok (Vg.PS.flat [.one (.slice [.str, .slice [.int .i64]]), .one (.slice [.str, .slice [.int .i64]])]) (a,b)):YI a b:=by
 unfold YI
 have Fg:a.length≤9223372036854775807:=hf.1.1
 have mi:b.length≤9223372036854775807:=hf.2.1.1
 clear hf
 refine⟨?_,?_⟩
 · trivial
 rfl
theorem aiX(y1:List (List UInt8))(y2:List (Int×Int×List (List UInt8×List Int)))(hp:True)(hf:Vg.Row.ok (Vg.PS.flat [.agg [.slice [.slice [.int .u8]], .slice [.int .i64, .int .i64, .slice [.str, .slice [.int .i64]]]]]) (y1,y2)):YJ y1 y2:=by
 delta YJ J6 O7 q56 aU z0 z1 au
 have mN:y1.length≤9223372036854775807:=hf.1.1
 have mO:y2.length≤9223372036854775807:=hf.2.1.1
 clear hf
 refine⟨?_,?_⟩
 · intro h1
   try simp only [V.pQ,dt] at h1
   exact S.anm h1
 intro h2
 try simp only [V.gm,df] at h2
 refine⟨?_,?_⟩
 · refine⟨(nat_lit 0:Nat),?_⟩
   try dsimp only
   refine⟨?_,?_⟩
   · omega
   exact⟨by omega,by omega,S.aab _⟩
 intro x3 h4
 refine⟨?_,?_⟩
 · intro h5
   try simp only [dt] at h5
   with_reducible and_intros
   iterate 2 omega
   · intro h6
     try simp only [dt,tn] at h6
     exact S.ann h5 h6
   intro h7
   try simp only [df,tn] at h7
   with_reducible and_intros
   iterate 2 omega
   refine⟨(x3+nat_lit 1),?_⟩
   try dsimp only
   with_reducible and_intros
   omega
   exact⟨h4.1,h4.2.1,S.Ou h4.2.2 h5 (by omega)⟩
   simp only [S.ah,S.len,S.gh,S.gS] at *;omega
 intro h8
 try simp only [df] at h8
 refine⟨?_,?_⟩
 · refine⟨(nat_lit 0:Nat),?_⟩
   try dsimp only
   with_reducible and_intros
   omega
   rfl
   exact S.Xe h4 h8
 intro x9 dW
 refine⟨?_,?_⟩
 · intro fh
   try simp only [dt] at fh
   with_reducible and_intros
   iterate 2 omega
   · intro cO
     try simp only [V.pQ,nt,df,tn,dt] at cO
     exact S.P4 fh (S.ano cO)
   intro fj
   try simp only [V.gm,nf,dt,tn,df] at fj
   with_reducible and_intros
   trivial
   · intro fH
     try simp only [nt,df,tn] at fH
     trivial
   · intro iQ
     try simp only [nf,dt,tn] at iQ
     trivial
   · intro xN
     try simp only [V.pQ,nt,df,tn] at xN
     exact S.P4 fh (S.anp dW fj xN)
   intro xO
   try simp only [V.gm,nf,dt,tn] at xO
   with_reducible and_intros
   iterate 2 omega
   refine⟨(x9+nat_lit 1),?_⟩
   try dsimp only
   with_reducible and_intros
   omega
   exact S.UJ _ _
   exact S.Xf dW fh (S.anq dW fj xO)
   simp only [S.ah,S.len,S.gh,S.gS] at *;omega
 intro ma
 try simp only [df] at ma
 exact S.aao dW ma
theorem aiY(y1:List (List UInt8))(y2:List (Int×Int×List (List UInt8×List Int)))(hp:True)(hf:Vg.Row.ok (Vg.PS.flat [.agg [.slice [.slice [.int .u8]], .slice [.int .i64, .int .i64, .slice [.str, .slice [.int .i64]]]]]) (y1,y2)):YK y1 y2:=by
 unfold YK
 have mN:y1.length≤9223372036854775807:=hf.1.1
 have mO:y2.length≤9223372036854775807:=hf.2.1.1
 clear hf
 with_reducible and_intros
 trivial
 · intro h1
   try simp only [nt] at h1
   refine⟨?_,?_⟩
   · rw [S.L9 h1]
   rw [S.L9 h1]
 intro h2
 try simp only [nf] at h2
 refine⟨?_,?_⟩
 · rw [S.gd h2]
 rw [S.gd h2]
theorem aiZ(y1:List (List UInt8))(y2:List (Int×Int×List (List UInt8×List Int)))(hp:True)(hf:Vg.Row.ok (Vg.PS.flat [.agg [.slice [.slice [.int .u8]], .slice [.int .i64, .int .i64, .slice [.str, .slice [.int .i64]]]]]) (y1,y2)):YL y1 y2:=by
 delta YL aU z0 z1 au
 have mN:y1.length≤9223372036854775807:=hf.1.1
 have mO:y2.length≤9223372036854775807:=hf.2.1.1
 clear hf
 refine⟨?_,?_⟩
 · intro h1
   try simp only [dt] at h1
   exact S.ahh h1
 intro h2
 try simp only [df] at h2
 with_reducible and_intros
 iterate 4 omega
 exact S.ahi h2
theorem ai0(y1:List (List UInt8))(y2:List (Int×Int×List (List UInt8×List Int)))(hp:S.lL y1 y2)(hf:Vg.Row.ok (Vg.PS.flat [.agg [.slice [.slice [.int .u8]], .slice [.int .i64, .int .i64, .slice [.str, .slice [.int .i64]]]]]) (y1,y2)):YM y1 y2:=by
 delta YM GF aU Cb z0 z1 au
 have mN:y1.length≤9223372036854775807:=hf.1.1
 have mO:y2.length≤9223372036854775807:=hf.2.1.1
 clear hf
 with_reducible and_intros
 iterate 2 omega
 · have :=hp.1;omega
 iterate 2 omega
 · have :=hp.2.1;omega
 · refine⟨(nat_lit 0:Nat),?_⟩
   try dsimp only
   with_reducible and_intros
   omega
   exact S.P5 _ _
   simp only [S.ah,S.len,S.gh,S.gS] at *;omega
 intro x1 h2
 refine⟨?_,?_⟩
 · intro h3
   try simp only [dt] at h3
   with_reducible and_intros
   iterate 2 omega
   exact S.Bz hp _
   omega
   exact(S.vQ _ h3).1
   exact(S.vQ _ h3).2
   iterate 2 omega
   refine⟨(x1+nat_lit 1),?_⟩
   try dsimp only
   with_reducible and_intros
   omega
   exact S.Ma _ h3
   · simp only [S.ah,S.len,S.gh,S.gS] at *;omega
   simp only [S.ah,S.len,S.gh,S.gS] at *;omega
 intro h4
 try simp only [df] at h4
 refine⟨?_,?_⟩
 · refine⟨(nat_lit 0:Nat),?_⟩
   try dsimp only
   with_reducible and_intros
   omega
   exact S.P5 _ _
   simp only [S.ah,S.len,S.gh,S.gS] at *;omega
 intro x5 h6
 refine⟨?_,?_⟩
 · intro h7
   try simp only [dt] at h7
   with_reducible and_intros
   iterate 2 omega
   exact(S.mI hp _).1
   omega
   exact(S.vQ _ h7).1
   exact(S.vQ _ h7).2
   · refine⟨((nat_lit 0:Nat),((Int.toNat (↑x5:Int)),(List.set (S.cU ((0:Int),(0:Int),[]) y2 x5) (Int.toNat (↑x5:Int)) (Prod.fst (List.getD y2 (Int.toNat (↑x5:Int)) ((0:Int),(0:Int),[])),Prod.fst (Prod.snd (List.getD y2 (Int.toNat (↑x5:Int)) ((0:Int),(0:Int),[]))),[])))),?_⟩
     try dsimp only
     with_reducible and_intros
     omega
     rfl
     omega
     rfl
     exact S.ahj h7
     omega
   intro x8 h9
   refine⟨?_,?_⟩
   · intro dW
     try simp only [dt,tn] at dW
     with_reducible and_intros
     omega
     trivial
     omega
     iterate 2
      · have q:=h9.1.2.2.1;have q2:=h9.1.1;have q3:=h9.2;omega
     omega
     exact(S.mI hp _).2 _
     omega
     iterate 2
      · have e:x5=x8.2.1:=(by omega);subst e;first|exact dW|exact Int.ofNat_lt.1 dW
     omega
     · have q:=(S.mI hp x5).1;exact S.Hu q dW
     refine⟨((Prod.fst x8+nat_lit 1),((Prod.fst (Prod.snd x8)),(Prod.snd (Prod.snd x8)))),?_⟩
     try dsimp only
     with_reducible and_intros
     omega
     rfl
     omega
     · have e:x5=x8.2.1:=(by omega);subst e;exact S.jQ _ _ _
     · have e:x5=x8.2.1:=(by omega);subst e;exact S.UK h9.1 dW
     omega
     have e:x5=x8.2.1:=(by omega);subst e;exact S.UL dW
   intro fh
   try simp only [df,tn] at fh
   with_reducible and_intros
   · have q:=h9.1.2.2.1;have q2:=h9.1.1;have q3:=h9.2;omega
   iterate 2 omega
   refine⟨(x5+nat_lit 1),?_⟩
   try dsimp only
   with_reducible and_intros
   omega
   · have e:x5=x8.2.1:=(by omega);subst e;exact S.Xg h9.1
   · simp only [S.ah,S.len,S.gh,S.gS] at *;omega
   simp only [S.ah,S.len,S.gh,S.gS] at *;omega
 intro cO
 try simp only [df] at cO
 refine⟨?_,?_⟩
 · exact S.Ht _ h4
 exact S.Ht _ cO
theorem ai1(l:List (Int×Int×List (List UInt8×List Int)))(i:Int)(m:Int)(s1:Int)(s2:Int)(s3:List (List UInt8×List Int))(hp:S.rF l i m)(hf:Vg.Row.ok (Vg.PS.flat [.one (.slice [.int .i64, .int .i64, .slice [.str, .slice [.int .i64]]]), .one (.int .i64), .one (.int .i64), .agg [.int .i64, .int .i64, .slice [.str, .slice [.int .i64]]]]) (l,i,m,s1,s2,s3)):YN l i m s1 s2 s3:=by
 delta YN aU z0 au
 have mj:l.length≤9223372036854775807:=hf.1.1
 have an0: -9223372036854775808≤i∧i≤9223372036854775807:=hf.2.1
 have afs: -9223372036854775808≤m∧m≤9223372036854775807:=hf.2.2.1
 have sO: -9223372036854775808≤s1∧s1≤9223372036854775807:=hf.2.2.2.1
 have sP: -9223372036854775808≤s2∧s2≤9223372036854775807:=hf.2.2.2.2.1
 have Ke:s3.length≤9223372036854775807:=hf.2.2.2.2.2.1.1
 clear hf
 with_reducible and_intros
 exact hp.2.1
 rfl
 · obtain⟨q1,q2,q3,q4⟩:=hp;first|omega|(simp only [List.length_append,List.length_take,List.length_drop,List.length_singleton];omega)
 exact Nat.one_pos
 iterate 6
  · obtain⟨q1,q2,q3,q4⟩:=hp;first|omega|(simp only [List.length_append,List.length_take,List.length_drop,List.length_singleton];omega)
 · unfold S.pF;rw [show(i+m).toNat=i.toNat+m.toNat by have :=hp.2;omega]
theorem ai2(y1:List (List UInt8))(y2:List (Int×Int×List (List UInt8×List Int)))(d:List UInt8)(hp:True)(hf:Vg.Row.ok (Vg.PS.flat [.agg [.slice [.slice [.int .u8]], .slice [.int .i64, .int .i64, .slice [.str, .slice [.int .i64]]]], .one (.slice [.int .u8])]) (y1,y2,d)):YO y1 y2 d:=by
 delta YO z0 z1 au
 have mN:y1.length≤9223372036854775807:=hf.1.1
 have mO:y2.length≤9223372036854775807:=hf.2.1.1
 have anX:d.length≤9223372036854775807:=hf.2.2.1.1
 clear hf
 with_reducible and_intros
 trivial
 · intro h1
   try simp only [dt] at h1
   with_reducible and_intros
   iterate 2 (rw [S.aeR h1])
   rw [S.aeR h1]
 intro h2
 try simp only [df] at h2
 refine⟨?_,?_⟩
 · intro h3
   try simp only [dt] at h3
   with_reducible and_intros
   iterate 2 (rw [S.aeS h2 h3])
   rw [S.aeS h2 h3]
 intro h4
 try simp only [df] at h4
 with_reducible and_intros
 exact S.qt _ _
 · simp only [S.small];omega
 · have :=(S.pG y1 y2).1;simp only [List.length_singleton];omega
 iterate 2 (rw [S.Xh h2 h4])
 rw [S.Xh h2 h4]
theorem ai3(y1:List (List UInt8))(y2:List (Int×Int×List (List UInt8×List Int)))(hp:True)(hf:Vg.Row.ok (Vg.PS.flat [.agg [.slice [.slice [.int .u8]], .slice [.int .i64, .int .i64, .slice [.str, .slice [.int .i64]]]]]) (y1,y2)):YP y1 y2:=by
 delta YP GG z0
 have mN:y1.length≤9223372036854775807:=hf.1.1
 have mO:y2.length≤9223372036854775807:=hf.2.1.1
 clear hf
 with_reducible and_intros
 iterate 2 trivial
 · intro h1
   try simp only [dt] at h1
   with_reducible and_intros
   iterate 2 (rw [S.aeT h1])
   rw [S.aeT h1]
 intro h2
 try simp only [df] at h2
 refine⟨?_,?_⟩
 · intro h3
   try simp only [dt] at h3
   with_reducible and_intros
   iterate 2 (rw [S.aeU h2 h3])
   rw [S.aeU h2 h3]
 intro h4
 try simp only [df] at h4
 with_reducible and_intros
 trivial
 · intro h5
   try simp only [nt,df] at h5
   with_reducible and_intros
   iterate 3 (exact absurd (by rw [S.aeV h2]) h5)
 intro h6
 try simp only [nf,dt] at h6
 with_reducible and_intros
 exact S.qt _ _
 · have :=(S.pG y1 y2).2.1;simp only [List.length_singleton];omega
 iterate 2 (rw [S.aeW h2 h4])
 rw [S.aeW h2 h4]
theorem ai4(y1:List (List UInt8))(y2:List (Int×Int×List (List UInt8×List Int)))(i:Int)(m:Int)(hp:True)(hf:Vg.Row.ok (Vg.PS.flat [.agg [.slice [.slice [.int .u8]], .slice [.int .i64, .int .i64, .slice [.str, .slice [.int .i64]]]], .one (.int .i64), .one (.int .i64)]) (y1,y2,i,m)):YQ y1 y2 i m:=by
 delta YQ MA q60 aU z0 z1
 have mN:y1.length≤9223372036854775807:=hf.1.1
 have mO:y2.length≤9223372036854775807:=hf.2.1.1
 have an0: -9223372036854775808≤i∧i≤9223372036854775807:=hf.2.2.1
 have afs: -9223372036854775808≤m∧m≤9223372036854775807:=hf.2.2.2.1
 clear hf
 with_reducible and_intros
 trivial
 · intro h1
   try simp only [dt] at h1
   trivial
 · intro h2
   try simp only [df] at h2
   refine⟨?_,?_⟩
   · intro h3
     try simp only [dt] at h3
     trivial
   intro h4
   try simp only [df] at h4
   refine⟨?_,?_⟩
   · intro h5
     try simp only [dt] at h5
     trivial
   intro h6
   try simp only [df] at h6
   refine⟨?_,?_⟩
   · have :=(S.pG y1 y2).2.1;omega
   have :=(S.pG y1 y2).2.1;omega
 · intro h7
   try simp only [V.pQ,dt] at h7
   with_reducible and_intros
   iterate 2 (rw [S.aeY h7])
   rw [S.aeY h7]
 intro h8
 try simp only [V.gm,df] at h8
 with_reducible and_intros
 iterate 5
  · have :=(S.pG y1 y2).2.1;omega
 exact(S.P6 h8).1
 · intro h9
   try simp only [nt,df] at h9
   with_reducible and_intros
   iterate 3 (exact absurd (by rw [(S.P6 h8).2.1]) h9)
 intro dW
 try simp only [nf,dt] at dW
 with_reducible and_intros
 exact S.qt _ _
 exact(S.P6 h8).2.2
 iterate 2 (rw [S.aeZ h8])
 rw [S.aeZ h8]
theorem ai5(y1:List (List UInt8))(y2:List (Int×Int×List (List UInt8×List Int)))(hp:True)(hf:Vg.Row.ok (Vg.PS.flat [.agg [.slice [.slice [.int .u8]], .slice [.int .i64, .int .i64, .slice [.str, .slice [.int .i64]]]]]) (y1,y2)):YR y1 y2:=by
 delta YR O8 GH aU z0
 have mN:y1.length≤9223372036854775807:=hf.1.1
 have mO:y2.length≤9223372036854775807:=hf.2.1.1
 clear hf
 with_reducible and_intros
 trivial
 exact S.qt _ _
 · refine⟨(S.cr (S.ao y1 y2).2),?_⟩
   try dsimp only
   refine⟨?_,?_⟩
   · exact(S.kJ y1 y2).eq
   exact S.anr _ _
 intro x1 h2
 with_reducible and_intros
 exact S.ans h2
 trivial
 · intro h3
   try simp only [nt] at h3
   refine⟨?_,?_⟩
   · rfl
   exact S.aar h2 h3
 intro h4
 try simp only [nf] at h4
 with_reducible and_intros
 iterate 5
  · have q:=S.ae0 h2 h4;omega
 exact(S.EH h2 h4 rfl).1
 · intro h5
   try simp only [nt,df] at h5
   refine⟨?_,?_⟩
   · exact absurd (S.EH h2 h4 rfl).2.1 h5
   exact absurd (S.EH h2 h4 rfl).2.1 h5
 intro h6
 try simp only [nf,dt] at h6
 refine⟨?_,?_⟩
 · exact(S.EH h2 h4 rfl).2.2.1
 refine⟨(S.je x1 (S.dE (S.cr (S.aB (S.ao y1 y2).1 x1))).1.toNat),?_⟩
 try dsimp only
 with_reducible and_intros
 exact(S.EH h2 h4 rfl).2.2.2.1
 exact(S.EH h2 h4 rfl).2.2.2.2.1
 exact(S.EH h2 h4 rfl).2.2.2.2.2
theorem aa1(b:List UInt8)(hp:True)(hf:Vg.Row.ok (Vg.PS.flat [.one (.slice [.int .u8])]) b):Qm b:=by
 delta Qm q63 Cb z0
 refine⟨by omega,?_⟩
 simp only [List.length_replicate,List.drop_replicate,Go.S.copied]
 rfl
theorem aa2(n:Int)(hp:S.rG n)(hf:Vg.Row.ok (Vg.PS.flat [.one (.int .i64)]) n):Qn n:=by
 delta Qn q64 J7 aU Cb z0 z1
 simp only [Go.S.rG] at hp
 refine⟨by omega,⟨by omega,by omega,by omega⟩,⟨by omega,by omega,by omega⟩,⟨0,⟨rfl,by simp,rfl⟩,by simp [Go.S.uR]⟩,fun x hx=>⟨fun h=> ?_,fun h=> ?_⟩⟩
 · simp only [Go.S.uR] at hx
   simp only [List.length_replicate,dt] at h ⊢
   refine⟨by omega,by omega,by omega,by omega,by omega,by omega,by omega,x+1,⟨by omega,by trivial,by trivial,by trivial⟩,?_,?_⟩<;>simp only [Go.S.uR,Go.S.ah]<;>omega
 simp only [Go.S.uR] at hx
 simp only [List.length_replicate,df] at h
 refine⟨rfl,by omega,rfl,?_⟩
 simp only [Go.S.pH]
 congr 1;omega
theorem aa3(d1:List (List UInt8))(d2:List (Int×List UInt8))(hp:S.pI d1)(hf:Vg.Row.ok (Vg.PS.flat [.agg [.slice [.slice [.int .u8]], .slice [.int .i64, .slice [.int .u8]]]]) (d1,d2)):Qo d1 d2:=by
 delta Qo aU z0 z1 au
 obtain⟨h1,h2⟩:=hp
 refine⟨⟨by omega,by omega⟩,⟨0,⟨rfl,?_⟩,by simp [Go.S.fe]⟩,fun x hx=>⟨fun h=> ?_,fun h=> ?_⟩⟩
 · simp [Go.S.pH,Go.S.fR]
 · simp only [dt] at h
   have jK:x<d1.length:=by omega
   have hf:=Go.S.gv (d1.take x) fun b hb=>h2 b (List.mem_of_mem_take hb)
   have hb:=h2 _ (Go.S.bo d1 x [] jK)
   have hs:Go.S.fR d1 x=(d1.take x++List.replicate (d1.length-x) (List.replicate 64 0)).flatten:=by
    simp only [Go.S.fR,List.flatten_append,List.flatten_replicate_replicate]
   have oA:∀b∈d1.take x++List.replicate (d1.length-x) (List.replicate 64 (0:UInt8)),b.length=64:=by
    intro b hb
    rcases List.mem_append.1 hb with hb|hb
    · exact h2 b (List.mem_of_mem_take hb)
    rw [(List.mem_replicate.1 hb).2,List.length_replicate]
   simp only [tn]
   refine⟨by omega,by omega,jK,?_,by omega,x+1,⟨by omega,?_⟩,?_,?_⟩
   · simp only [Go.S.fR,List.length_append,hf,List.length_take,List.length_replicate]
     omega
   · rw [hs,hb,show Min.min 64 64=64 by rfl,List.take_of_length_le (l:=d1.getD x []) (by omega)]
     have :=Go.S.oz _ x (d1.getD x []) oA (by simp;omega) (by omega)
     rw [hb] at this
     have h0:=oA _ (Go.S.bo (d1.take x++List.replicate (d1.length-x) (List.replicate 64 0)) x [] (by simp;omega))
     rw [List.drop_of_length_le (Nat.le_of_eq h0),List.append_nil] at this
     rw [this]
     simp only [Go.S.fR]
     rw [List.set_append_right _ _ (by simp;omega),List.length_take,Nat.min_eq_left (by omega),Nat.sub_self,show d1.length-x=(d1.length-(x+1))+1 by omega,List.replicate_succ,List.set_cons_zero,Go.S.aG d1 x [] jK]
     simp only [List.flatten_append,List.flatten_cons,List.flatten_replicate_replicate,List.append_assoc,List.flatten_nil,List.nil_append]
   · simp only [Go.S.fe];omega
   simp only [Go.S.ah,Go.S.len];omega
 simp only [df] at h
 simp only [Go.S.fe] at hx
 have jK:x=d1.length:=by omega
 subst jK
 simp [Go.S.len,Go.S.fR,Go.S.flat]
theorem aa4(d1:List (List UInt8))(d2:List (Int×List UInt8))(hp:True)(hf:Vg.Row.ok (Vg.PS.flat [.agg [.slice [.slice [.int .u8]], .slice [.int .i64, .slice [.int .u8]]]]) (d1,d2)):Qp d1 d2:=by
 delta Qp q66 aU z0 z1 au
 have hl1:d1.length≤9223372036854775807:=hf.1.1
 have hl2:d2.length≤9223372036854775807:=hf.2.1.1
 refine⟨fun h=> ?_,fun h=>⟨⟨0,rfl,by simp [Go.S.Mh]⟩,fun x hx=>⟨fun h'=>⟨by simp at h';omega,fun g=> ?_,fun g=>⟨by simp at h';omega,x+1,rfl,?_,?_⟩⟩,fun h'=>⟨⟨0,rfl,by simp [Go.S.Mi]⟩,fun y hy=>⟨fun h2=>⟨by simp at h2;omega,fun g=> ?_,fun g=>⟨by simp at h2;omega,y+1,rfl,?_,?_⟩⟩,fun h2=> ?_⟩⟩⟩⟩⟩
 · refine Go.S.sJ fun hr=> ?_
   rcases Go.S.mJ h with h|h<;>simp at h<;>omega
 · simp only [tn,dt,nt,df] at h' g
   exact Go.S.sJ fun hr=>absurd (hr.2.2.1 _ (Go.S.bo d1 x [] (by omega))) (by omega)
 · simp only [tn,dt,nf] at h' g
   refine⟨by omega,fun b hb=> ?_⟩
   rw [Go.S.aG d1 x [] (by omega)] at hb
   rcases List.mem_append.1 hb with hb|hb
   · exact hx.2 b hb
   simp only [List.mem_singleton] at hb;subst hb;omega
 · simp at h';simp only [Go.S.ah,Go.S.len];omega
 · simp only [dt] at h2
   have :=fun hr:(∀x∈d2,0≤x.1∧x.1<d1.length∧x.2.length=64)=>hr _ (Go.S.bo d2 y (0,[]) (by omega))
   refine Go.S.sJ fun hr=> ?_
   obtain⟨a,b,c⟩:=this hr.2.2.2
   simp only [tn] at g
   rcases Go.S.mJ g with g|g
   · simp only [dt] at g;omega
   rcases Go.S.mJ g with g|g
   · simp only [dt] at g;omega
   simp only [nt,df] at g;omega
 · simp only [dt] at h2
   simp only [tn] at g
   obtain⟨g1,g2⟩:=Go.S.kX g
   obtain⟨g2,g3⟩:=Go.S.kX g2
   simp only [df,nf,dt] at g1 g2 g3
   refine⟨by omega,fun b hb=> ?_⟩
   rw [Go.S.aG d2 y (0,[]) (by omega)] at hb
   rcases List.mem_append.1 hb with hb|hb
   · exact hy.2 b hb
   simp only [List.mem_singleton] at hb;subst hb;omega
 · simp at h2;simp only [Go.S.ah,Go.S.len];omega
 obtain⟨h1,h3⟩:=Go.S.kX h
 simp only [df] at h1 h3 h' h2
 have e1:x=d1.length:=by have :=hx.1;omega
 have e2:y=d2.length:=by have :=hy.1;omega
 subst e1;subst e2
 have hx:=hx.2;have hy:=hy.2
 rw [List.take_length] at hx hy
 exact(Go.S.ct.2 ⟨by omega,by omega,hx,hy⟩).symm
theorem aa5(d1:List (List UInt8))(d2:List (Int×List UInt8))(hp:True)(hf:Vg.Row.ok (Vg.PS.flat [.agg [.slice [.slice [.int .u8]], .slice [.int .i64, .slice [.int .u8]]]]) (d1,d2)):Qq d1 d2:=by
 unfold Qq
 refine⟨trivial,fun h=> ?_,fun h=> ?_⟩<;>simp at h<;>simp [Go.S.vB,Go.S.vW,h]
theorem aa6(d1:List (List UInt8))(d2:List (Int×List UInt8))(hp:True)(hf:Vg.Row.ok (Vg.PS.flat [.agg [.slice [.slice [.int .u8]], .slice [.int .i64, .slice [.int .u8]]]]) (d1,d2)):Qr d1 d2:=by
 delta Qr au
 exact⟨trivial,rfl⟩
theorem aa7(n:Int)(hp:True)(hf:Vg.Row.ok (Vg.PS.flat [.one (.int .i64)]) n):Qs n:=by
 delta Qs q67 z0 z1
 refine⟨fun h=> ?_,fun h=> ?_⟩
 · have :n<0∨4096<n:=by rcases Go.S.mJ h with h|h<;>simp at h<;>omega
   simp [Go.S.j1,Go.S.nZ,this]
 obtain⟨h1,h2⟩:=Go.S.kX h
 simp only [df] at h1 h2
 have :¬(n<0∨4096<n):=by omega
 refine⟨⟨by omega,by omega⟩,rfl,?_,?_⟩
 · simp only [Go.S.j1,if_neg this,Go.S.pH,Go.S.Mj]
 simp only [Go.S.nZ,if_neg this]
theorem aa8(d1:List (List UInt8))(d2:List (Int×List UInt8))(i:Int)(hp:True)(hf:Vg.Row.ok (Vg.PS.flat [.agg [.slice [.slice [.int .u8]], .slice [.int .i64, .slice [.int .u8]]], .one (.int .i64)]) (d1,d2,i)):Qt d1 d2 i:=by
 delta Qt aU z0 z1 au
 refine⟨trivial,fun h=> ?_,fun h=> ?_⟩
 · have :i<0∨(Go.S.vB d1 d2).length≤i:=by rcases Go.S.mJ h with h|h<;>simp at h<;>omega
   simp [Go.S.dP,Go.S.gj,this]
 obtain⟨h1,h2⟩:=Go.S.kX h
 simp only [df] at h1 h2
 have hn:¬(i<0∨(Go.S.vB d1 d2).length≤i):=by omega
 have hw:=Go.S.Cy d1 d2
 refine⟨by omega,⟨0,⟨rfl,by simp [Go.S.qu,Go.S.cont,Go.S.bN]⟩,by simp [Go.S.fe]⟩,fun x hx=>⟨fun h=> ?_,fun h=> ?_⟩⟩
 · simp only [dt] at h
   refine⟨by omega,by omega,x+1,⟨rfl,?_⟩,?_,?_⟩
   · simp only [Go.S.qu,Go.S.cont,tn,Go.S.aG _ x (0,[]) (show x<(Go.S.vW d1 d2).length by omega),List.foldl_append,List.foldl_cons,List.foldl_nil,Bool.cond_eq_ite,dt]
   · simp only [Go.S.fe];omega
   simp only [Go.S.ah,Go.S.len];omega
 simp only [df] at h
 have jK:x=(Go.S.vW d1 d2).length:=by simp only [Go.S.fe] at hx;omega
 subst jK
 refine⟨trivial,by simp [Go.S.gj,hn],?_⟩
 simp only [Go.S.dP,Go.S.gj,if_neg hn,if_true,Go.S.qu,List.take_length]
 exact Go.S.xH (Go.S.Ar _ (Go.S.lP d1 d2) _ _ (by simp only [Go.S.bN];exact Go.S.kQ d1 d2 _ (Go.S.bo _ _ _ (by omega))))
theorem aa9(d1:List (List UInt8))(d2:List (Int×List UInt8))(i:Int)(b:List UInt8)(hp:True)(hf:Vg.Row.ok (Vg.PS.flat [.agg [.slice [.slice [.int .u8]], .slice [.int .i64, .slice [.int .u8]]], .one (.int .i64), .one (.slice [.int .u8])]) (d1,d2,i,b)):Qu d1 d2 i b:=by
 delta Qu aU z0 z1 au
 refine⟨trivial,fun h=> ?_,fun h=> ?_⟩
 · have :i<0∨(Go.S.vB d1 d2).length≤i∨b.length≠64:=by
    rcases Go.S.mJ h with h|h
    · simp at h;exact .inl h
    rcases Go.S.mJ h with h|h
    · simp at h;exact .inr (.inl h)
    simp at h;exact .inr (.inr (by omega))
   simp [Go.S.wB,Go.S.wW,Go.S.kL,this]
 obtain⟨h1,h2⟩:=Go.S.kX h
 obtain⟨h2,h3⟩:=Go.S.kX h2
 simp only [df,nf,dt] at h1 h2 h3
 have hn:¬(i<0∨(Go.S.vB d1 d2).length≤i∨b.length≠64):=by omega
 refine⟨fun h=> ?_,fun h=>⟨⟨Go.S.lO d1 d2,Go.S.kQ d1 d2⟩,⟨0,⟨rfl,rfl⟩,by simp [Go.S.fe]⟩,fun x hx=>⟨fun h=> ?_,fun h=> ?_⟩⟩⟩
 · simp only [dt] at h
   have :1000≤(Go.S.vW d1 d2).length:=by omega
   simp [Go.S.wB,Go.S.wW,Go.S.kL,hn,this]
 · simp only [dt] at h
   have hw:=Go.S.Cy d1 d2
   simp only [Go.S.kK,List.length_map,List.length_take,lc,ln]
   refine⟨by omega,trivial,by omega,by omega,x+1,⟨rfl,?_⟩,?_,?_⟩
   · simp only [tn,Go.S.aG _ x (0,[]) (show x<(Go.S.vW d1 d2).length by omega),List.map_append,List.map_cons,List.map_nil]
   · simp only [Go.S.fe];omega
   simp only [Go.S.ah,Go.S.len];omega
 rename_i h'
 simp only [df] at h h'
 have jK:x=(Go.S.vW d1 d2).length:=by simp only [Go.S.fe] at hx;omega
 subst jK
 have hm:Go.S.kK (Go.S.vW d1 d2) (Go.S.vW d1 d2).length=Go.S.vW d1 d2:=by
  simp only [Go.S.kK,List.take_length]
  exact Go.S.DW fun x hx=>by rw [Go.S.xH (Go.S.lP d1 d2 x hx).2.2]
 have hw:¬1000≤(Go.S.vW d1 d2).length:=by omega
 refine⟨trivial,by rw [hm];simp;omega,rfl,?_,?_,?_⟩
 · exact Go.S.ni _ (Go.S.kQ d1 d2)
 · simp only [hm,Go.S.wW,Go.S.kL,if_neg hn,if_neg hw,if_true,Go.S.xH (show b.length=64 by omega)]
 simp only [Go.S.kL,if_neg hn,if_neg hw]
theorem aba(d1:List (List UInt8))(d2:List (Int×List UInt8))(hp:True)(hf:Vg.Row.ok (Vg.PS.flat [.agg [.slice [.slice [.int .u8]], .slice [.int .i64, .slice [.int .u8]]]]) (d1,d2)):Qv d1 d2:=by
 delta Qv J8 aU z0 z1 au
 refine⟨trivial,⟨Go.S.lO d1 d2,Go.S.kQ d1 d2⟩,⟨0,⟨rfl,by simp [Go.S.flat,Go.S.lN,Go.S.nK]⟩,by simp [Go.S.fe]⟩,fun x hx=>⟨fun h=> ?_,fun h=> ?_⟩⟩
 · simp only [dt] at h
   have jK:x<(Go.S.vW d1 d2).length:=by omega
   have hw:=Go.S.Cy d1 d2
   obtain⟨a,b,c⟩:=Go.S.lP d1 d2 _ (Go.S.bo _ x (0,[]) jK)
   have oA:=Go.S.vT ((Go.S.vW d1 d2).take x) (fun y hy=>(Go.S.lP d1 d2 y (List.mem_of_mem_take hy)).2.2) (Go.S.vB d1 d2) (Go.S.kQ d1 d2)
   have hl:=Go.S.vS ((Go.S.vW d1 d2).take x) (Go.S.vB d1 d2)
   simp only [tn,Go.S.len]
   refine⟨by omega,by omega,by omega,?_,by omega,x+1,⟨rfl,?_⟩,?_,?_⟩
   · simp only [Go.S.jE,Go.S.lN,Go.S.gv _ oA,hl];omega
   · rw [c,show Min.min 64 64=64 by rfl,List.take_of_length_le (l:=((Go.S.vW d1 d2).getD x (0,[])).2) (by omega)]
     have :=Go.S.oz _ ((Go.S.vW d1 d2).getD x (0,[])).1.toNat _ oA (by rw [hl];omega) (Nat.le_of_eq c)
     rw [c] at this
     have h0:=oA _ (Go.S.bo (Go.S.nK ((Go.S.vW d1 d2).take x) (Go.S.vB d1 d2)) ((Go.S.vW d1 d2).getD x (0,[])).1.toNat [] (by rw [hl];omega))
     rw [List.drop_of_length_le (Nat.le_of_eq h0),List.append_nil] at this
     simp only [Go.S.jE,Go.S.lN,this]
     simp only [Go.S.nK,Go.S.aG _ x (0,[]) jK,List.foldl_append,List.foldl_cons,List.foldl_nil,Go.S.uQ]
   · simp only [Go.S.fe];omega
   simp only [Go.S.ah];omega
 simp only [df] at h
 have jK:x=(Go.S.vW d1 d2).length:=by simp only [Go.S.fe] at hx;omega
 subst jK
 have oA:=Go.S.vT (Go.S.vW d1 d2) (fun y hy=>(Go.S.lP d1 d2 y hy).2.2) (Go.S.vB d1 d2) (Go.S.kQ d1 d2)
 have hl:=Go.S.vS (Go.S.vW d1 d2) (Go.S.vB d1 d2)
 refine⟨rfl,?_⟩
 have :=Go.S.ni _ oA
 rw [hl] at this
 simpa only [Go.S.jE,Go.S.lN,List.take_length,Go.S.len,Go.S.sync] using this
theorem abb(d1:List (List UInt8))(d2:List (Int×List UInt8))(keep:List Int)(hp:True)(hf:Vg.Row.ok (Vg.PS.flat [.agg [.slice [.slice [.int .u8]], .slice [.int .i64, .slice [.int .u8]]], .one (.slice [.int .i64])]) (d1,d2,keep)):Qw d1 d2 keep:=by
 delta Qw GI q70 aU z0 z1 au
 refine⟨trivial,⟨Go.S.lO d1 d2,Go.S.kQ d1 d2⟩,⟨0,⟨rfl,by simp [Go.S.flat,Go.S.jB,Go.S.qT]⟩,by simp [Go.S.fe]⟩,fun x hx=>⟨fun h=> ?_,fun h=> ?_⟩⟩
 · simp only [dt] at h
   have jK:x<(Go.S.vW d1 d2).length:=by omega
   have hw:=Go.S.Cy d1 d2
   obtain⟨a,b,c⟩:=Go.S.lP d1 d2 _ (Go.S.bo _ x (0,[]) jK)
   have oA:=Go.S.xJ keep ((Go.S.vW d1 d2).take x) (fun y hy=>(Go.S.lP d1 d2 y (List.mem_of_mem_take hy))) (Go.S.vB d1 d2) (Go.S.kQ d1 d2)
   have hl:=Go.S.xI keep ((Go.S.vW d1 d2).take x) (Go.S.vB d1 d2)
   have hk:(bif decide ((x:Int)<(keep.length:Int)) then min (max (keep.getD x 0) 0) 64 else(0:Int))=(Go.S.kept keep x:Int):=by
    simp only [Go.S.kept]
    by_cases UE:x<keep.length
    · have :(x:Int)<keep.length:=by omega
      simp only [this,decide_true,cond_true,List.getElem?_eq_getElem UE,List.getD,Option.getD_some]
      omega
    have :¬(x:Int)<keep.length:=by omega
    simp [this,List.getElem?_eq_none (show keep.length≤x by omega)]
   have Za:Go.S.kept keep x≤64:=Go.S.uS keep x
   simp only [tn,Go.S.len,hk]
   refine⟨by omega,⟨fun h=>by simp at h;omega,fun _=>trivial⟩,by omega,by omega,by omega,?_,by omega,x+1,⟨rfl,?_⟩,?_,?_⟩
   · simp only [Go.S.vY,Go.S.jB,Go.S.gv _ oA,hl];omega
   · have hlen:(((Go.S.vW d1 d2).getD x (0,[])).2.take (Go.S.kept keep x)).length=Go.S.kept keep x:=by rw [List.length_take];omega
     rw [hlen,show Min.min (Go.S.kept keep x) 64=Go.S.kept keep x by omega,List.take_take,show Min.min 64 (Go.S.kept keep x)=Go.S.kept keep x by omega]
     have :=Go.S.oz _ ((Go.S.vW d1 d2).getD x (0,[])).1.toNat _ oA (by rw [hl];omega) (show(((Go.S.vW d1 d2).getD x (0,[])).2.take (Go.S.kept keep x)).length≤64 by omega)
     rw [hlen] at this
     simp only [Go.S.vY,Go.S.jB,this,Go.S.Mk keep _ _ x jK,Go.S.sI]
   · simp only [Go.S.fe];omega
   simp only [Go.S.ah];omega
 simp only [df] at h
 have jK:x=(Go.S.vW d1 d2).length:=by simp only [Go.S.fe] at hx;omega
 subst jK
 have oA:=Go.S.xJ keep (Go.S.vW d1 d2) (fun y hy=>(Go.S.lP d1 d2 y hy)) (Go.S.vB d1 d2) (Go.S.kQ d1 d2)
 have hl:=Go.S.xI keep (Go.S.vW d1 d2) (Go.S.vB d1 d2)
 refine⟨rfl,?_⟩
 have :=Go.S.ni _ oA
 rw [hl] at this
 simpa only [Go.S.vY,Go.S.jB,List.take_length,Go.S.len,Go.S.ka] using this
theorem abc(a:List UInt8)(b:List UInt8)(hp:True)(hf:Vg.Row.ok (Vg.PS.flat [.one (.slice [.int .u8]), .one (.slice [.int .u8])]) (a,b)):Qx a b:=by
 unfold Qx
 have Fg:a.length≤9223372036854775807:=hf.1.1
 have mi:b.length≤9223372036854775807:=hf.2.1.1
 clear hf
 grind [Go.S.JT]
theorem abd(b:List UInt8)(hp:S.eS b)(hf:Vg.Row.ok (Vg.PS.flat [.one (.slice [.int .u8])]) b):Qy b:=by
 delta Qy q71 aU z0 z1 au
 have mi:b.length≤9223372036854775807:=hf.1.1
 clear hf
 with_reducible and_intros
 omega
 grind [Go.S.dS,Go.S.oh,Go.S.ah,Go.S.eU,Go.S.uV,Go.S.eS]
 · refine⟨(nat_lit 0:Nat),?_⟩
   try dsimp only
   with_reducible and_intros
   omega
   iterate 2 (grind [Go.S.dS,Go.S.oh,Go.S.ah,Go.S.eU,Go.S.uV,Go.S.eS])
 intro x1 h2
 refine⟨?_,?_⟩
 · intro h3
   try simp only [dt] at h3
   with_reducible and_intros
   iterate 5 omega
   · have q:x1≤8:=h2;omega
   refine⟨(x1+nat_lit 1),?_⟩
   try dsimp only
   with_reducible and_intros
   omega
   exact S.OY hp (S.aay h3)
   iterate 2 (grind [Go.S.dS,Go.S.oh,Go.S.ah,Go.S.eU,Go.S.uV,Go.S.eS])
 intro h4
 try simp only [df] at h4
 refine⟨?_,?_⟩
 · intro h5
   try simp only [dt] at h5
   refine⟨?_,?_⟩
   · grind [Go.S.dS,Go.S.oh,Go.S.ah,Go.S.eU,Go.S.uV,Go.S.eS]
   grind [Go.S.dS,Go.S.oh,Go.S.ah,Go.S.eU,Go.S.uV,Go.S.eS]
 intro h6
 try simp only [df] at h6
 with_reducible and_intros
 iterate 2 omega
 iterate 2 (grind [Go.S.dS,Go.S.oh,Go.S.ah,Go.S.eU,Go.S.uV,Go.S.eS])
theorem abe(m1:Int)(m2:Int)(hp:S.lQ m1 m2)(hf:Vg.Row.ok (Vg.PS.flat [.agg [.int .i64, .int .i64]]) (m1,m2)):Qz m1 m2:=by
 delta Qz q72 E9 q74 q75 aU Cb z0 z1 au
 have aql: -9223372036854775808≤m1∧m1≤9223372036854775807:=hf.1
 have aqm: -9223372036854775808≤m2∧m2≤9223372036854775807:=hf.2.1
 clear hf
 with_reducible and_intros
 iterate 4 omega
 trivial
 · refine⟨(nat_lit 0:Nat),?_⟩
   try dsimp only
   with_reducible and_intros
   omega
   rfl
   exact Nat.zero_le _
 intro x1 h2
 refine⟨?_,?_⟩
 · intro h3
   try simp only [dt] at h3
   with_reducible and_intros
   iterate 8 omega
   · have q:=S.uY m1 m2 x1 h2;omega
   iterate 6 omega
   · have q:=S.uY m1 m2 x1 h2;rw [List.length_set];omega
   iterate 2 omega
   refine⟨(x1+nat_lit 1),?_⟩
   try dsimp only
   with_reducible and_intros
   omega
   exact S.Mp hp.1 (by omega) hp.2 (by omega) (by omega)
   · show x1+1≤8;omega
   simp only [S.ah];omega
 intro h4
 try simp only [df] at h4
 with_reducible and_intros
 omega
 iterate 2
  · have q:=S.uY m1 m2 x1 h2;rw [show Int.toNat 32=32 from rfl];omega
 exact S.UW h4 h2
theorem abf(b:List UInt8)(m:Int)(hp:True)(hf:Vg.Row.ok (Vg.PS.flat [.one (.slice [.int .u8]), .one (.int .i64)]) (b,m)):QA b m:=by
 delta QA GJ q77 z0 au
 have mi:b.length≤9223372036854775807:=hf.1.1
 have afs: -9223372036854775808≤m∧m≤9223372036854775807:=hf.2.1
 clear hf
 refine⟨?_,?_⟩
 · intro h1
   try simp only [nt,df] at h1
   with_reducible and_intros
   iterate 3 (grind [Go.S.cF,Go.S.JT,Go.S.eS,Go.S.lQ])
 intro h2
 try simp only [nf,dt] at h2
 with_reducible and_intros
 grind [Go.S.cF,Go.S.JT,Go.S.eS,Go.S.lQ]
 iterate 2 omega
 grind [Go.S.cF,Go.S.JT,Go.S.eS,Go.S.lQ]
 · intro h3
   try simp only [nt] at h3
   trivial
 · intro h4
   try simp only [nf] at h4
   refine⟨?_,?_⟩
   · intro h5
     try simp only [nt] at h5
     trivial
   intro h6
   try simp only [nf] at h6
   refine⟨?_,?_⟩
   · intro h7
     try simp only [dt] at h7
     trivial
   intro h8
   try simp only [df] at h8
   refine⟨?_,?_⟩
   · exact⟨S.vV _,S.vV _⟩
   trivial
 · intro h9
   try simp only [V.pQ,nt,dt] at h9
   with_reducible and_intros
   iterate 3 (grind [Go.S.cF,Go.S.JT,Go.S.eS,Go.S.lQ])
 intro dW
 try simp only [V.gm,nf,df] at dW
 with_reducible and_intros
 iterate 3 (grind [Go.S.cF,Go.S.JT,Go.S.eS,Go.S.lQ])
theorem abg(d1:List (List UInt8))(d2:List (Int×List UInt8))(hp:True)(hf:Vg.Row.ok (Vg.PS.flat [.agg [.slice [.slice [.int .u8]], .slice [.int .i64, .slice [.int .u8]]]]) (d1,d2)):QB d1 d2:=by
 delta QB aU
 have u7:d1.length≤9223372036854775807:=hf.1.1
 have u9:d2.length≤9223372036854775807:=hf.2.1.1
 clear hf
 with_reducible and_intros
 trivial
 grind [Go.S.dG,Go.S.kA]
 · have q:=S.lO d1 d2;simp only [S.kA];omega
 grind [Go.S.dG,Go.S.kA]
 · have q:=S.lO d1 d2;simp only [S.kA];omega
 grind [Go.S.dG,Go.S.kA]
theorem abh(d1:List (List UInt8))(d2:List (Int×List UInt8))(hp:True)(hf:Vg.Row.ok (Vg.PS.flat [.agg [.slice [.slice [.int .u8]], .slice [.int .i64, .slice [.int .u8]]]]) (d1,d2)):QC d1 d2:=by
 delta QC aU z0 z1
 have u7:d1.length≤9223372036854775807:=hf.1.1
 have u9:d2.length≤9223372036854775807:=hf.2.1.1
 clear hf
 refine⟨?_,?_⟩
 · refine⟨(nat_lit 0:Nat),?_⟩
   try dsimp only
   with_reducible and_intros
   omega
   iterate 3 rfl
   exact Nat.zero_le _
 intro x1 h2
 refine⟨?_,?_⟩
 · intro h3
   try simp only [dt] at h3
   with_reducible and_intros
   trivial
   · intro h4
     try simp only [nt,df] at h4
     with_reducible and_intros
     omega
     · have q:x1≤2:=h2;omega
     refine⟨(x1+nat_lit 1),?_⟩
     try dsimp only
     with_reducible and_intros
     omega
     iterate 3 (rw [S.Ax,S.uW,if_pos h4])
     · show x1+1≤2;omega
     simp only [S.ah];omega
   intro h5
   try simp only [nf,dt] at h5
   with_reducible and_intros
   iterate 2 trivial
   omega
   · have q:x1≤2:=h2;omega
   refine⟨(x1+nat_lit 1),?_⟩
   try dsimp only
   with_reducible and_intros
   omega
   · rw [S.Qa,S.Ax,S.uW,if_neg (show ¬(S.gj d1 d2 (x1:Int)≠0) from fun w=>w h5)];split;(rename_i q;exact q.1.symm);rfl
   iterate 2
    · rw [S.Qa,S.Ax,S.uW,if_neg (show ¬(S.gj d1 d2 (x1:Int)≠0) from fun w=>w h5)];split<;>rfl
   · show x1+1≤2;omega
   simp only [S.ah];omega
 intro h6
 try simp only [df] at h6
 with_reducible and_intros
 iterate 2
  · have q:x1≤2:=h2;obtain rfl :x1=2:=(by omega);rfl
 have q:x1≤2:=h2;obtain rfl :x1=2:=(by omega);rfl
theorem abi(d1:List (List UInt8))(d2:List (Int×List UInt8))(n:Int)(hp:S.qv d1 d2 n)(hf:Vg.Row.ok (Vg.PS.flat [.agg [.slice [.slice [.int .u8]], .slice [.int .i64, .slice [.int .u8]]], .one (.int .i64)]) (d1,d2,n)):QD d1 d2 n:=by
 delta QD aU lZ z0 z1 au
 have u7:d1.length≤9223372036854775807:=hf.1.1
 have u9:d2.length≤9223372036854775807:=hf.2.1.1
 have Y7: -9223372036854775808≤n∧n≤9223372036854775807:=hf.2.2.1
 clear hf
 refine⟨?_,?_⟩
 · refine⟨0,?_⟩
   try dsimp only
   with_reducible and_intros
   iterate 2 rfl
   exact .inr rfl
 intro x1 h2
 refine⟨?_,?_⟩
 · intro h3
   try simp only [dt] at h3
   with_reducible and_intros
   trivial
   · intro h4
     try simp only [nt,df] at h4
     exact absurd (S.aaz hp h2 h3) h4
   intro h5
   try simp only [nf,dt] at h5
   with_reducible and_intros
   · have q:=S.zp h2;have q1:=S.rI hp h2 h3;have q2:=S.zo h5;omega
   iterate 2
    · have q1:=S.rI hp h2 h3;omega
   refine⟨(x1+1),?_⟩
   try dsimp only
   with_reducible and_intros
   omega
   exact(S.Ay d1 d2 x1).symm
   exact S.ahu hp h2 h3
   have q1:=S.rI hp h2 h3;simp only [S.ah];omega
 intro h6
 try simp only [df] at h6
 with_reducible and_intros
 exact hp.2
 omega
 exact S.Xy hp h2 h6
theorem abj(r1:List UInt8)(r2:Int)(r3:Int)(hp:S.JV r1)(hf:Vg.Row.ok (Vg.PS.flat [.agg [.slice [.int .u8], .int .i64, .int .i64]]) (r1,r2,r3)):QE r1 r2 r3:=by
 delta QE U3 YS YT nM lZ z0
 have Kb:r1.length≤9223372036854775807:=hf.1.1
 have Kc: -9223372036854775808≤r2∧r2≤9223372036854775807:=hf.2.1
 have Kd: -9223372036854775808≤r3∧r3≤9223372036854775807:=hf.2.2.1
 clear hf
 with_reducible and_intros
 trivial
 · intro h1
   try simp only [dt] at h1
   rw [(S.ng _ _ _).1];exact hp
 · intro h2
   try simp only [df] at h2
   refine⟨?_,?_⟩
   · intro h3
     try simp only [dt] at h3
     refine⟨?_,?_⟩
     · rw [(S.ng _ _ _).1];exact hp
     rw [(S.ng _ _ _).1,(S.ng _ _ _).1];exact hp
   intro h4
   try simp only [df] at h4
   trivial
 exact S.anw r1 r2 r3
 exact congrArg (fun z=>z.1.1) (S.vX r1 r2 r3)
 exact congrArg (fun z=>z.1.2) (S.vX r1 r2 r3)
 exact congrArg (fun z=>z.2.1) (S.vX r1 r2 r3)
 exact congrArg (fun z=>z.2.2.1) (S.vX r1 r2 r3)
 exact congrArg (fun z=>z.2.2.2.1) (S.vX r1 r2 r3)
 exact congrArg (fun z=>z.2.2.2.2) (S.vX r1 r2 r3)
theorem abk(y1:List (List UInt8))(y2:List (Int×Int×List (List UInt8×List Int)))(e1:Int)(e2:Int)(e3:Int)(e4:List UInt8)(hp:True)(hf:Vg.Row.ok (Vg.PS.flat [.agg [.slice [.slice [.int .u8]], .slice [.int .i64, .int .i64, .slice [.str, .slice [.int .i64]]]], .agg [.int .i64, .int .i64, .int .i64, .slice [.int .u8]]]) (y1,y2,e1,e2,e3,e4)):QF y1 y2 e1 e2 e3 e4:=by
 unfold QF
 have mN:y1.length≤9223372036854775807:=hf.1.1
 have mO:y2.length≤9223372036854775807:=hf.2.1.1
 have vc: -9223372036854775808≤e1∧e1≤9223372036854775807:=hf.2.2.1
 have ve: -9223372036854775808≤e2∧e2≤9223372036854775807:=hf.2.2.2.1
 have vf: -9223372036854775808≤e3∧e3≤9223372036854775807:=hf.2.2.2.2.1
 have vg:e4.length≤9223372036854775807:=hf.2.2.2.2.2.1.1
 clear hf
 with_reducible and_intros
 trivial
 iterate 3 rfl
theorem abl(y1:List (List UInt8))(y2:List (Int×Int×List (List UInt8×List Int)))(e1:Int)(e2:Int)(e3:Int)(e4:List UInt8)(hp:True)(hf:Vg.Row.ok (Vg.PS.flat [.agg [.slice [.slice [.int .u8]], .slice [.int .i64, .int .i64, .slice [.str, .slice [.int .i64]]]], .agg [.int .i64, .int .i64, .int .i64, .slice [.int .u8]]]) (y1,y2,e1,e2,e3,e4)):QG y1 y2 e1 e2 e3 e4:=by
 unfold QG
 have mN:y1.length≤9223372036854775807:=hf.1.1
 have mO:y2.length≤9223372036854775807:=hf.2.1.1
 have vc: -9223372036854775808≤e1∧e1≤9223372036854775807:=hf.2.2.1
 have ve: -9223372036854775808≤e2∧e2≤9223372036854775807:=hf.2.2.2.1
 have vf: -9223372036854775808≤e3∧e3≤9223372036854775807:=hf.2.2.2.2.1
 have vg:e4.length≤9223372036854775807:=hf.2.2.2.2.2.1.1
 clear hf
 with_reducible and_intros
 trivial
 iterate 3 rfl
theorem abn(y1:List (List UInt8))(y2:List (Int×Int×List (List UInt8×List Int)))(e1:Int)(e2:Int)(e3:Int)(e4:List UInt8)(hp:True)(hf:Vg.Row.ok (Vg.PS.flat [.agg [.slice [.slice [.int .u8]], .slice [.int .i64, .int .i64, .slice [.str, .slice [.int .i64]]]], .agg [.int .i64, .int .i64, .int .i64, .slice [.int .u8]]]) (y1,y2,e1,e2,e3,e4)):QH y1 y2 e1 e2 e3 e4:=by
 unfold QH
 have mN:y1.length≤9223372036854775807:=hf.1.1
 have mO:y2.length≤9223372036854775807:=hf.2.1.1
 have vc: -9223372036854775808≤e1∧e1≤9223372036854775807:=hf.2.2.1
 have ve: -9223372036854775808≤e2∧e2≤9223372036854775807:=hf.2.2.2.1
 have vf: -9223372036854775808≤e3∧e3≤9223372036854775807:=hf.2.2.2.2.1
 have vg:e4.length≤9223372036854775807:=hf.2.2.2.2.2.1.1
 clear hf
 with_reducible and_intros
 trivial
 iterate 3 rfl
theorem abo(y1:List (List UInt8))(y2:List (Int×Int×List (List UInt8×List Int)))(e1:Int)(e2:Int)(e3:Int)(e4:List UInt8)(hp:True)(hf:Vg.Row.ok (Vg.PS.flat [.agg [.slice [.slice [.int .u8]], .slice [.int .i64, .int .i64, .slice [.str, .slice [.int .i64]]]], .agg [.int .i64, .int .i64, .int .i64, .slice [.int .u8]]]) (y1,y2,e1,e2,e3,e4)):QI y1 y2 e1 e2 e3 e4:=by
 delta QI z0
 have mN:y1.length≤9223372036854775807:=hf.1.1
 have mO:y2.length≤9223372036854775807:=hf.2.1.1
 have vc: -9223372036854775808≤e1∧e1≤9223372036854775807:=hf.2.2.1
 have ve: -9223372036854775808≤e2∧e2≤9223372036854775807:=hf.2.2.2.1
 have vf: -9223372036854775808≤e3∧e3≤9223372036854775807:=hf.2.2.2.2.1
 have vg:e4.length≤9223372036854775807:=hf.2.2.2.2.2.1.1
 clear hf
 with_reducible and_intros
 trivial
 iterate 3 rfl
theorem abp(hp:True)(hf:Vg.Row.ok (Vg.PS.flat []) ()):QJ:=by
 unfold QJ
 clear hf
 trivial
theorem abq(y1:List (List UInt8))(y2:List (Int×Int×List (List UInt8×List Int)))(e1:Int)(e2:Int)(e3:Int)(e4:List UInt8)(hp:True)(hf:Vg.Row.ok (Vg.PS.flat [.agg [.slice [.slice [.int .u8]], .slice [.int .i64, .int .i64, .slice [.str, .slice [.int .i64]]]], .agg [.int .i64, .int .i64, .int .i64, .slice [.int .u8]]]) (y1,y2,e1,e2,e3,e4)):QK y1 y2 e1 e2 e3 e4:=by
 delta QK z0 z1
 have mN:y1.length≤9223372036854775807:=hf.1.1
 have mO:y2.length≤9223372036854775807:=hf.2.1.1
 have vc: -9223372036854775808≤e1∧e1≤9223372036854775807:=hf.2.2.1
 have ve: -9223372036854775808≤e2∧e2≤9223372036854775807:=hf.2.2.2.1
 have vf: -9223372036854775808≤e3∧e3≤9223372036854775807:=hf.2.2.2.2.1
 have vg:e4.length≤9223372036854775807:=hf.2.2.2.2.2.1.1
 clear hf
 with_reducible and_intros
 · intro h1
   with_reducible and_intros
   trivial
   omega
   trivial
   iterate 2
    · subst h1;rfl
   subst h1;rfl
 · intro h2
   with_reducible and_intros
   trivial
   omega
   trivial
   iterate 2
    · subst h2;rfl
   subst h2;rfl
 · intro h3
   with_reducible and_intros
   trivial
   omega
   trivial
   iterate 2
    · subst h3;rfl
   subst h3;rfl
 · intro h4
   with_reducible and_intros
   trivial
   omega
   trivial
   iterate 2
    · subst h4;rfl
   subst h4;rfl
 intro h5
 with_reducible and_intros
 trivial
 · intro h6
   exact h5.1 h6
 · intro h7
   exact h5.2.1 h7
 · intro h8
   exact h5.2.2.1 h8
 · intro h9
   exact h5.2.2.2.1 h9
 iterate 2 trivial
 iterate 2 (rw [S.HF h5])
 rw [S.HF h5]
theorem abr(e1:Int)(e2:Int)(e3:Int)(e4:List UInt8)(hp:True)(hf:Vg.Row.ok (Vg.PS.flat [.agg [.int .i64, .int .i64, .int .i64, .slice [.int .u8]]]) (e1,e2,e3,e4)):QL e1 e2 e3 e4:=by
 delta QL q82 aU z0 z1 au
 have vc: -9223372036854775808≤e1∧e1≤9223372036854775807:=hf.1
 have ve: -9223372036854775808≤e2∧e2≤9223372036854775807:=hf.2.1
 have vf: -9223372036854775808≤e3∧e3≤9223372036854775807:=hf.2.2.1
 have vg:e4.length≤9223372036854775807:=hf.2.2.2.1.1
 clear hf
 refine⟨?_,?_⟩
 · intro h1
   try simp only [V.pQ,dt] at h1
   refine⟨?_,?_⟩
   · rw [S.EW h1]
   rw [S.EW h1]
 intro h2
 try simp only [V.gm,df] at h2
 with_reducible and_intros
 trivial
 · intro h3
   try simp only [dt] at h3
   refine⟨?_,?_⟩
   · intro h4
     try simp only [dt] at h4
     refine⟨?_,?_⟩
     · rw [S.BF h3 h4]
     rw [S.BF h3 h4]
   intro h5
   try simp only [df] at h5
   with_reducible and_intros
   exact S.OZ h2 h5
   · intro h6
     try simp only [nt,df] at h6
     refine⟨?_,?_⟩
     · exact absurd (S.zq h2) h6
     exact absurd (S.zq h2) h6
   intro h7
   try simp only [nf,dt] at h7
   refine⟨?_,?_⟩
   · rw [S.EX h3 h5,S.Cz h2]
   rw [S.EX h3 h5]
 intro h8
 try simp only [df] at h8
 refine⟨?_,?_⟩
 · intro h9
   try simp only [dt] at h9
   refine⟨?_,?_⟩
   · refine⟨(nat_lit 0:Nat),?_⟩
     try dsimp only
     with_reducible and_intros
     omega
     exact S.zq h2
     exact S.Cz h2
     exact Nat.zero_le _
   intro Fh fh
   refine⟨?_,?_⟩
   · intro cO
     try simp only [dt] at cO
     with_reducible and_intros
     iterate 3 omega
     · intro fj
       try simp only [dt] at fj
       with_reducible and_intros
       · have q:=S.Xz e1 e2 e3 Fh;omega
       iterate 2
        · have q:Fh≤2:=fh;omega
       refine⟨(Fh+nat_lit 1),?_⟩
       try dsimp only
       with_reducible and_intros
       omega
       exact(S.XA cO fj).1
       exact(S.XA cO fj).2
       · have q:(Fh:Int)<2:=cO;show Fh+1≤2;omega
       have q:(Fh:Int)<2:=cO;simp only [S.ah];omega
     intro fH
     try simp only [df] at fH
     with_reducible and_intros
     iterate 2
      · have q:Fh≤2:=fh;omega
     refine⟨(Fh+nat_lit 1),?_⟩
     try dsimp only
     with_reducible and_intros
     omega
     exact congrArg Prod.snd (S.XB cO fH)
     exact congrArg Prod.fst (S.XB cO fH)
     · have q:(Fh:Int)<2:=cO;show Fh+1≤2;omega
     have q:(Fh:Int)<2:=cO;simp only [S.ah];omega
   intro iQ
   try simp only [df] at iQ
   refine⟨?_,?_⟩
   · intro xN
     try simp only [nt,df] at xN
     refine⟨?_,?_⟩
     · rw [S.zr h9 fh iQ,if_neg xN]
     rw [S.zr h9 fh iQ,if_neg xN]
   intro xO
   try simp only [nf,dt] at xO
   refine⟨?_,?_⟩
   · rw [S.zr h9 fh iQ,if_pos xO]
   rw [S.zr h9 fh iQ,if_pos xO]
 intro ma
 try simp only [df] at ma
 refine⟨?_,?_⟩
 · intro AE
   try simp only [nt,df] at AE
   refine⟨?_,?_⟩
   · exact absurd (S.zq h2) AE
   exact absurd (S.zq h2) AE
 intro Kf
 try simp only [nf,dt] at Kf
 refine⟨?_,?_⟩
 · rw [S.BG h2 h8 ma,S.Cz h2]
 rw [S.BG h2 h8 ma]
theorem abt(d1:List (List UInt8))(d2:List (Int×List UInt8))(hp:True)(hf:Vg.Row.ok (Vg.PS.flat [.agg [.slice [.slice [.int .u8]], .slice [.int .i64, .slice [.int .u8]]]]) (d1,d2)):QM d1 d2:=by
 delta QM YU wj z0 z1 au
 have u7:d1.length≤9223372036854775807:=hf.1.1
 have u9:d2.length≤9223372036854775807:=hf.2.1.1
 clear hf
 with_reducible and_intros
 trivial
 · intro h1
   try simp only [nt] at h1
   trivial
 · intro h2
   try simp only [nf] at h2
   trivial
 · intro h3
   try simp only [V.pQ,nt,dt] at h3
   with_reducible and_intros
   iterate 4
    · simp only [S.bp];rw [S.ae2 h3]<;>rfl
   simp only [S.bp];rw [S.ae2 h3]<;>rfl
 intro h4
 try simp only [V.gm,nf,df] at h4
 with_reducible and_intros
 trivial
 · intro h5
   try simp only [nt] at h5
   with_reducible and_intros
   iterate 4
    · simp only [S.bp];rw [S.ae3 h4 h5]<;>rfl
   simp only [S.bp];rw [S.ae3 h4 h5]<;>rfl
 intro h6
 try simp only [nf] at h6
 with_reducible and_intros
 exact S.aaC h6
 · refine⟨(((0:Int)),(([]),([]))),?_⟩
   try dsimp only
   with_reducible and_intros
   rfl
   omega
   iterate 3 rfl
   exact S.XD _
 intro x7 h8
 refine⟨?_,?_⟩
 · intro h9
   try simp only [dt] at h9
   with_reducible and_intros
   · have q:=S.O0 d1 d2;unfold S.JV;omega
   · intro dW
     try simp only [nt,df] at dW
     with_reducible and_intros
     iterate 4
      · simp only [S.bp];rw [S.Qd h4 h6 h8 h9 dW]<;>rfl
     simp only [S.bp];rw [S.Qd h4 h6 h8 h9 dW]<;>rfl
   intro fh
   try simp only [nf,dt] at fh
   with_reducible and_intros
   trivial
   · intro cO
     try simp only [nt,df] at cO
     with_reducible and_intros
     iterate 4
      · simp only [S.bp];rw [S.Ms h4 h6 h8 h9 fh cO]<;>rfl
     simp only [S.bp];rw [S.Ms h4 h6 h8 h9 fh cO]<;>rfl
   intro fj
   try simp only [nf,dt] at fj
   refine⟨((Prod.fst (Prod.fst (S.cm (S.aV d1 d2) (Prod.fst x7) (0:Int)))),((Prod.fst (Prod.fst (S.dA (Prod.fst (Prod.snd x7)) (Prod.snd (Prod.snd x7)) (Prod.fst (Prod.snd (S.cm (S.aV d1 d2) (Prod.fst x7) (0:Int)))) (Prod.fst (Prod.snd (Prod.snd (S.cm (S.aV d1 d2) (Prod.fst x7) (0:Int))))) (Prod.fst (Prod.snd (Prod.snd (Prod.snd (S.cm (S.aV d1 d2) (Prod.fst x7) (0:Int)))))) (Prod.snd (Prod.snd (Prod.snd (Prod.snd (S.cm (S.aV d1 d2) (Prod.fst x7) (0:Int))))))))),(Prod.snd (Prod.fst (S.dA (Prod.fst (Prod.snd x7)) (Prod.snd (Prod.snd x7)) (Prod.fst (Prod.snd (S.cm (S.aV d1 d2) (Prod.fst x7) (0:Int)))) (Prod.fst (Prod.snd (Prod.snd (S.cm (S.aV d1 d2) (Prod.fst x7) (0:Int))))) (Prod.fst (Prod.snd (Prod.snd (Prod.snd (S.cm (S.aV d1 d2) (Prod.fst x7) (0:Int)))))) (Prod.snd (Prod.snd (Prod.snd (Prod.snd (S.cm (S.aV d1 d2) (Prod.fst x7) (0:Int))))))))))),?_⟩
   try dsimp only
   with_reducible and_intros
   rfl
   iterate 2 omega
   iterate 2 rfl
   exact S.anA h8 h9 fh fj
   exact S.XF h8 h9 fh
 intro fH
 try simp only [df] at fH
 with_reducible and_intros
 iterate 4
  · simp only [S.bp];rw [S.Qe h4 h6 h8 fH]<;>rfl
 simp only [S.bp];rw [S.Qe h4 h6 h8 fH]<;>rfl
theorem abu(d1:List (List UInt8))(d2:List (Int×List UInt8))(a:Int)(b:List UInt8)(hp:S.JW a b)(hf:Vg.Row.ok (Vg.PS.flat [.agg [.slice [.slice [.int .u8]], .slice [.int .i64, .slice [.int .u8]]], .one (.int .i64), .one (.slice [.int .u8])]) (d1,d2,a,b)):QN d1 d2 a b:=by
 delta QN J9 q86 U4 aU z0 au
 have u7:d1.length≤9223372036854775807:=hf.1.1
 have u9:d2.length≤9223372036854775807:=hf.2.1.1
 have Fg: -9223372036854775808≤a∧a≤9223372036854775807:=hf.2.2.1
 have mi:b.length≤9223372036854775807:=hf.2.2.2.1.1
 clear hf
 with_reducible and_intros
 iterate 2
  · obtain⟨q1,q2,q3⟩:=hp;omega
 · refine⟨(a,b,[]),?_⟩
   try dsimp only
   with_reducible and_intros
   iterate 3 rfl
   exact⟨hp.1,rfl,rfl⟩
 intro x1 h2
 refine⟨?_,?_⟩
 · intro h3
   try simp only [dt] at h3
   with_reducible and_intros
   exact h2.1
   omega
   iterate 2
    · have q:=S.JY hp h2;have q0:=h2.1;omega
   trivial
   · intro h4
     try simp only [nt,df] at h4
     rw [S.aaD h2 h3 h4]
   intro h5
   try simp only [nf,dt] at h5
   with_reducible and_intros
   exact h2.1
   iterate 2 omega
   iterate 2
    · have q:=S.zo h5;omega
   · have q:=S.JY hp h2;simp only [S.mh,List.length_map,lc,ln];omega
   iterate 2
    · have q:=S.JY hp h2;have q0:=h2.1;omega
   iterate 2 omega
   refine⟨(x1.1+((min (64-(x1.1%64).toNat) x1.2.1.length:Nat):Int),x1.2.1.drop (64-(x1.1%64).toNat),x1.2.2++ [(2+x1.1/64,S.mK (S.dP d1 d2 (2+x1.1/64)) x1.1 x1.2.1)]),?_⟩
   try dsimp only
   with_reducible and_intros
   rw [(S.Az h2 h3 h5).1]
   · rw [(S.Az h2 h3 h5).1,tn];exact(S.Az h2 h3 h5).2.2.1.symm
   · rw [←(S.Az h2 h3 h5).2.2.2.1];simp only [S.mh,List.map_append];rfl
   exact(S.Az h2 h3 h5).2.2.2.2
   have q:=(S.Az h2 h3 h5).2.1;simp only [List.length_drop];omega
 intro h6
 try simp only [df] at h6
 rw [S.XG h2 h6]
theorem abv(d1:List (List UInt8))(d2:List (Int×List UInt8))(s1:Int)(s2:Int)(s3:List (List UInt8))(s4:List (Int×Int×List (List UInt8×List Int)))(e1:Int)(e2:Int)(e3:Int)(e4:List UInt8)(hp:True)(hf:Vg.Row.ok (Vg.PS.flat [.agg [.slice [.slice [.int .u8]], .slice [.int .i64, .slice [.int .u8]]], .agg [.int .i64, .int .i64, .slice [.slice [.int .u8]], .slice [.int .i64, .int .i64, .slice [.str, .slice [.int .i64]]]], .agg [.int .i64, .int .i64, .int .i64, .slice [.int .u8]]]) (d1,d2,s1,s2,s3,s4,e1,e2,e3,e4)):QO d1 d2 s1 s2 s3 s4 e1 e2 e3 e4:=by
 delta QO kY l9 MB aU z0 z1
 have u7:d1.length≤9223372036854775807:=hf.1.1
 have u9:d2.length≤9223372036854775807:=hf.2.1.1
 have sO: -9223372036854775808≤s1∧s1≤9223372036854775807:=hf.2.2.1
 have sP: -9223372036854775808≤s2∧s2≤9223372036854775807:=hf.2.2.2.1
 have Ke:s3.length≤9223372036854775807:=hf.2.2.2.2.1.1
 have Zb:s4.length≤9223372036854775807:=hf.2.2.2.2.2.1.1
 have vc: -9223372036854775808≤e1∧e1≤9223372036854775807:=hf.2.2.2.2.2.2.1
 have ve: -9223372036854775808≤e2∧e2≤9223372036854775807:=hf.2.2.2.2.2.2.2.1
 have vf: -9223372036854775808≤e3∧e3≤9223372036854775807:=hf.2.2.2.2.2.2.2.2.1
 have vg:e4.length≤9223372036854775807:=hf.2.2.2.2.2.2.2.2.2.1.1
 clear hf
 refine⟨?_,?_⟩
 · intro h1
   try simp only [dt] at h1
   with_reducible and_intros
   iterate 6
    · (try simp only [S.bp,S.cW] at *);rw [S.anB h1]<;>rfl
 intro h2
 try simp only [df] at h2
 with_reducible and_intros
 trivial
 · intro h3
   try simp only [V.pQ,nt,df] at h3
   with_reducible and_intros
   iterate 6
    · (try simp only [S.bp,S.cW] at *);rw [S.anC h2 h3]<;>rfl
 intro h4
 try simp only [V.gm,nf,dt] at h4
 with_reducible and_intros
 trivial
 · intro h5
   try simp only [nt,df] at h5
   with_reducible and_intros
   iterate 6
    · (try simp only [S.bp,S.cW] at *);rw [S.anD h2 h4 h5]<;>rfl
 intro h6
 try simp only [nf,dt] at h6
 with_reducible and_intros
 trivial
 · intro h7
   try simp only [nt,df] at h7
   with_reducible and_intros
   iterate 6
    · (try simp only [S.bp,S.cW] at *);rw [S.anE h2 h4 h6 h7]<;>rfl
 intro h8
 try simp only [nf,dt] at h8
 with_reducible and_intros
 trivial
 iterate 2
  · (try simp only [S.bp,S.cW] at *);have q:=S.JZ h4.1;have q1:=S.AD d1 d2;omega
 · intro h9
   try simp only [dt] at h9
   with_reducible and_intros
   iterate 6
    · (try simp only [S.bp,S.cW] at *);rw [S.anF h2 h4 h6 h8 h9]<;>rfl
 intro dW
 try simp only [df] at dW
 with_reducible and_intros
 iterate 5
  · (try simp only [S.bp,S.cW] at *);have q:=S.JZ h4.1;have q1:=S.AD d1 d2;have q2:=S.qw (a:=e1) (b:=e2) (c:=e3) (d:=e4);omega
 · (try simp only [S.bp,S.cW] at *);first|omega|rfl|trivial|assumption
 · (try simp only [S.bp,S.cW] at *);exact⟨rfl,rfl⟩
 · (try simp only [S.bp,S.cW] at *);have q:=S.JZ h4.1;have q1:=S.AD d1 d2;have q2:=S.qw (a:=e1) (b:=e2) (c:=e3) (d:=e4);exact⟨q.2.2.1,by omega,by omega⟩
 · (try simp only [S.bp,S.cW] at *);have q:=S.HH d1 d2 (S.kM (S.aR d1 d2).1).2.1 (S.ba e1 e2 e3 e4).1;have q2:=S.qw (a:=e1) (b:=e2) (c:=e3) (d:=e4);simp only [lc,ln];omega
 · (try simp only [S.bp,S.cW] at *);have q:=S.JZ h4.1;exact⟨by omega,by omega⟩
 · (try simp only [S.bp,S.cW] at *);have q:=S.HH d1 d2 (S.kM (S.aR d1 d2).1).2.1 (S.ba e1 e2 e3 e4).1;have q2:=S.qw (a:=e1) (b:=e2) (c:=e3) (d:=e4);simp only [lc,ln,List.length_append];omega
 iterate 6
  · (try simp only [S.bp,S.cW] at *);rw [S.anG h2 h4 h6 h8 dW]<;>rfl
theorem abw(d1:List (List UInt8))(d2:List (Int×List UInt8))(l:List (Bool×Int×List UInt8))(f:Int)(hp:True)(hf:Vg.Row.ok (Vg.PS.flat [.agg [.slice [.slice [.int .u8]], .slice [.int .i64, .slice [.int .u8]]], .one (.slice [.bool, .int .i64, .slice [.int .u8]]), .one (.int .i64)]) (d1,d2,l,f)):QP d1 d2 l f:=by
 delta QP Ka aU z0 z1 au
 have u7:d1.length≤9223372036854775807:=hf.1.1
 have u9:d2.length≤9223372036854775807:=hf.2.1.1
 have mj:l.length≤9223372036854775807:=hf.2.2.1.1
 have aft: -9223372036854775808≤f∧f≤9223372036854775807:=hf.2.2.2.1
 clear hf
 refine⟨?_,?_⟩
 · refine⟨((nat_lit 0:Nat),((d1),(d2))),?_⟩
   try dsimp only
   with_reducible and_intros
   omega
   iterate 2 rfl
   exact S.anH d1 d2 l f
 intro x1 h2
 refine⟨?_,?_⟩
 · intro h3
   try simp only [dt] at h3
   with_reducible and_intros
   iterate 2 omega
   · intro h4
     try simp only [dt] at h4
     with_reducible and_intros
     iterate 2
      · simp only [S.lY];rw [S.ae4 h2 h3 h4]
     simp only [S.lY];rw [S.ae4 h2 h3 h4]
   intro h5
   try simp only [df] at h5
   refine⟨?_,?_⟩
   · intro h6
     with_reducible and_intros
     trivial
     iterate 2 omega
     refine⟨((Prod.fst x1+nat_lit 1),((S.jE (Prod.fst (Prod.snd x1),Prod.snd (Prod.snd x1))),([]))),?_⟩
     try dsimp only
     with_reducible and_intros
     omega
     iterate 2 rfl
     exact S.XJ h2 h3 h5 h6
     have q:(x1.1:Int)<l.length:=h3;simp only [S.ah,S.len];omega
   intro h7
   with_reducible and_intros
   trivial
   · intro h8
     try simp only [nt,df,tn] at h8
     with_reducible and_intros
     iterate 2
      · simp only [S.lY];rw [S.Qg h2 h3 h5 h7 h8]
     simp only [S.lY];rw [S.Qg h2 h3 h5 h7 h8]
   intro h9
   try simp only [nf,dt,tn] at h9
   with_reducible and_intros
   iterate 2 omega
   refine⟨((Prod.fst x1+nat_lit 1),((S.wB (Prod.fst (Prod.snd x1)) (Prod.snd (Prod.snd x1))),(S.wW (Prod.fst (Prod.snd x1)) (Prod.snd (Prod.snd x1)) (Prod.fst (Prod.snd (List.getD l (Int.toNat (↑(Prod.fst x1):Int)) (Bool.false,(0:Int),[])))) (Prod.snd (Prod.snd (List.getD l (Int.toNat (↑(Prod.fst x1):Int)) (Bool.false,(0:Int),[]))))))),?_⟩
   try dsimp only
   with_reducible and_intros
   omega
   iterate 2 rfl
   exact S.UX h2 h3 h5 h7 h9
   have q:(x1.1:Int)<l.length:=h3;simp only [S.ah,S.len];omega
 intro dW
 try simp only [df] at dW
 with_reducible and_intros
 iterate 2
  · simp only [S.lY];rw [S.Qh h2 dW]
 simp only [S.lY];rw [S.Qh h2 dW]
theorem abx(e1:Int)(e2:Int)(e3:Int)(e4:List UInt8)(hp:True)(hf:Vg.Row.ok (Vg.PS.flat [.agg [.int .i64, .int .i64, .int .i64, .slice [.int .u8]]]) (e1,e2,e3,e4)):QQ e1 e2 e3 e4:=by
 delta QQ au
 have vc: -9223372036854775808≤e1∧e1≤9223372036854775807:=hf.1
 have ve: -9223372036854775808≤e2∧e2≤9223372036854775807:=hf.2.1
 have vf: -9223372036854775808≤e3∧e3≤9223372036854775807:=hf.2.2.1
 have vg:e4.length≤9223372036854775807:=hf.2.2.2.1.1
 clear hf
 rfl
theorem aby(l:List (List UInt8))(hp:S.small l)(hf:Vg.Row.ok (Vg.PS.flat [.one (.slice [.slice [.int .u8]])]) l):QR l:=by
 unfold QR
 have mj:l.length≤9223372036854775807:=hf.1.1
 clear hf
 with_reducible and_intros
 · intro h1
   exact h1.symm
 · simp only [S.small,Vg.fb,ln] at *;omega
 trivial
theorem abz(l:List (Int×List UInt8))(hp:S.small l)(hf:Vg.Row.ok (Vg.PS.flat [.one (.slice [.int .i64, .slice [.int .u8]])]) l):QS l:=by
 unfold QS
 have mj:l.length≤9223372036854775807:=hf.1.1
 clear hf
 with_reducible and_intros
 · intro h1
   exact h1.symm
 · simp only [S.small,Vg.fb,ln] at *;omega
 trivial
theorem abA(l:List (Int×Int×List (List UInt8×List Int)))(hp:S.small l)(hf:Vg.Row.ok (Vg.PS.flat [.one (.slice [.int .i64, .int .i64, .slice [.str, .slice [.int .i64]]])]) l):QT l:=by
 unfold QT
 have mj:l.length≤9223372036854775807:=hf.1.1
 clear hf
 with_reducible and_intros
 · intro h1
   exact h1.symm
 · simp only [S.small,Vg.fb,ln] at *;omega
 trivial
theorem abB(l1:List (List UInt8))(l2:List (Int×List UInt8))(l3:Int)(l4:Int)(l5:List (List UInt8))(l6:List (Int×Int×List (List UInt8×List Int)))(l7:Bool)(l8:Int)(hp:S.dj (l1,l2,l3,l4,l5,l6,l7,l8))(hf:Vg.Row.ok (Vg.TA.fc [.agg [.cD (.slice [.slice [.int .u8]]), .cD (.slice [.int .i64, .slice [.int .u8]]), .cD (.int .i64), .cD (.int .i64), .cD (.slice [.slice [.int .u8]]), .cD (.slice [.int .i64, .int .i64, .slice [.str, .slice [.int .i64]]]), .cD (.bool), .cD (.int .i64)]]) (l1,l2,l3,l4,l5,l6,l7,l8))(hg:Vg.gg.ok [] ()):QU l1 l2 l3 l4 l5 l6 l7 l8:=by
 delta QU Cd O9 aU z0 z1 au
 have Pe:l1.length≤9223372036854775807:=hf.1.1
 have Pf:l2.length≤9223372036854775807:=hf.2.1.1
 have Pg: -9223372036854775808≤l3∧l3≤9223372036854775807:=hf.2.2.1
 have Ph: -9223372036854775808≤l4∧l4≤9223372036854775807:=hf.2.2.2.1
 have Pj:l5.length≤9223372036854775807:=hf.2.2.2.2.1.1
 have Pk:l6.length≤9223372036854775807:=hf.2.2.2.2.2.1.1
 have Pl: -9223372036854775808≤l8∧l8≤9223372036854775807:=hf.2.2.2.2.2.2.2.1
 clear hf hg
 with_reducible and_intros
 exact hp.1
 · refine⟨(nat_lit 0:Nat),?_⟩
   try dsimp only
   with_reducible and_intros
   omega
   rfl
   simp only [S.ah,S.len,S.gh,S.gS] at *;omega
 intro x1 h2
 refine⟨?_,?_⟩
 · intro h3
   try simp only [dt] at h3
   with_reducible and_intros
   omega
   with_reducible assumption
   omega
   exact S.Mu hp.2.1 _
   omega
   with_reducible assumption
   iterate 3 omega
   refine⟨(x1+nat_lit 1),?_⟩
   try dsimp only
   with_reducible and_intros
   omega
   exact S.jQ _ _ _
   · simp only [S.ah,S.len,S.gh,S.gS] at *;omega
   simp only [S.ah,S.len,S.gh,S.gS] at *;omega
 intro h4
 try simp only [df] at h4
 with_reducible and_intros
 exact hp.2.2.1
 · refine⟨(nat_lit 0:Nat),?_⟩
   try dsimp only
   with_reducible and_intros
   omega
   rfl
   simp only [S.ah,S.len,S.gh,S.gS] at *;omega
 intro x5 h6
 refine⟨?_,?_⟩
 · intro h7
   try simp only [dt] at h7
   with_reducible and_intros
   omega
   with_reducible assumption
   omega
   exact S.Mv hp.2.2.2.1 _
   omega
   with_reducible assumption
   iterate 3 omega
   refine⟨(x5+nat_lit 1),?_⟩
   try dsimp only
   with_reducible and_intros
   omega
   exact S.jQ _ _ _
   · simp only [S.ah,S.len,S.gh,S.gS] at *;omega
   simp only [S.ah,S.len,S.gh,S.gS] at *;omega
 intro h8
 try simp only [df] at h8
 with_reducible and_intros
 · have q:=hp.2.2.2.2.1;simp only at q;unfold S.small;omega
 · refine⟨(nat_lit 0:Nat),?_⟩
   try dsimp only
   with_reducible and_intros
   omega
   rfl
   simp only [S.ah,S.len,S.gh,S.gS] at *;omega
 intro x9 dW
 refine⟨?_,?_⟩
 · intro fh
   try simp only [dt] at fh
   with_reducible and_intros
   omega
   with_reducible assumption
   omega
   exact S.Bz hp.2.2.2.2 _
   omega
   with_reducible assumption
   iterate 3 omega
   refine⟨(x9+nat_lit 1),?_⟩
   try dsimp only
   with_reducible and_intros
   omega
   exact S.jQ _ _ _
   · simp only [S.ah,S.len,S.gh,S.gS] at *;omega
   simp only [S.ah,S.len,S.gh,S.gS] at *;omega
 intro cO
 try simp only [df] at cO
 with_reducible and_intros
 · have q:=hp.2.2.2.2.2.1;simp only at q;unfold S.small;omega
 · refine⟨(nat_lit 0:Nat),?_⟩
   try dsimp only
   with_reducible and_intros
   omega
   rfl
   simp only [S.ah,S.len,S.gh,S.gS] at *;omega
 intro tc fH
 refine⟨?_,?_⟩
 · intro iQ
   try simp only [dt] at iQ
   with_reducible and_intros
   omega
   with_reducible assumption
   omega
   exact(S.mI hp.2.2.2.2 _).1
   · refine⟨((nat_lit 0:Nat),(tc)),?_⟩
     try dsimp only
     with_reducible and_intros
     omega
     trivial
     exact S.ahw iQ
     omega
   intro Fi xO
   refine⟨?_,?_⟩
   · intro ma
     try simp only [dt,tn] at ma
     with_reducible and_intros
     omega
     · have e:tc=Fi.2:=(by omega);subst e;exact ma
     · have e:tc=Fi.2:=(by omega);subst e;exact Int.ofNat_lt.1 ma
     exact(S.mI hp.2.2.2.2 _).2 _
     omega
     · have e:tc=Fi.2:=(by omega);subst e;exact ma
     · have e:tc=Fi.2:=(by omega);subst e;exact Int.ofNat_lt.1 ma
     omega
     · have e:tc=Fi.2:=(by omega);subst e;exact S.Hu (S.mI hp.2.2.2.2 Fi.2).1 ma
     refine⟨((Prod.fst Fi+nat_lit 1),(tc)),?_⟩
     try dsimp only
     with_reducible and_intros
     omega
     · have e:tc=Fi.2:=(by omega);subst e;exact S.jQ _ _ _
     · have e:tc=Fi.2:=(by omega);subst e;exact S.ahx xO.1 ma
     omega
     have e:tc=Fi.2:=(by omega);subst e;exact S.ahy ma
   intro AE
   try simp only [df,tn] at AE
   with_reducible and_intros
   omega
   with_reducible assumption
   iterate 3 omega
   refine⟨(tc+nat_lit 1),?_⟩
   try dsimp only
   with_reducible and_intros
   omega
   · have e:tc=Fi.2:=(by omega);subst e;exact S.XM _ _
   · simp only [S.ah,S.len,S.gh,S.gS] at *;omega
   simp only [S.ah,S.len,S.gh,S.gS] at *;omega
 intro Kf
 try simp only [df] at Kf
 with_reducible and_intros
 iterate 9 rfl
theorem abC(d1:List (List UInt8))(d2:List (Int×List UInt8))(s1:Int)(s2:Int)(s3:List (List UInt8))(s4:List (Int×Int×List (List UInt8×List Int)))(up:Bool)(fu:Int)(hp:True)(hf:Vg.Row.ok (Vg.TA.fc [.ref 50000 0]) ())(hg:Vg.gg.ok [.cells [.cD (.slice [.slice [.int .u8]]), .cD (.slice [.int .i64, .slice [.int .u8]]), .cD (.int .i64), .cD (.int .i64), .cD (.slice [.slice [.int .u8]]), .cD (.slice [.int .i64, .int .i64, .slice [.str, .slice [.int .i64]]]), .cD (.bool), .cD (.int .i64)]] ((d1,d2,s1,s2,s3,s4,up,fu),())):QV d1 d2 s1 s2 s3 s4 up fu:=by
 unfold QV
 have u7:d1.length≤9223372036854775807:=hg.1.1.1
 have u9:d2.length≤9223372036854775807:=hg.1.2.1.1
 have sO: -9223372036854775808≤s1∧s1≤9223372036854775807:=hg.1.2.2.1
 have sP: -9223372036854775808≤s2∧s2≤9223372036854775807:=hg.1.2.2.2.1
 have Ke:s3.length≤9223372036854775807:=hg.1.2.2.2.2.1.1
 have Zb:s4.length≤9223372036854775807:=hg.1.2.2.2.2.2.1.1
 have ai6: -9223372036854775808≤fu∧fu≤9223372036854775807:=hg.1.2.2.2.2.2.2.2.1
 clear hf hg
 with_reducible and_intros
 iterate 8 rfl
theorem abD(l:List (Bool×Int×List UInt8))(d1:List (List UInt8))(d2:List (Int×List UInt8))(s1:Int)(s2:Int)(s3:List (List UInt8))(s4:List (Int×Int×List (List UInt8×List Int)))(up:Bool)(fu:Int)(hp:True)(hf:Vg.Row.ok (Vg.TA.fc [.ref 50000 0, .cD (.slice [.bool, .int .i64, .slice [.int .u8]])]) l)(hg:Vg.gg.ok [.cells [.cD (.slice [.slice [.int .u8]]), .cD (.slice [.int .i64, .slice [.int .u8]]), .cD (.int .i64), .cD (.int .i64), .cD (.slice [.slice [.int .u8]]), .cD (.slice [.int .i64, .int .i64, .slice [.str, .slice [.int .i64]]]), .cD (.bool), .cD (.int .i64)]] ((d1,d2,s1,s2,s3,s4,up,fu),())):QW l d1 d2 s1 s2 s3 s4 up fu:=by
 delta QW MC aU z0 au
 have mj:l.length≤9223372036854775807:=hf.1.1
 have u7:d1.length≤9223372036854775807:=hg.1.1.1
 have u9:d2.length≤9223372036854775807:=hg.1.2.1.1
 have sO: -9223372036854775808≤s1∧s1≤9223372036854775807:=hg.1.2.2.1
 have sP: -9223372036854775808≤s2∧s2≤9223372036854775807:=hg.1.2.2.2.1
 have Ke:s3.length≤9223372036854775807:=hg.1.2.2.2.2.1.1
 have Zb:s4.length≤9223372036854775807:=hg.1.2.2.2.2.2.1.1
 have ai6: -9223372036854775808≤fu∧fu≤9223372036854775807:=hg.1.2.2.2.2.2.2.2.1
 clear hf hg
 with_reducible and_intros
 trivial
 · intro h1
   try simp only [dt] at h1
   refine⟨?_,?_⟩
   · have q:=S.XP (l1:=d1) (l2:=d2) l h1;omega
   have q:=S.XP (l1:=d1) (l2:=d2) l h1;omega
 · intro h2
   try simp only [df] at h2
   trivial
 rw [S.ahz]
 iterate 7
  · rw [S.XO];cases decide (0≤fu)<;>rfl
 rw [S.XO]
theorem abE(n:Int)(hp:True)(hf:Vg.Row.ok (Vg.PS.flat [.one (.int .i64)]) n):QX n:=by
 delta QX Fa Pa Pb z0 z1
 have Y7: -9223372036854775808≤n∧n≤9223372036854775807:=hf.1
 clear hf
 with_reducible and_intros
 trivial
 · intro h1
   try simp only [nt,df] at h1
   with_reducible and_intros
   iterate 8
    · rw [S.ae5 h1]<;>rfl
   rw [S.ae5 h1]<;>rfl
 intro h2
 try simp only [nf,dt] at h2
 with_reducible and_intros
 trivial
 · intro h3
   try simp only [nt,df] at h3
   with_reducible and_intros
   iterate 8
    · rw [S.ae6 h2 h3]<;>rfl
   rw [S.ae6 h2 h3]<;>rfl
 intro h4
 try simp only [nf,dt] at h4
 with_reducible and_intros
 iterate 8 (rw [S.ae7 h2 h4])
 rw [S.ae7 h2 h4]
theorem abF(l1:List (List UInt8))(l2:List (Int×List UInt8))(l3:Int)(l4:Int)(l5:List (List UInt8))(l6:List (Int×Int×List (List UInt8×List Int)))(l7:Bool)(l8:Int)(e1:Int)(e2:Int)(e3:Int)(e4:List UInt8)(hp:S.dj (l1,l2,l3,l4,l5,l6,l7,l8))(hf:Vg.Row.ok (Vg.PS.flat [.agg [.slice [.slice [.int .u8]], .slice [.int .i64, .slice [.int .u8]], .int .i64, .int .i64, .slice [.slice [.int .u8]], .slice [.int .i64, .int .i64, .slice [.str, .slice [.int .i64]]], .bool, .int .i64], .agg [.int .i64, .int .i64, .int .i64, .slice [.int .u8]]]) (l1,l2,l3,l4,l5,l6,l7,l8,e1,e2,e3,e4)):QY l1 l2 l3 l4 l5 l6 l7 l8 e1 e2 e3 e4:=by
 delta QY lU Fb z0
 have Pe:l1.length≤9223372036854775807:=hf.1.1
 have Pf:l2.length≤9223372036854775807:=hf.2.1.1
 have Pg: -9223372036854775808≤l3∧l3≤9223372036854775807:=hf.2.2.1
 have Ph: -9223372036854775808≤l4∧l4≤9223372036854775807:=hf.2.2.2.1
 have Pj:l5.length≤9223372036854775807:=hf.2.2.2.2.1.1
 have Pk:l6.length≤9223372036854775807:=hf.2.2.2.2.2.1.1
 have Pl: -9223372036854775808≤l8∧l8≤9223372036854775807:=hf.2.2.2.2.2.2.2.1
 have vc: -9223372036854775808≤e1∧e1≤9223372036854775807:=hf.2.2.2.2.2.2.2.2.1
 have ve: -9223372036854775808≤e2∧e2≤9223372036854775807:=hf.2.2.2.2.2.2.2.2.2.1
 have vf: -9223372036854775808≤e3∧e3≤9223372036854775807:=hf.2.2.2.2.2.2.2.2.2.2.1
 have vg:e4.length≤9223372036854775807:=hf.2.2.2.2.2.2.2.2.2.2.2.1.1
 clear hf
 refine⟨?_,?_⟩
 · intro h1
   try simp only [nt] at h1
   with_reducible and_intros
   iterate 8 (rw [S.ae8 h1])
   rw [S.ae8 h1]
 intro h2
 try simp only [nf] at h2
 with_reducible and_intros
 trivial
 · intro h3
   try simp only [nt,df] at h3
   with_reducible and_intros
   iterate 8 (rw [S.ae9 h2 h3])
   rw [S.ae9 h2 h3]
 intro h4
 try simp only [nf,dt] at h4
 with_reducible and_intros
 with_reducible first|trivial|assumption|rfl
 trivial
 · intro h5
   try simp only [nt] at h5
   with_reducible and_intros
   trivial
   iterate 8
    · rw [S.afa h2 h4 h5]<;>rfl
   rw [S.afa h2 h4 h5]<;>rfl
 intro h6
 try simp only [nf] at h6
 with_reducible and_intros
 iterate 8 (rw [S.afb h2 h4 h6])
 rw [S.afb h2 h4 h6]
theorem abG(l1:List (List UInt8))(l2:List (Int×List UInt8))(l3:Int)(l4:Int)(l5:List (List UInt8))(l6:List (Int×Int×List (List UInt8×List Int)))(l7:Bool)(l8:Int)(f:List Int)(hp:S.dj (l1,l2,l3,l4,l5,l6,l7,l8))(hf:Vg.Row.ok (Vg.PS.flat [.agg [.slice [.slice [.int .u8]], .slice [.int .i64, .slice [.int .u8]], .int .i64, .int .i64, .slice [.slice [.int .u8]], .slice [.int .i64, .int .i64, .slice [.str, .slice [.int .i64]]], .bool, .int .i64], .one (.slice [.int .i64])]) (l1,l2,l3,l4,l5,l6,l7,l8,f)):QZ l1 l2 l3 l4 l5 l6 l7 l8 f:=by
 unfold QZ
 have Pe:l1.length≤9223372036854775807:=hf.1.1
 have Pf:l2.length≤9223372036854775807:=hf.2.1.1
 have Pg: -9223372036854775808≤l3∧l3≤9223372036854775807:=hf.2.2.1
 have Ph: -9223372036854775808≤l4∧l4≤9223372036854775807:=hf.2.2.2.1
 have Pj:l5.length≤9223372036854775807:=hf.2.2.2.2.1.1
 have Pk:l6.length≤9223372036854775807:=hf.2.2.2.2.2.1.1
 have Pl: -9223372036854775808≤l8∧l8≤9223372036854775807:=hf.2.2.2.2.2.2.2.1
 have aft:f.length≤9223372036854775807:=hf.2.2.2.2.2.2.2.2.1.1
 clear hf
 with_reducible and_intros
 with_reducible first|trivial|assumption|rfl
 iterate 2 trivial
 iterate 8 rfl
theorem abH(l1:List (List UInt8))(l2:List (Int×List UInt8))(l3:Int)(l4:Int)(l5:List (List UInt8))(l6:List (Int×Int×List (List UInt8×List Int)))(l7:Bool)(l8:Int)(hp:True)(hf:Vg.Row.ok (Vg.PS.flat [.agg [.slice [.slice [.int .u8]], .slice [.int .i64, .slice [.int .u8]], .int .i64, .int .i64, .slice [.slice [.int .u8]], .slice [.int .i64, .int .i64, .slice [.str, .slice [.int .i64]]], .bool, .int .i64]]) (l1,l2,l3,l4,l5,l6,l7,l8)):Q0 l1 l2 l3 l4 l5 l6 l7 l8:=by
 delta Q0 lV BI z0
 have Pe:l1.length≤9223372036854775807:=hf.1.1
 have Pf:l2.length≤9223372036854775807:=hf.2.1.1
 have Pg: -9223372036854775808≤l3∧l3≤9223372036854775807:=hf.2.2.1
 have Ph: -9223372036854775808≤l4∧l4≤9223372036854775807:=hf.2.2.2.1
 have Pj:l5.length≤9223372036854775807:=hf.2.2.2.2.1.1
 have Pk:l6.length≤9223372036854775807:=hf.2.2.2.2.2.1.1
 have Pl: -9223372036854775808≤l8∧l8≤9223372036854775807:=hf.2.2.2.2.2.2.2.1
 clear hf
 refine⟨?_,?_⟩
 · intro h1
   with_reducible and_intros
   iterate 8 (rw [S.afc h1])
   rw [S.afc h1]
 intro h2
 with_reducible and_intros
 iterate 2 trivial
 · intro h3
   try simp only [nt,df] at h3
   with_reducible and_intros
   iterate 8 (rw [S.afd h2 h3])
   rw [S.afd h2 h3]
 intro h4
 try simp only [nf,dt] at h4
 with_reducible and_intros
 iterate 8 (rw [S.afe h2 h4])
 rw [S.afe h2 h4]
theorem abI(hp:True)(hf:Vg.Row.ok (Vg.PS.flat []) ()):Q3:=by
 delta Q3 Fc HJ HK MD BJ ME Q1 BK Q2 z0 z1
 clear hf
 with_reducible and_intros
 trivial
 with_reducible trivial
 · (simp only [S.zv,S.CB,S.CC,S.zw,S.CD,S.zx] at *;with_reducible exact S.ahA)
 · (simp only [S.zv,S.CB,S.CC,S.zw,S.CD,S.zx] at *;with_reducible exact S.ahC)
 trivial
 with_reducible trivial
 · (simp only [S.zv,S.CB,S.CC,S.zw,S.CD,S.zx] at *;with_reducible exact S.ahB)
 · (simp only [S.zv,S.CB,S.CC,S.zw,S.CD,S.zx] at *;with_reducible exact S.ahD)
 trivial
 · intro h1
   try simp only [dt] at h1
   refine⟨?_,?_⟩
   · intro h2
     refine⟨?_,?_⟩
     · intro h3
       try simp only [dt] at h3
       refine⟨?_,?_⟩
       · intro h4
         try simp only [nt] at h4
         refine⟨?_,?_⟩
         · intro h5
           try simp only [dt] at h5
           refine⟨?_,?_⟩
           · intro h6
             try simp only [dt] at h6
             refine⟨?_,?_⟩
             · intro h7
               try simp only [dt] at h7
               refine⟨?_,?_⟩
               · intro h8
                 try simp only [dt] at h8
                 refine⟨?_,?_⟩
                 · intro h9
                   try simp only [dt] at h9
                   refine⟨?_,?_⟩
                   · with_reducible trivial
                   simp only [S.zv,S.zw,S.zx] at *;omega
                 intro dW
                 try simp only [df] at dW
                 trivial
               intro fh
               try simp only [df] at fh
               trivial
             intro cO
             try simp only [df] at cO
             trivial
           intro fj
           try simp only [df] at fj
           trivial
         intro fH
         try simp only [df] at fH
         trivial
       intro iQ
       try simp only [nf] at iQ
       trivial
     intro xN
     try simp only [df] at xN
     trivial
   intro xO
   trivial
 · intro ma
   try simp only [df] at ma
   trivial
 with_reducible trivial
theorem abJ(a1:Int)(a2:Int)(a3:Int)(a4:Int)(a5:Int)(a6:List UInt8)(a7:List Int)(hp:True)(hf:Vg.Row.ok (Vg.PS.flat [.agg [.int .i64, .int .i64, .int .i64, .int .i64, .int .i64, .slice [.int .u8], .slice [.int .i64]]]) (a1,a2,a3,a4,a5,a6,a7)):Q4 a1 a2 a3 a4 a5 a6 a7:=by
 delta Q4 au
 have Y8: -9223372036854775808≤a1∧a1≤9223372036854775807:=hf.1
 have Y9: -9223372036854775808≤a2∧a2≤9223372036854775807:=hf.2.1
 have ai7: -9223372036854775808≤a3∧a3≤9223372036854775807:=hf.2.2.1
 have ai8: -9223372036854775808≤a4∧a4≤9223372036854775807:=hf.2.2.2.1
 have ai9: -9223372036854775808≤a5∧a5≤9223372036854775807:=hf.2.2.2.2.1
 have aja:a6.length≤9223372036854775807:=hf.2.2.2.2.2.1.1
 have ajb:a7.length≤9223372036854775807:=hf.2.2.2.2.2.2.1.1
 clear hf
 refine⟨?_,?_⟩
 · trivial
 exact S.lsm _ _ _ _ _ _ _
theorem abK(y1:List (List UInt8))(y2:List (Int×List UInt8))(y3:Int)(y4:Int)(y5:List (List UInt8))(y6:List (Int×Int×List (List UInt8×List Int)))(y7:Bool)(y8:Int)(a1:Int)(a2:Int)(a3:Int)(a4:Int)(a5:Int)(a6:List UInt8)(a7:List Int)(hp:S.dj (y1,y2,y3,y4,y5,y6,y7,y8))(hf:Vg.Row.ok (Vg.PS.flat [.agg [.slice [.slice [.int .u8]], .slice [.int .i64, .slice [.int .u8]], .int .i64, .int .i64, .slice [.slice [.int .u8]], .slice [.int .i64, .int .i64, .slice [.str, .slice [.int .i64]]], .bool, .int .i64], .agg [.int .i64, .int .i64, .int .i64, .int .i64, .int .i64, .slice [.int .u8], .slice [.int .i64]]]) (y1,y2,y3,y4,y5,y6,y7,y8,a1,a2,a3,a4,a5,a6,a7)):Q5 y1 y2 y3 y4 y5 y6 y7 y8 a1 a2 a3 a4 a5 a6 a7:=by
 delta Q5 gK z0 z1
 have mN:y1.length≤9223372036854775807:=hf.1.1
 have mO:y2.length≤9223372036854775807:=hf.2.1.1
 have aqn: -9223372036854775808≤y3∧y3≤9223372036854775807:=hf.2.2.1
 have aqo: -9223372036854775808≤y4∧y4≤9223372036854775807:=hf.2.2.2.1
 have aqp:y5.length≤9223372036854775807:=hf.2.2.2.2.1.1
 have aqq:y6.length≤9223372036854775807:=hf.2.2.2.2.2.1.1
 have aqr: -9223372036854775808≤y8∧y8≤9223372036854775807:=hf.2.2.2.2.2.2.2.1
 have Y8: -9223372036854775808≤a1∧a1≤9223372036854775807:=hf.2.2.2.2.2.2.2.2.1
 have Y9: -9223372036854775808≤a2∧a2≤9223372036854775807:=hf.2.2.2.2.2.2.2.2.2.1
 have ai7: -9223372036854775808≤a3∧a3≤9223372036854775807:=hf.2.2.2.2.2.2.2.2.2.2.1
 have ai8: -9223372036854775808≤a4∧a4≤9223372036854775807:=hf.2.2.2.2.2.2.2.2.2.2.2.1
 have ai9: -9223372036854775808≤a5∧a5≤9223372036854775807:=hf.2.2.2.2.2.2.2.2.2.2.2.2.1
 have aja:a6.length≤9223372036854775807:=hf.2.2.2.2.2.2.2.2.2.2.2.2.2.1.1
 have ajb:a7.length≤9223372036854775807:=hf.2.2.2.2.2.2.2.2.2.2.2.2.2.2.1.1
 clear hf
 refine⟨?_,?_⟩
 · intro h1
   try simp only [dt] at h1
   with_reducible and_intros
   with_reducible first|trivial|assumption|rfl
   iterate 8 (rw [S.XQ h1])
   rw [S.XQ h1]
 intro h2
 try simp only [df] at h2
 refine⟨?_,?_⟩
 · intro h3
   try simp only [dt] at h3
   with_reducible and_intros
   with_reducible first|trivial|assumption|rfl
   iterate 8 (rw [S.aff h2 h3])
   rw [S.aff h2 h3]
 intro h4
 try simp only [df] at h4
 refine⟨?_,?_⟩
 · intro h5
   try simp only [dt] at h5
   with_reducible and_intros
   trivial
   iterate 8 (rw [S.afg h2 h4 h5])
   rw [S.afg h2 h4 h5]
 intro h6
 try simp only [df] at h6
 with_reducible and_intros
 iterate 8 (rw [S.afh h2 h4 h6])
 rw [S.afh h2 h4 h6]
set_option maxHeartbeats 2000000 in
theorem abL(n:Int)(l:List (Int×Int×Int×Int×Int×List UInt8×List Int))(f:List Int)(hp:True)(hf:Vg.Row.ok (Vg.PS.flat [.one (.int .i64), .one (.slice [.int .i64, .int .i64, .int .i64, .int .i64, .int .i64, .slice [.int .u8], .slice [.int .i64]]), .one (.slice [.int .i64])]) (n,l,f)):Q6 n l f:=by
 delta Q6 gL eG jF sZ lW pO pP YV Fe rJ YW YX HL BL YY Ff YZ MF aU z0 z1 au
 have Y7: -9223372036854775808≤n∧n≤9223372036854775807:=hf.1
 have mj:l.length≤9223372036854775807:=hf.2.1.1
 have aft:f.length≤9223372036854775807:=hf.2.2.1.1
 clear hf
 refine⟨?_,?_⟩
 · intro h1
   try simp only [V.pQ,dt] at h1
   refine⟨?_,?_⟩
   · trivial
   rfl
 intro h2
 try simp only [V.gm,df] at h2
 with_reducible and_intros
 trivial
 · intro h3
   try simp only [nt,df] at h3
   exact absurd (S.afi ⟨h2.1,h2.2.1⟩).1 h3
 intro h4
 try simp only [nf,dt] at h4
 refine⟨?_,?_⟩
 · refine⟨((nat_lit 0:Nat),(((Prod.fst (Prod.fst (S.cx n))),((Prod.fst (Prod.snd (Prod.fst (S.cx n)))),((Prod.fst (Prod.snd (Prod.snd (Prod.fst (S.cx n))))),((Prod.fst (Prod.snd (Prod.snd (Prod.snd (Prod.fst (S.cx n)))))),((Prod.fst (Prod.snd (Prod.snd (Prod.snd (Prod.snd (Prod.fst (S.cx n))))))),((Prod.fst (Prod.snd (Prod.snd (Prod.snd (Prod.snd (Prod.snd (Prod.fst (S.cx n)))))))),((Prod.fst (Prod.snd (Prod.snd (Prod.snd (Prod.snd (Prod.snd (Prod.snd (Prod.fst (S.cx n))))))))),(Prod.snd (Prod.snd (Prod.snd (Prod.snd (Prod.snd (Prod.snd (Prod.snd (Prod.fst (S.cx n)))))))))))))))),([]))),?_⟩
   try dsimp only
   with_reducible and_intros
   iterate 10 (with_reducible first|trivial|assumption|rfl|omega)
   exact S.Qj (S.afi ⟨h2.1,h2.2.1⟩).2
 intro x5 h6
 refine⟨?_,?_⟩
 · intro h7
   try simp only [V.Ha,dt] at h7
   with_reducible and_intros
   iterate 2 (with_reducible first|trivial|assumption|rfl|omega)
   trivial
   · intro h8
     try simp only [nt] at h8
     with_reducible and_intros
     iterate 2 (with_reducible first|trivial|assumption|rfl|omega)
     refine⟨((Prod.fst x5+nat_lit 1),(((Prod.fst (Prod.fst (Prod.snd x5))),((Prod.fst (Prod.snd (Prod.fst (Prod.snd x5)))),((Prod.fst (Prod.snd (Prod.snd (Prod.fst (Prod.snd x5))))),((Prod.fst (Prod.snd (Prod.snd (Prod.snd (Prod.fst (Prod.snd x5)))))),((Prod.fst (Prod.snd (Prod.snd (Prod.snd (Prod.snd (Prod.fst (Prod.snd x5))))))),((Prod.fst (Prod.snd (Prod.snd (Prod.snd (Prod.snd (Prod.snd (Prod.fst (Prod.snd x5)))))))),((Prod.fst (Prod.snd (Prod.snd (Prod.snd (Prod.snd (Prod.snd (Prod.snd (Prod.fst (Prod.snd x5))))))))),(Prod.snd (Prod.snd (Prod.snd (Prod.snd (Prod.snd (Prod.snd (Prod.snd (Prod.fst (Prod.snd x5)))))))))))))))),(Prod.snd (Prod.snd x5)))),?_⟩
     try dsimp only
     with_reducible and_intros
     iterate 10 (with_reducible first|trivial|assumption|rfl|omega)
     · obtain⟨k,X,s⟩:=x5;simp only [tn] at *;have h1:S.LI X s k:=h6.1;have h2:k≤40:=h6.2;exact S.Qj (S.XR h1 h2 h7.2)
     exact S.E3 h7.1
   intro h9
   try simp only [nf] at h9
   with_reducible and_intros
   iterate 2 (with_reducible first|trivial|assumption|rfl|omega)
   exact h6.1.pre
   iterate 2 (with_reducible first|trivial|assumption|rfl|omega)
   · intro dW
     try simp only [dt,tn] at dW
     refine⟨?_,?_⟩
     · with_reducible first|trivial|assumption|rfl|omega
     with_reducible first|trivial|assumption|rfl|omega
   · intro fh
     try simp only [df,tn] at fh
     trivial
   · intro cO
     try simp only [V.Ha,dt,tn] at cO
     with_reducible and_intros
     iterate 2 (with_reducible first|trivial|assumption|rfl|omega)
     · have q:=S.J3 h6;rw [List.length_singleton];omega
     · intro fj
       try simp only [nt] at fj
       with_reducible and_intros
       · obtain⟨k,X,s⟩:=x5;simp only [tn] at *;have h1:S.LI X s k:=h6.1;have h2:k≤40:=h6.2;exact(S.qV h1 h2 cO fj).elim
       trivial
       · intro fH
         try simp only [nt,df,tn] at fH
         trivial
       · intro iQ
         try simp only [nf,dt,tn] at iQ
         refine⟨?_,?_⟩
         · intro xN
           try simp only [dt,tn] at xN
           trivial
         intro xO
         try simp only [df,tn] at xO
         refine⟨?_,?_⟩
         · with_reducible first|trivial|assumption|rfl|omega
         obtain⟨k,X,s⟩:=x5;simp only [tn] at *;have h1:S.LI X s k:=h6.1;have h2:k≤40:=h6.2;exact(S.qV h1 h2 cO fj).elim
       · intro ma
         try simp only [V.pQ,nt,df,tn,dt] at ma
         obtain⟨k,X,s⟩:=x5;simp only [tn] at *;have h1:S.LI X s k:=h6.1;have h2:k≤40:=h6.2;exact(S.qV h1 h2 cO fj).elim
       intro AE
       try simp only [V.gm,nf,dt,tn,df] at AE
       refine⟨?_,?_⟩
       · intro Kf
         try simp only [dt,tn] at Kf
         with_reducible and_intros
         with_reducible first|trivial|assumption|rfl|omega
         · obtain⟨k,X,s⟩:=x5;simp only [tn] at *;have h1:S.LI X s k:=h6.1;have h2:k≤40:=h6.2;exact(S.qV h1 h2 cO fj).elim
         · intro qW
           try simp only [nt] at qW
           trivial
         · intro h22
           try simp only [nf] at h22
           with_reducible and_intros
           iterate 2 (with_reducible first|trivial|assumption|rfl|omega)
           · intro h23
             try simp only [nt,df,tn] at h23
             trivial
           intro Vs
           try simp only [nf,dt,tn] at Vs
           refine⟨?_,?_⟩
           · with_reducible first|trivial|assumption|rfl|omega
           with_reducible first|trivial|assumption|rfl|omega
         · intro Pc
           try simp only [V.pQ,nt,df,tn] at Pc
           obtain⟨k,X,s⟩:=x5;simp only [tn] at *;have h1:S.LI X s k:=h6.1;have h2:k≤40:=h6.2;exact(S.qV h1 h2 cO fj).elim
         intro h26
         try simp only [V.gm,nf,dt,tn] at h26
         with_reducible and_intros
         · obtain⟨k,X,s⟩:=x5;simp only [tn] at *;have h1:S.LI X s k:=h6.1;have h2:k≤40:=h6.2;exact(S.qV h1 h2 cO fj).elim
         trivial
         · intro h27
           try simp only [nt] at h27
           obtain⟨k,X,s⟩:=x5;simp only [tn] at *;have h1:S.LI X s k:=h6.1;have h2:k≤40:=h6.2;exact(S.qV h1 h2 cO fj).elim
         intro Y3
         try simp only [nf] at Y3
         with_reducible and_intros
         iterate 2 (with_reducible first|trivial|assumption|rfl|omega)
         refine⟨((Prod.fst x5+nat_lit 1),(((Prod.fst (Prod.fst (S.al (S.ax (Prod.fst (S.bc (Prod.fst (Prod.snd x5)) (List.getD l (Int.toNat (↑(Prod.fst x5):Int)) ((0:Int),(0:Int),(0:Int),(0:Int),(0:Int),[],[])))) f)))),((Prod.fst (Prod.snd (Prod.fst (S.al (S.ax (Prod.fst (S.bc (Prod.fst (Prod.snd x5)) (List.getD l (Int.toNat (↑(Prod.fst x5):Int)) ((0:Int),(0:Int),(0:Int),(0:Int),(0:Int),[],[])))) f))))),((Prod.fst (Prod.snd (Prod.snd (Prod.fst (S.al (S.ax (Prod.fst (S.bc (Prod.fst (Prod.snd x5)) (List.getD l (Int.toNat (↑(Prod.fst x5):Int)) ((0:Int),(0:Int),(0:Int),(0:Int),(0:Int),[],[])))) f)))))),((Prod.fst (Prod.snd (Prod.snd (Prod.snd (Prod.fst (S.al (S.ax (Prod.fst (S.bc (Prod.fst (Prod.snd x5)) (List.getD l (Int.toNat (↑(Prod.fst x5):Int)) ((0:Int),(0:Int),(0:Int),(0:Int),(0:Int),[],[])))) f))))))),((Prod.fst (Prod.snd (Prod.snd (Prod.snd (Prod.snd (Prod.fst (S.al (S.ax (Prod.fst (S.bc (Prod.fst (Prod.snd x5)) (List.getD l (Int.toNat (↑(Prod.fst x5):Int)) ((0:Int),(0:Int),(0:Int),(0:Int),(0:Int),[],[])))) f)))))))),((Prod.fst (Prod.snd (Prod.snd (Prod.snd (Prod.snd (Prod.snd (Prod.fst (S.al (S.ax (Prod.fst (S.bc (Prod.fst (Prod.snd x5)) (List.getD l (Int.toNat (↑(Prod.fst x5):Int)) ((0:Int),(0:Int),(0:Int),(0:Int),(0:Int),[],[])))) f))))))))),((Prod.fst (Prod.snd (Prod.snd (Prod.snd (Prod.snd (Prod.snd (Prod.snd (Prod.fst (S.al (S.ax (Prod.fst (S.bc (Prod.fst (Prod.snd x5)) (List.getD l (Int.toNat (↑(Prod.fst x5):Int)) ((0:Int),(0:Int),(0:Int),(0:Int),(0:Int),[],[])))) f)))))))))),(Prod.snd (Prod.snd (Prod.snd (Prod.snd (Prod.snd (Prod.snd (Prod.snd (Prod.fst (S.al (S.ax (Prod.fst (S.bc (Prod.fst (Prod.snd x5)) (List.getD l (Int.toNat (↑(Prod.fst x5):Int)) ((0:Int),(0:Int),(0:Int),(0:Int),(0:Int),[],[])))) f))))))))))))))))),(Prod.snd (Prod.snd x5)++ [Prod.fst (Prod.snd (Prod.snd (Prod.snd (Prod.snd (Prod.snd (List.getD l (Int.toNat (↑(Prod.fst x5):Int)) ((0:Int),(0:Int),(0:Int),(0:Int),(0:Int),[],[])))))))]++ [List.getD (Prod.fst (Prod.snd (Prod.snd (Prod.snd (Prod.snd (Prod.fst (S.al (S.ax (Prod.fst (S.bc (Prod.fst (Prod.snd x5)) (List.getD l (Int.toNat (↑(Prod.fst x5):Int)) ((0:Int),(0:Int),(0:Int),(0:Int),(0:Int),[],[])))) f)))))))) (Int.toNat (↑(List.length (Prod.snd (Prod.snd x5)++ [Prod.fst (Prod.snd (Prod.snd (Prod.snd (Prod.snd (Prod.snd (List.getD l (Int.toNat (↑(Prod.fst x5):Int)) ((0:Int),(0:Int),(0:Int),(0:Int),(0:Int),[],[])))))))])):Int)) []]))),?_⟩
         try dsimp only
         with_reducible and_intros
         iterate 10 (with_reducible first|trivial|assumption|rfl|omega)
         · obtain⟨k,X,s⟩:=x5;simp only [tn] at *;have h1:S.LI X s k:=h6.1;have h2:k≤40:=h6.2;exact(S.qV h1 h2 cO fj).elim
         exact S.E3 h7.1
       intro Y4
       try simp only [df,tn] at Y4
       with_reducible and_intros
       trivial
       · intro h30
         try simp only [nt] at h30
         obtain⟨k,X,s⟩:=x5;simp only [tn] at *;have h1:S.LI X s k:=h6.1;have h2:k≤40:=h6.2;exact(S.qV h1 h2 cO fj).elim
       intro h31
       try simp only [nf] at h31
       with_reducible and_intros
       iterate 2 (with_reducible first|trivial|assumption|rfl|omega)
       refine⟨((Prod.fst x5+nat_lit 1),(((Prod.fst (Prod.fst (S.al (S.ax (Prod.fst (S.bc (Prod.fst (Prod.snd x5)) (List.getD l (Int.toNat (↑(Prod.fst x5):Int)) ((0:Int),(0:Int),(0:Int),(0:Int),(0:Int),[],[])))) f)))),((Prod.fst (Prod.snd (Prod.fst (S.al (S.ax (Prod.fst (S.bc (Prod.fst (Prod.snd x5)) (List.getD l (Int.toNat (↑(Prod.fst x5):Int)) ((0:Int),(0:Int),(0:Int),(0:Int),(0:Int),[],[])))) f))))),((Prod.fst (Prod.snd (Prod.snd (Prod.fst (S.al (S.ax (Prod.fst (S.bc (Prod.fst (Prod.snd x5)) (List.getD l (Int.toNat (↑(Prod.fst x5):Int)) ((0:Int),(0:Int),(0:Int),(0:Int),(0:Int),[],[])))) f)))))),((Prod.fst (Prod.snd (Prod.snd (Prod.snd (Prod.fst (S.al (S.ax (Prod.fst (S.bc (Prod.fst (Prod.snd x5)) (List.getD l (Int.toNat (↑(Prod.fst x5):Int)) ((0:Int),(0:Int),(0:Int),(0:Int),(0:Int),[],[])))) f))))))),((Prod.fst (Prod.snd (Prod.snd (Prod.snd (Prod.snd (Prod.fst (S.al (S.ax (Prod.fst (S.bc (Prod.fst (Prod.snd x5)) (List.getD l (Int.toNat (↑(Prod.fst x5):Int)) ((0:Int),(0:Int),(0:Int),(0:Int),(0:Int),[],[])))) f)))))))),((Prod.fst (Prod.snd (Prod.snd (Prod.snd (Prod.snd (Prod.snd (Prod.fst (S.al (S.ax (Prod.fst (S.bc (Prod.fst (Prod.snd x5)) (List.getD l (Int.toNat (↑(Prod.fst x5):Int)) ((0:Int),(0:Int),(0:Int),(0:Int),(0:Int),[],[])))) f))))))))),((Prod.fst (Prod.snd (Prod.snd (Prod.snd (Prod.snd (Prod.snd (Prod.snd (Prod.fst (S.al (S.ax (Prod.fst (S.bc (Prod.fst (Prod.snd x5)) (List.getD l (Int.toNat (↑(Prod.fst x5):Int)) ((0:Int),(0:Int),(0:Int),(0:Int),(0:Int),[],[])))) f)))))))))),(Prod.snd (Prod.snd (Prod.snd (Prod.snd (Prod.snd (Prod.snd (Prod.snd (Prod.fst (S.al (S.ax (Prod.fst (S.bc (Prod.fst (Prod.snd x5)) (List.getD l (Int.toNat (↑(Prod.fst x5):Int)) ((0:Int),(0:Int),(0:Int),(0:Int),(0:Int),[],[])))) f))))))))))))))))),(Prod.snd (Prod.snd x5)++ [Prod.fst (Prod.snd (Prod.snd (Prod.snd (Prod.snd (Prod.snd (List.getD l (Int.toNat (↑(Prod.fst x5):Int)) ((0:Int),(0:Int),(0:Int),(0:Int),(0:Int),[],[])))))))]))),?_⟩
       try dsimp only
       with_reducible and_intros
       iterate 10 (with_reducible first|trivial|assumption|rfl|omega)
       · obtain⟨k,X,s⟩:=x5;simp only [tn] at *;have h1:S.LI X s k:=h6.1;have h2:k≤40:=h6.2;exact(S.qV h1 h2 cO fj).elim
       exact S.E3 h7.1
     intro h32
     try simp only [nf] at h32
     with_reducible and_intros
     iterate 2 (with_reducible first|trivial|assumption|rfl|omega)
     refine⟨((Prod.fst x5+nat_lit 1),(((Prod.fst (Prod.fst (S.bc (Prod.fst (Prod.snd x5)) (List.getD l (Int.toNat (↑(Prod.fst x5):Int)) ((0:Int),(0:Int),(0:Int),(0:Int),(0:Int),[],[]))))),((Prod.fst (Prod.snd (Prod.fst (S.bc (Prod.fst (Prod.snd x5)) (List.getD l (Int.toNat (↑(Prod.fst x5):Int)) ((0:Int),(0:Int),(0:Int),(0:Int),(0:Int),[],[])))))),((Prod.fst (Prod.snd (Prod.snd (Prod.fst (S.bc (Prod.fst (Prod.snd x5)) (List.getD l (Int.toNat (↑(Prod.fst x5):Int)) ((0:Int),(0:Int),(0:Int),(0:Int),(0:Int),[],[]))))))),((Prod.fst (Prod.snd (Prod.snd (Prod.snd (Prod.fst (S.bc (Prod.fst (Prod.snd x5)) (List.getD l (Int.toNat (↑(Prod.fst x5):Int)) ((0:Int),(0:Int),(0:Int),(0:Int),(0:Int),[],[])))))))),((Prod.fst (Prod.snd (Prod.snd (Prod.snd (Prod.snd (Prod.fst (S.bc (Prod.fst (Prod.snd x5)) (List.getD l (Int.toNat (↑(Prod.fst x5):Int)) ((0:Int),(0:Int),(0:Int),(0:Int),(0:Int),[],[]))))))))),((Prod.fst (Prod.snd (Prod.snd (Prod.snd (Prod.snd (Prod.snd (Prod.fst (S.bc (Prod.fst (Prod.snd x5)) (List.getD l (Int.toNat (↑(Prod.fst x5):Int)) ((0:Int),(0:Int),(0:Int),(0:Int),(0:Int),[],[])))))))))),((Prod.fst (Prod.snd (Prod.snd (Prod.snd (Prod.snd (Prod.snd (Prod.snd (Prod.fst (S.bc (Prod.fst (Prod.snd x5)) (List.getD l (Int.toNat (↑(Prod.fst x5):Int)) ((0:Int),(0:Int),(0:Int),(0:Int),(0:Int),[],[]))))))))))),(Prod.snd (Prod.snd (Prod.snd (Prod.snd (Prod.snd (Prod.snd (Prod.snd (Prod.fst (S.bc (Prod.fst (Prod.snd x5)) (List.getD l (Int.toNat (↑(Prod.fst x5):Int)) ((0:Int),(0:Int),(0:Int),(0:Int),(0:Int),[],[])))))))))))))))))),(Prod.snd (Prod.snd x5)++ [Prod.fst (Prod.snd (Prod.snd (Prod.snd (Prod.snd (Prod.snd (List.getD l (Int.toNat (↑(Prod.fst x5):Int)) ((0:Int),(0:Int),(0:Int),(0:Int),(0:Int),[],[])))))))]))),?_⟩
     try dsimp only
     with_reducible and_intros
     iterate 10 (with_reducible first|trivial|assumption|rfl|omega)
     · obtain⟨k,X,s⟩:=x5;simp only [tn] at *;have h1:S.LI X s k:=h6.1;have h2:k≤40:=h6.2;have w:=S.aaJ h1 h2 h7.2 cO h32;generalize S.bc X (l.getD k (0,0,0,0,0,[],[]))=D at w ⊢;exact w
     exact S.E3 h7.1
   intro Mw
   try simp only [V.vI,df,tn] at Mw
   refine⟨?_,?_⟩
   · intro Pm
     try simp only [nt] at Pm
     with_reducible and_intros
     · simp only [tn] at *;exact S.Qi h6.1 (by have :=h6.2;omega) _
     trivial
     · intro qX
       try simp only [nt,df,tn] at qX
       trivial
     · intro h36
       try simp only [nf,dt,tn] at h36
       refine⟨?_,?_⟩
       · intro h37
         try simp only [dt,tn] at h37
         trivial
       intro h38
       try simp only [df,tn] at h38
       refine⟨?_,?_⟩
       · with_reducible first|trivial|assumption|rfl|omega
       have q:=S.J3 h6;omega
     · intro MG
       try simp only [V.pQ,nt,df,tn,dt] at MG
       obtain⟨k,X,s⟩:=x5;simp only [tn] at *;have h1:S.LI X s k:=h6.1;have h2:k≤40:=h6.2;exact(S.aaL h1 h2 h7.2 Pm MG).elim
     intro Nr
     try simp only [V.gm,nf,dt,tn,df] at Nr
     refine⟨?_,?_⟩
     · intro Pd
       try simp only [dt,tn] at Pd
       with_reducible and_intros
       with_reducible first|trivial|assumption|rfl|omega
       exact Pd
       · intro Y5
         try simp only [nt] at Y5
         trivial
       · intro Y6
         try simp only [nf] at Y6
         with_reducible and_intros
         iterate 2 (with_reducible first|trivial|assumption|rfl|omega)
         · intro h44
           try simp only [nt,df,tn] at h44
           trivial
         intro h45
         try simp only [nf,dt,tn] at h45
         refine⟨?_,?_⟩
         · with_reducible first|trivial|assumption|rfl|omega
         with_reducible first|trivial|assumption|rfl|omega
       · intro h46
         try simp only [V.pQ,nt,df,tn] at h46
         obtain⟨k,X,s⟩:=x5;simp only [tn] at *;have h1:S.LI X s k:=h6.1;have h2:k≤40:=h6.2;exact(S.XT h1 h2 h7.2 Pm Pd h46).elim
       intro h47
       try simp only [V.gm,nf,dt,tn] at h47
       with_reducible and_intros
       · have q:=S.J3 h6;rw [List.length_singleton];omega
       trivial
       · intro Ŏ
         try simp only [nt] at Ŏ
         obtain⟨k,X,s⟩:=x5;simp only [tn] at *;have h1:S.LI X s k:=h6.1;have h2:k≤40:=h6.2;have q:=S.J4 h1 h2 h7.2 Pm Pd;rw [q.2.1,q.2.2.1,S.u4] at Ŏ;cases Ŏ
       intro h49
       try simp only [nf] at h49
       with_reducible and_intros
       iterate 2 (with_reducible first|trivial|assumption|rfl|omega)
       refine⟨((Prod.fst x5+nat_lit 1),(((Prod.fst (Prod.fst (S.al (S.ax (Prod.fst (S.bc (Prod.fst (Prod.snd x5)) (List.getD l (Int.toNat (↑(Prod.fst x5):Int)) ((0:Int),(0:Int),(0:Int),(0:Int),(0:Int),[],[])))) f)))),((Prod.fst (Prod.snd (Prod.fst (S.al (S.ax (Prod.fst (S.bc (Prod.fst (Prod.snd x5)) (List.getD l (Int.toNat (↑(Prod.fst x5):Int)) ((0:Int),(0:Int),(0:Int),(0:Int),(0:Int),[],[])))) f))))),((Prod.fst (Prod.snd (Prod.snd (Prod.fst (S.al (S.ax (Prod.fst (S.bc (Prod.fst (Prod.snd x5)) (List.getD l (Int.toNat (↑(Prod.fst x5):Int)) ((0:Int),(0:Int),(0:Int),(0:Int),(0:Int),[],[])))) f)))))),((Prod.fst (Prod.snd (Prod.snd (Prod.snd (Prod.fst (S.al (S.ax (Prod.fst (S.bc (Prod.fst (Prod.snd x5)) (List.getD l (Int.toNat (↑(Prod.fst x5):Int)) ((0:Int),(0:Int),(0:Int),(0:Int),(0:Int),[],[])))) f))))))),((Prod.fst (Prod.snd (Prod.snd (Prod.snd (Prod.snd (Prod.fst (S.al (S.ax (Prod.fst (S.bc (Prod.fst (Prod.snd x5)) (List.getD l (Int.toNat (↑(Prod.fst x5):Int)) ((0:Int),(0:Int),(0:Int),(0:Int),(0:Int),[],[])))) f)))))))),((Prod.fst (Prod.snd (Prod.snd (Prod.snd (Prod.snd (Prod.snd (Prod.fst (S.al (S.ax (Prod.fst (S.bc (Prod.fst (Prod.snd x5)) (List.getD l (Int.toNat (↑(Prod.fst x5):Int)) ((0:Int),(0:Int),(0:Int),(0:Int),(0:Int),[],[])))) f))))))))),((Prod.fst (Prod.snd (Prod.snd (Prod.snd (Prod.snd (Prod.snd (Prod.snd (Prod.fst (S.al (S.ax (Prod.fst (S.bc (Prod.fst (Prod.snd x5)) (List.getD l (Int.toNat (↑(Prod.fst x5):Int)) ((0:Int),(0:Int),(0:Int),(0:Int),(0:Int),[],[])))) f)))))))))),(Prod.snd (Prod.snd (Prod.snd (Prod.snd (Prod.snd (Prod.snd (Prod.snd (Prod.fst (S.al (S.ax (Prod.fst (S.bc (Prod.fst (Prod.snd x5)) (List.getD l (Int.toNat (↑(Prod.fst x5):Int)) ((0:Int),(0:Int),(0:Int),(0:Int),(0:Int),[],[])))) f))))))))))))))))),(Prod.snd (Prod.snd x5)++ [List.getD (Prod.fst (Prod.snd (Prod.snd (Prod.snd (Prod.snd (Prod.fst (S.al (S.ax (Prod.fst (S.bc (Prod.fst (Prod.snd x5)) (List.getD l (Int.toNat (↑(Prod.fst x5):Int)) ((0:Int),(0:Int),(0:Int),(0:Int),(0:Int),[],[])))) f)))))))) (Int.toNat (↑(List.length (Prod.snd (Prod.snd x5))):Int)) []]))),?_⟩
       try dsimp only
       with_reducible and_intros
       iterate 10 (with_reducible first|trivial|assumption|rfl|omega)
       · obtain⟨k,X,s⟩:=x5;simp only [tn] at *;have h1:S.LI X s k:=h6.1;have h2:k≤40:=h6.2;have q:=S.J4 h1 h2 h7.2 Pm Pd;rw [q.2.1];have w:=q.2.2.2;clear q;generalize S.al (S.ax (S.bc X (l.getD k (0,0,0,0,0,[],[]))).1 f)=R at w ⊢;exact w
       exact S.E3 h7.1
     intro h50
     try simp only [df,tn] at h50
     with_reducible and_intros
     trivial
     · intro h51
       try simp only [nt] at h51
       obtain⟨k,X,s⟩:=x5;simp only [tn] at *;have h1:S.LI X s k:=h6.1;have h2:k≤40:=h6.2;have q:=S.Mx h1 h2 h7.2 Pm h50;rw [q.1,S.u4] at h51;cases h51
     intro h52
     try simp only [nf] at h52
     with_reducible and_intros
     iterate 2 (with_reducible first|trivial|assumption|rfl|omega)
     refine⟨((Prod.fst x5+nat_lit 1),(((Prod.fst (Prod.fst (S.al (S.ax (Prod.fst (S.bc (Prod.fst (Prod.snd x5)) (List.getD l (Int.toNat (↑(Prod.fst x5):Int)) ((0:Int),(0:Int),(0:Int),(0:Int),(0:Int),[],[])))) f)))),((Prod.fst (Prod.snd (Prod.fst (S.al (S.ax (Prod.fst (S.bc (Prod.fst (Prod.snd x5)) (List.getD l (Int.toNat (↑(Prod.fst x5):Int)) ((0:Int),(0:Int),(0:Int),(0:Int),(0:Int),[],[])))) f))))),((Prod.fst (Prod.snd (Prod.snd (Prod.fst (S.al (S.ax (Prod.fst (S.bc (Prod.fst (Prod.snd x5)) (List.getD l (Int.toNat (↑(Prod.fst x5):Int)) ((0:Int),(0:Int),(0:Int),(0:Int),(0:Int),[],[])))) f)))))),((Prod.fst (Prod.snd (Prod.snd (Prod.snd (Prod.fst (S.al (S.ax (Prod.fst (S.bc (Prod.fst (Prod.snd x5)) (List.getD l (Int.toNat (↑(Prod.fst x5):Int)) ((0:Int),(0:Int),(0:Int),(0:Int),(0:Int),[],[])))) f))))))),((Prod.fst (Prod.snd (Prod.snd (Prod.snd (Prod.snd (Prod.fst (S.al (S.ax (Prod.fst (S.bc (Prod.fst (Prod.snd x5)) (List.getD l (Int.toNat (↑(Prod.fst x5):Int)) ((0:Int),(0:Int),(0:Int),(0:Int),(0:Int),[],[])))) f)))))))),((Prod.fst (Prod.snd (Prod.snd (Prod.snd (Prod.snd (Prod.snd (Prod.fst (S.al (S.ax (Prod.fst (S.bc (Prod.fst (Prod.snd x5)) (List.getD l (Int.toNat (↑(Prod.fst x5):Int)) ((0:Int),(0:Int),(0:Int),(0:Int),(0:Int),[],[])))) f))))))))),((Prod.fst (Prod.snd (Prod.snd (Prod.snd (Prod.snd (Prod.snd (Prod.snd (Prod.fst (S.al (S.ax (Prod.fst (S.bc (Prod.fst (Prod.snd x5)) (List.getD l (Int.toNat (↑(Prod.fst x5):Int)) ((0:Int),(0:Int),(0:Int),(0:Int),(0:Int),[],[])))) f)))))))))),(Prod.snd (Prod.snd (Prod.snd (Prod.snd (Prod.snd (Prod.snd (Prod.snd (Prod.fst (S.al (S.ax (Prod.fst (S.bc (Prod.fst (Prod.snd x5)) (List.getD l (Int.toNat (↑(Prod.fst x5):Int)) ((0:Int),(0:Int),(0:Int),(0:Int),(0:Int),[],[])))) f))))))))))))))))),(Prod.snd (Prod.snd x5)))),?_⟩
     try dsimp only
     with_reducible and_intros
     iterate 10 (with_reducible first|trivial|assumption|rfl|omega)
     · obtain⟨k,X,s⟩:=x5;simp only [tn] at *;have h1:S.LI X s k:=h6.1;have h2:k≤40:=h6.2;have w:=(S.Mx h1 h2 h7.2 Pm h50).2;generalize S.al (S.ax (S.bc X (l.getD k (0,0,0,0,0,[],[]))).1 f)=R at w ⊢;exact w
     exact S.E3 h7.1
   intro h53
   try simp only [nf] at h53
   with_reducible and_intros
   iterate 2 (with_reducible first|trivial|assumption|rfl|omega)
   refine⟨((Prod.fst x5+nat_lit 1),(((Prod.fst (Prod.fst (S.bc (Prod.fst (Prod.snd x5)) (List.getD l (Int.toNat (↑(Prod.fst x5):Int)) ((0:Int),(0:Int),(0:Int),(0:Int),(0:Int),[],[]))))),((Prod.fst (Prod.snd (Prod.fst (S.bc (Prod.fst (Prod.snd x5)) (List.getD l (Int.toNat (↑(Prod.fst x5):Int)) ((0:Int),(0:Int),(0:Int),(0:Int),(0:Int),[],[])))))),((Prod.fst (Prod.snd (Prod.snd (Prod.fst (S.bc (Prod.fst (Prod.snd x5)) (List.getD l (Int.toNat (↑(Prod.fst x5):Int)) ((0:Int),(0:Int),(0:Int),(0:Int),(0:Int),[],[]))))))),((Prod.fst (Prod.snd (Prod.snd (Prod.snd (Prod.fst (S.bc (Prod.fst (Prod.snd x5)) (List.getD l (Int.toNat (↑(Prod.fst x5):Int)) ((0:Int),(0:Int),(0:Int),(0:Int),(0:Int),[],[])))))))),((Prod.fst (Prod.snd (Prod.snd (Prod.snd (Prod.snd (Prod.fst (S.bc (Prod.fst (Prod.snd x5)) (List.getD l (Int.toNat (↑(Prod.fst x5):Int)) ((0:Int),(0:Int),(0:Int),(0:Int),(0:Int),[],[]))))))))),((Prod.fst (Prod.snd (Prod.snd (Prod.snd (Prod.snd (Prod.snd (Prod.fst (S.bc (Prod.fst (Prod.snd x5)) (List.getD l (Int.toNat (↑(Prod.fst x5):Int)) ((0:Int),(0:Int),(0:Int),(0:Int),(0:Int),[],[])))))))))),((Prod.fst (Prod.snd (Prod.snd (Prod.snd (Prod.snd (Prod.snd (Prod.snd (Prod.fst (S.bc (Prod.fst (Prod.snd x5)) (List.getD l (Int.toNat (↑(Prod.fst x5):Int)) ((0:Int),(0:Int),(0:Int),(0:Int),(0:Int),[],[]))))))))))),(Prod.snd (Prod.snd (Prod.snd (Prod.snd (Prod.snd (Prod.snd (Prod.snd (Prod.fst (S.bc (Prod.fst (Prod.snd x5)) (List.getD l (Int.toNat (↑(Prod.fst x5):Int)) ((0:Int),(0:Int),(0:Int),(0:Int),(0:Int),[],[])))))))))))))))))),(Prod.snd (Prod.snd x5)))),?_⟩
   try dsimp only
   with_reducible and_intros
   iterate 10 (with_reducible first|trivial|assumption|rfl|omega)
   · obtain⟨k,X,s⟩:=x5;simp only [tn] at *;have h1:S.LI X s k:=h6.1;have h2:k≤40:=h6.2;have w:=S.aaK h1 h2 h7.2 Mw h53;generalize S.bc X (l.getD k (0,0,0,0,0,[],[]))=D at w ⊢;exact w
   exact S.E3 h7.1
 intro h54
 try simp only [V.vI,df] at h54
 with_reducible and_intros
 exact h6.1.pre
 trivial
 · intro h55
   try simp only [dt] at h55
   with_reducible and_intros
   trivial
   · intro h56
     trivial
   intro h57
   trivial
 · intro h58
   try simp only [df] at h58
   trivial
 have q:=S.aaI h6 f;rw [q.1,q.2,S.u4];rfl
end Go

end
section
set_option linter.unusedVariables false
namespace Go.J
open Go Vg
def body(f:Func):Code:=f.body.getD .skip
def E0:Env:= {T:=fB,sig:=fun _=>none,lq:=G0}
abbrev afu:List PS:= [.one (.slice [.int .u8])]
def an3:List UInt8→Prop×AV×List AB:=fun x=>match x with
 |b=>(b.length≤140737488355328, .own 0,[.row 5 [.int .u8] (b) false])
def an4:List UInt8→Nat→Option an:=fun _ _=>none
def afv:bI:=aC afu an3
def afw:Env:=Env.cons 83 afv E0
abbrev afx:List TA:= [.own 50000, .cD (.int .i64)]
abbrev afy:List TB:= [.row 5 [.int .u8]]
def an5:Int→((List UInt8)×Unit)→fv:=fun x y=>match x,y with
 |v,(l,())=> {pre:=S.yT l v,res:= .own 60000,heap:= [none],new:= [.row 5 [.int .u8] (l++S.num v) false]}
def an6:Int→((List UInt8)×Unit)→Nat→Option an:=fun x y=>match x,y with
 |v,(l,())=>fun id=>(match id with
  |0=>some {τ:=List UInt8×Int,aZ:= [(1,fun k=> .int .i64 k.2),(0,fun k=> .own 300)],keys:= [(300,fun k=> .row 5 [.int .u8] k.1 false)],dx:= [(Vg.Loc.slot 0,300)],drop:= [50000],cI:= [],inv:=fun k=>S.oi l v k.1 k.2,ah:=fun k=>k.2.toNat}
  |_=>none)
def afz:eX:=gD afx afy an5
def afA:eX:=afz
def afB:Env:=Env.eQ 82 [true,false] afA afw
abbrev afC:List TA:= [.own 50000, .cD (.str)]
abbrev afD:List TB:= [.row 5 [.int .u8]]
def an7:(List UInt8)→((List UInt8)×Unit)→fv:=fun x y=>match x,y with
 |s,(l,())=> {pre:=S.lE l s,res:= .own 60000,heap:= [none],new:= [.row 5 [.int .u8] (l++S.text s) false]}
def an8:(List UInt8)→((List UInt8)×Unit)→Nat→Option an:=fun _ _ _=>none
def afE:eX:=gD afC afD an7
def afF:eX:=afE
def afG:Env:=Env.eQ 84 [true,false] afF afB
abbrev afH:List PS:= [.one (.slice [.int .u8]), .one (.int .i64)]
def an9:List UInt8×Int→Prop×AV×List AB:=fun x=>match x with
 |(b,v)=>(b.length≤35184372088832, .cB [.own 0, .int .i64 (((S.iS b v,S.ij v)).2:Int)],[.row 5 [.int .u8] (((S.iS b v,S.ij v)).1) false])
def aoa:List UInt8×Int→Nat→Option an:=fun _ _=>none
def afI:bI:=aC afH an9
def afJ:Env:=Env.cons 44 afI afG
abbrev afK:List PS:= [.one (.slice [.int .u8]), .one (.str)]
def aob:List UInt8×List UInt8→Prop×AV×List AB:=fun x=>match x with
 |(b,s)=>(S.lE b s, .own 0,[.row 5 [.int .u8] (b++S.text s) false])
def aoc:List UInt8×List UInt8→Nat→Option an:=fun _ _=>none
def afL:bI:=aC afK aob
def afM:Env:=Env.cons 45 afL afJ
abbrev afN:List PS:= [.agg [.slice [.int .u8], .int .i64, .int .i64]]
def aod:List UInt8×Int×Int→Prop×AV×List AB:=fun x=>match x with
 |(r1,r2,r3)=>(True, .bool (S.inside r1 r2),[])
def aoe:List UInt8×Int×Int→Nat→Option an:=fun _ _=>none
def afO:bI:=aC afN aod
def afP:Env:=Env.cons 131 afO afM
abbrev afQ:List PS:= [.agg [.slice [.int .u8], .int .i64, .int .i64]]
def aof:List UInt8×Int×Int→Prop×AV×List AB:=fun x=>match x with
 |(r1,r2,r3)=>(r1.length≤140737488355328, .agg [.sl [.int .u8] (((r1,r2,S.cT r1 r2 r3)).1), .int .i64 (((r1,r2,S.cT r1 r2 r3)).2.1:Int), .int .i64 (((r1,r2,S.cT r1 r2 r3)).2.2:Int)],[])
def aog:List UInt8×Int×Int→Nat→Option an:=fun _ _=>none
def afR:bI:=aC afQ aof
def afS:Env:=Env.cons 118 afR afP
abbrev afT:List PS:= [.one (.slice [.int .u8]), .one (.int .i64)]
def aoh:List UInt8×Int→Prop×AV×List AB:=fun x=>match x with
 |(b,p)=>(S.dC b p, .cB [.int .i64 ((S.aK b p).1:Int), .int .i64 ((S.aK b p).2.1:Int), .int .i64 ((S.aK b p).2.2:Int)],[])
def aoi:List UInt8×Int→Nat→Option an:=fun x=>match x with
 |(b,p)=>fun id=>(match id with
  |0=>some {τ:=Nat,aZ:= [(7,fun k=> .int .i64 (S.eA b p k)),(8,fun k=> .int .i64 ((k:Nat):Int))],keys:= [],dx:= [],drop:= [],cI:= [],inv:=fun k=>S.gF b p k,ah:=fun k=>S.ah 9 k}
  |_=>none)
def afU:bI:=aC afT aoh
def afV:Env:=Env.cons 119 afU afS
abbrev Zc:List PS:= [.one (.slice [.int .u8]), .one (.int .i64), .one (.int .i64)]
def aje:List UInt8×Int×Int→Prop×AV×List AB:=fun x=>match x with
 |(b,p,b9)=>(S.dC b p, .cB [.str ((S.bS b p b9).1), .int .i64 ((S.bS b p b9).2.1:Int), .int .i64 ((S.bS b p b9).2.2:Int)],[])
def ajf:List UInt8×Int×Int→Nat→Option an:=fun _ _=>none
def Zd:bI:=aC Zc aje
def Ze:Env:=Env.cons 120 Zd afV
abbrev Zf:List PS:= [.agg [.slice [.int .u8], .int .i64, .int .i64], .one (.int .i64)]
def ajg:List UInt8×Int×Int×Int→Prop×AV×List AB:=fun x=>match x with
 |(r1,r2,r3,b9)=>(r1.length≤140737488355328, .cB [.agg [.sl [.int .u8] (((S.bj r1 r2 r3 b9).1).1), .int .i64 (((S.bj r1 r2 r3 b9).1).2.1:Int), .int .i64 (((S.bj r1 r2 r3 b9).1).2.2:Int)], .str ((S.bj r1 r2 r3 b9).2)],[])
def ajh:List UInt8×Int×Int×Int→Nat→Option an:=fun _ _=>none
def Zg:bI:=aC Zf ajg
def Zh:Env:=Env.cons 89 Zg Ze
abbrev Zi:List PS:= [.agg [.slice [.int .u8], .int .i64, .int .i64]]
def aji:List UInt8×Int×Int→Prop×AV×List AB:=fun x=>match x with
 |(r1,r2,r3)=>(r1.length≤140737488355328, .cB [.agg [.sl [.int .u8] (((S.ag r1 r2 r3).1).1), .int .i64 (((S.ag r1 r2 r3).1).2.1:Int), .int .i64 (((S.ag r1 r2 r3).1).2.2:Int)], .int .i64 ((S.ag r1 r2 r3).2:Int)],[])
def ajj:List UInt8×Int×Int→Nat→Option an:=fun _ _=>none
def Zj:bI:=aC Zi aji
def Zk:Env:=Env.cons 88 Zj Zh
abbrev Zl:List PS:= [.one (.int .i64)]
def ajk:Int→Prop×AV×List AB:=fun x=>match x with
 |c=>(True, .bool (S.bm c),[])
def ajl:Int→Nat→Option an:=fun _ _=>none
def Zm:bI:=aC Zl ajk
def Zn:Env:=Env.cons 190 Zm Zk
abbrev Zo:List PS:= [.one (.int .i64)]
def ajm:Int→Prop×AV×List AB:=fun x=>match x with
 |c=>(True, .int .i64 (S.cZ c:Int),[])
def ajn:Int→Nat→Option an:=fun _ _=>none
def Zp:bI:=aC Zo ajm
def Zq:Env:=Env.cons 191 Zp Zn
abbrev Zr:List PS:= [.one (.int .i64)]
def ajo:Int→Prop×AV×List AB:=fun x=>match x with
 |c=>(0≤c, .int .u8 ((S.more c).toNat:Int),[])
def ajp:Int→Nat→Option an:=fun _ _=>none
def Zs:bI:=aC Zr ajo
def Zt:Env:=Env.cons 192 Zs Zq
abbrev Zu:List PS:= [.one (.int .i64)]
def ajq:Int→Prop×AV×List AB:=fun x=>match x with
 |c=>(True, .cB [.own 0, .int .i64 (((S.fg c,S.sX c)).2:Int)],[.row 5 [.int .u8] (((S.fg c,S.sX c)).1) false])
def ajr:Int→Nat→Option an:=fun _ _=>none
def Zv:bI:=aC Zu ajq
def Zw:Env:=Env.cons 166 Zv Zt
abbrev Zx:List PS:= [.one (.slice [.int .u8])]
def ajs:List UInt8→Prop×AV×List AB:=fun x=>match x with
 |b=>(0<b.length, .cB [.int .i64 ((S.aM b).1:Int), .int .i64 ((S.aM b).2:Int)],[])
def ajt:List UInt8→Nat→Option an:=fun x=>match x with
 |b=>fun id=>(match id with
  |1=>some {τ:=Nat,aZ:= [(42,fun k=> .int .i64 ((k:Nat):Int)),(4,fun k=> .int .i64 (S.bz b k))],keys:= [],dx:= [],drop:= [],cI:= [],inv:=fun k=>S.k8 b k,ah:=fun k=>S.ah 4 k}
  |_=>none)
def Zy:bI:=aC Zx ajs
def Zz:Env:=Env.cons 165 Zy Zw
abbrev ZA:List PS:= [.one (.slice [.int .u8])]
def aju:List UInt8→Prop×AV×List AB:=fun x=>match x with
 |b=>(S.small b, .own 0,[.row 3 [.int .i64] (S.decode b) false])
def ajv:List UInt8→Nat→Option an:=fun x=>match x with
 |b=>fun id=>(match id with
  |0=>some {τ:=List UInt8×List Int,aZ:= [(0,fun k=> .sl [.int .u8] k.1),(3,fun k=> .own 300)],keys:= [(300,fun k=> .row 3 [.int .i64] k.2 false)],dx:= [(Vg.Loc.slot 3,300)],drop:= [],cI:= [],inv:=fun k=>S.om b k.1 k.2,ah:=fun k=>S.len k.1}
  |_=>none)
def ZB:bI:=aC ZA aju
def ZC:Env:=Env.cons 153 ZB Zz
abbrev ZD:List PS:= [.one (.int .i64)]
def ajw:Int→Prop×AV×List AB:=fun x=>match x with
 |c=>(True, .bool (S.letter c),[])
def ajx:Int→Nat→Option an:=fun x=>match x with
 |c=>fun id=>(match id with
  |0=>some {τ:=Nat,aZ:= [(6,fun k=> .int .i64 ((k:Nat):Int))],keys:= [],dx:= [],drop:= [],cI:= [],inv:=fun k=>S.k7 c k,ah:=fun k=>S.ah 9 k}
  |_=>none)
def ZE:bI:=aC ZD ajw
def ZF:Env:=Env.cons 154 ZE ZC
abbrev ZG:List PS:= [.one (.int .i64)]
def ajy:Int→Prop×AV×List AB:=fun x=>match x with
 |c=>(True, .bool (S.digit c),[])
def ajz:Int→Nat→Option an:=fun _ _=>none
def ZH:bI:=aC ZG ajy
def ZI:Env:=Env.cons 155 ZH ZF
abbrev ZJ:List PS:= [.one (.int .i64)]
def ajA:Int→Prop×AV×List AB:=fun x=>match x with
 |c=>(True, .int .i64 (S.br c:Int),[])
def ajB:Int→Nat→Option an:=fun x=>match x with
 |c=>fun id=>(match id with
  |0=>some {τ:=Nat,aZ:= [(6,fun k=> .int .i64 ((k:Nat):Int))],keys:= [],dx:= [],drop:= [],cI:= [],inv:=fun k=>S.lF c k,ah:=fun k=>S.ah 7 k}
  |_=>none)
def ZK:bI:=aC ZJ ajA
def ZL:Env:=Env.cons 167 ZK ZI
abbrev ZM:List PS:= [.one (.slice [.int .i64])]
def ajC:List Int→Prop×AV×List AB:=fun x=>match x with
 |u=>(S.Wp u, .str (S.gf u),[])
def ajD:List Int→Nat→Option an:=fun x=>match x with
 |u=>fun id=>(match id with
  |0=>some {τ:=Nat×List UInt8,aZ:= [(10,fun k=> .int .i64 ((k.1:Nat):Int)),(3,fun k=> .own 300)],keys:= [(300,fun k=> .row 5 [.int .u8] k.2 false)],dx:= [(Vg.Loc.slot 3,300)],drop:= [],cI:= [],inv:=fun k=>S.lG u k.1 k.2,ah:=fun k=>S.ah (S.len u) k.1}
  |_=>none)
def ZN:bI:=aC ZM ajC
def ZO:Env:=Env.cons 156 ZN ZL
abbrev ZP:List PS:= [.one (.slice [.int .u8])]
def ajE:List UInt8→Prop×AV×List AB:=fun x=>match x with
 |b=>(S.small b, .own 0,[.row 9 [.str] (S.bH b) false])
def ajF:List UInt8→Nat→Option an:=fun x=>match x with
 |b=>fun id=>(match id with
  |0=>some {τ:=Nat×List (List UInt8)×List Int,aZ:= [(10,fun k=> .int .i64 ((k.1:Nat):Int)),(3,fun k=> .own 300),(4,fun k=> .own 301)],keys:= [(300,fun k=> .row 9 [.str] k.2.1 false),(301,fun k=> .row 3 [.int .i64] k.2.2 false)],dx:= [(Vg.Loc.slot 3,300),(Vg.Loc.slot 4,301)],drop:= [104000,104001,104002,40],cI:= [],inv:=fun k=>S.gY (S.decode b) k.1 k.2.1 k.2.2,ah:=fun k=>S.ah (S.len (S.decode b)) k.1}
  |_=>none)
def ZQ:bI:=aC ZP ajE
def ZR:Env:=Env.cons 136 ZQ ZO
abbrev ZS:List PS:= [.one (.str)]
def ajG:List UInt8→Prop×AV×List AB:=fun x=>match x with
 |s=>(S.small s, .bool (S.isTerm s),[])
def ajH:List UInt8→Nat→Option an:=fun _ _=>none
def ZT:bI:=aC ZS ajG
def ZU:Env:=Env.cons 146 ZT ZR
abbrev ZV:List PS:= [.one (.str)]
def ajI:List UInt8→Prop×AV×List AB:=fun x=>match x with
 |s=>(True, .bool false,[])
def ajJ:List UInt8→Nat→Option an:=fun _ _=>none
def ZW:bI:=aC ZV ajI
def ZX:Env:=Env.cons 157 ZW ZU
abbrev ZY:List PS:= [.one (.str), .one (.str)]
def ajK:List UInt8×List UInt8→Prop×AV×List AB:=fun x=>match x with
 |(a,b)=>(True, .int .i64 (S.fY a b:Int),[])
def ajL:List UInt8×List UInt8→Nat→Option an:=fun _ _=>none
def ZZ:bI:=aC ZY ajK
def Z0:Env:=Env.cons 137 ZZ ZX
abbrev Z1:List TA:= [.cD (.str), .cD (.str), .ref 50000 0]
abbrev Z2:List TB:= [.cells [.fn (.func 137) [] []]]
def ajM:(List UInt8×List UInt8)→(Unit×Unit)→fv:=fun x y=>match x,y with
 |(a,b),((),())=> {pre:=True,res:= .bool (decide (a=b)),heap:= [some (.cells [.fn (.func 137) [] []])],new:= []}
def ajN:(List UInt8×List UInt8)→(Unit×Unit)→Nat→Option an:=fun _ _ _=>none
def Z3:eX:=gD Z1 Z2 ajM
def Z4:eX:=Z3
def Z5:Env:=Env.eQ 152 [false,false,true] Z4 Z0
abbrev Z6:List TA:= [.own 50000, .fn (.func 152) [] [.ref 50001 0]]
abbrev Z7:List TB:= [.row 9 [.str], .cells [.fn (.func 137) [] []]]
def ajO:Unit→((List (List UInt8))×Unit×Unit)→fv:=fun x y=>match x,y with
 |(),(l,((),()))=> {pre:=S.small l,res:= .own 60000,heap:= [none,some (.cells [.fn (.func 137) [] []])],new:= [.row 9 [.str] (S.bM l) false]}
def ajP:Unit→((List (List UInt8))×Unit×Unit)→Nat→Option an:=fun x y=>match x,y with
 |(),(l,((),()))=>fun id=>(match id with
  |0=>some {τ:=Nat,aZ:= [(5,fun k=> .int .i64 ((k:Nat):Int))],keys:= [(50001,fun k=> .cells [.fn (.func 137) [] []])],dx:= [],drop:= [],cI:= [],inv:=fun k=>S.ou l k,ah:=fun k=>S.ah (S.len l) k}
  |2=>some {τ:=Nat×Nat×List (List UInt8)×Nat,aZ:= [(5,fun k=> .int .i64 ((k.1:Nat):Int)),(7,fun k=> .int .i64 ((k.2.1:Nat):Int))],keys:= [(50000,fun k=> .row 9 [.str] k.2.2.1 false),(50001,fun k=> .cells [.fn (.func 137) [] []])],dx:= [],drop:= [],cI:= [(30,fun k=> .int .i64 ((k.2.2.2:Nat):Int))],inv:=fun k=>S.jt l k.2.2.2 k.1 k.2.1 k.2.2.1,ah:=fun k=>S.ah (S.len l) k.2.1}
  |_=>none)
def Z8:eX:=gD Z6 Z7 ajO
def Z9:eX:=Z8
def À:Env:=Env.eQ 151 [true,true] Z9 Z5
abbrev ajQ:List PS:= [.one (.slice [.str])]
def ajR:List (List UInt8)→Prop×AV×List AB:=fun x=>match x with
 |l=>(S.small l, .own 0,[.row 9 [.str] (l) false])
def Á:bI:=aC ajQ ajR
def Â:Env:=Env.cons 149 Á À
abbrev ajS:List PS:= [.one (.slice [.int .i64])]
def ajT:List Int→Prop×AV×List AB:=fun x=>match x with
 |l=>(S.small l, .own 0,[.row 3 [.int .i64] (l) false])
def Ã:bI:=aC ajS ajT
def Ä:Env:=Env.cons 99 Ã Â
abbrev ajU:List TA:= [.own 50000, .fn (.func 137) [] []]
abbrev ajV:List TB:= [.row 9 [.str]]
def ajW:Unit→((List (List UInt8))×Unit)→fv:=fun x y=>match x,y with
 |(),(l,())=> {pre:=S.small l,res:= .cB [],heap:= [some (.row 9 [.str] (S.fZ l) false)],new:= []}
def Å:eX:=gD ajU ajV ajW
def Æ:eX:=Å
def Ç:Env:=Env.eQ 150 [true,true] Æ Ä
abbrev È:List TA:= [.cD (.slice [.str]), .fn (.func 137) [] []]
abbrev É:List TB:= []
def ajX:(List (List UInt8))→Unit→fv:=fun x y=>match x,y with
 |l,()=> {pre:=S.small l,res:= .own 60000,heap:= [],new:= [.row 9 [.str] (S.bM (S.fZ l)) false]}
def ajY:(List (List UInt8))→Unit→Nat→Option an:=fun _ _ _=>none
def Ê:eX:=gD È É ajX
def Ë:eX:=Ê
def Ì:Env:=Env.eQ 135 [false,true] Ë Ç
abbrev Í:List PS:= [.one (.slice [.int .u8])]
def ajZ:List UInt8→Prop×AV×List AB:=fun x=>match x with
 |b=>(S.small b, .own 0,[.row 9 [.str] (S.sorted (S.bH b)) false])
def aj0:List UInt8→Nat→Option an:=fun _ _=>none
def Î:bI:=aC Í ajZ
def Ï:Env:=Env.cons 126 Î Ì
abbrev Ð:List PS:= [.one (.slice [.int .i64])]
def aj1:List Int→Prop×AV×List AB:=fun x=>match x with
 |l=>(True, .bool (S.fE l),[])
def aj2:List Int→Nat→Option an:=fun x=>match x with
 |l=>fun id=>(match id with
  |0=>some {τ:=Nat,aZ:= [(8,fun k=> .int .i64 ((k:Nat):Int)),(3,fun k=> .int .i64 (S.mD l k))],keys:= [],dx:= [],drop:= [],cI:= [],inv:=fun k=>S.kF l k,ah:=fun k=>S.ah (S.len l) k}
  |_=>none)
def Ñ:bI:=aC Ð aj1
def Ò:Env:=Env.cons 145 Ñ Ï
abbrev Ó:List TA:= [.cD (.int .i64), .cD (.bool), .cD (.bool), .ref 50000 0]
abbrev Ô:List TB:= [.cells [.cD (.int .i64), .cD (.int .i64)]]
def aj3:(Int×Bool×Bool)→((Int×Int)×Unit)→fv:=fun x y=>match x,y with
 |(n,p,q),((s1,s2),())=> {pre:=True,res:= .bool (S.pB n s1 s2),heap:= [some (.cells [.int .i64 s1, .int .i64 s2])],new:= []}
def aj4:(Int×Bool×Bool)→((Int×Int)×Unit)→Nat→Option an:=fun _ _ _=>none
def Õ:eX:=gD Ó Ô aj3
def Ö:eX:=Õ
def Ø:Env:=Env.eQ 148 [false,false,false,true] Ö Ò
abbrev Ù:List TA:= [.cD (.slice [.int .i64]), .cD (.slice [.int .i64]), .fn (.func 148) [] [.ref 50000 0]]
abbrev Ú:List TB:= [.cells [.cD (.int .i64), .cD (.int .i64)]]
def aj5:(List Int×List Int)→((Int×Int)×Unit)→fv:=fun x y=>match x,y with
 |(a,b),((s1,s2),())=> {pre:=b.length=0,res:= .own 60000,heap:= [some (.cells [.int .i64 s1, .int .i64 s2])],new:= [.row 3 [.int .i64] (S.En a s1 s2) false]}
def aj6:(List Int×List Int)→((Int×Int)×Unit)→Nat→Option an:=fun x y=>match x,y with
 |(a,b),((s1,s2),())=>fun id=>(match id with
  |0=>some {τ:=List Int×List Int,aZ:= [(0,fun k=> .sl [.int .i64] k.1),(1,fun k=> .sl [.int .i64] S.fF),(7,fun k=> .own 300)],keys:= [(300,fun k=> .row 3 [.int .i64] k.2 false),(50000,fun k=> .cells [.int .i64 s1, .int .i64 s2])],dx:= [(Vg.Loc.slot 7,300)],drop:= [],cI:= [],inv:=fun k=>S.ju a s1 s2 k.1 k.2,ah:=fun k=>S.len k.1}
  |_=>none)
def Û:eX:=gD Ù Ú aj5
def Ü:eX:=Û
def Ý:Env:=Env.eQ 147 [false,false,true] Ü Ø
abbrev Þ:List PS:= [.one (.slice [.int .i64]), .agg [.int .i64, .int .i64]]
def aj7:List Int×Int×Int→Prop×AV×List AB:=fun x=>match x with
 |(l,s1,s2)=>(True, .own 0,[.row 3 [.int .i64] (S.En l s1 s2) false])
def aj8:List Int×Int×Int→Nat→Option an:=fun _ _=>none
def ß:bI:=aC Þ aj7
def à:Env:=Env.cons 134 ß Ý
abbrev á:List PS:= [.one (.slice [.str, .slice [.int .i64]])]
def aj9:List (List UInt8×List Int)→Prop×AV×List AB:=fun x=>match x with
 |d=>(S.jv d, .bool (S.dH d),[])
def aka:List (List UInt8×List Int)→Nat→Option an:=fun x=>match x with
 |d=>fun id=>(match id with
  |0=>some {τ:=Nat,aZ:= [(7,fun k=> .int .i64 ((k:Nat):Int))],keys:= [],dx:= [],drop:= [],cI:= [],inv:=fun k=>S.Bo d k,ah:=fun k=>S.ah (S.len d) k}
  |_=>none)
def â:bI:=aC á aj9
def ã:Env:=Env.cons 133 â à
abbrev akb:List PS:= [.one (.slice [.slice [.int .u8]]), .agg [.int .i64, .int .i64]]
def akc:List (List UInt8)×Int×Int→Prop×AV×List AB:=fun x=>match x with
 |(docs,s1,s2)=>(True, .cB [.sl [.str, .slice [.int .i64]] ((S.gn docs s1 s2).1), .int .i64 ((S.gn docs s1 s2).2:Int)],[])
def ä:bI:=aC akb akc
def å:Env:=Env.cons 107 ä ã
abbrev æ:List PS:= [.one (.slice [.slice [.int .u8]]), .one (.slice [.slice [.int .u8]])]
def akd:List (List UInt8)×List (List UInt8)→Prop×AV×List AB:=fun x=>match x with
 |(a,b)=>(True, .bool (S.ga a b),[])
def ake:List (List UInt8)×List (List UInt8)→Nat→Option an:=fun x=>match x with
 |(a,b)=>fun id=>(match id with
  |0=>some {τ:=Nat,aZ:= [(5,fun k=> .int .i64 ((k:Nat):Int))],keys:= [],dx:= [],drop:= [],cI:= [],inv:=fun k=>S.nG a b k,ah:=fun k=>S.ah (S.len a) k}
  |_=>none)
def ç:bI:=aC æ akd
def è:Env:=Env.cons 32 ç å
abbrev é:List PS:= [.agg [.int .i64, .int .i64]]
def akf:Int×Int→Prop×AV×List AB:=fun x=>match x with
 |(s1,s2)=>(True, .bool (S.iP s1 s2),[])
def akg:Int×Int→Nat→Option an:=fun _ _=>none
def ê:bI:=aC é akf
def ë:Env:=Env.cons 132 ê è
abbrev ì:List PS:= [.agg [.int .i64, .int .i64, .slice [.str, .slice [.int .i64]]]]
def akh:Int×Int×List (List UInt8×List Int)→Prop×AV×List AB:=fun x=>match x with
 |(s1,s2,s3)=>(S.jv s3, .bool (S.gZ s1 s2 s3),[])
def aki:Int×Int×List (List UInt8×List Int)→Nat→Option an:=fun x=>match x with
 |(s1,s2,s3)=>fun id=>(match id with
  |0=>some {τ:=Nat,aZ:= [(18,fun k=> .int .i64 ((k:Nat):Int))],keys:= [],dx:= [],drop:= [],cI:= [],inv:=fun k=>S.qk s1 s2 s3 k,ah:=fun k=>S.ah (S.len s3) k}
  |_=>none)
def í:bI:=aC ì akh
def î:Env:=Env.cons 123 í ë
abbrev ï:List PS:= [.one (.slice [.slice [.int .u8]]), .agg [.int .i64, .int .i64]]
def akj:List (List UInt8)×Int×Int→Prop×AV×List AB:=fun x=>match x with
 |(docs,s1,s2)=>(True, .cB [.agg [.int .i64 (((S.cv docs s1 s2).1).1:Int), .int .i64 (((S.cv docs s1 s2).1).2.1:Int), .sl [.str, .slice [.int .i64]] (((S.cv docs s1 s2).1).2.2)], .int .i64 ((S.cv docs s1 s2).2:Int)],[])
def akk:List (List UInt8)×Int×Int→Nat→Option an:=fun _ _=>none
def ð:bI:=aC ï akj
def ñ:Env:=Env.cons 75 ð î
abbrev ò:List PS:= [.one (.slice [.int .i64, .int .i64, .slice [.str, .slice [.int .i64]]])]
def akl:List (Int×Int×List (List UInt8×List Int))→Prop×AV×List AB:=fun x=>match x with
 |l=>(S.nI l, .sl [.str, .slice [.int .i64]] (S.nc l),[])
def akm:List (Int×Int×List (List UInt8×List Int))→Nat→Option an:=fun x=>match x with
 |l=>fun id=>(match id with
  |0=>some {τ:=Nat,aZ:= [(3,fun k=> .own 300)],keys:= [(300,fun k=> .row 136 [.str, .slice [.int .i64]] (S.cw l k) false),(13,fun k=> .row 3 [.int .i64] (S.az l k) false)],dx:= [(Vg.Loc.slot 3,300)],drop:= [302],cI:= [],inv:=fun k=>k≤S.uL l,ah:=fun k=>S.ah (S.uL l) k}
  |2=>some {τ:=Nat×Nat,aZ:= [(16,fun k=> .int .i64 ((k.1:Nat):Int)),(5,fun k=> .int .i64 (S.cK l (S.az l k.2) k.1))],keys:= [],dx:= [],drop:= [],cI:= [(4,fun k=> .sl [.int .i64] (S.az l k.2))],inv:=fun k=>k.1≤l.length∧k.2≤S.uL l,ah:=fun k=>S.ah (S.len l) k.1}
  |4=>some {τ:=Nat×Nat,aZ:= [(74,fun k=> .int .i64 ((k.1:Nat):Int))],keys:= [(13,fun k=> .row 3 [.int .i64] (S.aX l k.2 k.1) false),(8,fun k=> .cells [.str (S.lh l k.2), .own 302]),(302,fun k=> .row 3 [.int .i64] (S.cN l (S.lh l k.2) k.1) false)],dx:= [(Vg.Loc.cell 8 1,302)],drop:= [],cI:= [(3,fun k=> .sl [.str, .slice [.int .i64]] (S.cw l k.2))],inv:=fun k=>k.1≤l.length∧k.2<S.uL l,ah:=fun k=>S.ah (S.len l) k.1}
  |_=>none)
def ó:bI:=aC ò akl
def ô:Env:=Env.cons 124 ó ñ
abbrev õ:List PS:= [.one (.slice [.int .i64, .int .i64, .slice [.str, .slice [.int .i64]]])]
def akn:List (Int×Int×List (List UInt8×List Int))→Prop×AV×List AB:=fun x=>match x with
 |l=>(S.rC l, .cB [.agg [.int .i64 (((S.dm l).1).1:Int), .int .i64 (((S.dm l).1).2.1:Int), .sl [.str, .slice [.int .i64]] (((S.dm l).1).2.2)], .int .i64 ((S.dm l).2:Int)],[])
def ako:List (Int×Int×List (List UInt8×List Int))→Nat→Option an:=fun x=>match x with
 |l=>fun id=>(match id with
  |0=>some {τ:=Nat,aZ:= [(14,fun k=> .int .i64 ((k:Nat):Int))],keys:= [],dx:= [],drop:= [],cI:= [],inv:=fun k=>S.ow l k,ah:=fun k=>S.ah (S.len l) k}
  |2=>some {τ:=Nat,aZ:= [(6,fun k=> .int .i64 ((k:Int)+1))],keys:= [],dx:= [],drop:= [],cI:= [],inv:=fun k=>S.qQ l k,ah:=fun k=>S.ah (S.len l) k}
  |_=>none)
def ö:bI:=aC õ akn
def ø:Env:=Env.cons 103 ö ô
abbrev ù:List PS:= [.agg [.int .i64, .int .i64]]
def akp:Int×Int→Prop×AV×List AB:=fun x=>match x with
 |(s1,s2)=>(True, .int .i64 (S.j8 s1 s2:Int),[])
def akq:Int×Int→Nat→Option an:=fun x=>match x with
 |(s1,s2)=>fun id=>(match id with
  |0=>some {τ:=Nat,aZ:= [(4,fun n=> .int .i64 ((n:Nat):Int)),(3,fun n=> .int .i64 (S.lg (s2-s1)-S.lg n))],keys:= [],dx:= [],drop:= [],cI:= [],inv:=fun n=>S.lJ s1 s2 n,ah:=fun n=>n}
  |_=>none)
def ú:bI:=aC ù akp
def û:Env:=Env.cons 125 ú ø
abbrev ü:List PS:= [.one (.slice [.int .i64, .int .i64])]
def akr:List (Int×Int)→Prop×AV×List AB:=fun x=>match x with
 |l=>(True, .cB [.int .i64 ((S.dE l).1:Int), .bool ((S.dE l).2)],[])
def aks:List (Int×Int)→Nat→Option an:=fun x=>match x with
 |l=>fun id=>(match id with
  |0=>some {τ:=Nat,aZ:= [(4,fun k=> .int .i64 (((S.len l:Nat):Int)-2-(k:Int)))],keys:= [],dx:= [],drop:= [],cI:= [],inv:=fun k=>S.kI l k,ah:=fun k=>S.ah (S.len l) k}
  |_=>none)
def ý:bI:=aC ü akr
def þ:Env:=Env.cons 105 ý û
abbrev ÿ:List PS:= [.one (.slice [.int .i64, .int .i64, .slice [.str, .slice [.int .i64]]])]
def akt:List (Int×Int×List (List UInt8×List Int))→Prop×AV×List AB:=fun x=>match x with
 |l=>(S.small l, .sl [.int .i64, .int .i64] (S.cr l),[])
def aku:List (Int×Int×List (List UInt8×List Int))→Nat→Option an:=fun x=>match x with
 |l=>fun id=>(match id with
  |0=>some {τ:=Nat,aZ:= [(8,fun k=> .int .i64 ((k:Nat):Int)),(3,fun k=> .own 300)],keys:= [(300,fun k=> .row 88 [.int .i64, .int .i64] (S.gH l k) false)],dx:= [(Vg.Loc.slot 3,300)],drop:= [],cI:= [],inv:=fun k=>k≤l.length,ah:=fun k=>S.ah (S.len l) k}
  |_=>none)
def Ā:bI:=aC ÿ akt
def ā:Env:=Env.cons 106 Ā þ
abbrev Ă:List PS:= [.one (.slice [.int .u8])]
def akv:List UInt8→Prop×AV×List AB:=fun x=>match x with
 |l=>(S.small l, .own 0,[.row 5 [.int .u8] (l) false])
def akw:List UInt8→Nat→Option an:=fun _ _=>none
def ă:bI:=aC Ă akv
def Ą:Env:=Env.cons 95 ă ā
abbrev ą:List PS:= [.one (.slice [.str, .slice [.int .i64]])]
def akx:List (List UInt8×List Int)→Prop×AV×List AB:=fun x=>match x with
 |l=>(S.small l, .own 0,[.row 136 [.str, .slice [.int .i64]] (l) false])
def aky:List (List UInt8×List Int)→Nat→Option an:=fun _ _=>none
def Ć:bI:=aC ą akx
def ć:Env:=Env.cons 98 Ć Ą
abbrev Ĉ:List PS:= [.one (.slice [.int .i64]), .one (.slice [.int .i64])]
def akz:List Int×List Int→Prop×AV×List AB:=fun x=>match x with
 |(a,b)=>(True, .bool (S.Aq a b),[])
def akA:List Int×List Int→Nat→Option an:=fun x=>match x with
 |(a,b)=>fun id=>(match id with
  |0=>some {τ:=Nat,aZ:= [(13,fun k=> .int .i64 ((k:Nat):Int))],keys:= [],dx:= [],drop:= [],cI:= [],inv:=fun k=>S.zg a b k,ah:=fun k=>S.ah (S.len a) k}
  |_=>none)
def ĉ:bI:=aC Ĉ akz
def Ċ:Env:=Env.cons 110 ĉ ć
abbrev ċ:List PS:= [.agg [.str, .slice [.int .i64]], .agg [.str, .slice [.int .i64]]]
def akB:List UInt8×List Int×List UInt8×List Int→Prop×AV×List AB:=fun x=>match x with
 |(a1,a2,b1,b2)=>(True, .bool (S.uO a1 a2 b1 b2),[])
def akC:List UInt8×List Int×List UInt8×List Int→Nat→Option an:=fun _ _=>none
def Č:bI:=aC ċ akB
def č:Env:=Env.cons 109 Č Ċ
abbrev Ď:List TA:= [.cD (.slice [.str, .slice [.int .i64]]), .cD (.slice [.str, .slice [.int .i64]]), .fn (.func 109) [] []]
abbrev ď:List TB:= []
def akD:(List (List UInt8×List Int)×List (List UInt8×List Int))→Unit→fv:=fun x y=>match x,y with
 |(a,b),()=> {pre:=True,res:= .bool (S.mF a b),heap:= [],new:= []}
def akE:(List (List UInt8×List Int)×List (List UInt8×List Int))→Unit→Nat→Option an:=fun x y=>match x,y with
 |(a,b),()=>fun id=>(match id with
  |0=>some {τ:=Nat,aZ:= [(17,fun k=> .int .i64 ((k:Nat):Int))],keys:= [],dx:= [],drop:= [],cI:= [],inv:=fun k=>S.zb a b k,ah:=fun k=>S.ah (S.len a) k}
  |_=>none)
def Đ:eX:=gD Ď ď akD
def đ:eX:=Đ
def Ē:Env:=Env.eQ 108 [false,false,true] đ č
abbrev ē:List PS:= [.one (.slice [.str, .slice [.int .i64]]), .one (.slice [.str, .slice [.int .i64]])]
def akF:List (List UInt8×List Int)×List (List UInt8×List Int)→Prop×AV×List AB:=fun x=>match x with
 |(a,b)=>(True, .bool (S.mF a b),[])
def akG:List (List UInt8×List Int)×List (List UInt8×List Int)→Nat→Option an:=fun _ _=>none
def Ĕ:bI:=aC ē akF
def ĕ:Env:=Env.cons 76 Ĕ Ē
abbrev Ė:List PS:= [.agg [.slice [.slice [.int .u8]], .slice [.int .i64, .int .i64, .slice [.str, .slice [.int .i64]]]]]
def akH:List (List UInt8)×List (Int×Int×List (List UInt8×List Int))→Prop×AV×List AB:=fun x=>match x with
 |(y1,y2)=>(True, .bool (S.aW y1 y2),[])
def akI:List (List UInt8)×List (Int×Int×List (List UInt8×List Int))→Nat→Option an:=fun x=>match x with
 |(y1,y2)=>fun id=>(match id with
  |0=>some {τ:=Nat,aZ:= [(23,fun k=> .int .i64 ((k:Nat):Int))],keys:= [],dx:= [],drop:= [],cI:= [],inv:=fun k=>S.EG y1 y2 k,ah:=fun k=>S.ah (S.len y1) k}
  |2=>some {τ:=Nat,aZ:= [(34,fun k=> .int .i64 ((k:Nat):Int)),(5,fun k=> .int .i64 (S.eR y2 k))],keys:= [],dx:= [],drop:= [],cI:= [],inv:=fun k=>S.uK y1 y2 k,ah:=fun k=>S.ah (S.len y2) k}
  |_=>none)
def ė:bI:=aC Ė akH
def Ę:Env:=Env.cons 37 ė ĕ
abbrev ę:List PS:= [.agg [.slice [.slice [.int .u8]], .slice [.int .i64, .int .i64, .slice [.str, .slice [.int .i64]]]]]
def akJ:List (List UInt8)×List (Int×Int×List (List UInt8×List Int))→Prop×AV×List AB:=fun x=>match x with
 |(y1,y2)=>(True, .agg [.sl [.slice [.int .u8]] ((S.ao y1 y2).1), .sl [.int .i64, .int .i64, .slice [.str, .slice [.int .i64]]] ((S.ao y1 y2).2)],[])
def akK:List (List UInt8)×List (Int×Int×List (List UInt8×List Int))→Nat→Option an:=fun _ _=>none
def Ě:bI:=aC ę akJ
def ě:Env:=Env.cons 100 Ě Ę
abbrev Ĝ:List PS:= [.agg [.slice [.slice [.int .u8]], .slice [.int .i64, .int .i64, .slice [.str, .slice [.int .i64]]]]]
def akL:List (List UInt8)×List (Int×Int×List (List UInt8×List Int))→Prop×AV×List AB:=fun x=>match x with
 |(y1,y2)=>(True, .int .i64 (S.cg y2:Int),[])
def akM:List (List UInt8)×List (Int×Int×List (List UInt8×List Int))→Nat→Option an:=fun _ _=>none
def ĝ:bI:=aC Ĝ akL
def Pn:Env:=Env.cons 102 ĝ ě
abbrev Ğ:List PS:= [.agg [.slice [.slice [.int .u8]], .slice [.int .i64, .int .i64, .slice [.str, .slice [.int .i64]]]]]
def akN:List (List UInt8)×List (Int×Int×List (List UInt8×List Int))→Prop×AV×List AB:=fun x=>match x with
 |(y1,y2)=>(S.lL y1 y2, .agg [.own 0, .own 1],[.row 26 [.slice [.int .u8]] y1 false, .row 91 [.int .i64, .int .i64, .slice [.str, .slice [.int .i64]]] y2 false])
def akO:List (List UInt8)×List (Int×Int×List (List UInt8×List Int))→Nat→Option an:=fun x=>match x with
 |(y1,y2)=>fun id=>(match id with
  |0=>some {τ:=Nat,aZ:= [(22,fun k=> .int .i64 ((k:Nat):Int))],keys:= [(13,fun k=> .row 26 [.slice [.int .u8]] (S.cU [] y1 k) false)],dx:= [],drop:= [],cI:= [],inv:=fun k=>S.gh y1 k,ah:=fun k=>S.ah (S.len y1) k}
  |2=>some {τ:=Nat,aZ:= [(37,fun k=> .int .i64 ((k:Nat):Int))],keys:= [(17,fun k=> .row 91 [.int .i64, .int .i64, .slice [.str, .slice [.int .i64]]] (S.cU (0,0,[]) y2 k) false)],dx:= [],drop:= [],cI:= [],inv:=fun k=>S.gh y2 k,ah:=fun k=>S.ah (S.len y2) k}
  |4=>some {τ:=Nat×Nat×List S.aA,aZ:= [(55,fun k=> .int .i64 ((k.1:Nat):Int))],keys:= [(17,fun k=> .gw 91 (some 104900) [.int .i64, .int .i64, .slice [.str, .slice [.int .i64]]] k.2.2 k.2.1),(104900,fun k=> .row 136 [.str, .slice [.int .i64]] (S.ar y2 k.2.1).2.2 false)],dx:= [],drop:= [],cI:= [(6,fun k=> .int .i64 ((k.2.1:Nat):Int))],inv:=fun k=>S.qs y2 k.2.2 k.2.1 k.1,ah:=fun k=>S.ah (S.gS y2 k.2.1) k.1}
  |_=>none)
def ğ:bI:=aC Ğ akN
def Ġ:Env:=Env.cons 101 ğ Pn
def akP:Env:= {Pn with gw:=fun t=>Nat.beq t 91,cls:=fun d=>bif Nat.beq d 73 then some 17 else none,spl:=fun d=>false}
abbrev ġ:List PS:= [.one (.slice [.int .i64, .int .i64, .slice [.str, .slice [.int .i64]]]), .one (.int .i64), .one (.int .i64), .agg [.int .i64, .int .i64, .slice [.str, .slice [.int .i64]]]]
def akQ:List (Int×Int×List (List UInt8×List Int))×Int×Int×Int×Int×List (List UInt8×List Int)→Prop×AV×List AB:=fun x=>match x with
 |(l,i,m,s1,s2,s3)=>(S.rF l i m, .own 0,[.row 91 [.int .i64, .int .i64, .slice [.str, .slice [.int .i64]]] (S.pF l i.toNat m.toNat (s1,s2,s3)) false])
def akR:List (Int×Int×List (List UInt8×List Int))×Int×Int×Int×Int×List (List UInt8×List Int)→Nat→Option an:=fun _ _=>none
def Ģ:bI:=aC ġ akQ
def ģ:Env:=Env.cons 104 Ģ Ġ
abbrev Ĥ:List PS:= [.agg [.slice [.slice [.int .u8]], .slice [.int .i64, .int .i64, .slice [.str, .slice [.int .i64]]]], .one (.slice [.int .u8])]
def akS:List (List UInt8)×List (Int×Int×List (List UInt8×List Int))×List UInt8→Prop×AV×List AB:=fun x=>match x with
 |(y1,y2,d)=>(True, .cB [.agg [.sl [.slice [.int .u8]] (((S.bq y1 y2 d).1).1), .sl [.int .i64, .int .i64, .slice [.str, .slice [.int .i64]]] (((S.bq y1 y2 d).1).2)], .int .i64 ((S.bq y1 y2 d).2:Int)],[])
def akT:List (List UInt8)×List (Int×Int×List (List UInt8×List Int))×List UInt8→Nat→Option an:=fun _ _=>none
def ĥ:bI:=aC Ĥ akS
def Ħ:Env:=Env.cons 68 ĥ ģ
abbrev ħ:List PS:= [.agg [.slice [.slice [.int .u8]], .slice [.int .i64, .int .i64, .slice [.str, .slice [.int .i64]]]]]
def akU:List (List UInt8)×List (Int×Int×List (List UInt8×List Int))→Prop×AV×List AB:=fun x=>match x with
 |(y1,y2)=>(True, .cB [.agg [.sl [.slice [.int .u8]] (((S.aY y1 y2).1).1), .sl [.int .i64, .int .i64, .slice [.str, .slice [.int .i64]]] (((S.aY y1 y2).1).2)], .int .i64 ((S.aY y1 y2).2:Int)],[])
def akV:List (List UInt8)×List (Int×Int×List (List UInt8×List Int))→Nat→Option an:=fun _ _=>none
def Ĩ:bI:=aC ħ akU
def ĩ:Env:=Env.cons 70 Ĩ Ħ
abbrev Ī:List PS:= [.agg [.slice [.slice [.int .u8]], .slice [.int .i64, .int .i64, .slice [.str, .slice [.int .i64]]]], .one (.int .i64), .one (.int .i64)]
def akW:List (List UInt8)×List (Int×Int×List (List UInt8×List Int))×Int×Int→Prop×AV×List AB:=fun x=>match x with
 |(y1,y2,i,m)=>(True, .cB [.agg [.sl [.slice [.int .u8]] (((S.cn y1 y2 i m).1).1), .sl [.int .i64, .int .i64, .slice [.str, .slice [.int .i64]]] (((S.cn y1 y2 i m).1).2)], .int .i64 ((S.cn y1 y2 i m).2:Int)],[])
def akX:List (List UInt8)×List (Int×Int×List (List UInt8×List Int))×Int×Int→Nat→Option an:=fun _ _=>none
def ī:bI:=aC Ī akW
def Ĭ:Env:=Env.cons 72 ī ĩ
abbrev ĭ:List PS:= [.agg [.slice [.slice [.int .u8]], .slice [.int .i64, .int .i64, .slice [.str, .slice [.int .i64]]]]]
def akY:List (List UInt8)×List (Int×Int×List (List UInt8×List Int))→Prop×AV×List AB:=fun x=>match x with
 |(y1,y2)=>(True, .agg [.sl [.slice [.int .u8]] ((S.c5 y1 y2).1), .sl [.int .i64, .int .i64, .slice [.str, .slice [.int .i64]]] ((S.c5 y1 y2).2)],[])
def akZ:List (List UInt8)×List (Int×Int×List (List UInt8×List Int))→Nat→Option an:=fun x=>match x with
 |(y1,y2)=>fun id=>(match id with
  |0=>some {τ:=List (Int×Int),aZ:= [],keys:= [(3,fun L=> .cells [.own 101100, .own 300]),(300,fun L=> .row 91 [.int .i64, .int .i64, .slice [.str, .slice [.int .i64]]] (S.aB (S.ao y1 y2).1 L) false)],dx:= [(Vg.Loc.cell 3 1,300)],drop:= [101101],cI:= [],inv:=fun L=>S.nd y1 y2 L,ah:=fun L=>L.length}
  |_=>none)
def Į:bI:=aC ĭ akY
def į:Env:=Env.cons 74 Į Ĭ
abbrev Q7:List PS:= [.one (.slice [.int .u8])]
def abM:List UInt8→Prop×AV×List AB:=fun x=>match x with
 |b=>(True, .own 0,[.row 5 [.int .u8] (S.copied b) false])
def abN:List UInt8→Nat→Option an:=fun _ _=>none
def Q8:bI:=aC Q7 abM
def Q9:Env:=Env.cons 92 Q8 į
abbrev Ra:List PS:= [.one (.int .i64)]
def abO:Int→Prop×AV×List AB:=fun x=>match x with
 |n=>(S.rG n, .own 0,[.views 26 (some 1) n.toNat n.toNat 64, .row 5 [.int .u8] (S.pH n) false])
def abP:Int→Nat→Option an:=fun x=>match x with
 |n=>fun id=>(match id with
  |0=>some {τ:=Nat,aZ:= [(15,fun k=> .int .i64 ((k:Nat):Int))],keys:= [(12,fun k=> .views 26 (some 10) n.toNat k 64)],dx:= [],drop:= [],cI:= [],inv:=fun k=>S.uR k n.toNat,ah:=fun k=>S.ah n.toNat k}
  |_=>none)
def Rb:bI:=aC Ra abO
def Rc:Env:=Env.cons 66 Rb Q9
abbrev Re:List PS:= [.agg [.slice [.slice [.int .u8]], .slice [.int .i64, .slice [.int .u8]]]]
def abQ:List (List UInt8)×List (Int×List UInt8)→Prop×AV×List AB:=fun x=>match x with
 |(d1,d2)=>(S.pI d1, .agg [.own 0, .nil],[.views 26 (some 1) (S.len d1) (S.len d1) 64, .row 5 [.int .u8] (S.flat d1) false])
def abR:List (List UInt8)×List (Int×List UInt8)→Nat→Option an:=fun x=>match x with
 |(d1,d2)=>fun id=>(match id with
  |0=>some {τ:=Nat,aZ:= [(14,fun k=> .int .i64 ((k:Nat):Int))],keys:= [(100901,fun k=> .row 5 [.int .u8] (S.fR d1 k) false)],dx:= [],drop:= [],cI:= [],inv:=fun k=>S.fe d1 k,ah:=fun k=>S.ah (S.len d1) k}
  |_=>none)
def Rf:bI:=aC Re abQ
def Rg:Env:=Env.cons 62 Rf Rc
abbrev Rh:List PS:= [.agg [.slice [.slice [.int .u8]], .slice [.int .i64, .slice [.int .u8]]]]
def abS:List (List UInt8)×List (Int×List UInt8)→Prop×AV×List AB:=fun x=>match x with
 |(d1,d2)=>(True, .bool (S.aJ d1 d2),[])
def abT:List (List UInt8)×List (Int×List UInt8)→Nat→Option an:=fun x=>match x with
 |(d1,d2)=>fun id=>(match id with
  |0=>some {τ:=Nat,aZ:= [(20,fun k=> .int .i64 ((k:Nat):Int))],keys:= [],dx:= [],drop:= [],cI:= [],inv:=fun k=>S.Mh d1 k,ah:=fun k=>S.ah (S.len d1) k}
  |2=>some {τ:=Nat,aZ:= [(31,fun k=> .int .i64 ((k:Nat):Int))],keys:= [],dx:= [],drop:= [],cI:= [],inv:=fun k=>S.Mi d1 d2 k,ah:=fun k=>S.ah (S.len d2) k}
  |_=>none)
def Ri:bI:=aC Rh abS
def Rj:Env:=Env.cons 50 Ri Rg
abbrev Rk:List PS:= [.agg [.slice [.slice [.int .u8]], .slice [.int .i64, .slice [.int .u8]]]]
def abU:List (List UInt8)×List (Int×List UInt8)→Prop×AV×List AB:=fun x=>match x with
 |(d1,d2)=>(True, .agg [.sl [.slice [.int .u8]] (((S.vB d1 d2,S.vW d1 d2)).1), .sl [.int .i64, .slice [.int .u8]] (((S.vB d1 d2,S.vW d1 d2)).2)],[])
def abV:List (List UInt8)×List (Int×List UInt8)→Nat→Option an:=fun _ _=>none
def Rl:bI:=aC Rk abU
def Rm:Env:=Env.cons 61 Rl Rj
abbrev Rn:List PS:= [.agg [.slice [.slice [.int .u8]], .slice [.int .i64, .slice [.int .u8]]]]
def abW:List (List UInt8)×List (Int×List UInt8)→Prop×AV×List AB:=fun x=>match x with
 |(d1,d2)=>(True, .int .i64 (S.kA (S.vB d1 d2):Int),[])
def abX:List (List UInt8)×List (Int×List UInt8)→Nat→Option an:=fun _ _=>none
def Ro:bI:=aC Rn abW
def Rp:Env:=Env.cons 51 Ro Rm
abbrev Rq:List PS:= [.one (.int .i64)]
def abY:Int→Prop×AV×List AB:=fun x=>match x with
 |n=>(True, .cB [.agg [.sl [.slice [.int .u8]] (S.j1 n), .nil], .int .i64 (S.nZ n)],[])
def abZ:Int→Nat→Option an:=fun _ _=>none
def Rr:bI:=aC Rq abY
def Rs:Env:=Env.cons 35 Rr Rp
abbrev Rt:List PS:= [.agg [.slice [.slice [.int .u8]], .slice [.int .i64, .slice [.int .u8]]], .one (.int .i64)]
def ab1:List (List UInt8)×List (Int×List UInt8)×Int→Prop×AV×List AB:=fun x=>match x with
 |(d1,d2,i)=>(True, .cB [.own 0, .int .i64 (((S.dP d1 d2 i,S.gj d1 d2 i)).2:Int)],[.row 5 [.int .u8] (((S.dP d1 d2 i,S.gj d1 d2 i)).1) false])
def ab2:List (List UInt8)×List (Int×List UInt8)×Int→Nat→Option an:=fun x=>match x with
 |(d1,d2,i)=>fun id=>(match id with
  |0=>some {τ:=Nat,aZ:= [(28,fun k=> .int .i64 ((k:Nat):Int)),(6,fun k=> .sl [.int .u8] (S.qu (S.vW d1 d2) i (S.bN (S.vB d1 d2) i) k))],keys:= [],dx:= [],drop:= [],cI:= [],inv:=fun k=>S.fe (S.vW d1 d2) k,ah:=fun k=>S.ah (S.len (S.vW d1 d2)) k}
  |_=>none)
def Ru:bI:=aC Rt ab1
def Rv:Env:=Env.cons 86 Ru Rs
abbrev Rw:List PS:= [.agg [.slice [.slice [.int .u8]], .slice [.int .i64, .slice [.int .u8]]], .one (.int .i64), .one (.slice [.int .u8])]
def ab3:List (List UInt8)×List (Int×List UInt8)×Int×List UInt8→Prop×AV×List AB:=fun x=>match x with
 |(d1,d2,i,b)=>(True, .cB [.agg [.sl [.slice [.int .u8]] (((((S.wB d1 d2,S.wW d1 d2 i b),S.kL d1 d2 i b)).1).1), .sl [.int .i64, .slice [.int .u8]] (((((S.wB d1 d2,S.wW d1 d2 i b),S.kL d1 d2 i b)).1).2)], .int .i64 ((((S.wB d1 d2,S.wW d1 d2 i b),S.kL d1 d2 i b)).2:Int)],[])
def ab4:List (List UInt8)×List (Int×List UInt8)×Int×List UInt8→Nat→Option an:=fun x=>match x with
 |(d1,d2,i,b)=>fun id=>(match id with
  |0=>some {τ:=Nat,aZ:= [(38,fun k=> .int .i64 ((k:Nat):Int))],keys:= [(8,fun k=> .cells [.own 103400, .own 200]),(200,fun k=> .row 129 [.int .i64, .slice [.int .u8]] (S.kK (S.vW d1 d2) k) false)],dx:= [(Vg.Loc.cell 8 1,200)],drop:= [],cI:= [],inv:=fun k=>S.fe (S.vW d1 d2) k,ah:=fun k=>S.ah (S.len (S.vW d1 d2)) k}
  |_=>none)
def Rx:bI:=aC Rw ab3
def Ry:Env:=Env.cons 60 Rx Rv
abbrev Rz:List PS:= [.agg [.slice [.slice [.int .u8]], .slice [.int .i64, .slice [.int .u8]]]]
def ab5:List (List UInt8)×List (Int×List UInt8)→Prop×AV×List AB:=fun x=>match x with
 |(d1,d2)=>(True, .agg [.sl [.slice [.int .u8]] (S.jE (d1,d2)), .nil],[])
def ab6:List (List UInt8)×List (Int×List UInt8)→Nat→Option an:=fun x=>match x with
 |(d1,d2)=>fun id=>(match id with
  |0=>some {τ:=Nat,aZ:= [(13,fun k=> .int .i64 ((k:Nat):Int))],keys:= [(100901,fun k=> .row 5 [.int .u8] (S.lN (S.vB d1 d2) (S.vW d1 d2) k) false)],dx:= [],drop:= [],cI:= [],inv:=fun k=>S.fe (S.vW d1 d2) k,ah:=fun k=>S.ah (S.len (S.vW d1 d2)) k}
  |_=>none)
def RA:bI:=aC Rz ab5
def RB:Env:=Env.cons 59 RA Ry
abbrev RC:List PS:= [.agg [.slice [.slice [.int .u8]], .slice [.int .i64, .slice [.int .u8]]], .one (.slice [.int .i64])]
def ab7:List (List UInt8)×List (Int×List UInt8)×List Int→Prop×AV×List AB:=fun x=>match x with
 |(d1,d2,keep)=>(True, .agg [.sl [.slice [.int .u8]] (S.vY (d1,d2) keep), .nil],[])
def ab8:List (List UInt8)×List (Int×List UInt8)×List Int→Nat→Option an:=fun x=>match x with
 |(d1,d2,keep)=>fun id=>(match id with
  |0=>some {τ:=Nat,aZ:= [(16,fun k=> .int .i64 ((k:Nat):Int))],keys:= [(101201,fun k=> .row 5 [.int .u8] (S.jB keep (S.vB d1 d2) (S.vW d1 d2) k) false)],dx:= [],drop:= [],cI:= [],inv:=fun k=>S.fe (S.vW d1 d2) k,ah:=fun k=>S.ah (S.len (S.vW d1 d2)) k}
  |_=>none)
def RD:bI:=aC RC ab7
def RE:Env:=Env.cons 23 RD RB
abbrev RF:List PS:= [.one (.slice [.int .u8]), .one (.slice [.int .u8])]
def ab9:List UInt8×List UInt8→Prop×AV×List AB:=fun x=>match x with
 |(a,b)=>(True, .bool (S.JT a b),[])
def aca:List UInt8×List UInt8→Nat→Option an:=fun _ _=>none
def RG:bI:=aC RF ab9
def RH:Env:=Env.cons 117 RG RE
abbrev acb:List PS:= [.one (.slice [.int .u8]), .one (.int .i64)]
def acd:List UInt8×Int→Prop×AV×List AB:=fun x=>match x with
 |(b,n)=>(S.JU b n, .sl [.int .u8] S.clean,[])
def RJ:bI:=aC acb acd
def RL:Env:=Env.cons 56 RJ RH
abbrev RM:List PS:= [.one (.slice [.int .u8])]
def ace:List UInt8→Prop×AV×List AB:=fun x=>match x with
 |b=>(S.eS b, .cB [.int .i64 ((S.eU b).1:Int), .bool ((S.eU b).2)],[])
def acf:List UInt8→Nat→Option an:=fun x=>match x with
 |b=>fun id=>(match id with
  |0=>some {τ:=Nat,aZ:= [(10,fun k=> .int .i64 ((k:Nat):Int)),(4,fun k=> .int .u64 ((S.dS b k:Nat):Int))],keys:= [],dx:= [],drop:= [],cI:= [],inv:=fun k=>S.oh k 8,ah:=fun k=>S.ah 8 k}
  |_=>none)
def RN:bI:=aC RM ace
def RO:Env:=Env.cons 116 RN RL
abbrev RP:List PS:= [.agg [.int .i64, .int .i64]]
def acg:Int×Int→Prop×AV×List AB:=fun x=>match x with
 |(m1,m2)=>(S.lQ m1 m2, .own 0,[.row 5 [.int .u8] (S.dQ m1 m2) false])
def ach:Int×Int→Nat→Option an:=fun x=>match x with
 |(m1,m2)=>fun id=>(match id with
  |0=>some {τ:=Nat,aZ:= [(10,fun k=> .int .i64 ((k:Nat):Int))],keys:= [(7,fun k=> .row 5 [.int .u8] (S.eb m1 m2 k) false)],dx:= [],drop:= [],cI:= [],inv:=fun k=>S.oh k 8,ah:=fun k=>S.ah 8 k}
  |_=>none)
def RQ:bI:=aC RP acg
def RR:Env:=Env.cons 58 RQ RO
abbrev RS:List PS:= [.one (.slice [.int .u8]), .one (.int .i64)]
def aci:List UInt8×Int→Prop×AV×List AB:=fun x=>match x with
 |(b,m)=>(True, .cB [.agg [.int .i64 (((S.cF b m).1).1:Int), .int .i64 (((S.cF b m).1).2:Int)], .bool ((S.cF b m).2)],[])
def acj:List UInt8×Int→Nat→Option an:=fun _ _=>none
def RT:bI:=aC RS aci
def RU:Env:=Env.cons 87 RT RR
abbrev RV:List PS:= [.agg [.slice [.slice [.int .u8]], .slice [.int .i64, .slice [.int .u8]]]]
def ack:List (List UInt8)×List (Int×List UInt8)→Prop×AV×List AB:=fun x=>match x with
 |(d1,d2)=>(True, .int .i64 (S.dG d1 d2:Int),[])
def acm:List (List UInt8)×List (Int×List UInt8)→Nat→Option an:=fun _ _=>none
def RW:bI:=aC RV ack
def RX:Env:=Env.cons 55 RW RU
abbrev RY:List PS:= [.agg [.slice [.slice [.int .u8]], .slice [.int .i64, .slice [.int .u8]]]]
def acn:List (List UInt8)×List (Int×List UInt8)→Prop×AV×List AB:=fun x=>match x with
 |(d1,d2)=>(True, .cB [.agg [.int .i64 (((S.fy d1 d2).1).1:Int), .int .i64 (((S.fy d1 d2).1).2:Int)], .bool ((S.fy d1 d2).2)],[])
def aco:List (List UInt8)×List (Int×List UInt8)→Nat→Option an:=fun x=>match x with
 |(d1,d2)=>fun id=>(match id with
  |0=>some {τ:=Nat,aZ:= [(11,fun k=> .int .i64 ((k:Nat):Int)),(5,fun k=> .bool (S.c6 d1 d2 k).2)],keys:= [(4,fun k=> .cells [.int .i64 (S.c6 d1 d2 k).1.1, .int .i64 (S.c6 d1 d2 k).1.2])],dx:= [],drop:= [],cI:= [],inv:=fun k=>S.oh k 2,ah:=fun k=>S.ah 2 k}
  |_=>none)
def RZ:bI:=aC RY acn
def R0:Env:=Env.cons 52 RZ RX
abbrev R1:List PS:= [.agg [.slice [.slice [.int .u8]], .slice [.int .i64, .slice [.int .u8]]], .one (.int .i64)]
def acp:List (List UInt8)×List (Int×List UInt8)×Int→Prop×AV×List AB:=fun x=>match x with
 |(d1,d2,n)=>(S.qv d1 d2 n, .sl [.int .u8] ((S.uX d1 d2).take n.toNat),[])
def acq:List (List UInt8)×List (Int×List UInt8)×Int→Nat→Option an:=fun x=>match x with
 |(d1,d2,n)=>fun id=>(match id with
  |0=>some {τ:=Nat,aZ:= [(6,fun k=> .int .i64 ((k:Int)+2)),(5,fun k=> .own 300)],keys:= [(300,fun k=> .row 5 [.int .u8] (S.dU d1 d2 k) false)],dx:= [(Vg.Loc.slot 5,300)],drop:= [],cI:= [],inv:=fun k=>S.nj d1 d2 n k,ah:=fun k=>S.ah 5000 k}
  |_=>none)
def R2:bI:=aC R1 acp
def R3:Env:=Env.cons 53 R2 R0
abbrev R4:List PS:= [.agg [.slice [.int .u8], .int .i64, .int .i64]]
def acr:List UInt8×Int×Int→Prop×AV×List AB:=fun x=>match x with
 |(r1,r2,r3)=>(S.JV r1, .cB [.agg [.sl [.int .u8] (((((r1,(S.cm r1 r2 r3).1.1,(S.cm r1 r2 r3).1.2),(S.cm r1 r2 r3).2)).1).1), .int .i64 (((((r1,(S.cm r1 r2 r3).1.1,(S.cm r1 r2 r3).1.2),(S.cm r1 r2 r3).2)).1).2.1:Int), .int .i64 (((((r1,(S.cm r1 r2 r3).1.1,(S.cm r1 r2 r3).1.2),(S.cm r1 r2 r3).2)).1).2.2:Int)], .agg [.int .i64 (((((r1,(S.cm r1 r2 r3).1.1,(S.cm r1 r2 r3).1.2),(S.cm r1 r2 r3).2)).2).1:Int), .int .i64 (((((r1,(S.cm r1 r2 r3).1.1,(S.cm r1 r2 r3).1.2),(S.cm r1 r2 r3).2)).2).2.1:Int), .int .i64 (((((r1,(S.cm r1 r2 r3).1.1,(S.cm r1 r2 r3).1.2),(S.cm r1 r2 r3).2)).2).2.2.1:Int), .sl [.int .u8] (((((r1,(S.cm r1 r2 r3).1.1,(S.cm r1 r2 r3).1.2),(S.cm r1 r2 r3).2)).2).2.2.2)]],[])
def acs:List UInt8×Int×Int→Nat→Option an:=fun _ _=>none
def R5:bI:=aC R4 acr
def R6:Env:=Env.cons 54 R5 R3
abbrev R7:List PS:= [.agg [.slice [.slice [.int .u8]], .slice [.int .i64, .int .i64, .slice [.str, .slice [.int .i64]]]], .agg [.int .i64, .int .i64, .int .i64, .slice [.int .u8]]]
def acu:List (List UInt8)×List (Int×Int×List (List UInt8×List Int))×Int×Int×Int×List UInt8→Prop×AV×List AB:=fun x=>match x with
 |(y1,y2,e1,e2,e3,e4)=>(True, .cB [.agg [.sl [.slice [.int .u8]] (((S.bq y1 y2 e4).1).1), .sl [.int .i64, .int .i64, .slice [.str, .slice [.int .i64]]] (((S.bq y1 y2 e4).1).2)], .int .i64 ((S.bq y1 y2 e4).2:Int)],[])
def acv:List (List UInt8)×List (Int×Int×List (List UInt8×List Int))×Int×Int×Int×List UInt8→Nat→Option an:=fun _ _=>none
def R8:bI:=aC R7 acu
def R9:Env:=Env.cons 67 R8 R6
abbrev Sa:List PS:= [.agg [.slice [.slice [.int .u8]], .slice [.int .i64, .int .i64, .slice [.str, .slice [.int .i64]]]], .agg [.int .i64, .int .i64, .int .i64, .slice [.int .u8]]]
def acw:List (List UInt8)×List (Int×Int×List (List UInt8×List Int))×Int×Int×Int×List UInt8→Prop×AV×List AB:=fun x=>match x with
 |(y1,y2,e1,e2,e3,e4)=>(True, .cB [.agg [.sl [.slice [.int .u8]] (((S.aY y1 y2).1).1), .sl [.int .i64, .int .i64, .slice [.str, .slice [.int .i64]]] (((S.aY y1 y2).1).2)], .int .i64 ((S.aY y1 y2).2:Int)],[])
def acx:List (List UInt8)×List (Int×Int×List (List UInt8×List Int))×Int×Int×Int×List UInt8→Nat→Option an:=fun _ _=>none
def Sb:bI:=aC Sa acw
def Sc:Env:=Env.cons 69 Sb R9
abbrev Sd:List PS:= [.agg [.slice [.slice [.int .u8]], .slice [.int .i64, .int .i64, .slice [.str, .slice [.int .i64]]]], .agg [.int .i64, .int .i64, .int .i64, .slice [.int .u8]]]
def acy:List (List UInt8)×List (Int×Int×List (List UInt8×List Int))×Int×Int×Int×List UInt8→Prop×AV×List AB:=fun x=>match x with
 |(y1,y2,e1,e2,e3,e4)=>(True, .cB [.agg [.sl [.slice [.int .u8]] (((S.cn y1 y2 e2 e3).1).1), .sl [.int .i64, .int .i64, .slice [.str, .slice [.int .i64]]] (((S.cn y1 y2 e2 e3).1).2)], .int .i64 ((S.cn y1 y2 e2 e3).2:Int)],[])
def acz:List (List UInt8)×List (Int×Int×List (List UInt8×List Int))×Int×Int×Int×List UInt8→Nat→Option an:=fun _ _=>none
def Se:bI:=aC Sd acy
def Sf:Env:=Env.cons 71 Se Sc
abbrev Sh:List PS:= [.agg [.slice [.slice [.int .u8]], .slice [.int .i64, .int .i64, .slice [.str, .slice [.int .i64]]]], .agg [.int .i64, .int .i64, .int .i64, .slice [.int .u8]]]
def acA:List (List UInt8)×List (Int×Int×List (List UInt8×List Int))×Int×Int×Int×List UInt8→Prop×AV×List AB:=fun x=>match x with
 |(y1,y2,e1,e2,e3,e4)=>(True, .cB [.agg [.sl [.slice [.int .u8]] ((((S.c5 y1 y2,0)).1).1), .sl [.int .i64, .int .i64, .slice [.str, .slice [.int .i64]]] ((((S.c5 y1 y2,0)).1).2)], .int .i64 (((S.c5 y1 y2,0)).2:Int)],[])
def acB:List (List UInt8)×List (Int×Int×List (List UInt8×List Int))×Int×Int×Int×List UInt8→Nat→Option an:=fun _ _=>none
def Si:bI:=aC Sh acA
def Sj:Env:=Env.cons 73 Si Sf
abbrev Sk:List PS:= []
def acC:Unit→Prop×AV×List AB:=fun x=>match x with
 |()=>(True, .fT [0,1,2,3] [.fn (.func 67) [] [], .fn (.func 69) [] [], .fn (.func 71) [] [], .fn (.func 73) [] []],[])
def acD:Unit→Nat→Option an:=fun _ _=>none
def Sl:bI:=aC Sk acC
def Sm:Env:=Env.cons 36 Sl Sj
abbrev Sn:List PS:= [.agg [.slice [.slice [.int .u8]], .slice [.int .i64, .int .i64, .slice [.str, .slice [.int .i64]]]], .agg [.int .i64, .int .i64, .int .i64, .slice [.int .u8]]]
def acE:List (List UInt8)×List (Int×Int×List (List UInt8×List Int))×Int×Int×Int×List UInt8→Prop×AV×List AB:=fun x=>match x with
 |(y1,y2,e1,e2,e3,e4)=>(True, .cB [.agg [.sl [.slice [.int .u8]] (((S.dA y1 y2 e1 e2 e3 e4).1).1), .sl [.int .i64, .int .i64, .slice [.str, .slice [.int .i64]]] (((S.dA y1 y2 e1 e2 e3 e4).1).2)], .int .i64 ((S.dA y1 y2 e1 e2 e3 e4).2:Int)],[])
def acF:List (List UInt8)×List (Int×Int×List (List UInt8×List Int))×Int×Int×Int×List UInt8→Nat→Option an:=fun _ _=>none
def Sq:bI:=aC Sn acE
def Kg:Env:=Env.cons 11 Sq Sm
abbrev Sr:List PS:= [.agg [.int .i64, .int .i64, .int .i64, .slice [.int .u8]]]
def acG:Int×Int×Int×List UInt8→Prop×AV×List AB:=fun x=>match x with
 |(e1,e2,e3,e4)=>(True, .cB [.sl [.int .u8] ((S.ba e1 e2 e3 e4).1), .int .i64 ((S.ba e1 e2 e3 e4).2:Int)],[])
def acH:Int×Int×Int×List UInt8→Nat→Option an:=fun x=>match x with
 |(e1,e2,e3,e4)=>fun id=>(match id with
  |1=>some {τ:=Nat,aZ:= [(43,fun k=> .int .i64 ((k:Nat):Int)),(4,fun k=> .own 300),(5,fun k=> .int .i64 (S.jD e1 e2 e3 k).2)],keys:= [(300,fun k=> .row 5 [.int .u8] (S.jD e1 e2 e3 k).1 false)],dx:= [(Vg.Loc.slot 4,300)],drop:= [34,103400,103401,103402,101900,101901,101902,19],cI:= [],inv:=fun k=>S.oh k 2,ah:=fun k=>S.ah 2 k}
  |_=>none)
def Ss:bI:=aC Sr acG
def Su:Env:=Env.cons 15 Ss Kg
def acI:Env:= {Kg with gw:=fun t=>false,cls:=fun d=>none,spl:=fun d=>Nat.beq d 48}
abbrev Sv:List PS:= [.agg [.slice [.slice [.int .u8]], .slice [.int .i64, .slice [.int .u8]]]]
def acJ:List (List UInt8)×List (Int×List UInt8)→Prop×AV×List AB:=fun x=>match x with
 |(d1,d2)=>(True, .cB [.agg [.int .i64 (((S.bp (d1,d2)).1).1:Int), .int .i64 (((S.bp (d1,d2)).1).2.1:Int), .sl [.slice [.int .u8]] (((S.bp (d1,d2)).1).2.2.1), .sl [.int .i64, .int .i64, .slice [.str, .slice [.int .i64]]] (((S.bp (d1,d2)).1).2.2.2)], .int .i64 ((S.bp (d1,d2)).2:Int)],[])
def acK:List (List UInt8)×List (Int×List UInt8)→Nat→Option an:=fun x=>match x with
 |(d1,d2)=>fun id=>(match id with
  |0=>some {τ:=Int×List (List UInt8)×List S.aA,aZ:= [],keys:= [(7,fun k=> .cells [.sl [.int .u8] (S.aV d1 d2), .int .i64 k.1, .int .i64 0]),(6,fun k=> .cells [.sl [.slice [.int .u8]] k.2.1, .sl [.int .i64, .int .i64, .slice [.str, .slice [.int .i64]]] k.2.2])],dx:= [],drop:= [],cI:= [],inv:=fun k=>S.pM (S.aV d1 d2) k,ah:=fun k=>((S.aV d1 d2).length-k.1.toNat)}
  |_=>none)
def Sw:bI:=aC Sv acJ
def Sx:Env:=Env.cons 20 Sw Su
abbrev Sy:List PS:= [.agg [.slice [.slice [.int .u8]], .slice [.int .i64, .slice [.int .u8]]], .one (.int .i64), .one (.slice [.int .u8])]
def acL:List (List UInt8)×List (Int×List UInt8)×Int×List UInt8→Prop×AV×List AB:=fun x=>match x with
 |(d1,d2,a,b)=>(S.JW a b, .sl [.bool, .int .i64, .slice [.int .u8]] (S.mh (S.dZ d1 d2 a b)),[])
def acM:List (List UInt8)×List (Int×List UInt8)×Int×List UInt8→Nat→Option an:=fun x=>match x with
 |(d1,d2,a,b)=>fun id=>(match id with
  |0=>some {τ:=Int×List UInt8×S.Ws,aZ:= [(1,fun k=> .int .i64 k.1),(2,fun k=> .sl [.int .u8] k.2.1),(7,fun k=> .own 300)],keys:= [(300,fun k=> .row 96 [.bool, .int .i64, .slice [.int .u8]] (S.mh k.2.2) false)],dx:= [(Vg.Loc.slot 7,300)],drop:= [],cI:= [],inv:=fun k=>S.sL d1 d2 a b k,ah:=fun k=>k.2.1.length}
  |_=>none)
def Sz:bI:=aC Sy acL
def SA:Env:=Env.cons 57 Sz Sx
abbrev SB:List PS:= [.agg [.slice [.slice [.int .u8]], .slice [.int .i64, .slice [.int .u8]]], .agg [.int .i64, .int .i64, .slice [.slice [.int .u8]], .slice [.int .i64, .int .i64, .slice [.str, .slice [.int .i64]]]], .agg [.int .i64, .int .i64, .int .i64, .slice [.int .u8]]]
def acN:List (List UInt8)×List (Int×List UInt8)×Int×Int×List (List UInt8)×List (Int×Int×List (List UInt8×List Int))×Int×Int×Int×List UInt8→Prop×AV×List AB:=fun x=>match x with
 |(d1,d2,s1,s2,s3,s4,e1,e2,e3,e4)=>(True, .cB [.sl [.bool, .int .i64, .slice [.int .u8]] ((S.cW (d1,d2) (s1,s2,s3,s4) (e1,e2,e3,e4)).1), .agg [.int .i64 (((S.cW (d1,d2) (s1,s2,s3,s4) (e1,e2,e3,e4)).2.1).1:Int), .int .i64 (((S.cW (d1,d2) (s1,s2,s3,s4) (e1,e2,e3,e4)).2.1).2.1:Int), .sl [.slice [.int .u8]] (((S.cW (d1,d2) (s1,s2,s3,s4) (e1,e2,e3,e4)).2.1).2.2.1), .sl [.int .i64, .int .i64, .slice [.str, .slice [.int .i64]]] (((S.cW (d1,d2) (s1,s2,s3,s4) (e1,e2,e3,e4)).2.1).2.2.2)], .int .i64 ((S.cW (d1,d2) (s1,s2,s3,s4) (e1,e2,e3,e4)).2.2:Int)],[])
def acO:List (List UInt8)×List (Int×List UInt8)×Int×Int×List (List UInt8)×List (Int×Int×List (List UInt8×List Int))×Int×Int×Int×List UInt8→Nat→Option an:=fun _ _=>none
def SC:bI:=aC SB acN
def SD:Env:=Env.cons 21 SC SA
abbrev SE:List PS:= [.agg [.slice [.slice [.int .u8]], .slice [.int .i64, .slice [.int .u8]]], .one (.slice [.bool, .int .i64, .slice [.int .u8]]), .one (.int .i64)]
def acP:List (List UInt8)×List (Int×List UInt8)×List (Bool×Int×List UInt8)×Int→Prop×AV×List AB:=fun x=>match x with
 |(d1,d2,l,f)=>(True, .cB [.agg [.sl [.slice [.int .u8]] (((S.lY (d1,d2) l f).1).1), .sl [.int .i64, .slice [.int .u8]] (((S.lY (d1,d2) l f).1).2)], .int .i64 ((S.lY (d1,d2) l f).2:Int)],[])
def acQ:List (List UInt8)×List (Int×List UInt8)×List (Bool×Int×List UInt8)×Int→Nat→Option an:=fun x=>match x with
 |(d1,d2,l,f)=>fun id=>(match id with
  |0=>some {τ:=Nat×S.Bs×S.Ws,aZ:= [(14,fun k=> .int .i64 ((k.1:Nat):Int))],keys:= [(3,fun k=> .cells [.sl [.slice [.int .u8]] k.2.1, .sl [.int .i64, .slice [.int .u8]] k.2.2])],dx:= [],drop:= [],cI:= [],inv:=fun k=>S.mL d1 d2 l f k,ah:=fun k=>S.ah (S.len l) k.1}
  |_=>none)
def SF:bI:=aC SE acP
def SG:Env:=Env.cons 22 SF SD
abbrev SH:List PS:= [.agg [.int .i64, .int .i64, .int .i64, .slice [.int .u8]]]
def acR:Int×Int×Int×List UInt8→Prop×AV×List AB:=fun x=>match x with
 |(e1,e2,e3,e4)=>(True, .bool (decide ((S.len e4:Int)≤2500)),[])
def acS:Int×Int×Int×List UInt8→Nat→Option an:=fun _ _=>none
def SI:bI:=aC SH acR
def SJ:Env:=Env.cons 9 SI SG
abbrev SK:List PS:= [.one (.slice [.slice [.int .u8]])]
def acT:List (List UInt8)→Prop×AV×List AB:=fun x=>match x with
 |l=>(S.small l, .own 0,[.row 26 [.slice [.int .u8]] (l) false])
def acU:List (List UInt8)→Nat→Option an:=fun _ _=>none
def SL:bI:=aC SK acT
def SM:Env:=Env.cons 94 SL SJ
abbrev SN:List PS:= [.one (.slice [.int .i64, .slice [.int .u8]])]
def acV:List (Int×List UInt8)→Prop×AV×List AB:=fun x=>match x with
 |l=>(S.small l, .own 0,[.row 129 [.int .i64, .slice [.int .u8]] (l) false])
def acW:List (Int×List UInt8)→Nat→Option an:=fun _ _=>none
def SO:bI:=aC SN acV
def SP:Env:=Env.cons 96 SO SM
abbrev SQ:List PS:= [.one (.slice [.int .i64, .int .i64, .slice [.str, .slice [.int .i64]]])]
def acX:List (Int×Int×List (List UInt8×List Int))→Prop×AV×List AB:=fun x=>match x with
 |l=>(S.small l, .own 0,[.row 91 [.int .i64, .int .i64, .slice [.str, .slice [.int .i64]]] (l) false])
def acY:List (Int×Int×List (List UInt8×List Int))→Nat→Option an:=fun _ _=>none
def SR:bI:=aC SQ acX
def SS:Env:=Env.cons 97 SR SP
abbrev SU:List TA:= [.agg [.cD (.slice [.slice [.int .u8]]), .cD (.slice [.int .i64, .slice [.int .u8]]), .cD (.int .i64), .cD (.int .i64), .cD (.slice [.slice [.int .u8]]), .cD (.slice [.int .i64, .int .i64, .slice [.str, .slice [.int .i64]]]), .cD (.bool), .cD (.int .i64)]]
abbrev SV:List TB:= []
def acZ:(List (List UInt8)×List (Int×List UInt8)×Int×Int×List (List UInt8)×List (Int×Int×List (List UInt8×List Int))×Bool×Int)→Unit→fv:=fun x y=>match x,y with
 |(l1,l2,l3,l4,l5,l6,l7,l8),()=> {pre:=S.dj (l1,l2,l3,l4,l5,l6,l7,l8),res:= .ref 60000 0,heap:= [],new:= [.cells [.sl [.slice [.int .u8]] l1, .sl [.int .i64, .slice [.int .u8]] l2, .int .i64 l3, .int .i64 l4, .sl [.slice [.int .u8]] l5, .sl [.int .i64, .int .i64, .slice [.str, .slice [.int .i64]]] l6, .bool l7, .int .i64 l8]]}
def ac0:(List (List UInt8)×List (Int×List UInt8)×Int×Int×List (List UInt8)×List (Int×Int×List (List UInt8×List Int))×Bool×Int)→Unit→Nat→Option an:=fun x y=>match x,y with
 |(l1,l2,l3,l4,l5,l6,l7,l8),()=>fun id=>(match id with
  |0=>some {τ:=Nat,aZ:= [(30,fun k=> .int .i64 ((k:Nat):Int))],keys:= [(102100,fun k=> .row 26 [.slice [.int .u8]] l1 false)],dx:= [],drop:= [],cI:= [],inv:=fun k=>S.gh l1 k,ah:=fun k=>S.ah (S.len l1) k}
  |2=>some {τ:=Nat,aZ:= [(57,fun k=> .int .i64 ((k:Nat):Int))],keys:= [(104800,fun k=> .row 129 [.int .i64, .slice [.int .u8]] l2 false)],dx:= [],drop:= [],cI:= [],inv:=fun k=>S.gh l2 k,ah:=fun k=>S.ah (S.len l2) k}
  |4=>some {τ:=Nat,aZ:= [(89,fun k=> .int .i64 ((k:Nat):Int))],keys:= [(107800,fun k=> .row 26 [.slice [.int .u8]] l5 false)],dx:= [],drop:= [],cI:= [],inv:=fun k=>S.gh l5 k,ah:=fun k=>S.ah (S.len l5) k}
  |6=>some {τ:=Nat,aZ:= [(120,fun k=> .int .i64 ((k:Nat):Int))],keys:= [(110900,fun k=> .row 91 [.int .i64, .int .i64, .slice [.str, .slice [.int .i64]]] l6 false)],dx:= [],drop:= [],cI:= [],inv:=fun k=>S.gh l6 k,ah:=fun k=>S.ah (S.len l6) k}
  |8=>some {τ:=Nat×Nat,aZ:= [(130,fun k=> .int .i64 ((k.1:Nat):Int))],keys:= [(112700,fun k=> .row 136 [.str, .slice [.int .i64]] (S.ar l6 k.2).2.2 false)],dx:= [],drop:= [],cI:= [(10,fun k=> .int .i64 ((k.2:Nat):Int))],inv:=fun k=>S.sM l6 k,ah:=fun k=>S.ah (S.len (S.ar l6 k.2).2.2) k.1}
  |_=>none)
def SX:eX:=gD SU SV acZ
def SY:eX:=SX
def SZ:Env:=Env.eQ 64 [false] SY SS
abbrev S0:List TA:= [.ref 50000 0]
abbrev S1:List TB:= [.cells [.cD (.slice [.slice [.int .u8]]), .cD (.slice [.int .i64, .slice [.int .u8]]), .cD (.int .i64), .cD (.int .i64), .cD (.slice [.slice [.int .u8]]), .cD (.slice [.int .i64, .int .i64, .slice [.str, .slice [.int .i64]]]), .cD (.bool), .cD (.int .i64)]]
def ac1:Unit→((List (List UInt8)×List (Int×List UInt8)×Int×Int×List (List UInt8)×List (Int×Int×List (List UInt8×List Int))×Bool×Int)×Unit)→fv:=fun x y=>match x,y with
 |(),((d1,d2,s1,s2,s3,s4,up,fu),())=> {pre:=True,res:= .cB [],heap:= [some (.cells [.sl [.slice [.int .u8]] d1, .sl [.int .i64, .slice [.int .u8]] d2, .int .i64 s1, .int .i64 s2, .sl [.slice [.int .u8]] s3, .sl [.int .i64, .int .i64, .slice [.str, .slice [.int .i64]]] s4, .bool false, .int .i64 (-1)])],new:= []}
def ac2:Unit→((List (List UInt8)×List (Int×List UInt8)×Int×Int×List (List UInt8)×List (Int×Int×List (List UInt8×List Int))×Bool×Int)×Unit)→Nat→Option an:=fun _ _ _=>none
def S2:eX:=gD S0 S1 ac1
def S3:eX:=S2
def S4:Env:=Env.eQ 65 [true] S3 SZ
abbrev S5:List TA:= [.ref 50000 0, .cD (.slice [.bool, .int .i64, .slice [.int .u8]])]
abbrev S6:List TB:= [.cells [.cD (.slice [.slice [.int .u8]]), .cD (.slice [.int .i64, .slice [.int .u8]]), .cD (.int .i64), .cD (.int .i64), .cD (.slice [.slice [.int .u8]]), .cD (.slice [.int .i64, .int .i64, .slice [.str, .slice [.int .i64]]]), .cD (.bool), .cD (.int .i64)]]
def ac3:(List (Bool×Int×List UInt8))→((List (List UInt8)×List (Int×List UInt8)×Int×Int×List (List UInt8)×List (Int×Int×List (List UInt8×List Int))×Bool×Int)×Unit)→fv:=fun x y=>match x,y with
 |l,((d1,d2,s1,s2,s3,s4,up,fu),())=> {pre:=True,res:= .bool (S.iT (d1,d2,s1,s2,s3,s4,up,fu) l),heap:= [some (.cells [.sl [.slice [.int .u8]] ((S.eJ (d1,d2,s1,s2,s3,s4,up,fu) l).1), .sl [.int .i64, .slice [.int .u8]] ((S.eJ (d1,d2,s1,s2,s3,s4,up,fu) l).2.1), .int .i64 ((S.eJ (d1,d2,s1,s2,s3,s4,up,fu) l).2.2.1), .int .i64 ((S.eJ (d1,d2,s1,s2,s3,s4,up,fu) l).2.2.2.1), .sl [.slice [.int .u8]] ((S.eJ (d1,d2,s1,s2,s3,s4,up,fu) l).2.2.2.2.1), .sl [.int .i64, .int .i64, .slice [.str, .slice [.int .i64]]] ((S.eJ (d1,d2,s1,s2,s3,s4,up,fu) l).2.2.2.2.2.1), .bool ((S.eJ (d1,d2,s1,s2,s3,s4,up,fu) l).2.2.2.2.2.2.1), .int .i64 ((S.eJ (d1,d2,s1,s2,s3,s4,up,fu) l).2.2.2.2.2.2.2)])],new:= []}
def ac4:(List (Bool×Int×List UInt8))→((List (List UInt8)×List (Int×List UInt8)×Int×Int×List (List UInt8)×List (Int×Int×List (List UInt8×List Int))×Bool×Int)×Unit)→Nat→Option an:=fun _ _ _=>none
def S7:eX:=gD S5 S6 ac3
def S8:eX:=S7
def S9:Env:=Env.eQ 93 [true,false] S8 S4
abbrev Ta:List PS:= [.one (.int .i64)]
def ac5:Int→Prop×AV×List AB:=fun x=>match x with
 |n=>(True, .cB [.agg [.sl [.slice [.int .u8]] (((S.cx n).1).1), .sl [.int .i64, .slice [.int .u8]] (((S.cx n).1).2.1), .int .i64 (((S.cx n).1).2.2.1:Int), .int .i64 (((S.cx n).1).2.2.2.1:Int), .sl [.slice [.int .u8]] (((S.cx n).1).2.2.2.2.1), .sl [.int .i64, .int .i64, .slice [.str, .slice [.int .i64]]] (((S.cx n).1).2.2.2.2.2.1), .bool (((S.cx n).1).2.2.2.2.2.2.1), .int .i64 (((S.cx n).1).2.2.2.2.2.2.2:Int)], .int .i64 ((S.cx n).2:Int)],[])
def ac6:Int→Nat→Option an:=fun _ _=>none
def Tb:bI:=aC Ta ac5
def Tc:Env:=Env.cons 27 Tb S9
abbrev Td:List PS:= [.agg [.slice [.slice [.int .u8]], .slice [.int .i64, .slice [.int .u8]], .int .i64, .int .i64, .slice [.slice [.int .u8]], .slice [.int .i64, .int .i64, .slice [.str, .slice [.int .i64]]], .bool, .int .i64], .agg [.int .i64, .int .i64, .int .i64, .slice [.int .u8]]]
def ac7:List (List UInt8)×List (Int×List UInt8)×Int×Int×List (List UInt8)×List (Int×Int×List (List UInt8×List Int))×Bool×Int×Int×Int×Int×List UInt8→Prop×AV×List AB:=fun x=>match x with
 |(l1,l2,l3,l4,l5,l6,l7,l8,e1,e2,e3,e4)=>(S.dj (l1,l2,l3,l4,l5,l6,l7,l8), .cB [.agg [.sl [.slice [.int .u8]] (((S.dB (l1,l2,l3,l4,l5,l6,l7,l8) (e1,e2,e3,e4)).1).1), .sl [.int .i64, .slice [.int .u8]] (((S.dB (l1,l2,l3,l4,l5,l6,l7,l8) (e1,e2,e3,e4)).1).2.1), .int .i64 (((S.dB (l1,l2,l3,l4,l5,l6,l7,l8) (e1,e2,e3,e4)).1).2.2.1:Int), .int .i64 (((S.dB (l1,l2,l3,l4,l5,l6,l7,l8) (e1,e2,e3,e4)).1).2.2.2.1:Int), .sl [.slice [.int .u8]] (((S.dB (l1,l2,l3,l4,l5,l6,l7,l8) (e1,e2,e3,e4)).1).2.2.2.2.1), .sl [.int .i64, .int .i64, .slice [.str, .slice [.int .i64]]] (((S.dB (l1,l2,l3,l4,l5,l6,l7,l8) (e1,e2,e3,e4)).1).2.2.2.2.2.1), .bool (((S.dB (l1,l2,l3,l4,l5,l6,l7,l8) (e1,e2,e3,e4)).1).2.2.2.2.2.2.1), .int .i64 (((S.dB (l1,l2,l3,l4,l5,l6,l7,l8) (e1,e2,e3,e4)).1).2.2.2.2.2.2.2:Int)], .int .i64 ((S.dB (l1,l2,l3,l4,l5,l6,l7,l8) (e1,e2,e3,e4)).2:Int)],[])
def ac8:List (List UInt8)×List (Int×List UInt8)×Int×Int×List (List UInt8)×List (Int×Int×List (List UInt8×List Int))×Bool×Int×Int×Int×Int×List UInt8→Nat→Option an:=fun _ _=>none
def Te:bI:=aC Td ac7
def Tf:Env:=Env.cons 63 Te Tc
abbrev Tg:List PS:= [.agg [.slice [.slice [.int .u8]], .slice [.int .i64, .slice [.int .u8]], .int .i64, .int .i64, .slice [.slice [.int .u8]], .slice [.int .i64, .int .i64, .slice [.str, .slice [.int .i64]]], .bool, .int .i64], .one (.slice [.int .i64])]
def ac9:List (List UInt8)×List (Int×List UInt8)×Int×Int×List (List UInt8)×List (Int×Int×List (List UInt8×List Int))×Bool×Int×List Int→Prop×AV×List AB:=fun x=>match x with
 |(l1,l2,l3,l4,l5,l6,l7,l8,f)=>(S.dj (l1,l2,l3,l4,l5,l6,l7,l8), .agg [.sl [.slice [.int .u8]] ((S.ax (l1,l2,l3,l4,l5,l6,l7,l8) f).1), .sl [.int .i64, .slice [.int .u8]] ((S.ax (l1,l2,l3,l4,l5,l6,l7,l8) f).2.1), .int .i64 ((S.ax (l1,l2,l3,l4,l5,l6,l7,l8) f).2.2.1:Int), .int .i64 ((S.ax (l1,l2,l3,l4,l5,l6,l7,l8) f).2.2.2.1:Int), .sl [.slice [.int .u8]] ((S.ax (l1,l2,l3,l4,l5,l6,l7,l8) f).2.2.2.2.1), .sl [.int .i64, .int .i64, .slice [.str, .slice [.int .i64]]] ((S.ax (l1,l2,l3,l4,l5,l6,l7,l8) f).2.2.2.2.2.1), .bool ((S.ax (l1,l2,l3,l4,l5,l6,l7,l8) f).2.2.2.2.2.2.1), .int .i64 ((S.ax (l1,l2,l3,l4,l5,l6,l7,l8) f).2.2.2.2.2.2.2:Int)],[])
def ada:List (List UInt8)×List (Int×List UInt8)×Int×Int×List (List UInt8)×List (Int×Int×List (List UInt8×List Int))×Bool×Int×List Int→Nat→Option an:=fun _ _=>none
def Th:bI:=aC Tg ac9
def Ti:Env:=Env.cons 31 Th Tf
abbrev Tj:List PS:= [.agg [.slice [.slice [.int .u8]], .slice [.int .i64, .slice [.int .u8]], .int .i64, .int .i64, .slice [.slice [.int .u8]], .slice [.int .i64, .int .i64, .slice [.str, .slice [.int .i64]]], .bool, .int .i64]]
def adb:List (List UInt8)×List (Int×List UInt8)×Int×Int×List (List UInt8)×List (Int×Int×List (List UInt8×List Int))×Bool×Int→Prop×AV×List AB:=fun x=>match x with
 |(l1,l2,l3,l4,l5,l6,l7,l8)=>(True, .cB [.agg [.sl [.slice [.int .u8]] (((S.al (l1,l2,l3,l4,l5,l6,l7,l8)).1).1), .sl [.int .i64, .slice [.int .u8]] (((S.al (l1,l2,l3,l4,l5,l6,l7,l8)).1).2.1), .int .i64 (((S.al (l1,l2,l3,l4,l5,l6,l7,l8)).1).2.2.1:Int), .int .i64 (((S.al (l1,l2,l3,l4,l5,l6,l7,l8)).1).2.2.2.1:Int), .sl [.slice [.int .u8]] (((S.al (l1,l2,l3,l4,l5,l6,l7,l8)).1).2.2.2.2.1), .sl [.int .i64, .int .i64, .slice [.str, .slice [.int .i64]]] (((S.al (l1,l2,l3,l4,l5,l6,l7,l8)).1).2.2.2.2.2.1), .bool (((S.al (l1,l2,l3,l4,l5,l6,l7,l8)).1).2.2.2.2.2.2.1), .int .i64 (((S.al (l1,l2,l3,l4,l5,l6,l7,l8)).1).2.2.2.2.2.2.2:Int)], .int .i64 ((S.al (l1,l2,l3,l4,l5,l6,l7,l8)).2:Int)],[])
def ade:List (List UInt8)×List (Int×List UInt8)×Int×Int×List (List UInt8)×List (Int×Int×List (List UInt8×List Int))×Bool×Int→Nat→Option an:=fun _ _=>none
def Tk:bI:=aC Tj adb
def Tl:Env:=Env.cons 30 Tk Ti
abbrev Tm:List PS:= []
def adf:Unit→Prop×AV×List AB:=fun x=>match x with
 |()=>(True, .bool true,[])
def adg:Unit→Nat→Option an:=fun _ _=>none
def Tn:bI:=aC Tm adf
def To:Env:=Env.cons 26 Tn Tl
abbrev Tp:List PS:= [.agg [.int .i64, .int .i64, .int .i64, .int .i64, .int .i64, .slice [.int .u8], .slice [.int .i64]]]
def adh:Int×Int×Int×Int×Int×List UInt8×List Int→Prop×AV×List AB:=fun x=>match x with
 |(a1,a2,a3,a4,a5,a6,a7)=>(True, .bool (S.v7 (a1,a2,a3,a4,a5,a6,a7)),[])
def adi:Int×Int×Int×Int×Int×List UInt8×List Int→Nat→Option an:=fun _ _=>none
def Tq:bI:=aC Tp adh
def Tr:Env:=Env.cons 28 Tq To
abbrev Ts:List PS:= [.agg [.slice [.slice [.int .u8]], .slice [.int .i64, .slice [.int .u8]], .int .i64, .int .i64, .slice [.slice [.int .u8]], .slice [.int .i64, .int .i64, .slice [.str, .slice [.int .i64]]], .bool, .int .i64], .agg [.int .i64, .int .i64, .int .i64, .int .i64, .int .i64, .slice [.int .u8], .slice [.int .i64]]]
def adj:List (List UInt8)×List (Int×List UInt8)×Int×Int×List (List UInt8)×List (Int×Int×List (List UInt8×List Int))×Bool×Int×Int×Int×Int×Int×Int×List UInt8×List Int→Prop×AV×List AB:=fun x=>match x with
 |(y1,y2,y3,y4,y5,y6,y7,y8,a1,a2,a3,a4,a5,a6,a7)=>(S.dj (y1,y2,y3,y4,y5,y6,y7,y8), .cB [.agg [.sl [.slice [.int .u8]] (((S.bc (y1,y2,y3,y4,y5,y6,y7,y8) (a1,a2,a3,a4,a5,a6,a7)).1).1), .sl [.int .i64, .slice [.int .u8]] (((S.bc (y1,y2,y3,y4,y5,y6,y7,y8) (a1,a2,a3,a4,a5,a6,a7)).1).2.1), .int .i64 (((S.bc (y1,y2,y3,y4,y5,y6,y7,y8) (a1,a2,a3,a4,a5,a6,a7)).1).2.2.1:Int), .int .i64 (((S.bc (y1,y2,y3,y4,y5,y6,y7,y8) (a1,a2,a3,a4,a5,a6,a7)).1).2.2.2.1:Int), .sl [.slice [.int .u8]] (((S.bc (y1,y2,y3,y4,y5,y6,y7,y8) (a1,a2,a3,a4,a5,a6,a7)).1).2.2.2.2.1), .sl [.int .i64, .int .i64, .slice [.str, .slice [.int .i64]]] (((S.bc (y1,y2,y3,y4,y5,y6,y7,y8) (a1,a2,a3,a4,a5,a6,a7)).1).2.2.2.2.2.1), .bool (((S.bc (y1,y2,y3,y4,y5,y6,y7,y8) (a1,a2,a3,a4,a5,a6,a7)).1).2.2.2.2.2.2.1), .int .i64 (((S.bc (y1,y2,y3,y4,y5,y6,y7,y8) (a1,a2,a3,a4,a5,a6,a7)).1).2.2.2.2.2.2.2:Int)], .int .i64 ((S.bc (y1,y2,y3,y4,y5,y6,y7,y8) (a1,a2,a3,a4,a5,a6,a7)).2:Int)],[])
def adk:List (List UInt8)×List (Int×List UInt8)×Int×Int×List (List UInt8)×List (Int×Int×List (List UInt8×List Int))×Bool×Int×Int×Int×Int×Int×Int×List UInt8×List Int→Nat→Option an:=fun _ _=>none
def Tt:bI:=aC Ts adj
def adl:Env:=Env.cons 29 Tt Tr
abbrev Kh:List PS:= [.one (.int .i64), .one (.slice [.int .i64, .int .i64, .int .i64, .int .i64, .int .i64, .slice [.int .u8], .slice [.int .i64]]), .one (.slice [.int .i64])]
def adm:Int×List (Int×Int×Int×Int×Int×List UInt8×List Int)×List Int→Prop×AV×List AB:=fun x=>match x with
 |(n,l,f)=>(True, .bool true,[])
def adn:Int×List (Int×Int×Int×Int×Int×List UInt8×List Int)×List Int→Nat→Option an:=fun x=>match x with
 |(n,l,f)=>fun id=>(match id with
  |0=>some {τ:=Nat×(List (List UInt8)×List (Int×List UInt8)×Int×Int×List (List UInt8)×List (Int×Int×List (List UInt8×List Int))×Bool×Int)×List (List UInt8),aZ:= [(10,fun k=> .int .i64 ((k.1:Nat):Int)),(9,fun k=> .own 300)],keys:= [(300,fun k=> .row 26 [.slice [.int .u8]] k.2.2 false),(7,fun k=> .cells [.sl [.slice [.int .u8]] (k.2.1.1), .sl [.int .i64, .slice [.int .u8]] (k.2.1.2.1), .int .i64 (k.2.1.2.2.1), .int .i64 (k.2.1.2.2.2.1), .sl [.slice [.int .u8]] (k.2.1.2.2.2.2.1), .sl [.int .i64, .int .i64, .slice [.str, .slice [.int .i64]]] (k.2.1.2.2.2.2.2.1), .bool (k.2.1.2.2.2.2.2.2.1), .int .i64 (k.2.1.2.2.2.2.2.2.2)])],dx:= [(Vg.Loc.slot 9,300)],drop:= [],cI:= [],inv:=fun k=>S.gr k,ah:=fun k=>S.ah (S.len l) k.1}
  |_=>none)
def ado:bI:=aC Kh adm
end Go.J

end
section
namespace Go.Vg
open Go Go.Shelf Go.RowKit Go.Proofs
def encS(s:List UInt8):Value:= .string ⟨s.toArray⟩
section
variable {w w':World} {A:Nat→Prop} {G:Nat→Option GD}
theorem zz:∀(l:List (List UInt8)) (cs:List Value),bX (bh w A [.str]) cs l→cs=l.map encS∧∀s∈l,s.length≤maxLen
 | [],cs,h=>by simp only [bX] at h;simp [h]
 |s::l,cs,⟨c1,c2,hc,h1,h2⟩=>by
  subst hc
  simp only [bh] at h1
  obtain⟨v,bG,rfl,hv,rfl⟩:=h1
  simp only [Rd] at hv
  obtain⟨g1,g2⟩:=zz l c2 h2
  obtain⟨rfl,hl⟩:=hv
  refine⟨by rw [g1];rfl,fun s' gQ=> ?_⟩
  rcases List.mem_cons.1 gQ with rfl|gQ
  · exact hl
  · exact g2 s' gQ
theorem AF:∀(l:List (List UInt8)),(∀s∈l,s.length≤maxLen)→bX (bh w A [.str]) (l.map encS) l
 | [],_=>rfl
 |s::l,h=>⟨[encS s],l.map encS,rfl,by
   simp only [bh]
   exact⟨_,[],rfl,by simp only [Rd];exact⟨rfl,h s (by simp)⟩,rfl⟩,AF l fun s' gQ=>h s' (by simp [gQ])⟩
theorem MH:∀(l:List Int) (cs:List Value),bX (bh w A [.int .i64]) cs l→cs=l.map (Value.int .i64)∧∀z∈l,lo .i64≤z∧z≤hi .i64
 | [],cs,h=>by simp only [bX] at h;simp [h]
 |s::l,cs,⟨c1,c2,hc,h1,h2⟩=>by
  subst hc
  simp only [bh] at h1
  obtain⟨v,bG,rfl,hv,rfl⟩:=h1
  simp only [Rd] at hv
  obtain⟨g1,g2⟩:=MH l c2 h2
  obtain⟨rfl,hl⟩:=hv
  refine⟨by rw [g1];rfl,fun s' gQ=> ?_⟩
  rcases List.mem_cons.1 gQ with rfl|gQ
  · exact hl
  · exact g2 s' gQ
theorem AG:∀(l:List Int),(∀z∈l,lo .i64≤z∧z≤hi .i64)→bX (bh w A [.int .i64]) (l.map (Value.int .i64)) l
 | [],_=>rfl
 |s::l,h=>⟨[.int .i64 s],l.map (Value.int .i64),rfl,by
   simp only [bh]
   exact⟨_,[],rfl,by simp only [Rd];exact⟨rfl,h s (by simp)⟩,rfl⟩,AG l fun s' gQ=>h s' (by simp [gQ])⟩
theorem HO {e:Nat} {row:List Ty} {l:List (Row row)} {v:Value} {xs:List Value}(hA:∀b,A b→b<w.heap.size)(hb:Below w.heap.size w w')(ho:w'.ownsRow w.heap.size e row.length v l.length xs)(hr:bX (bh w' A row) xs l):
  ∃A' aI,jM w A w' v (.own 0) [.row e row l false] A' aI:=by
 have hblk:∀b,aw v=some b→w.heap.size≤b:=by
  intro b bw
  rcases ho.2 with⟨rfl,_⟩|⟨g,cap,cur,rfl,hg,_⟩
  · cases bw
  · simp only [aw,Option.some.injEq] at bw;omega
 have h1:v.oneCell'=true :=by
  rcases ho.2 with⟨rfl,_⟩|⟨g,cap,cur,rfl,hg,_⟩<;>rfl
 have ho0:w'.ownsRow 0 e row.length v l.length xs:=by
  refine⟨ho.1,?_⟩
  rcases ho.2 with h|⟨g,cap,cur,g1,g2,g3⟩
  · exact .inl h
  · exact .inr ⟨g,cap,cur,g1,Nat.zero_le _,g3⟩
 refine⟨A,fun _=>v,{os:=hb.os,tape:=hb.tape,output:=hb.output,size:=hb.size,same:=hb.block,mono:=fun _ h=>h,kg:=fun _ _ h=>h,bound:=fun b h=>Nat.lt_of_lt_of_le (hA b h) hb.size,res:= ?_,rows:= ?_,apart:= ?_}⟩
 · simp only [aa];exact⟨trivial,h1⟩
 · intro i ab hi
   match i,hi with
   |0,hi=>
    simp only [List.getElem?_cons_zero,Option.some.injEq] at hi
    subst hi
    refine⟨⟨xs,ho0,hr,fun b bw=> ?_⟩,hblk⟩
    simp only [Bool.false_eq_true,if_false]
    intro wh
    have :=hA b wh
    have :=hblk b bw
    omega
   |i+1,hi=>simp at hi
 · intro i j b hi hj _ _
   simp at hi hj;omega
end
theorem Ki {α γ:Type}(f:α→γ)(l:List α)(j:Nat)(d:γ)(hj:j<l.length):(l.map f).getD j d=f l[j]:=by
 rw [List.getD_eq_getElem?_getD,List.getElem?_map,List.getElem?_eq_getElem hj];rfl
theorem wY {P:Program} {f:FuncId} {args:Array Value} {w:World} {A:Nat→Prop} {e:Nat} {row:List Ty}(hA:∀b,A b→b<w.heap.size)
  (h:Calls P f args w fun e w'=>e= .returned (.slice none 0 0)∧w'=w):Calls P f args w fun ex w'=>∃v,ex= .returned v∧∃A' aI,jM w A w' v (.own 0) [.row e row [] false] A' aI:=
 h.mono fun ex w' ⟨he,hw⟩=>by
  subst hw
  exact⟨_,he,HO (xs:= []) hA (Below.refl _ _) ⟨by simp, .inl ⟨rfl,rfl⟩⟩ rfl⟩
theorem nk {P:Program} {f:FuncId} {args:Array Value} {w:World} {A:Nat→Prop} {e:Nat} {row:List Ty} {l:List (Row row)} {xs:List Value}(hA:∀b,A b→b<w.heap.size)
  (hr:∀w',bX (bh w' A row) xs l)
  (h:Calls P f args w fun ex w'=>∃v',ex= .returned v'∧w'.ownsRow w.heap.size e row.length v' l.length xs∧v'≠ .slice none 0 0∧Below w.heap.size w w'):
  Calls P f args w fun ex w'=>∃v,ex= .returned v∧∃A' aI,jM w A w' v (.own 0) [.row e row l false] A' aI:=
 h.mono fun ex w' ⟨v',he,ho,_,hb⟩=>⟨v',he,HO hA hb ho (hr w')⟩
theorem HP {w:World} {A:Nat→Prop} {β:Nat→Value} {row:List Ty} {args:List Value} {l:List (Row row)}(h:ae w A β args [.sl row l]):∃a cap cs,args= [.slice a l.length cap]∧l.length≤cap∧cap≤maxLen∧bX (bh w A row) cs l∧
  (cs≠ []→∃b o,a=some ⟨b,o,none⟩∧A b∧w.rangeAt b o cs):=by
 simp only [ae] at h
 obtain⟨v,bG,rfl,hv,rfl⟩:=h
 simp only [aa,Rd] at hv
 obtain⟨a,cap,cs,rfl,h1,h2,h3,h4⟩:=hv
 exact⟨a,cap,cs,rfl,h1,h2,h3,h4⟩
theorem AH {P:Program} {ρ:Ren} {G:Nat→Option GD}(L:SlLaysN.n42 P ρ) {F:Row (PS.flat [.one (.slice [.str])])→Prop×AV×List AB}
  (hF:∀l:List (List UInt8),F l=(l.length≤1099511627776, .own 0,[.row (ρ.t 26) [.str] l false])):Valid P G (ρ.f 42) (aC [.one (.slice [.str])] F):=by
 intro w A β args cC pre res bs hA hG bx hs hp
 unfold aC at hs
 split at hs
 · rename_i x hx
   change List (List UInt8) at x
   have gQ:=hs
   rw [hF x] at gQ
   simp only [Option.some.injEq,Prod.mk.injEq] at gQ
   obtain⟨rfl,rfl,rfl⟩:=gQ
   obtain⟨g1,g2⟩:=ph _ hx bx
   obtain⟨a,cap,cs,rfl,h1,h2,h3,h4⟩:=HP (row:= [.str]) (l:=x) g1
   obtain⟨rfl,hl⟩:=zz x cs h3
   cases x with
   |nil=>cases a with
    |none=>exact wY hA (AnyG.slices_Clone_string_nil L 0 cap w)
    |some ad=>exact nk (xs:= []) hA (fun _=>rfl) (AnyG.slices_Clone_string_zero L ad cap w)
   |cons s x=>
    obtain⟨b,o,rfl,wh,hr⟩:=h4 (by simp)
    refine nk (xs:=(s::x).map encS) hA (fun _=>AF _ hl) ?_
    have :=AnyG.slices_Clone_string L b o (s::x).length cap ((s::x).map fun s=>⟨s.toArray⟩) w (by simp) (by omega) (fun j hj=>by
     refine hr j _ ?_
     simp only [List.length_map] at hj
     rw [Ki _ _ _ _ hj,List.getElem?_map,List.getElem?_eq_getElem hj]
     rfl)
    have e1:(((s::x).map fun s=>(⟨s.toArray⟩:ByteArray)).take (s::x).length).map Value.string=(s::x).map encS:=by
     rw [List.take_of_length_le (by simp),List.map_map];rfl
    rw [e1] at this
    exact this
 · cases hs
theorem AI {P:Program} {ρ:Ren} {G:Nat→Option GD}(L:SlLaysN.n41 P ρ) {F:Row (PS.flat [.one (.slice [.int .i64])])→Prop×AV×List AB}
  (hF:∀l:List Int,F l=(l.length≤1099511627776, .own 0,[.row (ρ.t 23) [.int .i64] l false])):Valid P G (ρ.f 41) (aC [.one (.slice [.int .i64])] F):=by
 intro w A β args cC pre res bs hA hG bx hs hp
 unfold aC at hs
 split at hs
 · rename_i x hx
   change List Int at x
   have gQ:=hs
   rw [hF x] at gQ
   simp only [Option.some.injEq,Prod.mk.injEq] at gQ
   obtain⟨rfl,rfl,rfl⟩:=gQ
   obtain⟨g1,g2⟩:=ph _ hx bx
   obtain⟨a,cap,cs,rfl,h1,h2,h3,h4⟩:=HP (row:= [.int .i64]) (l:=x) g1
   obtain⟨rfl,hl⟩:=MH x cs h3
   cases x with
   |nil=>cases a with
    |none=>exact wY hA (AnyG.slices_Clone_int_nil L 0 cap w)
    |some ad=>exact nk (xs:= []) hA (fun _=>rfl) (AnyG.slices_Clone_int_zero L ad cap w)
   |cons s x=>
    obtain⟨b,o,rfl,wh,hr⟩:=h4 (by simp)
    refine nk (xs:=(s::x).map (Value.int .i64)) hA (fun _=>AG _ hl) ?_
    have :=AnyG.slices_Clone_int L b o (s::x).length cap (s::x) w (by simp) (by omega) (fun j hj=>by
     refine hr j _ ?_
     rw [List.getElem?_map,List.getElem?_eq_getElem hj]
     simp [List.getD,List.getElem?_eq_getElem hj])
    rw [List.take_of_length_le (by simp)] at this
    exact this
 · cases hs
end Go.Vg

end
section
namespace Go.Vg
open Go Go.Shelf Go.RowKit Go.Proofs Go.Sort Go.Lib
theorem vj(a b:List UInt8):ltOf S.fY a b=Op.bytesLess a b:=by
 unfold ltOf S.fY
 by_cases h:Op.bytesLess a b
 · simp [h]
 · simp only [h]
   by_cases h2:Op.bytesLess b a<;>simp [h2]
theorem U5:SWO (ltOf S.fY) where
 irrefl x:=by rw [vj];exact S.bR x
 trans x y z h1 h2:=by rw [vj] at *;exact S.jW _ _ _ h1 h2
 ntrans x y z h1 h2:=by
  rw [vj] at *
  cases h:Op.bytesLess x z with
  |false=>rfl
  |true=>
   rcases S.gG x y with t|t|t
   · rw [t] at h1;cases h1
   · subst t;rw [h] at h2;cases h2
   · rw [S.jW _ _ _ t h] at h2;cases h2
theorem MI(x y:List UInt8)(h1:ltOf S.fY x y=false)(h2:ltOf S.fY y x=false):x=y:=by
 rw [vj] at *
 rcases S.gG x y with t|t|t
 · rw [t] at h1;cases h1
 · exact t
 · rw [t] at h2;cases h2
theorem Kj {α:Type} [Inhabited α](enc:α→Value)(w:World)(El off:Nat)(d:Array α) {c:Array Value} {e:TypeId} {fr:Nat×Nat}(h:w.heap[El]? =some (.cells c e fr)):
  (putRow enc w El off d).heap[El]? =some (.cells (putCells enc off d c) e fr):=by
 unfold putRow mapBlock
 simp [Array.getElem?_modify,h,onCells]
theorem Ce {α:Type} [Inhabited α](enc:α→Value)(w:World)(El off k:Nat)(d:Array α)(h:k≠El):(putRow enc w El off d).heap[k]? =w.heap[k]? :=by
 unfold putRow mapBlock
 simp [Array.getElem?_modify,Ne.symm h]
theorem size_putRow {α:Type} [Inhabited α](enc:α→Value)(w:World)(El off:Nat)(d:Array α):(putRow enc w El off d).heap.size=w.heap.size:=by
 unfold putRow mapBlock
 simp
theorem Fj(l:List (List UInt8))(c:Array Value)(h:l.length≤c.size):(putCells encS 0 l.toArray c).toList.take l.length=l.map encS:=by
 apply List.ext_getElem?
 intro k
 rw [List.getElem?_take]
 by_cases hk:k<l.length
 · rw [if_pos hk,List.getElem?_map,List.getElem?_eq_getElem hk,Array.getElem?_toList]
   simp only [putCells,Array.getElem?_mapIdx,Array.getElem?_eq_getElem (show k<c.size by omega),Option.map_some]
   rw [if_pos ⟨Nat.zero_le _,by simpa using hk⟩]
   simp [hk]
 · rw [if_neg hk,List.getElem?_eq_none (by simp;omega)]
theorem Fk {α:Type} [Inhabited α](enc:α→Value)(d:Array α)(c:Array Value):(putCells enc 0 d c).size=c.size:=by simp [putCells]
theorem Cf {P:Program} {ρ:Ren} {G:Nat→Option GD}(L:SlLaysF.n6 P ρ) {g e:Nat}(eg:∀args w,(callFunc g args).run P w= .ok (.enter g args) w)
  (aoj:∀(x y:List UInt8) (w:World),Calls P g #[encS x,encS y] w fun e w'=>e= .returned (.int .i64 (S.fY x y))∧w'=w)
  {F:Row (TA.fc [.own 50000, .fn (.func g) [] []])→gg [.row e [.str]]→fv}
  (hF:∀l:List (List UInt8),F () (l,())= {pre:=l.length≤1099511627776,res:= .cB [],heap:= [some (.row e [.str] (S.fZ l) false)],new:= []}):
  bZ P G (ρ.f 6) (gD [.own 50000, .fn (.func g) [] []] [.row e [.str]] F):=by
 intro w A β args cC hs r hA hG bx fO B6 nR hp hlen D5
 unfold gD at nR
 split at nR
 · rename_i cs c8
   split at nR
   · rename_i x y hx hy
     obtain⟨l,u⟩:=y
     simp only [Option.some.injEq] at nR
     have hxu:x=():=rfl
     subst hxu
     rw [hF l] at nR
     subst nR
     obtain⟨g1,g2⟩:=z8 c8 hx bx
     obtain⟨q1,q2,q3⟩:=D7 (w:=w) (A:=A) (β:=β) [.row e [.str]] hs (l,u) 50000 hy fO
     have hb:=q2 0 (.row e [.str] l false) rfl
     have ak0:hs.length=1:=by rw [←q1];rfl
     simp only [TA.rq,TA.put,ae] at g1
     obtain⟨v0,bG,rfl,İ,v1,afW,rfl,Kt,rfl⟩:=g1
     simp only [aa] at İ Kt
     obtain⟨İ,gR⟩:=İ
     obtain⟨a1,a2,rfl,ha1,ha2⟩:=Kt
     simp only [TA.rq,ae,List.drop_nil,List.take_nil] at ha1 ha2
     have ea1:a1= #[]:=by apply Array.ext';simpa using ha1
     have ea2:a2= #[]:=by apply Array.ext';simpa using ha2
     subst ea1;subst ea2
     obtain⟨xs,ho,qF,jg⟩:=hb
     obtain⟨rfl,hl⟩:=zz l xs qF
     have ny:∀s∈S.fZ l,s.length≤maxLen:=fun s gQ=>hl s ((List.mergeSort_perm l _).subset gQ)
     have ı:(S.fZ l).length=l.length:=(List.mergeSort_perm l _).length_eq
     simp only [Bool.false_eq_true,if_false] at jg
     rcases ho.2 with⟨TJ,hn2⟩|⟨g0,cap,cur,hv,_,hg0,GY,Po,cR,BS⟩
     ·
      have M3:l= []:=List.length_eq_zero_iff.1 hn2
      subst M3
      rw [İ,TJ]
      have TN:S.fZ []= []:=List.length_eq_zero_iff.1 ı
      rw [TN]
      refine(AnyF.slices_SortFunc_none {L with} none 0 (.func (.func g) #[] #[]) w).mono fun ex w' ⟨he,hw⟩=> ?_
      subst hw
      refine⟨_,he,A,β,{os:=rfl,tape:=rfl,output:=rfl,size:=Nat.le_refl _,same:=fun _ _ _=>rfl,mono:=fun b h=>⟨h,rfl⟩,kg:=fun _ _ h=> .inl h,bound:=hA,res:=by simp only [aa];exact⟨#[],rfl,by simp [ae]⟩,kept:= ?_,rows:= ?_,apart:= ?_}⟩
      · intro i ab hi
        match i,hi with
        |0,hi=>
         simp only [List.getElem?_cons_zero,Option.some.injEq] at hi
         subst hi
         exact⟨⟨_,ho,qF,by simpa using jg⟩,rfl⟩
        |i+1,hi=>simp at hi
      · intro j ab hj;simp at hj
      · intro k k' b hk dq _ _
        rcases hk with⟨i,ab,rfl,_,hi⟩|⟨j,_,hj⟩
        · rcases dq with⟨i',CN,rfl,_,gU⟩|⟨j,_,hj⟩
          · match i,i',hi,gU with
            |0,0,_,_=>rfl
            |i+1,_,hi,_=>simp at hi
            |0,i+1,_,gU=>simp at gU
          · simp at hj
        · simp at hj
     · have Ĳ:g0<w.heap.size:=(Array.getElem?_eq_some_iff.1 hg0).1
       simp only [List.length_cons,List.length_nil,Nat.zero_add,Nat.mul_one] at cR BS
       have aom:∀j,j<l.length→cur[j]? =some (encS (l.toArray)[j]!):=fun j hj=>by
        have h1:(cur.toList.take l.length)[j]? =some (encS l[j]):=by rw [BS,List.getElem?_map,List.getElem?_eq_getElem hj];rfl
        rw [List.getElem?_take,if_pos hj,Array.getElem?_toList] at h1
        rw [h1];simp [hj]
       have hH:Holds encS w g0 0 l.toArray:=fun j hj=>by
        have eC:j<l.length:=by simpa using hj
        refine⟨?_,?_⟩
        · simp only [World.cell?,hg0]
          simpa using aom j eC
        · simp only [World.frozen?,hg0]
          simp
       rw [İ,hv]
       have hc:=Any.slices_SortFunc_total L encS (fun _=>rfl) S.fY U5 g #[] g0 0 cap l.toArray w eg (fun m os dk _ x y=>(aoj x y _).mono fun ex w' ⟨he,hw⟩=>⟨he,0, #[],by rw [hw];rfl⟩) hH Ĳ (by simp only [List.size_toArray];omega) MI
       have e1:(l.toArray.toList.mergeSort fun x y=> !(ltOf S.fY) y x)=S.fZ l:=by
        unfold S.fZ
        simp only [List.toList_toArray,vj]
       rw [e1] at hc
       refine hc.mono fun ex w' ⟨he,n,os,hw⟩=> ?_
       have hw0:(putRow encS (Go.Sort.ahead w n) g0 0 (S.fZ l).toArray).heap[g0]? =some (.cells (putCells encS 0 (S.fZ l).toArray cur) e (0,0)):=Kj encS (Go.Sort.ahead w n) g0 0 _ hg0
       have hg1:w'.heap[g0]? =some (.cells (putCells encS 0 (S.fZ l).toArray cur) e (0,0)):=by
        rw [hw];unfold sortWorld grow
        simp only
        rw [Array.getElem?_append_left (by rw [size_putRow];exact Ĳ)]
        exact hw0
       have xa:∀b,b<w.heap.size→b≠g0→w'.heap[b]? =w.heap[b]? :=fun b hb dJ=>by
        rw [hw];unfold sortWorld grow
        simp only
        rw [Array.getElem?_append_left (by rw [size_putRow];exact hb),Ce encS (Go.Sort.ahead w n) g0 0 b _ dJ]
        rfl
       have nN:w.heap.size≤w'.heap.size:=by
        rw [hw];unfold sortWorld grow
        simp only [Array.size_append,size_putRow]
        exact Nat.le_add_right _ _
       have ř:HM β 1 g0:=⟨0,by omega,by rw [show β (50000+0)=β 50000 from rfl,hv];rfl⟩
       have aon:¬A g0:=jg g0 (by rw [hv];rfl)
       refine⟨_,he,A,β,{os:=by rw [hw];rfl,tape:=by rw [hw];rfl,output:=by rw [hw];rfl,size:=nN,same:= ?_,mono:= ?_,kg:=fun _ _ h=> .inl h,bound:=fun b h=>Nat.lt_of_lt_of_le (hA b h) nN,res:=by simp only [aa];exact⟨#[],rfl,by simp [ae]⟩,kept:= ?_,rows:= ?_,apart:= ?_}⟩
       · intro b hb dJ
         rw [ak0] at dJ
         exact xa b hb (fun h=>dJ (h▸ř))
       · intro b wh
         exact⟨wh,xa b (hA b wh) (fun h=>aon (h▸wh))⟩
       · intro i ab hi
         match i,hi with
         |0,hi=>
          simp only [List.getElem?_cons_zero,Option.some.injEq] at hi
          subst hi
          refine⟨⟨(S.fZ l).map encS,⟨by simp, .inr ⟨g0,cap,_,?_,Nat.zero_le _,hg1,by omega,Po,by rw [Fk];simpa using cR,?_⟩⟩,AF _ ny,by simpa using jg⟩,rfl⟩
          · rw [ı];exact hv
          · have :=Fj (S.fZ l) cur (by omega)
            simpa using this
         |i+1,hi=>simp at hi
       · intro j ab hj;simp at hj
       · intro k k' b hk dq _ _
         rcases hk with⟨i,ab,rfl,_,hi⟩|⟨j,_,hj⟩
         · rcases dq with⟨i',CN,rfl,_,gU⟩|⟨j,_,hj⟩
           · match i,i',hi,gU with
             |0,0,_,_=>rfl
             |i+1,_,hi,_=>simp at hi
             |0,i+1,_,gU=>simp at gU
           · simp at hj
         · simp at hj
   · cases nR
 · cases nR
end Go.Vg

end
section
namespace Go.Proofs
open Go.Shelf
def Tryz.BM:Go.Shelf.Ren:=⟨fun|7=>128|10=>140|n=>n,fun|23=>196|26=>9|3=>50|28=>201|0=>0|27=>200|33=>210|4=>4|n=>n,fun|n=>n⟩
theorem Tryz.Tu:Go.Proofs.SlLaysZ.n7 Tryz.prog Tryz.BM:= {
 mixed:=by kernel_rfl
 f7:=⟨Tryz.f128.name,by decide,Tryz.func128.trans (congrArg some (by kernel_rfl))⟩
 f10:=⟨Tryz.f140.name,by decide,Tryz.func140.trans (congrArg some (by kernel_rfl))⟩
 t0:=Tryz.underlying0
 a0:=Tryz.isAgg0
 z0:=Tryz.sizeOf0
 v0:=Tryz.zeroValue0
 t4:=Tryz.underlying4
 a4:=Tryz.isAgg4
 z4:=Tryz.sizeOf4
 v4:=Tryz.zeroValue4
 t23:=Tryz.underlying196
 a23:=Tryz.isAgg196
 z23:=Tryz.sizeOf196
 v23:=Tryz.zeroValue196
 t26:=Tryz.underlying9
 a26:=Tryz.isAgg9
 z26:=Tryz.sizeOf9
 v26:=Tryz.zeroValue9
 t27:=Tryz.underlying200
 a27:=Tryz.isAgg200
 z27:=Tryz.sizeOf200
 v27:=Tryz.zeroValue200
 t28:=Tryz.underlying201
 a28:=Tryz.isAgg201
 z28:=Tryz.sizeOf201
 v28:=Tryz.zeroValue201
 t33:=Tryz.underlying210
 a33:=Tryz.isAgg210
 z33:=Tryz.sizeOf210
 v33:=Tryz.zeroValue210}
def Tryz.wZ:Go.Shelf.Ren:=⟨fun|6=>127|8=>138|9=>139|11=>158|13=>160|12=>159|23=>177|24=>178|14=>168|15=>169|16=>170|17=>171|18=>172|19=>173|20=>174|21=>175|22=>176|25=>193|26=>194|27=>195|28=>196|29=>197|30=>157|31=>207|n=>n,fun|26=>9|28=>201|24=>197|0=>0|3=>3|37=>158|48=>188|50=>161|4=>4|40=>236|39=>235|45=>171|5=>5|9=>9|51=>252|55=>256|57=>262|58=>228|33=>210|n=>n,fun|n=>n⟩
theorem Tryz.U6:Go.Proofs.SlLaysZ.n6 Tryz.prog Tryz.wZ:= {
 mixed:=by kernel_rfl
 f6:=⟨Tryz.f127.name,by decide,Tryz.func127.trans (congrArg some (by kernel_rfl))⟩
 f8:=⟨Tryz.f138.name,by decide,Tryz.func138.trans (congrArg some (by kernel_rfl))⟩
 f11:=⟨Tryz.f158.name,by decide,Tryz.func158.trans (congrArg some (by kernel_rfl))⟩
 t0:=Tryz.underlying0
 a0:=Tryz.isAgg0
 z0:=Tryz.sizeOf0
 v0:=Tryz.zeroValue0
 t24:=Tryz.underlying197
 a24:=Tryz.isAgg197
 z24:=Tryz.sizeOf197
 v24:=Tryz.zeroValue197
 t26:=Tryz.underlying9
 a26:=Tryz.isAgg9
 z26:=Tryz.sizeOf9
 v26:=Tryz.zeroValue9
 t28:=Tryz.underlying201
 a28:=Tryz.isAgg201
 z28:=Tryz.sizeOf201
 v28:=Tryz.zeroValue201
 i26:=by kernel_rfl}
def Tryz.MJ:Go.Shelf.Ren:=⟨fun|6=>139|8=>160|9=>159|19=>177|20=>178|21=>168|22=>169|23=>170|24=>171|25=>172|26=>173|27=>174|28=>175|29=>176|36=>193|31=>194|32=>195|37=>196|38=>197|39=>157|41=>207|n=>n,fun|27=>197|29=>9|3=>3|32=>158|26=>197|0=>0|44=>188|46=>161|4=>4|36=>236|35=>235|41=>171|5=>5|9=>9|53=>252|57=>256|63=>262|64=>228|n=>n,fun|n=>n⟩
theorem Tryz.Tv:Go.Proofs.SlLaysM.n6 Tryz.prog Tryz.MJ:= {
 mixed:=by kernel_rfl
 f6:=⟨Tryz.f139.name,by decide,Tryz.func139.trans (congrArg some (by kernel_rfl))⟩
 f8:=Tryz.func160.trans (congrArg some (by kernel_rfl))
 f9:=⟨Tryz.f159.name,by decide,Tryz.func159.trans (congrArg some (by kernel_rfl))⟩
 f19:=Tryz.func177.trans (congrArg some (by kernel_rfl))
 f20:=Tryz.func178.trans (congrArg some (by kernel_rfl))
 f21:=⟨Tryz.f168.name,by decide,Tryz.func168.trans (congrArg some (by kernel_rfl))⟩
 f22:=⟨Tryz.f169.name,by decide,Tryz.func169.trans (congrArg some (by kernel_rfl))⟩
 f23:=⟨Tryz.f170.name,by decide,Tryz.func170.trans (congrArg some (by kernel_rfl))⟩
 f24:=⟨Tryz.f171.name,by decide,Tryz.func171.trans (congrArg some (by kernel_rfl))⟩
 f25:=⟨Tryz.f172.name,by decide,Tryz.func172.trans (congrArg some (by kernel_rfl))⟩
 f26:=⟨Tryz.f173.name,by decide,Tryz.func173.trans (congrArg some (by kernel_rfl))⟩
 f27:=⟨Tryz.f174.name,by decide,Tryz.func174.trans (congrArg some (by kernel_rfl))⟩
 f28:=⟨Tryz.f175.name,by decide,Tryz.func175.trans (congrArg some (by kernel_rfl))⟩
 f29:=⟨Tryz.f176.name,by decide,Tryz.func176.trans (congrArg some (by kernel_rfl))⟩
 f31:=Tryz.func194.trans (congrArg some (by kernel_rfl))
 f32:=Tryz.func195.trans (congrArg some (by kernel_rfl))
 f36:=⟨Tryz.f193.name,by decide,Tryz.func193.trans (congrArg some (by kernel_rfl))⟩
 f37:=⟨Tryz.f196.name,by decide,Tryz.func196.trans (congrArg some (by kernel_rfl))⟩
 f38:=⟨Tryz.f197.name,by decide,Tryz.func197.trans (congrArg some (by kernel_rfl))⟩
 f39:=⟨Tryz.f157.name,by decide,Tryz.func157.trans (congrArg some (by kernel_rfl))⟩
 f41:=⟨Tryz.f207.name,by decide,Tryz.func207.trans (congrArg some (by kernel_rfl))⟩
 t0:=Tryz.underlying0
 a0:=Tryz.isAgg0
 z0:=Tryz.sizeOf0
 v0:=Tryz.zeroValue0
 t3:=Tryz.underlying3
 a3:=Tryz.isAgg3
 z3:=Tryz.sizeOf3
 v3:=Tryz.zeroValue3
 t4:=Tryz.underlying4
 a4:=Tryz.isAgg4
 z4:=Tryz.sizeOf4
 v4:=Tryz.zeroValue4
 t5:=Tryz.underlying5
 a5:=Tryz.isAgg5
 z5:=Tryz.sizeOf5
 v5:=Tryz.zeroValue5
 t9:=Tryz.underlying9
 a9:=Tryz.isAgg9
 z9:=Tryz.sizeOf9
 v9:=Tryz.zeroValue9
 t26:=Tryz.underlying197
 a26:=Tryz.isAgg197
 z26:=Tryz.sizeOf197
 v26:=Tryz.zeroValue197
 t27:=Tryz.underlying197
 a27:=Tryz.isAgg197
 z27:=Tryz.sizeOf197
 v27:=Tryz.zeroValue197
 t29:=Tryz.underlying9
 a29:=Tryz.isAgg9
 z29:=Tryz.sizeOf9
 v29:=Tryz.zeroValue9
 t32:=Tryz.underlying158
 a32:=Tryz.isAgg158
 z32:=Tryz.sizeOf158
 v32:=Tryz.zeroValue158
 t35:=Tryz.underlying235
 a35:=Tryz.isAgg235
 z35:=Tryz.sizeOf235
 v35:=Tryz.zeroValue235
 t36:=Tryz.underlying236
 a36:=Tryz.isAgg236
 z36:=Tryz.sizeOf236
 v36:=Tryz.zeroValue236
 t41:=Tryz.underlying171
 a41:=Tryz.isAgg171
 z41:=Tryz.sizeOf171
 v41:=Tryz.zeroValue171
 t44:=Tryz.underlying188
 a44:=Tryz.isAgg188
 z44:=Tryz.sizeOf188
 v44:=Tryz.zeroValue188
 t46:=Tryz.underlying161
 a46:=Tryz.isAgg161
 z46:=Tryz.sizeOf161
 v46:=Tryz.zeroValue161
 t53:=Tryz.underlying252
 a53:=Tryz.isAgg252
 z53:=Tryz.sizeOf252
 v53:=Tryz.zeroValue252
 t57:=Tryz.underlying256
 a57:=Tryz.isAgg256
 z57:=Tryz.sizeOf256
 v57:=Tryz.zeroValue256
 t63:=Tryz.underlying262
 a63:=Tryz.isAgg262
 z63:=Tryz.sizeOf262
 v63:=Tryz.zeroValue262
 t64:=Tryz.underlying228
 a64:=Tryz.isAgg228
 z64:=Tryz.sizeOf228
 v64:=Tryz.zeroValue228}
def Tryz.Fl:Go.Shelf.Ren:=⟨fun|42=>149|n=>n,fun|25=>197|26=>9|4=>4|n=>n,fun|n=>n⟩
theorem Tryz.Pq:Go.Proofs.SlLaysN.n42 Tryz.prog Tryz.Fl:= {
 mixed:=by kernel_rfl
 f42:=⟨Tryz.f149.name,by decide,Tryz.func149.trans (congrArg some (by kernel_rfl))⟩
 t4:=Tryz.underlying4
 a4:=Tryz.isAgg4
 z4:=Tryz.sizeOf4
 v4:=Tryz.zeroValue4
 t25:=Tryz.underlying197
 a25:=Tryz.isAgg197
 z25:=Tryz.sizeOf197
 v25:=Tryz.zeroValue197
 t26:=Tryz.underlying9
 a26:=Tryz.isAgg9
 z26:=Tryz.sizeOf9
 v26:=Tryz.zeroValue9
 i26:=by kernel_rfl}
def Tryz.Fm:Go.Shelf.Ren:=⟨fun|41=>99|n=>n,fun|22=>50|23=>3|4=>4|n=>n,fun|n=>n⟩
theorem Tryz.Pr:Go.Proofs.SlLaysN.n41 Tryz.prog Tryz.Fm:= {
 mixed:=by kernel_rfl
 f41:=⟨Tryz.f99.name,by decide,Tryz.func99.trans (congrArg some (by kernel_rfl))⟩
 t4:=Tryz.underlying4
 a4:=Tryz.isAgg4
 z4:=Tryz.sizeOf4
 v4:=Tryz.zeroValue4
 t22:=Tryz.underlying50
 a22:=Tryz.isAgg50
 z22:=Tryz.sizeOf50
 v22:=Tryz.zeroValue50
 t23:=Tryz.underlying3
 a23:=Tryz.isAgg3
 z23:=Tryz.sizeOf3
 v23:=Tryz.zeroValue3
 i23:=by kernel_rfl}
def Tryz.Ps:Go.Shelf.Ren:=⟨fun|6=>150|15=>160|14=>164|28=>177|29=>178|20=>182|21=>183|22=>184|23=>185|24=>186|25=>187|26=>188|27=>189|46=>204|47=>194|48=>195|49=>205|50=>206|57=>209|n=>n,fun|22=>197|24=>9|25=>208|3=>3|39=>158|0=>0|53=>188|55=>161|4=>4|46=>236|45=>235|50=>171|5=>5|9=>9|66=>252|70=>256|76=>262|77=>228|n=>n,fun|n=>n⟩
theorem Tryz.ak2:Go.Proofs.SlLaysF.n6 Tryz.prog Tryz.Ps:= {
 mixed:=by kernel_rfl
 f6:=⟨Tryz.f150.name,by decide,Tryz.func150.trans (congrArg some (by kernel_rfl))⟩
 f14:=⟨Tryz.f164.name,by decide,Tryz.func164.trans (congrArg some (by kernel_rfl))⟩
 f15:=Tryz.func160.trans (congrArg some (by kernel_rfl))
 f20:=⟨Tryz.f182.name,by decide,Tryz.func182.trans (congrArg some (by kernel_rfl))⟩
 f21:=⟨Tryz.f183.name,by decide,Tryz.func183.trans (congrArg some (by kernel_rfl))⟩
 f22:=⟨Tryz.f184.name,by decide,Tryz.func184.trans (congrArg some (by kernel_rfl))⟩
 f23:=⟨Tryz.f185.name,by decide,Tryz.func185.trans (congrArg some (by kernel_rfl))⟩
 f24:=⟨Tryz.f186.name,by decide,Tryz.func186.trans (congrArg some (by kernel_rfl))⟩
 f25:=⟨Tryz.f187.name,by decide,Tryz.func187.trans (congrArg some (by kernel_rfl))⟩
 f26:=⟨Tryz.f188.name,by decide,Tryz.func188.trans (congrArg some (by kernel_rfl))⟩
 f27:=⟨Tryz.f189.name,by decide,Tryz.func189.trans (congrArg some (by kernel_rfl))⟩
 f28:=Tryz.func177.trans (congrArg some (by kernel_rfl))
 f29:=Tryz.func178.trans (congrArg some (by kernel_rfl))
 f46:=⟨Tryz.f204.name,by decide,Tryz.func204.trans (congrArg some (by kernel_rfl))⟩
 f47:=Tryz.func194.trans (congrArg some (by kernel_rfl))
 f48:=Tryz.func195.trans (congrArg some (by kernel_rfl))
 f49:=⟨Tryz.f205.name,by decide,Tryz.func205.trans (congrArg some (by kernel_rfl))⟩
 f50:=⟨Tryz.f206.name,by decide,Tryz.func206.trans (congrArg some (by kernel_rfl))⟩
 f57:=⟨Tryz.f209.name,by decide,Tryz.func209.trans (congrArg some (by kernel_rfl))⟩
 t0:=Tryz.underlying0
 a0:=Tryz.isAgg0
 z0:=Tryz.sizeOf0
 v0:=Tryz.zeroValue0
 t3:=Tryz.underlying3
 a3:=Tryz.isAgg3
 z3:=Tryz.sizeOf3
 v3:=Tryz.zeroValue3
 t4:=Tryz.underlying4
 a4:=Tryz.isAgg4
 z4:=Tryz.sizeOf4
 v4:=Tryz.zeroValue4
 t5:=Tryz.underlying5
 a5:=Tryz.isAgg5
 z5:=Tryz.sizeOf5
 v5:=Tryz.zeroValue5
 t9:=Tryz.underlying9
 a9:=Tryz.isAgg9
 z9:=Tryz.sizeOf9
 v9:=Tryz.zeroValue9
 t22:=Tryz.underlying197
 a22:=Tryz.isAgg197
 z22:=Tryz.sizeOf197
 v22:=Tryz.zeroValue197
 a24:=Tryz.isAgg9
 z24:=Tryz.sizeOf9
 t25:=Tryz.underlying208
 a25:=Tryz.isAgg208
 z25:=Tryz.sizeOf208
 v25:=Tryz.zeroValue208
 t39:=Tryz.underlying158
 a39:=Tryz.isAgg158
 z39:=Tryz.sizeOf158
 v39:=Tryz.zeroValue158
 t45:=Tryz.underlying235
 a45:=Tryz.isAgg235
 z45:=Tryz.sizeOf235
 v45:=Tryz.zeroValue235
 t46:=Tryz.underlying236
 a46:=Tryz.isAgg236
 z46:=Tryz.sizeOf236
 v46:=Tryz.zeroValue236
 t50:=Tryz.underlying171
 a50:=Tryz.isAgg171
 z50:=Tryz.sizeOf171
 v50:=Tryz.zeroValue171
 t53:=Tryz.underlying188
 a53:=Tryz.isAgg188
 z53:=Tryz.sizeOf188
 v53:=Tryz.zeroValue188
 t55:=Tryz.underlying161
 a55:=Tryz.isAgg161
 z55:=Tryz.sizeOf161
 v55:=Tryz.zeroValue161
 t66:=Tryz.underlying252
 a66:=Tryz.isAgg252
 z66:=Tryz.sizeOf252
 v66:=Tryz.zeroValue252
 t70:=Tryz.underlying256
 a70:=Tryz.isAgg256
 z70:=Tryz.sizeOf256
 v70:=Tryz.zeroValue256
 t76:=Tryz.underlying262
 a76:=Tryz.isAgg262
 z76:=Tryz.sizeOf262
 v76:=Tryz.zeroValue262
 t77:=Tryz.underlying228
 a77:=Tryz.isAgg228
 z77:=Tryz.sizeOf228
 v77:=Tryz.zeroValue228}
end Go.Proofs

end
section
namespace Go.Proofs
open Go.RowKit Go.Maps Go.Sort Go.Shelf
theorem Tryz.ĳ(m:Nat):AnyZ.SortsIn Tryz.prog Tryz.wZ Fence.wide m:=
 ⟨fun El off cap ss W hH hblk cR=>callsIn_wide.2 (AnyM.slices_Sort_string Tryz.Tv El off cap ss W hH hblk cR),
  fun p cap W=>callsIn_wide.2 (AnyM.slices_Sort_string_none Tryz.Tv p cap W)⟩
theorem Tryz.GK(mb:Option Nat)(W:World):CallsIn Fence.wide 5 Tryz.prog 128 #[.map mb] W fun e w'=>e= .returned (.func (.func 140) #[] #[.pointer (some ⟨W.heap.size,0,none⟩)])∧w'=W.alloc (.cells #[.map mb] 196):=
 AnyZ.keys_in Tryz.Tu Fence.wide 5 trivial rfl mb W
set_option maxHeartbeats 1000000 in
theorem Tryz.pR {H:Type}(b nn:Nat)(D0:DataW H)(R:Value→Option (DataW H×List MemPlace))(w:World)(fM:w.ownsMap Tryz.prog 9 R b nn D0)(KA:Maps.size D0≤maxLen)(vr:Maps.size D0*16≤140737488355328):
  CallsIn Fence.wide 5 Tryz.prog 127 #[.func (.func 140) #[] #[.pointer (some ⟨w.heap.size,0,none⟩)]] (w.alloc (.cells #[.map (some b)] 196)) fun e w'=>∃(v:Value) (ss:List (List UInt8)),e= .returned v∧ss.Perm (strKeys D0)∧
   w'.ownsRow (w.alloc (.cells #[.map (some b)] 196)).heap.size 9 1 v ss.length ((ss.mergeSort (fun x y=>decide (x≤y))).map encStr)∧(v= .slice none 0 0↔ss= [])∧Below (w.alloc (.cells #[.map (some b)] 196)).heap.size (w.alloc (.cells #[.map (some b)] 196)) w':=by
 have ot:=fM.lt
 have aoo:SeqGives Fence.wide 2 Tryz.prog 140 #[.pointer (some ⟨w.heap.size,0,none⟩)] encStr (fun ss=>ss.Perm (strKeys D0)) (Maps.size D0) (w.alloc (.cells #[.map (some b)] 196)):=
  AnyZ.keys_gives (ρ:=Tryz.BM) {Tryz.Tu with} Fence.wide _ trivial rfl (by omega) w.heap.size b nn D0 _ (by simp) (by simp) (by
   obtain⟨es,clock,hb,Ft,hs,hD⟩:=fM
   exact⟨es,clock,(Below.heap_alloc _ _ b ot).trans hb,Ft,hs,hD⟩)
 exact AnyZ.sorted_in Tryz.U6 Fence.wide 5 trivial trivial trivial trivial rfl (by omega) (Tryz.ĳ _) (enters_of Tryz.func139 (by kernel_rfl) rfl) 140 #[.pointer (some ⟨w.heap.size,0,none⟩)] trivial (enters_of Tryz.func140 (by kernel_rfl) rfl) _ _ KA vr _ aoo
end Go.Proofs

end
section
namespace Go.Proofs
open Go.Shelf Go.RowKit Go.Lib Go.Sort
theorem adq {x y:List UInt8}(h:Op.bytesLess x y=true):S.fY x y= -1:=by unfold S.fY;rw [if_pos h]
theorem adr {x y:List UInt8}(h:Op.bytesLess x y=false)(h2:(!x==y)=true):S.fY x y=1:=by
 have dJ:x≠y:=by simpa using h2
 unfold S.fY
 rw [h]
 rcases S.gG x y with t|t|t
 · rw [t] at h;cases h
 · exact absurd t dJ
 · rw [t];rfl
theorem ads {x y:List UInt8}(h:Op.bytesLess x y=false)(h2:(!x==y)=false):S.fY x y=0:=by
 have he:x=y:=by simpa using h2
 subst he
 unfold S.fY
 rw [h];rfl
theorem Tryz.Pt(x:ByteArray)(w:World):Calls Tryz.prog 157 #[.string x] w fun e w'=>e= .returned (.bool false)∧w'=w:=by
 go_enter Tryz.func157,Tryz.ntmps157
 go_wp2
 go_ret
 exact⟨by simp,rfl⟩
set_option maxHeartbeats 1000000 in
theorem Tryz.Kk(x y:List UInt8)(w:World):Calls Tryz.prog 137 #[Vg.encS x,Vg.encS y] w fun e w'=>e= .returned (.int .i64 (S.fY x y))∧w'=w:=by
 unfold Vg.encS
 go_enter Tryz.func137,Tryz.ntmps137
 go_wp2_with (go_at_call 157;refine(Tryz.Pt _ _).mono ?_;rintro e w' ⟨rfl,rfl⟩)
 all_goals go_ret
 all_goals refine⟨?_,rfl⟩
 all_goals first
  |(rw [adq (by assumption)];rfl)
  |(rw [adr (by assumption) (by assumption)];rfl)
  |(rw [ads (by assumption) (by assumption)];rfl)
theorem Tryz.adt {G:Nat→Option Vg.GD} {F:Vg.Row (Vg.TA.fc [.own 50000, .fn (.func 137) [] []])→Vg.gg [.row 9 [.str]]→Vg.fv}
  (hF:∀l:List (List UInt8),F () (l,())= {pre:=l.length≤1099511627776,res:= .cB [],heap:= [some (.row 9 [.str] (S.fZ l) false)],new:= []}):
  Vg.bZ Tryz.prog G 150 (Vg.gD [.own 50000, .fn (.func 137) [] []] [.row 9 [.str]] F):=
 Vg.Cf Tryz.ak2 (enters_of Tryz.func137 (by kernel_rfl) rfl) Tryz.Kk hF
end Go.Proofs

end
section
namespace Go.DM
open Go Go.Vg Go.Maps Go.RowKit Go.ChangeShapes
section
variable {H:Type}
def items:DataW H→List Int
 | .slice ls _=>ls.filterMap fun d=>match d with| .lit (.int _ z)=>some z|_=>none
 |_=> []
theorem MK(zs:List Int):items (H:=H) (.slice (lits .i64 zs) [])=zs:=by
 induction zs with
 |nil=>rfl
 |cons z zs ih=>
  simp only [items,lits,List.map_cons,List.filterMap_cons] at ih ⊢
  rw [ih]
theorem xP {w:World} {base:Nat} {e:TypeId} {v:Value} {zs:List Int}(h:w.ownsInts base e .i64 v zs):items (H:=H) (rowDatum .i64 v zs)=zs:=by
 rcases h.datum (H:=H) with⟨h1,h2⟩|h1
 · rw [h1,h2];rfl
 · rw [h1];exact MK zs
def Repr(D:DataW H)(m:List UInt8→List Int):Prop :=IsMap D∧∀s,items (D.atKey (.string s) .nil)=m s∧(has D (.string s)=true↔m s≠ [])
theorem Repr.empty:Repr (H:=H) (.map []) (fun _=> []):=⟨isMap_empty,fun s=>⟨rfl,by simp [has]⟩⟩
theorem Repr.ext {D:DataW H} {m m':List UInt8→List Int}(h:Repr D m)(e:∀s,m s=m' s):Repr D m':=by
 rw [←funext e];exact h
theorem Repr.put {D:DataW H} {m m':List UInt8→List Int}(h:Repr D m) {t:List UInt8} {w:World} {base:Nat} {e:TypeId} {v:Value} {zs:List Int}(ho:w.ownsInts base e .i64 v zs)(hz:zs≠ [])
  (h1:m' t=zs) (h2:∀s,s≠t→m' s=m s):Repr (D.put (.string t) (rowDatum .i64 v zs)) m':=by
 refine⟨h.1.put _ _,fun s=> ?_⟩
 by_cases hs:s=t
 · subst hs
   refine⟨?_,?_⟩
   · rw [atKey_put_same h.1 (by trivial),xP ho,h1]
   · rw [has_put_same h.1 (by trivial),h1];simp [hz]
 · have dJ:Lit.string s≠Lit.string t:=fun hh=>hs (by injection hh)
   rw [atKey_put_other dJ,has_put_other dJ,h2 s hs]
   exact h.2 s
theorem Ĵ {w:World} {Q:Nat→Prop} {base:Nat} {e:TypeId} {v:Value} {zs:List Int}(h:w.ownsInts base e .i64 v zs)(hq:∀g,v.ownBlock=some g→Q g):Rd w Q (.slice [.int .i64]) v zs:=by
 obtain⟨ho,hw⟩:=h
 have hz:∀z∈zs,lo .i64≤z∧z≤hi .i64:=fun z hz=>by
  have :=hw z hz
  simp [Lit.wf,IntKind.min,IntKind.max,IntKind.signed,IntKind.bits] at this
  simp only [lo,hi];omega
 simp only [Rd]
 rcases ho.2 with⟨rfl,h0⟩|⟨g,cap,cur,rfl,hg,hh,hn,hc,cR,BS⟩
 · have :zs= []:=List.length_eq_zero_iff.1 h0
   subst this
   exact⟨none,0,[],rfl,Nat.le_refl _,Nat.zero_le _,rfl,fun h=>absurd rfl h⟩
 · refine⟨some ⟨g,0,none⟩,cap,zs.map (Value.int .i64),rfl,hn,hc,AG zs hz,fun _=>⟨g,0,rfl,hq g rfl,fun j v hj=> ?_⟩⟩
   have :=ho.cells (g:=g) rfl j v hj
   rwa [Addr.add_mid] at this
end
end Go.DM
namespace Go.DM
open Go Go.Vg Go.Maps Go.RowKit Go.ChangeShapes
section
variable {H:Type} {P:Program}
theorem zA(w:World)(c:Array Value)(e:TypeId)(o:Obj)(j:Nat):((w.alloc (.cells c e)).alloc o).cell? ⟨w.heap.size,j,none⟩=c[j]? :=by
 have h1:((w.alloc (.cells c e)).alloc o).heap[w.heap.size]? =some (.cells c e (0,0)):=by
  rw [((World.grownBy_alloc (w.alloc (.cells c e)) o none).block w.heap.size (by simp) (by simp))]
  exact(MapKept.heap_alloc w _).1
 simp [World.cell?,h1]
theorem AJ {w:World} {base:Nat} {e:TypeId} {size:Nat} {v:Value} {n:Nat} {xs:List Value}(h:w.ownsRow base e size v n xs):∃av cp,v= .slice av n cp∧(0<n→∃g,av=some ⟨g,0,none⟩∧base≤g∧g<w.heap.size):=by
 have hl:=h.lt
 rcases h.2 with⟨rfl,h0⟩|⟨g,cap,cur,rfl,hg,_⟩
 · exact⟨none,0,by rw [h0],fun h=>by omega⟩
 · exact⟨_,cap,rfl,fun _=>⟨g,rfl,hl g rfl⟩⟩
theorem s5 {w w':World}(h:Below w.heap.size w w'):w.grownBy w' none:=⟨h.os,h.tape,h.output,h.size,fun i hi _=>h.block i hi⟩
theorem qY {w w':World} {k:TypeId} {base:Nat} {e:TypeId} {q:IntKind} {b n:Nat} {D:DataW H}(h:w.ownsGroups P k base e q b n D)(hb:Below w.heap.size w w'):w'.ownsGroups P k base e q b n D:=
 h.kept (s5 hb) (by simp) (fun es clock _ x _=>by cases x.val.ownBlock<;>simp)
theorem Pu {w:World} {k:TypeId} {base:Nat} {e:TypeId} {q:IntKind} {b n:Nat} {D:DataW H}(h:w.ownsGroups P k base e q b n D):b<w.heap.size:=by
 obtain⟨es,clock,hb,_⟩:=h
 exact(Array.getElem?_eq_some_iff.1 hb).1
theorem Fo {w w':World} {k:TypeId} {base:Nat} {e:TypeId} {q:IntKind} {b n:Nat} {D:DataW H}(h:w.ownsGroups P k base e q b n D)(hb:Below w.heap.size w w') {No:Nat→Prop}(hn:∀g,No g→w.heap.size≤g):w'.Shuns b No:=by
 have h1:w.Shuns b (fun _=>False):=fun _ _ _ _ _ _ _ hf=>hf
 exact(h1.reno (No':=No) h (fun g hg=> .inr (hn g hg))).kept (s5 hb) (Pu h) (by simp)
theorem HQ {w:World} {base:Nat} {e:TypeId} {g cp:Nat} {n:Nat} {l:List (List UInt8)}(h:w.ownsRow base e 1 (.slice (some ⟨g,0,none⟩) n cp) n (l.map encS)) {j:Nat}(hj:j<l.length):w.cell? ⟨g,0+j,none⟩=some (encS (l.getD j [])):=by
 have :=h.cells (g:=g) rfl j (encS (l.getD j [])) (by rw [List.getElem?_map,List.getElem?_eq_getElem hj,List.getD_eq_getElem?_getD,List.getElem?_eq_getElem hj];rfl)
 rwa [Addr.add_mid] at this
end
end Go.DM
namespace Go.DM
open Go Go.Vg Go.Maps Go.RowKit Go.ChangeShapes
section
variable {H:Type} {P:Program}
theorem ML {w w':World} {row:Option Nat}(h:w.grownBy w' row) {a:Addr} {v:Value}(hl:a.block<w.heap.size)(hn:some a.block≠row)(hc:w.cell? a=some v):w'.cell? a=some v:=
 (World.cell?_of_block (h.block _ hl hn)).trans hc
theorem MM {k:TypeId}(hk:P.underlying k=some .string) {s:List UInt8}(h:s.length≤maxLen):keyOf P k (.string ⟨s.toArray⟩)=some (.string s):=by
 have :=Go.WideMaps.keyOf_string_mk (P:=P) (k:=k) (s:=⟨s.toArray⟩) hk (by simpa [ByteArray.size] using h)
 simpa using this
theorem adu {wr:World} {b g:Nat} {v v':Value} {o:Obj} {n cp:Nat}(Gk:∀No:Nat→Prop,wr.Shuns b No→∀g,v.ownBlock=some g→¬No g)(hs:wr.Shuns b (fun g'=>(Value.slice (some ⟨g,0,none⟩) n cp).ownBlock=some g'))
  (ue:v'.ownBlock=v.ownBlock∨v'.ownBlock=some (wr.alloc o).heap.size) (hg:g<wr.heap.size):∀g',v'.ownBlock=some g'→¬((Value.slice (some ⟨g,0,none⟩) n cp).ownBlock=some g'):=fun g' we hh=>by
 rcases ue with h|h
 · rw [h] at we
   exact Gk _ hs g' we hh
 · rw [h] at we
   simp only [Value.ownBlock,Option.some.injEq] at we hh
   simp at we
   omega
end
end Go.DM
namespace Go.DM
open Go Go.Vg Go.Maps Go.RowKit Go.ChangeShapes
section
variable {H:Type} {P:Program}
theorem Fp {w:World} {k:TypeId} {base:Nat} {e:TypeId} {q:IntKind} {b n:Nat} {D:DataW H}(h:w.ownsGroups P k base e q b n D):w.ownsMap P k (rowElem w base e q) b n D:=by
 obtain⟨es,clock,hb,F,hs,hD,_⟩:=h
 exact⟨es,clock,hb,F,hs,hD⟩
theorem AK {w:World} {k:TypeId} {R:Value→Option (DataW H×List MemPlace)} {b n:Nat} {D:DataW H}(h:w.ownsMap P k R b n D):Maps.size D≤n:=by
 obtain⟨es,clock,hb,F,hs,rfl⟩:=h
 rw [size_eq,length_sorted]
 simpa using hs
theorem Pv(docs:List (List UInt8))(a b:Int)(x:List UInt8):x∈S.cE docs a b↔S.sC docs a (b-a).toNat 0 x≠ []:=by
 unfold S.cE
 rw [S.fN,S.xD]
 simp [S.sC]
theorem U7 {w:World} {R:Value→Option (DataW H×List MemPlace)} {k:TypeId} {b n:Nat} {D:DataW H}(h:w.ownsMap P k R b n D)(K:Keyed P k)(hk:P.underlying k=some .string) {docs:List (List UInt8)} {f t:Int}
  (hr:Repr D (S.sC docs f (t-f).toNat 0)) {ss:List (List UInt8)} (hs:ss.Perm (strKeys D)):ss.mergeSort (fun x y=>decide (x≤y))=S.cE docs f t∧ss.length=(S.cE docs f t).length∧(∀s∈S.cE docs f t,s.length≤maxLen)∧(S.cE docs f t).length≤n:=by
 obtain⟨es,hD,hpw,_⟩:=h.entries K
 obtain⟨NC,hD',hko⟩:=h.keysOf
 have hle:=strKeys_le h hk
 have cR:=AK h
 obtain rfl :es=NC:=by rw [hD] at hD';simpa using hD'
 subst hD
 have hi:S.mg (S.cE docs f t):=S.jX _
 have s9:=perm_strKeys hpw (fun p hp=>by obtain⟨v,hv⟩:=hko p hp;obtain⟨x,_,hx,_⟩:=Maps.keyOf_str hk hv;exact⟨x,hx⟩) (S.uF hi) (fun x=>by rw [Pv,(hr.2 x).2])
 have Y0:=hs.trans s9.symm
 have hlen:(S.cE docs f t).length≤n:=by
  rw [s9.length_eq]
  simpa [strKeys,size_eq] using cR
 refine⟨?_,Y0.length_eq,fun s gQ=>hle s (s9.subset gQ),hlen⟩
 have e1:ss.mergeSort leB=(S.cE docs f t).mergeSort leB:=mergeSort_of_perm Y0
 have e2:(S.cE docs f t).mergeSort leB=S.cE docs f t:=by
  refine List.mergeSort_of_pairwise (hi.imp fun {a b} fw=> ?_)
  rw [Go.Proofs.bytesLess_eq] at fw
  simp only [leB,decide_eq_true_eq] at fw ⊢
  exact List.le_of_lt fw
 exact e1.trans e2
end
end Go.DM
namespace Go.DM
open Go Go.Vg Go.Maps Go.RowKit Go.ChangeShapes
section
variable {H:Type} {P:Program}
theorem Dj {w:World} {base:Nat} {e:TypeId} {q:IntKind} {v:Value} {zs:List Int}(h:w.ownsInts base e q v zs):v.oneCell'=true :=by
 rcases h.1.2 with⟨rfl,_⟩|⟨g,cap,cur,rfl,_⟩<;>rfl
theorem U8 {w:World} {Q:Nat→Prop} {s:List UInt8} {v:Value} {zs:List Int}(hs:s.length≤maxLen)(hv:Rd w Q (.slice [.int .i64]) v zs):bh w Q [.str, .slice [.int .i64]] [.string ⟨s.toArray⟩,v] (s,zs):=by
 simp only [bh]
 refine⟨_,[v],rfl,?_,v,[],rfl,hv,rfl⟩
 simp only [Rd]
 exact⟨rfl,hs⟩
theorem HR {α:Type} {R:List Value→α→Prop}:∀(l:List α) (cs:List Value) (c:List Value) (x:α),bX R cs l→R c x→bX R (cs++c) (l++ [x])
 | [],cs,c,x,h,hx=>by
   simp only [bX] at h
   subst h
   exact⟨c,[],by simp,hx,rfl⟩
 |y::l,cs,c,x,⟨c1,c2,hc,h1,h2⟩,hx=>by
  subst hc
  exact⟨c1,c2++c,by simp,h1,HR l c2 c x h2 hx⟩
theorem ĵ {w w':World} {base:Nat} {e:TypeId} {v:Value} {zs:List Int} {Q:Nat→Prop}(h:w'.ownsInts base e .i64 v zs)(hb:Below w.heap.size w w')(hl:∀g,v.ownBlock=some g→g<w.heap.size)(hq:∀g,base≤g→g<w.heap.size→Q g):Rd w Q (.slice [.int .i64]) v zs:=by
 have h':w.ownsInts base e .i64 v zs:=by
  refine⟨⟨h.1.1,?_⟩,h.2⟩
  rcases h.1.2 with hn|⟨g,cap,cur,rfl,hg,hh,rest⟩
  · exact .inl hn
  · exact .inr ⟨g,cap,cur,rfl,hg,(hb.block g (hl g rfl)).symm.trans hh,rest⟩
 exact Ĵ h' (fun g hg=>hq g (h'.1.lt g hg).1 (hl g hg))
theorem Kl(w:World)(a b:Value)(t:TypeId):∀j u,[a,b][j]? =some u→(w.alloc (.cells #[a,b] t)).cell? ((⟨w.heap.size,0,none⟩:Addr).add j)=some u:=by
 intro j u hj
 rw [Addr.add_mid,Nat.zero_add]
 have h1:(w.alloc (.cells #[a,b] t)).heap[w.heap.size]? =some (.cells #[a,b] t (0,0)):=(MapKept.heap_alloc w _).1
 simp only [World.cell?,h1]
 simpa using hj
end
end Go.DM

end
section
namespace Go.Proofs
open Go Go.Vg Go.Maps Go.RowKit Go.ChangeShapes Go.DM Go.WideMaps
theorem Tryz.Tw:Keyed Tryz.prog 9:=string_keyed Tryz.underlying9
theorem Tryz.ak3:(Tryz.prog.info? 3).map (fun i=>(i.zero,i.size,i.bytes))=some (some (.int .i64 0),1,8):=by kernel_rfl
theorem Tryz.adv:(Tryz.prog.info? 136).map (fun i=>(i.zero,i.size,i.bytes))=some (some (.agg #[.string ⟨#[]⟩, .slice none 0 0]),2,40):=by kernel_rfl
theorem Tryz.Tx(w:World):(zeroValue 50).run Tryz.prog w= .ok (.slice none 0 0) w:=by kernel_rfl
theorem Tryz.Ķ(mb:Option Nat)(W:World):Calls Tryz.prog 128 #[.map mb] W fun e w'=>e= .returned (.func (.func 140) #[] #[.pointer (some ⟨W.heap.size,0,none⟩)])∧w'=W.alloc (.cells #[.map mb] 196):=callsIn_wide.1 (Tryz.GK mb W)
set_option maxRecDepth 100000 in
set_option maxHeartbeats 4000000 in
theorem Tryz.Pw {H:Type}(docs:List (List UInt8))(f t:Int)(da:Option Addr)(cap:Nat)(w:World)
  (hp:S.kG docs f t) (h4:∀j,(docs.getD j []).length≤2000) (dv:Nat→Value)
  (hd:∀j,j<docs.length→∃b o aj cj,da=some ⟨b,o,none⟩∧b<w.heap.size∧w.cell? ⟨b,o+j,none⟩=some (dv j)∧dv j= .slice aj (docs.getD j []).length cj)
  (sS:∀(j:Nat) (W:World),j<docs.length→Below w.heap.size w W→Calls Tryz.prog 126 #[dv j] W fun e w'=>∃v,e= .returned v∧w'.ownsRow W.heap.size 9 1 v (S.eM docs 0 j).length ((S.eM docs 0 j).map encS)∧Below W.heap.size W w')
  (Km:∀(j:Nat),∀s∈S.eM docs 0 j,s.length≤maxLen):
  Calls Tryz.prog 107 #[.slice da docs.length cap, .agg #[.int .i64 f, .int .i64 t]] w fun e w'=>∃v xs W1,e= .returned (.tuple #[v, .int .i64 0])∧Below w.heap.size w w'∧Below W1.heap.size W1 w'∧w.heap.size≤W1.heap.size∧
   w'.ownsRow W1.heap.size 136 2 v (S.make docs f t).length xs∧bX (bh W1 (fun b=>w.heap.size≤b∧b<W1.heap.size) [.str, .slice [.int .i64]]) xs (S.make docs f t):=by
 have hmm:= @run_makeMap Tryz.prog
 have h0:0≤f:=hp.1
 have h1:f≤t:=hp.2.1
 have h2:t≤docs.length:=hp.2.2.1
 have h3:docs.length≤1000:=hp.2.2.2.1
 obtain⟨i0,hi,hz0,ŋ,hz2⟩:=info_parts Tryz.ak3
 obtain⟨i1,hi1,hy0,hy1,hy2⟩:=info_parts Tryz.adv
 go_enter Tryz.func107,Tryz.ntmps107
 go_wp2
 go_loopw [39] (fun i wr=>∃k:Nat,k≤docs.length∧i= .int .i64 k∧wr=w.alloc (.cells #[.int .i64 f, .int .i64 t] 88))
  (fun i _=>docs.length-(intOf i).toNat)
 case atStart=>exact⟨0,Nat.zero_le _,rfl,rfl⟩
 case round=>
  obtain⟨k,hk,rfl,rfl⟩:=hrel
  by_cases eD:k<docs.length
  · obtain⟨b,o,aj,cj,rfl,hb,hc,hv⟩:=hd k eD
    rw [hv] at hc
    have hl:=h4 k
    generalize (docs.getD k []).length=n at hc hl
    have nQ:(w.alloc (.cells #[.int .i64 f, .int .i64 t] 88)).cell? ⟨b,o+k,none⟩=some (.slice aj n cj):=by
     rw [←hc];exact World.cell?_of_block ((World.grownBy_alloc w _ none).block b hb (by simp))
    clear hd sS
    go_wp2
    go_roundw
    case rel=>exact⟨k+1,by omega,by go_num,by first|rfl|trivial⟩
    case measure=>simp [intOf];omega
  · have :k=docs.length:=by omega
    subst this
    clear eD
    go_wp2
    go_loopw [9] (fun i wr=>∃k:Nat,i= .int .i64 (f+k)∧f+k≤t∧∃(m:Nat) (D:DataW H),m≤4000*k∧wr.ownsGroups Tryz.prog 9 (w.heap.size+2) 3 .i64 (w.heap.size+1) m D∧Repr D (S.sC docs f k 0)∧
      Below w.heap.size w wr∧wr.cell? ⟨w.heap.size,1,none⟩=some (.int .i64 t)∧w.heap.size+2≤wr.heap.size)
     (fun i _=>(t-intOf i).toNat)
    case atStart=>
     have cR:(w.alloc (.cells #[.int .i64 f, .int .i64 t] 88)).heap.size=w.heap.size+1:=by simp
     have hg:=World.ownsGroups_made (H:=H) (w.alloc (.cells #[.int .i64 f, .int .i64 t] 88)) Tryz.prog 9 3 .i64
     rw [cR] at hg
     refine⟨0,by simp,by simpa using h1,0,_,Nat.le_refl _,hg,Repr.empty.ext (fun s=>(S.ag5 docs f s).symm),((Below.refl _ _).alloc (Nat.le_refl _) _).alloc (by simp) _,?_,by simp⟩
     rw [zA];rfl
    case round=>
     obtain⟨k,rfl,hk,m,D,hm,fM,ķ,hnx,aoq,hws⟩:=hrel
     by_cases eD:f+k<t
     · obtain⟨n,hn⟩:∃n:Nat,f+(k:Int)=n:=⟨(f+k).toNat,by omega⟩
       have Vq:n<docs.length:=by omega
       obtain⟨b,o,aj,cj,rfl,hb,hc,hv⟩:=hd n Vq
       have hs:=sS n wr Vq hnx
       rw [hv] at hs hc
       have nQ:wr.cell? ⟨b,o+n,none⟩=some (.slice aj (docs.getD n []).length cj):=(hnx.cell (by exact hb)).trans hc
       have eL:S.eM docs 0 n=S.eM docs f k:=by unfold S.eM;rw [hn];simp
       rw [eL] at hs
       have CE:=Km n
       rw [eL] at CE
       obtain⟨Kn,rfl⟩:∃x,x=wr:=⟨wr,rfl⟩
       have hL:(S.eM docs f k).length≤4000:=by unfold S.eM;exact S.LJ hp _
       simp only [hn] at hk ⊢
       generalize (docs.getD n []).length=dl at nQ hs
       clear hd sS hc hv
       go_wp2_with (first
        |(go_at_call 126;refine hs.mono ?_;rintro e w1 ⟨vs,rfl,jZ,NO⟩;obtain⟨av,cp,rfl,I5⟩:=AJ jZ)
        |go_in)
       have ak4:=qY fM NO
       have aor:w1.Shuns (w.heap.size+1) (fun g=>(Value.slice av (S.eM docs f k).length cp).ownBlock=some g):=Fo fM NO (fun g hg=>(jZ.lt g hg).1)
       have aos:Below w.heap.size w w1:=hnx.trans (NO.mono (by omega))
       have ak5:w1.cell? ⟨w.heap.size,1,none⟩=some (.int .i64 t):=(NO.cell (by show w.heap.size<Kn.heap.size;omega)).trans aoq
       have aot:Kn.heap.size≤w1.heap.size:=NO.size
       clear hs NO nQ
       go_loopw [62] (fun i wq=>∃j:Nat,i= .int .i64 j∧j≤(S.eM docs f k).length∧∃(m2:Nat) (D2:DataW H),m2≤m+j∧wq.ownsGroups Tryz.prog 9 (w.heap.size+2) 3 .i64 (w.heap.size+1) m2 D2∧Repr D2 (S.sC docs f k j)∧
         wq.Shuns (w.heap.size+1) (fun g=>(Value.slice av (S.eM docs f k).length cp).ownBlock=some g)∧Below w.heap.size w wq∧wq.cell? ⟨w.heap.size,1,none⟩=some (.int .i64 t)∧
         wq.ownsRow Kn.heap.size 9 1 (.slice av (S.eM docs f k).length cp) (S.eM docs f k).length ((S.eM docs f k).map encS)∧Kn.heap.size≤wq.heap.size)
        (fun i _=>(S.eM docs f k).length-(intOf i).toNat)
       case atStart=>exact⟨0,rfl,Nat.zero_le _,m,D,by omega,ak4,ķ,aor,aos,ak5,jZ,aot⟩
       case round=>
        obtain⟨j,rfl,hj,m2,D2,Ť,Px,Ko,ĸ,Ĺ,ĺ,Py,hwq⟩:=hrel
        by_cases sk:j<(S.eM docs f k).length
        · obtain⟨g,rfl,hg1,ś⟩:=I5 (by omega)
          have j6:=HQ Py sk
          rw [Nat.zero_add] at j6
          have HS:=MM (P:=Tryz.prog) Tryz.underlying9 (CE _ (S.bo _ j [] sk))
          have afX:=S.WE (docs:=docs) (a:=f) (k:=k) sk
          have Ļ:=fun s=>S.Uy (docs:=docs) (a:=f) (k:=k) (j:=j) sk (s:=s)
          have ak6:=S.WG docs f k j ((S.eM docs f k).getD j [])
          unfold Vg.encS at j6
          generalize (S.eM docs f k).getD j []=sj at j6 HS afX Ļ ak6
          have aou:g<wr.heap.size:=(Py.lt g rfl).2
          have Tz:m2<maxLen:=by unfold maxLen;omega
          clear Km CE I5
          go_wp2_with (first
           |(at_lookup;refine wpList_lookup_groups_shuns _ rfl _ _ 196 rfl 9 50 3 .i64 Tryz.Tw Tryz.underlying196 (Tryz.Tx _) (w.heap.size+2) (w.heap.size+1) m2 _ rfl Px Tz _ _ rfl HS ?_;intro v zs Lt xx Nl ļ Gk)
           |(at_builtin;refine wpList_append_own_at _ rfl _ _ 50 rfl (w.heap.size+2) 3 i0 (.int .i64 0) 1 8 Tryz.underlying50 hi hz0 ŋ hz2 rfl (by decide) _ _ _ rfl (xx.1.alloc _) ⟨wr.heap.size,0,none⟩ 1 1 [.int .i64 n] rfl rfl (cell_one_new _ _ _) (ints_oneCell .i64 [(n:Int)]) (by unfold maxLen;omega) (by omega) (by simp;omega) ?_;intro v' w3 Ľ Kp KK ue)
           |(at_mapUpdate;have xg:=adu Gk ĸ ue aou;refine wpList_mapUpdate_back_shuns _ rfl _ _ _ 196 rfl Tryz.Tw Tryz.underlying196 HS Px Tz xx ĸ xg ļ rfl rfl rfl ((World.grownBy_alloc _ _ _).trans Kp) (xx.appended Ľ (WalkArith.wf_i64 (by omega))) (by simp;omega) (ue.imp id (fun h=>⟨_,h,by simp⟩)) ?_;intro w4 ak7 CF aov)
           |go_in)
          have ja:=(World.grownBy_alloc wr _ _).trans Kp
          have hw3:wr.heap.size≤w3.heap.size:=ja.size
          have hvb:∀g',v.ownBlock=some g'→w.heap.size+2≤g':=fun g' we=>(xx.1.lt g' we).1
          refine⟨⟨j+1,by go_num,by omega,m2+1,_,by omega,ak7,?_,aov,?_,?_,?_,?_⟩,by simp [intOf];omega⟩
          · refine Ko.put (xx.appended Ľ (WalkArith.wf_i64 (by omega))) (by simp) ?_ Ļ
            rw [afX,hn]
            have :=xP (H:=H) xx
            rw [←Lt,(Ko.2 sj).1] at this
            rw [this]
          · exact Ĺ.groups xx ja CF Ĺ.size (by omega) (by omega)
          · refine ML CF (by show w.heap.size<w3.heap.size;omega) (by show some w.heap.size≠some (w.heap.size+1);simp) (ML ja (by show w.heap.size<wr.heap.size;omega) ?_ ĺ)
            show some w.heap.size≠v.ownBlock
            intro h
            have :=hvb _ h.symm
            omega
          · refine(Py.kept ja (.inr ?_)).kept CF (.inr ?_)
            · intro h
              exact Gk _ ĸ g h.symm rfl
            · intro h
              simp only [Value.ownBlock,Option.some.injEq] at h
              omega
          · exact Nat.le_trans hwq (Nat.le_trans hw3 CF.size)
        · have :j=(S.eM docs f k).length:=by omega
          subst this
          clear sk Km CE
          have ak8:=Ko.ext (fun s=>S.Uz (docs:=docs) (a:=f) (k:=k) (j:=(S.eM docs f k).length) (by omega) s)
          clear Ko
          go_wp2
          exact⟨⟨k+1,by rw [show f+((k+1:Nat):Int)=(n:Int)+1 by omega],by omega,m2,D2,by omega,Px,ak8,Ĺ,ĺ,by omega⟩,by simp [intOf];omega⟩
     · have Ji:t=f+k:=by omega
       have TK:(t-f).toNat=k:=by omega
       have ud:=Fp fM
       have hcS:=callsIn_wide.1 (Tryz.pR (w.heap.size+1) m D _ wr ud (by have :=AK ud;unfold maxLen;omega) (by have :=AK ud;omega))
       have EI:=fun(ss:List (List UInt8)) (hss:ss.Perm (strKeys D))=>U7 (docs:=docs) (f:=f) (t:=t) ud Tryz.Tw Tryz.underlying9 (by rw [TK];exact ķ) hss
       obtain⟨Kn,rfl⟩:∃x,x=wr:=⟨wr,rfl⟩
       clear hd sS Km
       subst Ji
       go_wp2_with (first
        |(go_at_call 128;refine(Tryz.Ķ _ _).mono ?_;rintro e w4 ⟨rfl,rfl⟩)
        |(go_at_call 127;refine hcS.mono ?_;rintro e w5 ⟨vs,ss,rfl,hS,jZ,KK,hb5⟩;obtain⟨hk3,hk4,s6,hk6⟩:=EI ss hS;rw [hk3,hk4] at jZ;obtain⟨av,cp,rfl,I5⟩:=AJ jZ)
        |go_in)
       have ľ:Below Kn.heap.size Kn w5:=((Below.refl _ Kn).alloc (Nat.le_refl _) _).trans (hb5.mono (by simp))
       have Ŀ:=qY fM ľ
       have aoz:Below w.heap.size w w5:=hnx.trans (ľ.mono (by omega))
       have aq4:Kn.heap.size≤w5.heap.size:=ľ.size
       clear hcS EI ud hb5 fM hS KK hk3
       go_loopw [12,79] (fun d i wq=>∃j:Nat,i= .int .i64 j∧j≤(S.cE docs f (f+k)).length∧∃xs,wq.ownsRow w5.heap.size 136 2 d j xs∧
         bX (bh w5 (fun b=>w.heap.size≤b∧b<w5.heap.size) [.str, .slice [.int .i64]]) xs (S.vO docs f (f+k) j)∧Below w5.heap.size w5 wq)
        (fun _ i _=>(S.cE docs f (f+k)).length-(intOf i).toNat)
       case atStart=>exact⟨0,rfl,Nat.zero_le _,[],World.ownsRow_nil _ _ _ _,rfl,Below.refl _ _⟩
       case round=>
        obtain⟨j,rfl,hj,xs,Pz,BN,wa⟩:=hrel
        by_cases sk:j<(S.cE docs f (f+k)).length
        · obtain⟨g,rfl,hg1,ś⟩:=I5 (by omega)
          have TC:=HQ jZ sk
          have j6:wr.cell? ⟨g,0+j,none⟩=some (Vg.encS ((S.cE docs f (f+k)).getD j [])):=(wa.cell ś).trans TC
          rw [Nat.zero_add] at j6
          have EI:=s6 _ (S.bo _ j [] sk)
          have HS:=MM (P:=Tryz.prog) Tryz.underlying9 EI
          have ŀ:=fun tt (ht:(S.cE docs f (f+k)).getD j []=tt)=>S.JG (docs:=docs) (a:=f) (b:=f+k) (k:=j) (j:=k) sk TK.symm ht
          unfold Vg.encS at j6
          have ak9:=qY Ŀ wa
          have aoA:wr.Shuns (w.heap.size+1) (fun g=>w5.heap.size≤g):=Fo Ŀ wa (fun g hg=>hg)
          have aoB:=fun s=>(ķ.2 s).1
          generalize (S.cE docs f (f+k)).getD j []=sj at j6 HS EI ŀ
          have Tz:m<maxLen:=by unfold maxLen;omega
          clear TC s6
          go_wp2_with (first
           |(at_lookup;refine wpList_lookup_groups_shuns _ rfl _ _ 196 rfl 9 50 3 .i64 Tryz.Tw Tryz.underlying196 (Tryz.Tx _) (w.heap.size+2) (w.heap.size+1) m _ rfl ak9 Tz _ _ rfl HS ?_;intro v zs Lt xx Nl ļ Gk;obtain⟨av2,cp2,rfl,aq5⟩:=AJ xx.1)
           |(at_builtin;refine wpList_append_own_at _ rfl _ _ 89 rfl w5.heap.size 136 i1 (.agg #[.string ⟨#[]⟩, .slice none 0 0]) 2 40 Tryz.underlying89 hi1 hy0 hy1 hy2 rfl (by decide) _ j xs rfl (Pz.alloc _) ⟨wr.heap.size,0,none⟩ 1 1 [.string ⟨sj.toArray⟩, .slice av2 zs.length cp2] rfl rfl (Kl _ _ _ _) (by intro u hu;simp at hu;rcases hu with rfl|rfl<;>rfl) (by unfold maxLen;omega) (by omega) (by have :=wa.size;simp;omega) ?_;intro v' w6 ala Kp KK ue)
           |go_in)
          have qF:Rd w5 (fun b=>w.heap.size≤b∧b<w5.heap.size) (.slice [.int .i64]) (.slice av2 zs.length cp2) zs:=
           ĵ xx wa (fun g' we=>by have :=Gk _ aoA g' we;omega) (fun g' h1 h2=>⟨by omega,h2⟩)
          have hz:zs=S.cA docs f sj k:=by
           have e1:=xP (H:=H) xx
           rw [←Lt,aoB] at e1
           rw [←e1];simp [S.sC]
          have ja:=(World.grownBy_alloc wr (.cells #[.string ⟨sj.toArray⟩, .slice av2 zs.length cp2] 136) _).trans Kp
          refine⟨⟨j+1,by go_num,by omega,xs++ [.string ⟨sj.toArray⟩, .slice av2 zs.length cp2],ala,?_,?_⟩,by simp [intOf];omega⟩
          · rw [←ŀ sj rfl,←hz]
            exact HR _ _ _ _ BN (U8 EI qF)
          · exact wa.grown ja wa.size (fun g' we=>(Pz.lt g' we).1)
        · have hje:j=(S.cE docs f (f+k)).length:=by omega
          subst hje
          rw [S.LL (by omega)] at BN
          clear I5 s6
          go_wp2
          go_ret2
          refine⟨_,xs,w5,rfl,aoz.trans (wa.mono (by omega)),wa,by omega,?_,BN⟩
          have yl:(S.make docs f (f+k)).length=(S.cE docs f (f+k)).length:=by simp [S.make]
          rw [yl]
          exact Pz
set_option maxRecDepth 100000 in
set_option maxHeartbeats 4000000 in
theorem Tryz.PA(docs:List (List UInt8))(f t:Int)(da:Option Addr)(cap:Nat)(w:World)(hc:1000<docs.length∨f<0∨t<f∨(docs.length:Int)<t):
  Calls Tryz.prog 107 #[.slice da docs.length cap, .agg #[.int .i64 f, .int .i64 t]] w fun e w'=>e= .returned (.tuple #[.slice none 0 0, .int .i64 1])∧Below w.heap.size w w':=by
 generalize docs.length=n at hc
 go_enter Tryz.func107,Tryz.ntmps107
 go_wp2
 all_goals (go_ret2;exact⟨rfl,(Below.refl _ _).alloc (Nat.le_refl _) _⟩)
set_option maxRecDepth 100000 in
set_option maxHeartbeats 4000000 in
theorem Tryz.PB(docs:List (List UInt8))(f t:Int)(da:Option Addr)(cap:Nat)(w:World)(h0:0≤f)(h1:f≤t)(h2:t≤docs.length)(h3:docs.length≤1000)(dv:Nat→Value)
  (hd:∀j,j<docs.length→∃b o aj cj,da=some ⟨b,o,none⟩∧b<w.heap.size∧w.cell? ⟨b,o+j,none⟩=some (dv j)∧dv j= .slice aj (docs.getD j []).length cj)
  (hc:¬∀j,j<docs.length→(docs.getD j []).length≤2000):
  Calls Tryz.prog 107 #[.slice da docs.length cap, .agg #[.int .i64 f, .int .i64 t]] w fun e w'=>e= .returned (.tuple #[.slice none 0 0, .int .i64 1])∧Below w.heap.size w w':=by
 go_enter Tryz.func107,Tryz.ntmps107
 go_wp2
 go_loopw [39] (fun i wr=>∃k:Nat,k≤docs.length∧i= .int .i64 k∧wr=w.alloc (.cells #[.int .i64 f, .int .i64 t] 88)∧∀j,j<k→(docs.getD j []).length≤2000)
  (fun i _=>docs.length-(intOf i).toNat)
 case atStart=>exact⟨0,Nat.zero_le _,rfl,rfl,fun j hj=>by omega⟩
 case round=>
  obtain⟨k,hk,rfl,rfl,ja⟩:=hrel
  by_cases eD:k<docs.length
  · obtain⟨b,o,aj,cj,rfl,hb,gz,hv⟩:=hd k eD
    rw [hv] at gz
    have nQ:(w.alloc (.cells #[.int .i64 f, .int .i64 t] 88)).cell? ⟨b,o+k,none⟩=some (.slice aj (docs.getD k []).length cj):=by
     rw [←gz];exact World.cell?_of_block ((World.grownBy_alloc w _ none).block b hb (by simp))
    clear hd gz hv hc
    by_cases hl:(docs.getD k []).length≤2000
    · have NI:∀j,j<k+1→(docs.getD j []).length≤2000:=fun j hj=>by
       by_cases e:j=k
       · subst e;exact hl
       · exact ja j (by omega)
      clear ja
      generalize (docs.getD k []).length=n at nQ hl
      go_wp2
      go_roundw
      case rel=>exact⟨k+1,by omega,by go_num,by first|rfl|trivial,NI⟩
      case measure=>simp [intOf];omega
    · clear ja
      generalize (docs.getD k []).length=n at nQ hl
      go_wp2
      go_ret2
      exact⟨rfl,(Below.refl _ _).alloc (Nat.le_refl _) _⟩
  · exact absurd (fun j hj=>ja j (by omega)) hc
end Go.Proofs

end
