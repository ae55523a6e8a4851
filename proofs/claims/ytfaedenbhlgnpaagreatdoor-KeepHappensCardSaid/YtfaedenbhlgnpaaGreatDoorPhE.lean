import Derived.Test.YtfaedenbhlgnpaaGreatDoorPhD
import Derived.Shelf.SlicesG.Clone
import Derived.Shelf.SlSortCmp.NoneTotal
import Derived.Shelf.SlIter.Nil
import Derived.Shelf.SortM.Plain
import Derived.Shelf.SortM.SortNone
import Derived.Test.YtfaedenbhlgnpaaGreatDoorProg
import Derived.Lib.Small
import Derived.Lib.Walk
import Derived.Sort.Walk0
import Derived.Laws.Cover1
import Derived.Maps.GroupsBeside
import Derived.Sort.KeysCollected
set_option linter.unusedVariables false
set_option linter.unusedSimpArgs false
section
set_option linter.unusedVariables false
namespace Go
theorem df {p:Prop} [Decidable p]:decide p=false↔¬p:=decide_eq_false_iff_not
theorem dt {p:Prop} [Decidable p]:(decide p=true)=p:=decide_eq_true_eq
theorem lc {α:Type} {a:α} {l:List α}:(a::l).length=l.length+1:=List.length_cons
theorem ln {α:Type}:([]:List α).length=0:=List.length_nil
theorem tn(n:Nat):(n:Int).toNat=n:=Int.toNat_natCast n
theorem nf {b:Bool}:((!b)=false)=(b=true):=Bool.not_eq_false' b
theorem nt {b:Bool}:((!b)=true)=(b=false):=Bool.not_eq_true' b
theorem atg(m:Nat)(v:Int)(hm:v.toNat<m+1)(hp:0≤v)(hf:Vg.Row.ok (Vg.PS.flat [.one (.int .i64)]) v):aij m v:=by
 delta aij q0 aE jz z0;have ait: -9223372036854775808≤v∧v≤9223372036854775807:=hf.1;clear hf;refine⟨?_,?_⟩
 · intro h1;try simp only [dt] at h1
   rw [S.Qy _ (by omega)];congr 2;omega
 intro h2;try simp only [df] at h2
 with_reducible and_intros
 iterate 8 omega
 · have :=S.eR (v/128);simp;omega
 rw [S.Qz v (by omega) (by omega)];simp only [List.singleton_append];congr 2;omega
theorem ath(s:List UInt8)(hp:S.small s)(hf:Vg.Row.ok (Vg.PS.flat [.one (.str)]) s):aik s:=by
 delta aik jz z0 ao;have R3:s.length≤9223372036854775807:=hf.1;clear hf;with_reducible and_intros
 omega
 · have :=S.eR s.length;simp only [S.small] at hp;omega
 rfl
theorem ati(b:List UInt8)(hp:b.length≤140737488355328)(hf:Vg.Row.ok (Vg.PS.flat [.one (.slice [.int .u8])]) b):ail b:=by
 delta ail jz;have hJ:b.length≤9223372036854775807:=hf.1.1;clear hf;refine⟨?_,?_⟩
 · omega
 rfl
theorem atj(v:Int)(l:List UInt8)(hp:S.zf l v)(hf:Vg.Row.ok (Vg.TA.fG [.own 50000, .jK (.int .i64)]) v)(hg:Vg.gK.ok [.row 5 [.int .u8]] (l,())):aim v l:=by
 delta aim q1 jz z0;have ait: -9223372036854775808≤v∧v≤9223372036854775807:=hf.1;have ml:l.length≤9223372036854775807:=hg.1.1;clear hf hg;obtain⟨Ó,hp2⟩:=hp;refine⟨?_,?_⟩
 · refine⟨((l),(v)),?_⟩;try dsimp only
   with_reducible and_intros
   omega;rfl;exact⟨Ó,Int.le_refl _,rfl⟩
 intro x1 h2;refine⟨?_,?_⟩
 · intro h3;try simp only [dt] at h3
   with_reducible and_intros
   iterate 2 omega
   · (have hl:=S.uM h2;have hu:=S.zi h2;simp;omega)
   iterate 2 omega
   refine⟨((Prod.fst x1++ [UInt8.ofNat (Int.toNat (Vg.cI (Vg.bh (Prod.snd x1) (127:Int)%(256:Int)) (128:Int)))]),(Prod.snd x1/(2:Int)^Int.toNat (7:Int))),?_⟩;try dsimp only
   with_reducible and_intros
   omega;rfl
   · (have hl:=S.uM h2;have hu:=S.zi h2;exact S.US h2 h3 (by omega))
   · (have hl:=S.uM h2;have hu:=S.zi h2;simp;omega)
 intro h4;try simp only [df] at h4
 refine⟨?_,?_⟩
 · (have hl:=S.uM h2;have hu:=S.zi h2;simp;omega)
 (have hl:=S.uM h2;have hu:=S.zi h2;exact S.Xi h2 h4)
theorem atk(s:List UInt8)(l:List UInt8)(hp:S.lT l s)(hf:Vg.Row.ok (Vg.TA.fG [.own 50000, .jK (.str)]) s)(hg:Vg.gK.ok [.row 5 [.int .u8]] (l,())):ain s l:=by
 delta ain jz ao;have R3:s.length≤9223372036854775807:=hf.1;have ml:l.length≤9223372036854775807:=hg.1.1;clear hf hg;obtain⟨Ó,hp2⟩:=hp;have :=S.eR s.length;with_reducible and_intros
 · simp only [S.zf];omega
 · simp only [List.length_append];omega
 simp [S.text]
theorem atl(b:List UInt8)(v:Int)(hp:b.length≤35184372088832)(hf:Vg.Row.ok (Vg.PS.flat [.one (.slice [.int .u8]), .one (.int .i64)]) (b,v)):aio b v:=by
 delta aio q2 jz z0 z1;have hJ:b.length≤9223372036854775807:=hf.1.1;have ait: -9223372036854775808≤v∧v≤9223372036854775807:=hf.2.1;clear hf;refine⟨?_,?_⟩
 · intro h1;try simp only [V.nL,dt] at h1
   refine⟨?_,?_⟩
   · grind [S.jg,S.iz,S.du]
   grind [S.jg,S.iz,S.du]
 intro h2;try simp only [V.fl,df] at h2
 with_reducible and_intros
 omega;exact⟨by omega,by omega⟩;iterate 2 (grind [S.jg,S.iz,S.du])
theorem atm(b:List UInt8)(s:List UInt8)(hp:S.lT b s)(hf:Vg.Row.ok (Vg.PS.flat [.one (.slice [.int .u8]), .one (.str)]) (b,s)):aip b s:=by
 delta aip jz;have hJ:b.length≤9223372036854775807:=hf.1.1;have R3:s.length≤9223372036854775807:=hf.2.1;clear hf;with_reducible and_intros
 · simp only [S.lT] at *;omega
 omega;rfl
theorem atn(r1:List UInt8)(r2:Int)(r3:Int)(hp:True)(hf:Vg.Row.ok (Vg.PS.flat [.agg [.slice [.int .u8], .int .i64, .int .i64]]) (r1,r2,r3)):aiq r1 r2 r3:=by
 delta aiq z0 ao;have KW:r1.length≤9223372036854775807:=hf.1.1;have KX: -9223372036854775808≤r2∧r2≤9223372036854775807:=hf.2.1;have KY: -9223372036854775808≤r3∧r3≤9223372036854775807:=hf.2.2.1;clear hf;simp only [S.inside];cases decide (0≤r2)<;>rfl
theorem ato(r1:List UInt8)(r2:Int)(r3:Int)(hp:r1.length≤140737488355328)(hf:Vg.Row.ok (Vg.PS.flat [.agg [.slice [.int .u8], .int .i64, .int .i64]]) (r1,r2,r3)):air r1 r2 r3:=by
 delta air jz z0 z1;have KW:r1.length≤9223372036854775807:=hf.1.1;have KX: -9223372036854775808≤r2∧r2≤9223372036854775807:=hf.2.1;have KY: -9223372036854775808≤r3∧r3≤9223372036854775807:=hf.2.2.1;clear hf;with_reducible and_intros
 omega
 · intro h1;try simp only [dt] at h1
   trivial
 · intro h2;try simp only [df] at h2
   trivial
 rfl
 · cases decide (r3=0)<;>cases S.inside r1 r2<;>rfl
 simp only [S.cW];by_cases h:r3=0<;>cases S.inside r1 r2<;>simp [h]
theorem atp(b:List UInt8)(p:Int)(hp:S.dE b p)(hf:Vg.Row.ok (Vg.PS.flat [.one (.slice [.int .u8]), .one (.int .i64)]) (b,p)):ais b p:=by
 delta ais q3 q4 q5 aE z0 z1 ao;have hJ:b.length≤9223372036854775807:=hf.1.1;have atq: -9223372036854775808≤p∧p≤9223372036854775807:=hf.2.1;clear hf;have tx:=hp;simp only [S.dE] at tx;refine⟨?_,?_⟩
 · refine⟨(nat_lit 0:Nat),?_⟩;try dsimp only
   with_reducible and_intros
   exact(S.aso b p).symm;omega;exact S.asn hp
 intro x1 h2;refine⟨?_,?_⟩
 · intro h3;try simp only [dt] at h3
   with_reducible and_intros
   iterate 3 (grind [S.Xg,S.L9])
 intro h4;try simp only [df] at h4
 with_reducible and_intros
 iterate 2 omega
 · intro h5;try simp only [dt] at h5
   with_reducible and_intros
   iterate 3 (grind [S.Xg,S.L9])
 intro h6;try simp only [df] at h6
 with_reducible and_intros
 omega
 · (have hg:=S.fb h2;omega)
 omega
 · (have hg:=S.fb h2;omega)
 omega
 · (have hg:=S.fb h2;omega)
 omega
 · (have hg:=S.fb h2;omega)
 iterate 2
  · have hg:=S.fb h2;have hn:=S.gM ((b.getD (p+(x1:Int)).toNat 0).toNat:Int) (by omega);have hs:=S.sO (Vg.bh ((b.getD (p+(x1:Int)).toNat 0).toNat:Int) 127) x1 (by omega) (by omega) (by omega);try clear h8
    try clear h9
    clear hn;generalize Vg.bh ((b.getD (p+(x1:Int)).toNat 0).toNat:Int) 127*2^(7*(x1:Int)).toNat=z at *;omega
 · (have hg:=S.fb h2;have hv:=S.vZ (b:=b) (p:=p) hg.1;have hw:=S.vZ (b:=b) (p:=p) (x:=x1+1) (by omega);have hn:=S.gM ((b.getD (p+(x1:Int)).toNat 0).toNat:Int) (by omega);have hs:=S.sO (Vg.bh ((b.getD (p+(x1:Int)).toNat 0).toNat:Int) 127) x1 (by omega) (by omega) (by omega);exact hv.1)
 · (have hg:=S.fb h2;have hv:=S.vZ (b:=b) (p:=p) hg.1;have hw:=S.vZ (b:=b) (p:=p) (x:=x1+1) (by omega);have hn:=S.gM ((b.getD (p+(x1:Int)).toNat 0).toNat:Int) (by omega);have hs:=S.sO (Vg.bh ((b.getD (p+(x1:Int)).toNat 0).toNat:Int) 127) x1 (by omega) (by omega) (by omega);exact hs.1)
 omega
 · (have hg:=S.fb h2;omega)
 · intro h7;try simp only [dt] at h7
   with_reducible and_intros
   · intro h8;try simp only [dt] at h8
     with_reducible and_intros
     omega
     · have hg:=S.fb h2;have hn:=S.gM ((b.getD (p+(x1:Int)).toNat 0).toNat:Int) (by omega);have hs:=S.sO (Vg.bh ((b.getD (p+(x1:Int)).toNat 0).toNat:Int) 127) x1 (by omega) (by omega) (by omega);try clear h8
       try clear h9
       clear hn;generalize Vg.bh ((b.getD (p+(x1:Int)).toNat 0).toNat:Int) 127*2^(7*(x1:Int)).toNat=z at *;omega
     omega
     · have hg:=S.fb h2;have hn:=S.gM ((b.getD (p+(x1:Int)).toNat 0).toNat:Int) (by omega);have hs:=S.sO (Vg.bh ((b.getD (p+(x1:Int)).toNat 0).toNat:Int) 127) x1 (by omega) (by omega) (by omega);try clear h8
       try clear h9
       clear hn;generalize Vg.bh ((b.getD (p+(x1:Int)).toNat 0).toNat:Int) 127*2^(7*(x1:Int)).toNat=z at *;omega
     omega;have hg:=S.fb h2;have hn:=S.gM ((b.getD (p+(x1:Int)).toNat 0).toNat:Int) (by omega);have hs:=S.sO (Vg.bh ((b.getD (p+(x1:Int)).toNat 0).toNat:Int) 127) x1 (by omega) (by omega) (by omega);try clear h8
     try clear h9
     clear hn;generalize Vg.bh ((b.getD (p+(x1:Int)).toNat 0).toNat:Int) 127*2^(7*(x1:Int)).toNat=z at *;omega
   · intro h9;try simp only [df] at h9
     trivial
   · intro cY;with_reducible and_intros
     · exact(S.Az hp h2 (by have hg:=S.fb h2;omega) (by omega) (by omega) cY).1
     · exact(S.Az hp h2 (by have hg:=S.fb h2;omega) (by omega) (by omega) cY).2.1
     · exact(S.Az hp h2 (by have hg:=S.fb h2;omega) (by omega) (by omega) cY).2.2
   intro ew;with_reducible and_intros
   omega
   · clear ew;have hg:=S.fb h2;omega
   · exact(S.AA hp h2 (by have hg:=S.fb h2;omega) (by omega) (by omega) ew).1
   · exact(S.AA hp h2 (by have hg:=S.fb h2;omega) (by omega) (by omega) ew).2.1
   · exact(S.AA hp h2 (by have hg:=S.fb h2;omega) (by omega) (by omega) ew).2.2
 intro dG;try simp only [df] at dG
 refine⟨(x1+nat_lit 1),?_⟩;try dsimp only
 with_reducible and_intros
 · (have hg:=S.fb h2;have hv:=S.vZ (b:=b) (p:=p) hg.1;have hw:=S.vZ (b:=b) (p:=p) (x:=x1+1) (by omega);have hn:=S.gM ((b.getD (p+(x1:Int)).toNat 0).toNat:Int) (by omega);have hs:=S.sO (Vg.bh ((b.getD (p+(x1:Int)).toNat 0).toNat:Int) 127) x1 (by omega) (by omega) (by omega);exact S.QA hp h2 (by omega))
 omega
 · (have hg:=S.fb h2;exact S.UR hp h2 (by omega) (by omega) (by omega))
 · (have hg:=S.fb h2;simp only [S.ah];omega)
theorem ald(b:List UInt8)(p:Int)(cb:Int)(hp:S.dE b p)(hf:Vg.Row.ok (Vg.PS.flat [.one (.slice [.int .u8]), .one (.int .i64), .one (.int .i64)]) (b,p,cb)):YQ b p cb:=by
 delta YQ q6 aE z0 ao;have hJ:b.length≤9223372036854775807:=hf.1.1;have atq: -9223372036854775808≤p∧p≤9223372036854775807:=hf.2.1;have Ô: -9223372036854775808≤cb∧cb≤9223372036854775807:=hf.2.2.1;clear hf;have hb:=S.OK hp;with_reducible and_intros
 omega
 · intro h1;try simp only [nt,df] at h1
   with_reducible and_intros
   iterate 3 (grind [S.bW])
 intro h2;try simp only [nf,dt] at h2
 refine⟨?_,?_⟩
 · intro h3;try simp only [dt] at h3
   with_reducible and_intros
   iterate 3 (grind [S.bW])
 intro h4;try simp only [df] at h4
 with_reducible and_intros
 iterate 2 omega
 · intro h5;try simp only [dt] at h5
   with_reducible and_intros
   iterate 3 (grind [S.bW])
 intro h6;try simp only [df] at h6
 with_reducible and_intros
 iterate 7 omega
 iterate 3 (grind [S.bW])
theorem ale(r1:List UInt8)(r2:Int)(r3:Int)(cb:Int)(hp:r1.length≤140737488355328)(hf:Vg.Row.ok (Vg.PS.flat [.agg [.slice [.int .u8], .int .i64, .int .i64], .one (.int .i64)]) (r1,r2,r3,cb)):YR r1 r2 r3 cb:=by
 delta YR jz z0;have KW:r1.length≤9223372036854775807:=hf.1.1;have KX: -9223372036854775808≤r2∧r2≤9223372036854775807:=hf.2.1;have KY: -9223372036854775808≤r3∧r3≤9223372036854775807:=hf.2.2.1;have Ô: -9223372036854775808≤cb∧cb≤9223372036854775807:=hf.2.2.2.1;clear hf;with_reducible and_intros
 omega
 · intro h1;try simp only [nt,df] at h1
   with_reducible and_intros
   iterate 4 (grind [S.bm,S.dE,S.cW,S.inside])
 intro h2;try simp only [nf,dt] at h2
 with_reducible and_intros
 grind [S.bm,S.dE,S.cW,S.inside]
 · intro h3;try simp only [nt,df] at h3
   with_reducible and_intros
   iterate 4 (grind [S.bm,S.dE,S.cW,S.inside])
 intro h4;try simp only [nf,dt] at h4
 with_reducible and_intros
 iterate 4 (grind [S.bm,S.dE,S.cW,S.inside])
theorem alf(r1:List UInt8)(r2:Int)(r3:Int)(hp:r1.length≤140737488355328)(hf:Vg.Row.ok (Vg.PS.flat [.agg [.slice [.int .u8], .int .i64, .int .i64]]) (r1,r2,r3)):YS r1 r2 r3:=by
 delta YS jz z0;have KW:r1.length≤9223372036854775807:=hf.1.1;have KX: -9223372036854775808≤r2∧r2≤9223372036854775807:=hf.2.1;have KY: -9223372036854775808≤r3∧r3≤9223372036854775807:=hf.2.2.1;clear hf;with_reducible and_intros
 omega
 · intro h1;try simp only [nt,df] at h1
   with_reducible and_intros
   iterate 4 (grind [S.al,S.dE,S.cW,S.inside])
 intro h2;try simp only [nf,dt] at h2
 with_reducible and_intros
 grind [S.al,S.dE,S.cW,S.inside]
 · intro h3;try simp only [nt,df] at h3
   with_reducible and_intros
   iterate 4 (grind [S.al,S.dE,S.cW,S.inside])
 intro h4;try simp only [nf,dt] at h4
 with_reducible and_intros
 iterate 4 (grind [S.al,S.dE,S.cW,S.inside])
theorem alg(c:Int)(hp:True)(hf:Vg.Row.ok (Vg.PS.flat [.one (.int .i64)]) c):YT c:=by
 delta YT z0;have tq: -9223372036854775808≤c∧c≤9223372036854775807:=hf.1;clear hf;simp only [S.bp];grind
theorem alh(c:Int)(hp:True)(hf:Vg.Row.ok (Vg.PS.flat [.one (.int .i64)]) c):YU c:=by
 delta YU z1;have tq: -9223372036854775808≤c∧c≤9223372036854775807:=hf.1;clear hf;refine⟨?_,?_⟩
 · intro h1;try simp only [dt] at h1
   grind [S.c7]
 intro h2;try simp only [df] at h2
 refine⟨?_,?_⟩
 · intro h3;try simp only [dt] at h3
   grind [S.c7]
 intro h4;try simp only [df] at h4
 refine⟨?_,?_⟩
 · intro h5;try simp only [dt] at h5
   grind [S.c7]
 intro h6;try simp only [df] at h6
 grind [S.c7]
theorem ali(c:Int)(hp:0≤c)(hf:Vg.Row.ok (Vg.PS.flat [.one (.int .i64)]) c):YV c:=by
 delta YV z0;have tq: -9223372036854775808≤c∧c≤9223372036854775807:=hf.1;clear hf;have e:Vg.bh c 63%256=c%64:=by rw [S.El _ hp];omega
 with_reducible and_intros
 iterate 2 omega
 rw [e,S.uK];exact S.ac8 c
theorem alj(c:Int)(hp:True)(hf:Vg.Row.ok (Vg.PS.flat [.one (.int .i64)]) c):YW c:=by
 delta YW q7 q8 q9 q10 z0 z1;have tq: -9223372036854775808≤c∧c≤9223372036854775807:=hf.1;clear hf;with_reducible and_intros
 trivial
 · intro h1;try simp only [nt] at h1
   refine⟨?_,?_⟩
   · simp only [S.tm,nt] at *;grind
   simp only [S.eS,nt] at *;grind
 intro h2;try simp only [nf] at h2
 with_reducible and_intros
 trivial
 · intro h3;try simp only [dt] at h3
   refine⟨?_,?_⟩
   · (have hc:=S.dB h2;simp only [S.tm,h2];rfl)
   (have hc:=S.dB h2;(simp only [S.eS,h2,if_true];exact S.QB c hc.1 (by simp only [S.c7] at *;grind)))
 intro h4;try simp only [df] at h4
 refine⟨?_,?_⟩
 · intro h5;try simp only [dt] at h5
   with_reducible and_intros
   iterate 2 omega
   · (have hc:=S.dB h2;omega)
   · (have hc:=S.dB h2;simp only [S.tm,h2];rfl)
   · (have hc:=S.dB h2;(simp only [S.eS,h2,if_true];exact S.ade c hc.1 (by simp only [S.c7] at *;grind)))
 intro h6;try simp only [df] at h6
 refine⟨?_,?_⟩
 · intro h7;try simp only [dt] at h7
   with_reducible and_intros
   iterate 4 omega
   · (have hc:=S.dB h2;simp only [show Int.toNat 6=6 by rfl,show Int.toNat 12=12 by rfl,show Int.toNat 18=18 by rfl];omega)
   · (have hc:=S.dB h2;omega)
   · (have hc:=S.dB h2;simp only [S.tm,h2];rfl)
   · (have hc:=S.dB h2;(simp only [S.eS,h2,if_true];exact S.adf c hc.1 (by simp only [S.c7] at *;grind)))
 intro h8;try simp only [df] at h8
 with_reducible and_intros
 iterate 4 omega
 · (have hc:=S.dB h2;simp only [show Int.toNat 6=6 by rfl,show Int.toNat 12=12 by rfl,show Int.toNat 18=18 by rfl];omega)
 iterate 2 omega
 · (have hc:=S.dB h2;simp only [show Int.toNat 6=6 by rfl,show Int.toNat 12=12 by rfl,show Int.toNat 18=18 by rfl];omega)
 · (have hc:=S.dB h2;omega)
 · (have hc:=S.dB h2;simp only [S.tm,h2];rfl)
 · (have hc:=S.dB h2;(simp only [S.eS,h2,if_true];exact S.adg c hc.1 hc.2 (by simp only [S.c7] at *;grind)))
theorem alk(b:List UInt8)(hp:0<b.length)(hf:Vg.Row.ok (Vg.PS.flat [.one (.slice [.int .u8])]) b):Y0 b:=by
 delta Y0 wA YX YY YZ q15 PT q17 q18 q19 q20 q21 q22 q23 q24 aE z0 z1 ao;have hJ:b.length≤9223372036854775807:=hf.1.1;clear hf;have tx:(0:Int)<b.length:=by omega
 with_reducible and_intros
 iterate 2 omega
 · intro h1;try simp only [dt] at h1
   refine⟨?_,?_⟩
   · rw [S.uf1 (b:=b) (by with_reducible assumption)]
   rw [S.uf1 (b:=b) (by with_reducible assumption)]
 intro h2;try simp only [df] at h2
 with_reducible and_intros
 iterate 2 omega
 · intro h3;try simp only [dt] at h3
   with_reducible and_intros
   iterate 2 omega
   · intro h4;try simp only [dt] at h4
     refine⟨?_,?_⟩
     · (have hn:=S.pK (b:=b) (by with_reducible assumption) (by with_reducible assumption);rw [S.oT hn (by omega) (by omega)])
     (have hn:=S.pK (b:=b) (by with_reducible assumption) (by with_reducible assumption);rw [S.oT hn (by omega) (by omega)])
   intro h5;try simp only [df] at h5
   with_reducible and_intros
   iterate 3 omega
   · refine⟨(nat_lit 0:Nat),?_⟩;try dsimp only
     with_reducible and_intros
     omega
     · (have hn:=S.pK (b:=b) (by with_reducible assumption) (by with_reducible assumption);exact S.ass (by with_reducible assumption))
     · (have hn:=S.pK (b:=b) (by with_reducible assumption) (by with_reducible assumption);exact S.OM hn (by omega) (by omega))
   intro x6 h7;refine⟨?_,?_⟩
   · intro h8;try simp only [dt] at h8
     with_reducible and_intros
     iterate 4 omega
     · intro h9;try simp only [nt,df,tn] at h9
       refine⟨?_,?_⟩
       · have hn:=S.pK (b:=b) (by with_reducible assumption) (by with_reducible assumption);have hb:=S.bz h7;have hx:(x6:Int)+1<2:=by(have hc:=S.bN b 2 (by omega) (by omega);simp only [hc,show Int.toNat 2=2 by rfl] at *;omega)
         simp only [S.iA b 2 x6 hx,S.ke b 2 x6 hx] at *;rw [S.rK hn h7 (by omega) (by with_reducible assumption)]
       have hn:=S.pK (b:=b) (by with_reducible assumption) (by with_reducible assumption);have hb:=S.bz h7;have hx:(x6:Int)+1<2:=by(have hc:=S.bN b 2 (by omega) (by omega);simp only [hc,show Int.toNat 2=2 by rfl] at *;omega)
       simp only [S.iA b 2 x6 hx,S.ke b 2 x6 hx] at *;rw [S.rK hn h7 (by omega) (by with_reducible assumption)]
     intro cY;try simp only [nf,dt,tn] at cY
     with_reducible and_intros
     iterate 2 omega
     iterate 3
      · (have hn:=S.pK (b:=b) (by with_reducible assumption) (by with_reducible assumption);(have hb:=S.bz h7;(try simp only [S.bN b 2 (by omega) (by omega),show Int.toNat 2=2 by rfl] at *);simp only [show Int.toNat 6=6 by rfl,S.ah] at *;omega))
     exact Int.natCast_nonneg _;omega
     · (have hn:=S.pK (b:=b) (by with_reducible assumption) (by with_reducible assumption);(have hb:=S.bz h7;(try simp only [S.bN b 2 (by omega) (by omega),show Int.toNat 2=2 by rfl] at *);omega))
     refine⟨(x6+nat_lit 1),?_⟩;try dsimp only
     with_reducible and_intros
     omega
     · have hn:=S.pK (b:=b) (by with_reducible assumption) (by with_reducible assumption);have hb:=S.bz h7;have hx:(x6:Int)+1<2:=by(have hc:=S.bN b 2 (by omega) (by omega);simp only [hc,show Int.toNat 2=2 by rfl] at *;omega)
       rw [S.iA b 2 x6 hx];exact S.OO h7 (by omega)
     · have hn:=S.pK (b:=b) (by with_reducible assumption) (by with_reducible assumption);have hb:=S.bz h7;have hx:(x6:Int)+1<2:=by(have hc:=S.bN b 2 (by omega) (by omega);simp only [hc,show Int.toNat 2=2 by rfl] at *;omega)
       simp only [S.iA b 2 x6 hx,S.ke b 2 x6 hx] at *;exact S.Kq h7 (by with_reducible assumption) (by omega)
     · (have hn:=S.pK (b:=b) (by with_reducible assumption) (by with_reducible assumption);(have hb:=S.bz h7;(try simp only [S.bN b 2 (by omega) (by omega),show Int.toNat 2=2 by rfl] at *);simp only [show Int.toNat 6=6 by rfl,S.ah] at *;omega))
   intro ew;try simp only [df] at ew
   with_reducible and_intros
   trivial
   · intro dG;try simp only [nt] at dG
     trivial
   · intro jV;try simp only [nf] at jV
     trivial
   · intro eU;try simp only [V.nL,nt,df] at eU
     refine⟨?_,?_⟩
     · have hn:=S.pK (b:=b) (by with_reducible assumption) (by with_reducible assumption);have hb:=S.bz h7;have hc:=S.bN b 2 (by omega) (by omega);rw [hc] at ew;have hx:x6+1=2:=by omega
       rw [S.rM hn h7 hx eU rfl]
     have hn:=S.pK (b:=b) (by with_reducible assumption) (by with_reducible assumption);have hb:=S.bz h7;have hc:=S.bN b 2 (by omega) (by omega);rw [hc] at ew;have hx:x6+1=2:=by omega
     rw [S.rM hn h7 hx eU rfl]
   intro jd;try simp only [V.fl,nf,dt] at jd
   refine⟨?_,?_⟩
   · have hn:=S.pK (b:=b) (by with_reducible assumption) (by with_reducible assumption);have hb:=S.bz h7;have hc:=S.bN b 2 (by omega) (by omega);rw [hc] at ew;have hx:x6+1=2:=by omega
     rw [S.rN hn h7 hx jd rfl]
   have hn:=S.pK (b:=b) (by with_reducible assumption) (by with_reducible assumption);have hb:=S.bz h7;have hc:=S.bN b 2 (by omega) (by omega);rw [hc] at ew;have hx:x6+1=2:=by omega
   rw [S.rN hn h7 hx jd rfl]
 intro tA;try simp only [df] at tA
 with_reducible and_intros
 iterate 2 omega
 · intro zR;try simp only [dt] at zR
   with_reducible and_intros
   iterate 2 omega
   · intro s9;try simp only [dt] at s9
     refine⟨?_,?_⟩
     · (have hn:=S.pM (b:=b) (by with_reducible assumption) (by with_reducible assumption) (by with_reducible assumption);rw [S.oT hn (by omega) (by omega)])
     (have hn:=S.pM (b:=b) (by with_reducible assumption) (by with_reducible assumption) (by with_reducible assumption);rw [S.oT hn (by omega) (by omega)])
   intro zS;try simp only [df] at zS
   with_reducible and_intros
   iterate 3 omega
   · refine⟨(nat_lit 0:Nat),?_⟩;try dsimp only
     with_reducible and_intros
     omega
     · (have hn:=S.pM (b:=b) (by with_reducible assumption) (by with_reducible assumption) (by with_reducible assumption);exact S.ast (by with_reducible assumption) (by with_reducible assumption))
     · (have hn:=S.pM (b:=b) (by with_reducible assumption) (by with_reducible assumption) (by with_reducible assumption);exact S.OM hn (by omega) (by omega))
   intro wC p7;refine⟨?_,?_⟩
   · intro V2;try simp only [dt] at V2
     with_reducible and_intros
     iterate 4 omega
     · intro h23;try simp only [nt,df,tn] at h23
       refine⟨?_,?_⟩
       · have hn:=S.pM (b:=b) (by with_reducible assumption) (by with_reducible assumption) (by with_reducible assumption);have hb:=S.bz p7;have hx:(wC:Int)+1<3:=by(have hc:=S.bN b 3 (by omega) (by omega);simp only [hc,show Int.toNat 3=3 by rfl] at *;omega)
         simp only [S.iA b 3 wC hx,S.ke b 3 wC hx] at *;rw [S.rK hn p7 (by omega) (by with_reducible assumption)]
       have hn:=S.pM (b:=b) (by with_reducible assumption) (by with_reducible assumption) (by with_reducible assumption);have hb:=S.bz p7;have hx:(wC:Int)+1<3:=by(have hc:=S.bN b 3 (by omega) (by omega);simp only [hc,show Int.toNat 3=3 by rfl] at *;omega)
       simp only [S.iA b 3 wC hx,S.ke b 3 wC hx] at *;rw [S.rK hn p7 (by omega) (by with_reducible assumption)]
     intro Wq;try simp only [nf,dt,tn] at Wq
     with_reducible and_intros
     iterate 2 omega
     iterate 3
      · (have hn:=S.pM (b:=b) (by with_reducible assumption) (by with_reducible assumption) (by with_reducible assumption);(have hb:=S.bz p7;(try simp only [S.bN b 3 (by omega) (by omega),show Int.toNat 3=3 by rfl] at *);simp only [show Int.toNat 6=6 by rfl,S.ah] at *;omega))
     exact Int.natCast_nonneg _;omega
     · (have hn:=S.pM (b:=b) (by with_reducible assumption) (by with_reducible assumption) (by with_reducible assumption);(have hb:=S.bz p7;(try simp only [S.bN b 3 (by omega) (by omega),show Int.toNat 3=3 by rfl] at *);omega))
     refine⟨(wC+nat_lit 1),?_⟩;try dsimp only
     with_reducible and_intros
     omega
     · have hn:=S.pM (b:=b) (by with_reducible assumption) (by with_reducible assumption) (by with_reducible assumption);have hb:=S.bz p7;have hx:(wC:Int)+1<3:=by(have hc:=S.bN b 3 (by omega) (by omega);simp only [hc,show Int.toNat 3=3 by rfl] at *;omega)
       rw [S.iA b 3 wC hx];exact S.OO p7 (by omega)
     · have hn:=S.pM (b:=b) (by with_reducible assumption) (by with_reducible assumption) (by with_reducible assumption);have hb:=S.bz p7;have hx:(wC:Int)+1<3:=by(have hc:=S.bN b 3 (by omega) (by omega);simp only [hc,show Int.toNat 3=3 by rfl] at *;omega)
       simp only [S.iA b 3 wC hx,S.ke b 3 wC hx] at *;exact S.Kq p7 (by with_reducible assumption) (by omega)
     · (have hn:=S.pM (b:=b) (by with_reducible assumption) (by with_reducible assumption) (by with_reducible assumption);(have hb:=S.bz p7;(try simp only [S.bN b 3 (by omega) (by omega),show Int.toNat 3=3 by rfl] at *);simp only [show Int.toNat 6=6 by rfl,S.ah] at *;omega))
   intro P0;try simp only [df] at P0
   with_reducible and_intros
   trivial
   · intro h26;try simp only [nt] at h26
     trivial
   · intro h27;try simp only [nf] at h27
     trivial
   · intro Õ;try simp only [V.nL,nt,df] at Õ
     refine⟨?_,?_⟩
     · have hn:=S.pM (b:=b) (by with_reducible assumption) (by with_reducible assumption) (by with_reducible assumption);have hb:=S.bz p7;have hc:=S.bN b 3 (by omega) (by omega);rw [hc] at P0;have hx:wC+1=3:=by omega
       rw [S.rM hn p7 hx Õ rfl]
     have hn:=S.pM (b:=b) (by with_reducible assumption) (by with_reducible assumption) (by with_reducible assumption);have hb:=S.bz p7;have hc:=S.bN b 3 (by omega) (by omega);rw [hc] at P0;have hx:wC+1=3:=by omega
     rw [S.rM hn p7 hx Õ rfl]
   intro h29;try simp only [V.fl,nf,dt] at h29
   refine⟨?_,?_⟩
   · have hn:=S.pM (b:=b) (by with_reducible assumption) (by with_reducible assumption) (by with_reducible assumption);have hb:=S.bz p7;have hc:=S.bN b 3 (by omega) (by omega);rw [hc] at P0;have hx:wC+1=3:=by omega
     rw [S.rN hn p7 hx h29 rfl]
   have hn:=S.pM (b:=b) (by with_reducible assumption) (by with_reducible assumption) (by with_reducible assumption);have hb:=S.bz p7;have hc:=S.bN b 3 (by omega) (by omega);rw [hc] at P0;have hx:wC+1=3:=by omega
   rw [S.rN hn p7 hx h29 rfl]
 intro h30;try simp only [df] at h30
 with_reducible and_intros
 iterate 2 omega
 · intro h31;try simp only [dt] at h31
   with_reducible and_intros
   iterate 2 omega
   · intro h32;try simp only [dt] at h32
     refine⟨?_,?_⟩
     · (have hn:=S.pN (b:=b) (by with_reducible assumption) (by with_reducible assumption) (by with_reducible assumption) (by with_reducible assumption);rw [S.oT hn (by omega) (by omega)])
     (have hn:=S.pN (b:=b) (by with_reducible assumption) (by with_reducible assumption) (by with_reducible assumption) (by with_reducible assumption);rw [S.oT hn (by omega) (by omega)])
   intro h33;try simp only [df] at h33
   with_reducible and_intros
   iterate 3 omega
   · refine⟨(nat_lit 0:Nat),?_⟩;try dsimp only
     with_reducible and_intros
     omega
     · (have hn:=S.pN (b:=b) (by with_reducible assumption) (by with_reducible assumption) (by with_reducible assumption) (by with_reducible assumption);exact S.asu (by with_reducible assumption) (by with_reducible assumption))
     · (have hn:=S.pN (b:=b) (by with_reducible assumption) (by with_reducible assumption) (by with_reducible assumption) (by with_reducible assumption);exact S.OM hn (by omega) (by omega))
   intro wD ta;refine⟨?_,?_⟩
   · intro h36;try simp only [dt] at h36
     with_reducible and_intros
     iterate 4 omega
     · intro h37;try simp only [nt,df,tn] at h37
       refine⟨?_,?_⟩
       · have hn:=S.pN (b:=b) (by with_reducible assumption) (by with_reducible assumption) (by with_reducible assumption) (by with_reducible assumption);have hb:=S.bz ta;have hx:(wD:Int)+1<4:=by(have hc:=S.bN b 4 (by omega) (by omega);simp only [hc,show Int.toNat 4=4 by rfl] at *;omega)
         simp only [S.iA b 4 wD hx,S.ke b 4 wD hx] at *;rw [S.rK hn ta (by omega) (by with_reducible assumption)]
       have hn:=S.pN (b:=b) (by with_reducible assumption) (by with_reducible assumption) (by with_reducible assumption) (by with_reducible assumption);have hb:=S.bz ta;have hx:(wD:Int)+1<4:=by(have hc:=S.bN b 4 (by omega) (by omega);simp only [hc,show Int.toNat 4=4 by rfl] at *;omega)
       simp only [S.iA b 4 wD hx,S.ke b 4 wD hx] at *;rw [S.rK hn ta (by omega) (by with_reducible assumption)]
     intro h38;try simp only [nf,dt,tn] at h38
     with_reducible and_intros
     iterate 2 omega
     iterate 3
      · (have hn:=S.pN (b:=b) (by with_reducible assumption) (by with_reducible assumption) (by with_reducible assumption) (by with_reducible assumption);(have hb:=S.bz ta;(try simp only [S.bN b 4 (by omega) (by omega),show Int.toNat 4=4 by rfl] at *);simp only [show Int.toNat 6=6 by rfl,S.ah] at *;omega))
     exact Int.natCast_nonneg _;omega
     · (have hn:=S.pN (b:=b) (by with_reducible assumption) (by with_reducible assumption) (by with_reducible assumption) (by with_reducible assumption);(have hb:=S.bz ta;(try simp only [S.bN b 4 (by omega) (by omega),show Int.toNat 4=4 by rfl] at *);omega))
     refine⟨(wD+nat_lit 1),?_⟩;try dsimp only
     with_reducible and_intros
     omega
     · have hn:=S.pN (b:=b) (by with_reducible assumption) (by with_reducible assumption) (by with_reducible assumption) (by with_reducible assumption);have hb:=S.bz ta;have hx:(wD:Int)+1<4:=by(have hc:=S.bN b 4 (by omega) (by omega);simp only [hc,show Int.toNat 4=4 by rfl] at *;omega)
       rw [S.iA b 4 wD hx];exact S.OO ta (by omega)
     · have hn:=S.pN (b:=b) (by with_reducible assumption) (by with_reducible assumption) (by with_reducible assumption) (by with_reducible assumption);have hb:=S.bz ta;have hx:(wD:Int)+1<4:=by(have hc:=S.bN b 4 (by omega) (by omega);simp only [hc,show Int.toNat 4=4 by rfl] at *;omega)
       simp only [S.iA b 4 wD hx,S.ke b 4 wD hx] at *;exact S.Kq ta (by with_reducible assumption) (by omega)
     · (have hn:=S.pN (b:=b) (by with_reducible assumption) (by with_reducible assumption) (by with_reducible assumption) (by with_reducible assumption);(have hb:=S.bz ta;(try simp only [S.bN b 4 (by omega) (by omega),show Int.toNat 4=4 by rfl] at *);simp only [show Int.toNat 6=6 by rfl,S.ah] at *;omega))
   intro Ö;try simp only [df] at Ö
   with_reducible and_intros
   trivial
   · intro Wz;try simp only [nt] at Wz
     trivial
   · intro h41;try simp only [nf] at h41
     trivial
   · intro h42;try simp only [V.nL,nt,df] at h42
     refine⟨?_,?_⟩
     · have hn:=S.pN (b:=b) (by with_reducible assumption) (by with_reducible assumption) (by with_reducible assumption) (by with_reducible assumption);have hb:=S.bz ta;have hc:=S.bN b 4 (by omega) (by omega);rw [hc] at Ö;have hx:wD+1=4:=by omega
       rw [S.rM hn ta hx h42 rfl]
     have hn:=S.pN (b:=b) (by with_reducible assumption) (by with_reducible assumption) (by with_reducible assumption) (by with_reducible assumption);have hb:=S.bz ta;have hc:=S.bN b 4 (by omega) (by omega);rw [hc] at Ö;have hx:wD+1=4:=by omega
     rw [S.rM hn ta hx h42 rfl]
   intro h43;try simp only [V.fl,nf,dt] at h43
   refine⟨?_,?_⟩
   · have hn:=S.pN (b:=b) (by with_reducible assumption) (by with_reducible assumption) (by with_reducible assumption) (by with_reducible assumption);have hb:=S.bz ta;have hc:=S.bN b 4 (by omega) (by omega);rw [hc] at Ö;have hx:wD+1=4:=by omega
     rw [S.rN hn ta hx h43 rfl]
   have hn:=S.pN (b:=b) (by with_reducible assumption) (by with_reducible assumption) (by with_reducible assumption) (by with_reducible assumption);have hb:=S.bz ta;have hc:=S.bN b 4 (by omega) (by omega);rw [hc] at Ö;have hx:wD+1=4:=by omega
   rw [S.rN hn ta hx h43 rfl]
 intro h44;try simp only [df] at h44
 refine⟨?_,?_⟩
 · rw [S.uf0 (b:=b) (by with_reducible assumption) (by with_reducible assumption) (by with_reducible assumption) (by with_reducible assumption)]
 rw [S.uf0 (b:=b) (by with_reducible assumption) (by with_reducible assumption) (by with_reducible assumption) (by with_reducible assumption)]
theorem als(b:List UInt8)(hp:S.small b)(hf:Vg.Row.ok (Vg.PS.flat [.one (.slice [.int .u8])]) b):Y1 b:=by
 delta Y1 z0;have hJ:b.length≤9223372036854775807:=hf.1.1;clear hf;simp only [S.small] at hp;refine⟨?_,?_⟩
 · refine⟨((b),([])),?_⟩;try dsimp only
   with_reducible and_intros
   iterate 2 with_reducible rfl
   exact S.aj5 b
 intro x1 h2;refine⟨?_,?_⟩
 · intro h3;try simp only [dt] at h3
   with_reducible and_intros
   omega
   · (have hd:=S.Kr h2 (by with_reducible assumption);simp only [S.len,List.length_drop,lc,ln] at *;omega)
   iterate 2
    · (have hd:=S.Kr h2 (by with_reducible assumption);omega)
   refine⟨((List.drop (Int.toNat (Prod.snd (S.aL (Prod.fst x1)))) (Prod.fst x1)),(Prod.snd x1++ [Prod.fst (S.aL (Prod.fst x1))])),?_⟩;try dsimp only
   with_reducible and_intros
   iterate 2 with_reducible rfl
   exact S.Hr h2 h3
   · (have hd:=S.Kr h2 (by with_reducible assumption);simp only [S.len,List.length_drop,lc,ln] at *;omega)
 intro h4;try simp only [df] at h4
 exact(S.Me h2 (by with_reducible assumption))
theorem alu(c:Int)(hp:True)(hf:Vg.Row.ok (Vg.PS.flat [.one (.int .i64)]) c):Y2 c:=by
 delta Y2 q25 aE z0 z1;have tq: -9223372036854775808≤c∧c≤9223372036854775807:=hf.1;clear hf;refine⟨?_,?_⟩
 · refine⟨(nat_lit 0:Nat),?_⟩;try dsimp only
   refine⟨?_,?_⟩
   · omega
   simp [S.lA]
 intro x1 h2;refine⟨?_,?_⟩
 · intro h3;try simp only [dt] at h3
   with_reducible and_intros
   iterate 2 omega
   · intro h4;try simp only [V.L6,dt,tn] at h4
     exact S.OQ (x:=x1) (by omega) (S.OT h4)
   intro h5;try simp only [V.zd,df,tn] at h5
   with_reducible and_intros
   iterate 2 omega
   refine⟨(x1+nat_lit 1),?_⟩;try dsimp only
   with_reducible and_intros
   omega;exact S.OR (x:=x1) h2 (by omega) (S.Xj h5);simp only [S.ah];omega
 intro h6;try simp only [df] at h6
 exact S.OS h2 (by omega)
theorem alv(c:Int)(hp:True)(hf:Vg.Row.ok (Vg.PS.flat [.one (.int .i64)]) c):Y3 c:=by
 unfold Y3;have tq: -9223372036854775808≤c∧c≤9223372036854775807:=hf.1;clear hf;simp only [S.digit];grind
theorem alw(c:Int)(hp:True)(hf:Vg.Row.ok (Vg.PS.flat [.one (.int .i64)]) c):Y4 c:=by
 delta Y4 q26 aE z0 z1;have tq: -9223372036854775808≤c∧c≤9223372036854775807:=hf.1;clear hf;refine⟨?_,?_⟩
 · refine⟨(nat_lit 0:Nat),?_⟩;try dsimp only
   refine⟨?_,?_⟩
   · omega
   simp [S.lU]
 intro x1 h2;refine⟨?_,?_⟩
 · intro h3;try simp only [dt] at h3
   with_reducible and_intros
   iterate 2 omega
   · intro h4;try simp only [V.L6,dt,tn] at h4
     with_reducible and_intros
     iterate 2
      · have hs:=(S.Hu (c:=c) (x:=x1) h2 h3 (S.OT h4)).2;clear h4;generalize List.getD [32,32,32,32,32,80,32] (Int.toNat (x1:Int)) (0:Int)=X at *;omega
     exact(S.Hu (x:=x1) h2 (by omega) (S.OT h4)).1
   intro h5;try simp only [V.zd,df,tn] at h5
   with_reducible and_intros
   iterate 2 omega
   refine⟨(x1+nat_lit 1),?_⟩;try dsimp only
   with_reducible and_intros
   omega;exact S.UU (x:=x1) h2 (by omega) (S.Xj h5);simp only [S.ah];omega
 intro h6;try simp only [df] at h6
 exact S.UW h2 (by omega)
theorem alx(c:Int)(a:Int)(b:Int)(hp:True)(hf:Vg.Row.ok (Vg.PS.flat [.one (.int .i64), .one (.int .i64), .one (.int .i64)]) (c,a,b)):Y5 c a b:=by
 unfold Y5;have tq: -9223372036854775808≤c∧c≤9223372036854775807:=hf.1;have vD: -9223372036854775808≤a∧a≤9223372036854775807:=hf.2.1;have hJ: -9223372036854775808≤b∧b≤9223372036854775807:=hf.2.2.1;clear hf;simp only [S.bJ];grind
theorem aly(c:Int)(hp:True)(hf:Vg.Row.ok (Vg.PS.flat [.one (.int .i64)]) c):Y6 c:=by
 delta Y6 z0;have tq: -9223372036854775808≤c∧c≤9223372036854775807:=hf.1;clear hf;simp only [S.iZ];grind
theorem alz(c:Int)(hp:0≤c∧c≤1114111)(hf:Vg.Row.ok (Vg.PS.flat [.one (.int .i64)]) c):Y8 c:=by
 delta Y8 q27 Y7 q29 aE z0;have tq: -9223372036854775808≤c∧c≤9223372036854775807:=hf.1;clear hf;refine⟨?_,?_⟩
 · intro h1;try simp only [dt] at h1
   exact S.adh c (by omega) (by omega)
 intro h2;try simp only [df] at h2
 refine⟨?_,?_⟩
 · intro h3;try simp only [dt] at h3
   with_reducible and_intros
   iterate 8 omega
   exact S.adi c (by omega) (by omega)
 intro h4;try simp only [df] at h4
 refine⟨?_,?_⟩
 · intro h5;try simp only [dt] at h5
   with_reducible and_intros
   iterate 14 omega
   exact S.adj c (by omega) (by omega)
 intro h6;try simp only [df] at h6
 with_reducible and_intros
 iterate 20 omega
 exact S.adk c (by omega) (by omega) (by omega)
theorem alA(a:Int)(b:Int)(hp:True)(hf:Vg.Row.ok (Vg.PS.flat [.one (.int .i64), .one (.int .i64)]) (a,b)):Y9 a b:=by
 unfold Y9;have vD: -9223372036854775808≤a∧a≤9223372036854775807:=hf.1;have hJ: -9223372036854775808≤b∧b≤9223372036854775807:=hf.2.1;clear hf;refine⟨?_,?_⟩
 · intro h1;try simp only [dt] at h1
   simp only [S.ju];grind
 intro h2;try simp only [df] at h2
 simp only [S.ju];grind
theorem alB(c:Int)(hp:True)(hf:Vg.Row.ok (Vg.PS.flat [.one (.int .i64)]) c):Za c:=by
 unfold Za;have tq: -9223372036854775808≤c∧c≤9223372036854775807:=hf.1;clear hf;with_reducible and_intros
 trivial
 · intro h1;trivial
 · intro h2;with_reducible and_intros
   trivial
   · intro h3;trivial
   intro h4;with_reducible and_intros
   trivial
   · intro h5;trivial
   intro h6;with_reducible and_intros
   trivial
   · intro h7;trivial
   intro h8;with_reducible and_intros
   trivial
   · intro h9;trivial
   intro cY;with_reducible and_intros
   trivial
   · intro ew;trivial
   intro dG;with_reducible and_intros
   trivial
   · intro jV;trivial
   intro eU;with_reducible and_intros
   trivial
   · intro jd;trivial
   intro tA;trivial
 rw [S.Eu];grind
theorem alC(c:Int)(hp:True)(hf:Vg.Row.ok (Vg.PS.flat [.one (.int .i64)]) c):Zb c:=by
 delta Zb q30 aE;have tq: -9223372036854775808≤c∧c≤9223372036854775807:=hf.1;clear hf;with_reducible and_intros
 trivial
 · intro h1;with_reducible and_intros
   iterate 2
    · have :=S.rP (by with_reducible assumption);omega
   have :=S.rP (by with_reducible assumption);omega
 intro h2;with_reducible and_intros
 trivial
 · intro h3;trivial
 · intro h4;with_reducible and_intros
   trivial
   · intro h5;trivial
   intro h6;with_reducible and_intros
   trivial
   · intro h7;trivial
   intro h8;with_reducible and_intros
   trivial
   · intro h9;trivial
   intro cY;with_reducible and_intros
   trivial
   · intro ew;trivial
   intro dG;trivial
 · intro jV;try simp only [V.nL] at jV
   with_reducible and_intros
   iterate 2
    · have :=S.rQ (by with_reducible assumption) (by grind);omega
   have :=S.rQ (by with_reducible assumption) (by grind);omega
 intro eU;try simp only [V.fl] at eU
 exact S.rS (by with_reducible assumption) (by grind)
theorem alD(b:List UInt8)(n:Int)(hp:S.v7 b n)(hf:Vg.Row.ok (Vg.PS.flat [.one (.slice [.int .u8]), .one (.int .i64)]) (b,n)):Zc b n:=by
 delta Zc q31 aE z0 z1 ao;have hJ:b.length≤9223372036854775807:=hf.1.1;have R4: -9223372036854775808≤n∧n≤9223372036854775807:=hf.2.1;clear hf;have n3:=hp;simp only [S.v7] at n3;refine⟨?_,?_⟩
 · intro h1;try simp only [dt] at h1
   exact S.Mk (by omega)
 intro h2;try simp only [df] at h2
 with_reducible and_intros
 iterate 3 omega
 iterate 2
  · simp only [lc,ln];omega
 iterate 2
  · have h1:=S.Ew b n 0 (by omega);have h2:=S.Hw (b:=b) (n:=n);rw [h2];omega
 · refine⟨(nat_lit 1:Nat),?_⟩;try dsimp only
   with_reducible and_intros
   omega;exact S.Hw;simp only [S.nc,S.ah] at *;omega
 intro x3 h4;refine⟨?_,?_⟩
 · intro h5;try simp only [dt] at h5
   with_reducible and_intros
   iterate 2
    · have hq:=S.QC (by with_reducible assumption) hp;have :=(List.getD b (Int.toNat (x3:Int)) 0).toNat_lt;omega
   iterate 2 omega
   iterate 4
    · have hq:=S.QC (by with_reducible assumption) hp;have :=(List.getD b (Int.toNat (x3:Int)) 0).toNat_lt;omega
   iterate 2 omega
   refine⟨(x3+nat_lit 1),?_⟩;try dsimp only
   with_reducible and_intros
   omega;exact S.U0 (by with_reducible assumption)
   · simp only [S.nc,S.ah] at *;omega
   simp only [S.nc,S.ah] at *;omega
 intro h6;try simp only [df] at h6
 exact S.Xr (by with_reducible assumption) (by omega)
theorem alE(b:List UInt8)(hp:S.small b)(hf:Vg.Row.ok (Vg.PS.flat [.one (.slice [.int .u8])]) b):Zd b:=by
 delta Zd PU KQ Cs VZ aE z0 z1 ao;have hJ:b.length≤9223372036854775807:=hf.1.1;clear hf;have n3:b.length≤1099511627776:=by have :=hp;simp only [S.small] at this;omega
 refine⟨?_,?_⟩
 · refine⟨((nat_lit 0:Nat),([])),?_⟩;try dsimp only
   with_reducible and_intros
   omega;rfl;exact S.adl b;omega
 intro x1 h2;refine⟨?_,?_⟩
 · intro h3;try simp only [dt] at h3
   refine⟨?_,?_⟩
   · refine⟨(0,x1.1),?_⟩;try dsimp only
     with_reducible and_intros
     omega;iterate 2 rfl
     iterate 2 omega
   intro x4 h5;refine⟨?_,?_⟩
   · intro h6;try simp only [dt] at h6
     with_reducible and_intros
     iterate 2 omega
     · simp only [S.v7,List.length_drop];omega
     trivial
     · intro h7;with_reducible and_intros
       iterate 2
        · have :=S.OW h7;omega
       iterate 2 omega
       trivial;omega
       · simp only [S.ju];split<;>omega
       simp only [S.ju];split<;>omega
     · intro h8;trivial
     iterate 2 omega
     refine⟨(x4.1+1,x1.1),?_⟩;try dsimp only
     with_reducible and_intros
     omega;rw [S.Hx (x4:=x4) h3 h5,S.U2];rw [S.Hx (x4:=x4) h3 h5,S.U3];iterate 2 omega
     simp only [S.ah];omega
   intro h9;try simp only [df] at h9
   with_reducible and_intros
   · have hq:=S.mF h2 h3 h5 h9;simp only [lc,ln];omega
   iterate 2
    · have hq:=S.mF h2 h3 h5 h9;omega
   refine⟨((Int.toNat ((↑(Prod.fst x1):Int)+Prod.snd (S.fm (List.drop (Prod.snd x4) b) (Prod.fst x4)))),(Prod.snd x1++ [Prod.fst (S.fm (List.drop (Prod.snd x4) b) (Prod.fst x4))])),?_⟩;try dsimp only
   with_reducible and_intros
   · have hq:=S.mF h2 h3 h5 h9;omega
   rfl
   · have hq:=S.mF h2 h3 h5 h9;exact hq.2.2.1
   · have hq:=S.mF h2 h3 h5 h9;omega
   have hq:=S.mF h2 h3 h5 h9;simp only [S.ah,S.len];omega
 intro cY;try simp only [df] at cY
 have hq:=S.Me h2.1 (by rw [List.length_drop];omega);exact hq
theorem alF(u:List Int)(hp:S.GP u)(hf:Vg.Row.ok (Vg.PS.flat [.one (.slice [.int .i64])]) u):Ze u:=by
 delta Ze V0 aE jz z0 z1 ao;have atr:u.length≤9223372036854775807:=hf.1.1;clear hf;have hq:=hp.1;refine⟨?_,?_⟩
 · refine⟨((nat_lit 0:Nat),([])),?_⟩;try dsimp only
   with_reducible and_intros
   omega;rfl;exact S.QD u
 intro x1 h2;refine⟨?_,?_⟩
 · intro h3;try simp only [dt] at h3
   with_reducible and_intros
   iterate 2 omega
   iterate 2 trivial
   omega
   · have :=h2.2.2;have :=S.Hz (S.aT (List.getD u (Int.toNat (x1.1:Int)) 0));omega
   · intro h4;try simp only [dt,tn] at h4
     exact S.Ez h2 h3 h4
   intro h5;try simp only [df,tn] at h5
   with_reducible and_intros
   · have :=h2.2.2;have :=S.Hz (S.aT (List.getD u (Int.toNat (x1.1:Int)) 0));omega
   iterate 2 omega
   refine⟨((Prod.fst x1+nat_lit 1),(Prod.snd x1++S.eS (S.aT (List.getD u (Int.toNat (↑(Prod.fst x1):Int)) (0:Int))))),?_⟩;try dsimp only
   with_reducible and_intros
   omega;rfl;exact S.Ey h2 h3 h5;simp only [S.ah,S.len];omega
 intro h6;try simp only [df] at h6
 exact S.Hy h2 (by with_reducible assumption)
theorem alG(b:List UInt8)(hp:S.small b)(hf:Vg.Row.ok (Vg.PS.flat [.one (.slice [.int .u8])]) b):Zf b:=by
 delta Zf KR PV aE z0 z1 ao;have hJ:b.length≤9223372036854775807:=hf.1.1;clear hf;have n3:b.length≤1099511627776:=hp;with_reducible and_intros
 omega
 · refine⟨((nat_lit 0:Nat),(([]),([]))),?_⟩;try dsimp only
   with_reducible and_intros
   omega;iterate 2 with_reducible rfl
   exact S.aj7 _
 intro x1 h2;refine⟨?_,?_⟩
 · intro h3;try simp only [dt] at h3
   with_reducible and_intros
   iterate 3 omega
   trivial
   · intro h4;trivial
   · intro h5;trivial
   · intro h6;try simp only [V.nL] at h6
     with_reducible and_intros
     · (have hq:=S.lV h2 n3;simp only [lc,ln];omega)
     omega
     · (have hq:=S.lV h2 n3;omega)
     refine⟨((Prod.fst x1+nat_lit 1),((Prod.fst (Prod.snd x1)),(Prod.snd (Prod.snd x1)++ [List.getD (S.decode b) (Int.toNat (↑(Prod.fst x1):Int)) (0:Int)]))),?_⟩;try dsimp only
     with_reducible and_intros
     omega;iterate 2 with_reducible rfl
     exact S.U4 h2 h3 (S.Xt (by with_reducible assumption))
     · (have hq:=S.lV h2 n3;simp only [S.ah,S.len];omega)
   intro h7;try simp only [V.fl] at h7
   refine⟨?_,?_⟩
   · intro h8;try simp only [dt] at h8
     with_reducible and_intros
     · (have hq:=S.lV h2 n3;exact hq.1)
     · (have hq:=S.lV h2 n3;simp only [lc,ln];omega)
     omega
     · (have hq:=S.lV h2 n3;omega)
     refine⟨((Prod.fst x1+nat_lit 1),((Prod.fst (Prod.snd x1)++ [S.dF (Prod.snd (Prod.snd x1))]),([]))),?_⟩;try dsimp only
     with_reducible and_intros
     omega;iterate 2 with_reducible rfl
     exact S.Xs h2 h3 (S.Mm (by with_reducible assumption)) (by with_reducible assumption)
     · (have hq:=S.lV h2 n3;simp only [S.ah,S.len];omega)
   intro h9;try simp only [df] at h9
   with_reducible and_intros
   omega
   · (have hq:=S.lV h2 n3;omega)
   refine⟨((Prod.fst x1+nat_lit 1),((Prod.fst (Prod.snd x1)),(Prod.snd (Prod.snd x1)))),?_⟩;try dsimp only
   with_reducible and_intros
   omega;iterate 2 with_reducible rfl
   exact S.U5 h2 h3 (S.Mm (by with_reducible assumption)) (by with_reducible assumption)
   · (have hq:=S.lV h2 n3;simp only [S.ah,S.len];omega)
 intro cY;try simp only [df] at cY
 refine⟨?_,?_⟩
 · intro ew;try simp only [dt] at ew
   with_reducible and_intros
   · (have hq:=S.lV h2 n3;exact hq.1)
   · (have hq:=S.lV h2 n3;simp only [lc,ln];omega)
   exact S.U6 h2 (by with_reducible assumption) (by with_reducible assumption)
 intro dG;try simp only [df] at dG
 exact S.U7 h2 (by with_reducible assumption) (by with_reducible assumption)
theorem alH(s:List UInt8)(hp:S.small s)(hf:Vg.Row.ok (Vg.PS.flat [.one (.str)]) s):Zg s:=by
 delta Zg z0 z1 ao;have R3:s.length≤9223372036854775807:=hf.1;clear hf;with_reducible and_intros
 omega
 · intro h1;try simp only [dt] at h1
   with_reducible and_intros
   iterate 3 omega
 · intro h2;try simp only [df] at h2
   trivial
 exact S.Vb s
theorem alI(c:Int)(hp:True)(hf:Vg.Row.ok (Vg.PS.flat [.one (.int .i64)]) c):Zh c:=by
 unfold Zh;have tq: -9223372036854775808≤c∧c≤9223372036854775807:=hf.1;clear hf;refine⟨?_,?_⟩
 · trivial
 exact S.Vc c
theorem alJ(u:List Int)(hp:S.GP u)(hf:Vg.Row.ok (Vg.PS.flat [.one (.slice [.int .i64])]) u):Zi u:=by
 delta Zi Nj aE z0 z1 ao;have atr:u.length≤9223372036854775807:=hf.1.1;clear hf;have hq:=hp.1;refine⟨?_,?_⟩
 · refine⟨((nat_lit 0:Nat),([])),?_⟩;try dsimp only
   with_reducible and_intros
   omega;with_reducible rfl
   exact S.QD u
 intro x1 h2;refine⟨?_,?_⟩
 · intro h3;try simp only [dt] at h3
   with_reducible and_intros
   iterate 2 omega
   trivial
   · (have he:=S.pP hp h3;exact he.2.1)
   · (have he:=S.pP hp h3;exact he.2.2)
   omega
   · (have he:=S.pP hp h3;have :=h2.2.2;have :=S.EA (S.aT (List.getD u (Int.toNat (x1.1:Int)) 0));omega)
   · intro h4;try simp only [dt,tn] at h4
     have he:=(S.pP hp h3).1;simp only [tn] at *;rw [←he] at h4;exact S.Ez h2 h3 h4
   intro h5;try simp only [df,tn] at h5
   with_reducible and_intros
   · (have he:=S.pP hp h3;have :=h2.2.2;have :=S.EA (S.aT (List.getD u (Int.toNat (x1.1:Int)) 0));omega)
   iterate 2 omega
   refine⟨((Prod.fst x1+nat_lit 1),(Prod.snd x1++S.enc (S.aT (List.getD u (Int.toNat (↑(Prod.fst x1):Int)) (0:Int))))),?_⟩;try dsimp only
   with_reducible and_intros
   omega;with_reducible rfl
   · have he:=(S.pP hp h3).1;simp only [tn] at *;rw [←he] at h5 ⊢;exact S.Ey h2 h3 h5
   · (have he:=S.pP hp h3;simp only [S.ah,S.len];omega)
 intro h6;try simp only [df] at h6
 exact S.Hy h2 (by with_reducible assumption)
theorem alK(b:List UInt8)(hp:S.small b)(hf:Vg.Row.ok (Vg.PS.flat [.one (.slice [.int .u8])]) b):Zk b:=by
 delta Zk q40 q41 Zj aE z0 z1 ao;have hJ:b.length≤9223372036854775807:=hf.1.1;clear hf;have n3:b.length≤1099511627776:=hp;have We:=S.nM b;with_reducible and_intros
 omega
 · refine⟨((nat_lit 0:Nat),([])),?_⟩;try dsimp only
   with_reducible and_intros
   omega;with_reducible rfl
   exact S.adm _
 intro x1 h2;refine⟨?_,?_⟩
 · intro h3;try simp only [dt] at h3
   refine⟨?_,?_⟩
   · refine⟨((Prod.fst x1),(Prod.fst x1)),?_⟩;try dsimp only
     with_reducible and_intros
     omega;exact S.aj8 h3;omega
   intro x4 h5;with_reducible and_intros
   · intro h6;try simp only [dt] at h6
     with_reducible and_intros
     iterate 3 omega
     trivial
   · intro h7;try simp only [df] at h7
     trivial
   · intro h8;try simp only [V.L6,dt] at h8
     with_reducible and_intros
     iterate 2 omega
     refine⟨((Prod.fst x4+nat_lit 1),(Prod.fst x1)),?_⟩;try dsimp only
     with_reducible and_intros
     omega
     · rw [show x4.2=x1.1 by omega] at h5;exact S.U8 h5.1 h8.1 h8.2
     omega
     · (have :=h2.2.1;have :=h2.2.2;simp only [S.ah,S.len];omega)
   intro h9;try simp only [V.zd,df] at h9
   refine⟨?_,?_⟩
   · intro cY;try simp only [dt] at cY
     with_reducible and_intros
     iterate 2 omega
     · have hr:=h5.1.1;have hr2:=h5.1.2.1;omega
     exact S.adn n3
     · (have :=h2.2.1;have :=h2.2.2;simp only [lc,ln];omega)
     omega
     · have hr:=h5.1.1;have hr2:=h5.1.2.1;omega
     refine⟨((Prod.fst x4+nat_lit 1),(Prod.snd x1++ [S.dF (List.take (Int.toNat (↑(Prod.fst x4):Int)-Int.toNat (↑(Prod.fst x1):Int)) (List.drop (Int.toNat (↑(Prod.fst x1):Int)) (S.decode b)))])),?_⟩;try dsimp only
     with_reducible and_intros
     omega;with_reducible rfl
     · rw [show x4.2=x1.1 by omega] at h5;exact S.U9 h2 h5.1 h9 cY
     · (have :=h2.2.1;have :=h2.2.2;simp only [S.ah,S.len];omega)
   intro ew;try simp only [df] at ew
   with_reducible and_intros
   iterate 2 omega
   refine⟨((Prod.fst x4+nat_lit 1),(Prod.snd x1)),?_⟩;try dsimp only
   with_reducible and_intros
   omega;with_reducible rfl
   · rw [show x4.2=x1.1 by omega] at h5;exact S.OX h2 h3 h5.1 h9 ew
   have hr:=h5.1.1;have hr2:=h5.1.2.1;simp only [S.ah,S.len];omega
 intro dG;try simp only [df] at dG
 exact S.Va h2 (by with_reducible assumption)
theorem alL(l:List (List UInt8))(hp:True)(hf:Vg.Row.ok (Vg.PS.flat [.one (.slice [.str])]) l):Zl l:=by
 delta Zl aE z0 z1 ao;have ml:l.length≤9223372036854775807:=hf.1.1;clear hf;refine⟨?_,?_⟩
 · refine⟨(nat_lit 1:Nat),?_⟩;try dsimp only
   with_reducible and_intros
   omega
   · rw [S.Ml];rfl
   exact⟨Nat.le_refl _, .inr rfl⟩
 intro x1 h2;refine⟨?_,?_⟩
 · intro h3;try simp only [dt] at h3
   with_reducible and_intros
   iterate 3 omega
   · have :=S.uP (l:=l) x1 (by omega) (by have :=h2.2;omega);omega
   iterate 2 omega
   refine⟨(x1+nat_lit 1),?_⟩;try dsimp only
   with_reducible and_intros
   omega;exact S.Mn l x1
   · simp only [S.oU] at *;omega
   simp only [S.ah,S.len];omega
 intro h4;try simp only [df] at h4
 rw [S.OY h2 h4]
theorem alM(l:List (List UInt8))(hp:S.small l)(hf:Vg.Row.ok (Vg.TA.fG [.own 50000]) ())(hg:Vg.gK.ok [.row 9 [.str]] (l,())):Zm l:=by
 delta Zm KT aE z0 z1;have ml:l.length≤9223372036854775807:=hg.1.1;clear hf hg;have n3:l.length≤1099511627776:=hp;refine⟨?_,?_⟩
 · refine⟨((l),([])),?_⟩;try dsimp only
   with_reducible and_intros
   iterate 2 with_reducible rfl
   exact S.ado l
 intro x1 h2;refine⟨?_,?_⟩
 · intro h3;try simp only [dt] at h3
   with_reducible and_intros
   trivial;omega
   iterate 2
    · have :=S.uQ (l:=x1.1) (by omega);omega
   · have :=h2.2;simp only [lc,ln];omega
   · refine⟨((nat_lit 0:Nat),(([]),((Prod.fst x1),(List.getD (Prod.fst x1) (Int.toNat (↑(S.cE (Prod.fst x1)):Int)) [])))),?_⟩;try dsimp only
     with_reducible and_intros
     omega;with_reducible rfl
     exact S.adp _ _;iterate 2 with_reducible rfl
   intro x4 h5;refine⟨?_,?_⟩
   · intro h6;try simp only [dt] at h6
     with_reducible and_intros
     iterate 3 omega
     · intro h7;try simp only [nt,df,tn] at h7
       with_reducible and_intros
       iterate 3 omega
       · have hr:=S.Ve h5.1;have :=h2.2;simp only [lc,ln];omega
       omega
       · have :=h2.2;omega
       refine⟨((Prod.fst x4+nat_lit 1),((Prod.fst (Prod.snd x4)++ [List.getD (Prod.fst x1) (Int.toNat (↑(Prod.fst x4):Int)) []]),((Prod.fst x1),(List.getD (Prod.fst x1) (Int.toNat (↑(S.cE (Prod.fst x1)):Int)) [])))),?_⟩;try dsimp only
       with_reducible and_intros
       omega;with_reducible rfl
       exact S.rest_step (S.zm h5) h6 (by simpa using h7);iterate 2 with_reducible rfl
       have e:x1.1=x4.2.2.1:=h5.2.1;simp only [S.ah,S.len,←e];omega
     intro h8;try simp only [nf,dt,tn] at h8
     with_reducible and_intros
     omega
     · have :=h2.2;omega
     refine⟨((Prod.fst x4+nat_lit 1),((Prod.fst (Prod.snd x4)),((Prod.fst x1),(List.getD (Prod.fst x1) (Int.toNat (↑(S.cE (Prod.fst x1)):Int)) [])))),?_⟩;try dsimp only
     with_reducible and_intros
     omega;with_reducible rfl
     exact S.O1 (S.zm h5) h6 (by simpa using h8);iterate 2 with_reducible rfl
     have e:x1.1=x4.2.2.1:=h5.2.1;simp only [S.ah,S.len,←e];omega
   intro h9;try simp only [df] at h9
   refine⟨((Prod.fst (Prod.snd x4)),(Prod.snd x1++ [List.getD (Prod.fst x1) (Int.toNat (↑(S.cE (Prod.fst x1)):Int)) []])),?_⟩;try dsimp only
   with_reducible and_intros
   iterate 2 with_reducible rfl
   exact(S.EC h2 h3 (S.zm h5) h9).1;exact(S.EC h2 h3 (S.zm h5) h9).2
 intro cY;try simp only [df] at cY
 exact S.Vd h2 cY
theorem alN(b:List UInt8)(hp:S.small b)(hf:Vg.Row.ok (Vg.PS.flat [.one (.slice [.int .u8])]) b):Zn b:=by
 unfold Zn;have hJ:b.length≤9223372036854775807:=hf.1.1;clear hf;with_reducible and_intros
 exact hp
 · have hq:=S.sR b;simp only [S.small] at *;omega
 rfl
theorem alO(b:List UInt8)(t:List UInt8)(hp:S.small b)(hf:Vg.Row.ok (Vg.PS.flat [.one (.slice [.int .u8]), .one (.str)]) (b,t)):Zo b t:=by
 delta Zo aE z0 z1 ao;have hJ:b.length≤9223372036854775807:=hf.1.1;have ats:t.length≤9223372036854775807:=hf.2.1;clear hf;have hq:=S.sR b;have n3:b.length≤1099511627776:=hp;with_reducible and_intros
 omega
 · refine⟨((nat_lit 0:Nat),([])),?_⟩;try dsimp only
   with_reducible and_intros
   omega;with_reducible rfl
   exact S.Vf _ _
 intro x1 h2;refine⟨?_,?_⟩
 · intro h3;try simp only [dt] at h3
   with_reducible and_intros
   iterate 3 omega
   · intro h4;try simp only [dt,tn] at h4
     with_reducible and_intros
     · (have :=h2.2.2;simp only [lc,ln];omega)
     iterate 2 omega
     refine⟨((Prod.fst x1+nat_lit 1),(Prod.snd x1++ [(↑(Prod.fst x1):Int)])),?_⟩;try dsimp only
     with_reducible and_intros
     omega;with_reducible rfl
     exact S.Ku h2 h3 h4
     · (have :=h2.2.2;simp only [S.ah,S.len];omega)
   intro h5;try simp only [df,tn] at h5
   with_reducible and_intros
   iterate 2 omega
   refine⟨((Prod.fst x1+nat_lit 1),(Prod.snd x1)),?_⟩;try dsimp only
   with_reducible and_intros
   omega;with_reducible rfl
   exact S.Kv h2 h3 h5
   · (have :=h2.2.2;simp only [S.ah,S.len];omega)
 intro h6;try simp only [df] at h6
 exact S.Mo h2 (by with_reducible assumption)
theorem alP(s:List UInt8)(hp:True)(hf:Vg.Row.ok (Vg.PS.flat [.one (.str)]) s):Zp s:=by
 unfold Zp;have R3:s.length≤9223372036854775807:=hf.1;clear hf;simp
theorem alQ(a:List UInt8)(b:List UInt8)(hp:True)(hf:Vg.Row.ok (Vg.PS.flat [.one (.str), .one (.str)]) (a,b)):Zq a b:=by
 delta Zq z0 z1;have vD:a.length≤9223372036854775807:=hf.1;have hJ:b.length≤9223372036854775807:=hf.2.1;clear hf;with_reducible and_intros
 iterate 2 trivial
 · intro h1;refine⟨?_,?_⟩
   · intro h2;simp only [S.gn] at *;grind [S.bU,S.gP,S.iE]
   intro h3;simp only [S.gn] at *;grind [S.bU,S.gP,S.iE]
 intro h4;refine⟨?_,?_⟩
 · intro h5;simp only [S.gn] at *;grind [S.bU,S.gP,S.iE]
 intro h6;refine⟨?_,?_⟩
 · intro h7;simp only [S.gn] at *;grind [S.bU,S.gP,S.iE]
 intro h8;refine⟨?_,?_⟩
 · intro h9;try simp only [nt] at h9
   simp only [S.gn] at *;grind [S.bU,S.gP,S.iE]
 intro cY;try simp only [nf] at cY
 simp only [S.gn] at *;grind [S.bU,S.gP,S.iE]
theorem alR(a:List UInt8)(b:List UInt8)(hp:True)(hf:Vg.Row.ok (Vg.TA.fG [.jK (.str), .jK (.str), .ref 50000 0]) (a,b))(hg:Vg.gK.ok [.cells [.fn (.func 137) [] []]] ((),())):Zr a b:=by
 delta Zr z0;have vD:a.length≤9223372036854775807:=hf.1;have hJ:b.length≤9223372036854775807:=hf.2.1;clear hf hg;refine⟨?_,?_⟩
 · trivial
 exact S.adq a b
theorem alS(l:List (List UInt8))(hp:S.small l)(hf:Vg.Row.ok (Vg.TA.fG [.own 50000, .fn (.func 152) [] [.ref 50001 0]]) ())(hg:Vg.gK.ok [.row 9 [.str], .cells [.fn (.func 137) [] []]] (l,((),()))):Zs l:=by
 delta Zs aE z0 z1 ao;have ml:l.length≤9223372036854775807:=hg.1.1;clear hf hg;have n3:l.length≤1099511627776:=hp;refine⟨?_,?_⟩
 · intro h1;try simp only [dt] at h1
   exact S.O4 h1
 intro h2;try simp only [df] at h2
 refine⟨?_,?_⟩
 · refine⟨(nat_lit 1:Nat),?_⟩;try dsimp only
   refine⟨?_,?_⟩
   · omega
   exact S.akb h2
 intro x3 h4;refine⟨?_,?_⟩
 · intro h5;try simp only [dt] at h5
   with_reducible and_intros
   iterate 5 omega
   · have :=h4.1;omega
   iterate 2 omega
   trivial
   · intro h6;try simp only [dt,tn] at h6
     with_reducible and_intros
     iterate 2 omega
     · refine⟨((x3),((nat_lit 1:Nat),((l),(x3)))),?_⟩;try dsimp only
       with_reducible and_intros
       iterate 2 omega
       trivial;exact S.adr h4 h5 h6;omega
     intro x7 h8;refine⟨?_,?_⟩
     · intro h9;try simp only [dt,tn] at h9
       with_reducible and_intros
       iterate 2 omega
       · have q1:=h8.1.1;have q2:=h8.1.2.1;have q3:=h8.1.2.2.2.1;have q4:=h8.1.2.2.2.2.1;have q5:=h8.2;omega
       iterate 2 omega
       · have q1:=h8.1.1;have q2:=h8.1.2.1;have q3:=h8.1.2.2.2.1;have q4:=h8.1.2.2.2.2.1;have q5:=h8.2;omega
       omega
       · have q1:=h8.1.1;have q2:=h8.1.2.1;have q3:=h8.1.2.2.2.1;have q4:=h8.1.2.2.2.2.1;have q5:=h8.2;omega
       trivial
       · intro cY;try simp only [nt,df,tn] at cY
         with_reducible and_intros
         iterate 2 omega
         · have q1:=h8.1.1;have q2:=h8.1.2.1;have q3:=h8.1.2.2.2.1;have q4:=h8.1.2.2.2.2.1;have q5:=h8.2;omega
         omega
         iterate 2
          · have q1:=h8.1.1;have q2:=h8.1.2.1;have q3:=h8.1.2.2.2.1;have q4:=h8.1.2.2.2.2.1;have q5:=h8.2;omega
         omega;have q1:=h8.1.1;have q2:=h8.1.2.1;have q3:=h8.1.2.2.2.1;have q4:=h8.1.2.2.2.2.1;have q5:=h8.2;omega
       · intro ew;try simp only [nf,dt,tn] at ew
         trivial
       iterate 2 omega
       refine⟨((Int.toNat (bif !Decidable.decide (List.getD (Prod.fst (Prod.snd (Prod.snd x7))) (Int.toNat (↑x3:Int)+Int.toNat (↑(Prod.fst (Prod.snd x7)):Int)) []=List.getD (Prod.fst (Prod.snd (Prod.snd x7))) (Int.toNat (↑x3:Int)+Int.toNat ((↑(Prod.fst (Prod.snd x7)):Int)-(1:Int))) []) then(↑(Prod.fst x7):Int)+(1:Int) else(↑(Prod.fst x7):Int))),((Prod.fst (Prod.snd x7)+nat_lit 1),((bif !Decidable.decide (List.getD (Prod.fst (Prod.snd (Prod.snd x7))) (Int.toNat (↑x3:Int)+Int.toNat (↑(Prod.fst (Prod.snd x7)):Int)) []=List.getD (Prod.fst (Prod.snd (Prod.snd x7))) (Int.toNat (↑x3:Int)+Int.toNat ((↑(Prod.fst (Prod.snd x7)):Int)-(1:Int))) []) then List.set (Prod.fst (Prod.snd (Prod.snd x7))) (Int.toNat (↑(Prod.fst x7):Int)) (List.getD (Prod.fst (Prod.snd (Prod.snd x7))) (Int.toNat (↑x3:Int)+Int.toNat (↑(Prod.fst (Prod.snd x7)):Int)) []) else Prod.fst (Prod.snd (Prod.snd x7))),(x3)))),?_⟩;try dsimp only
       with_reducible and_intros
       · generalize (!decide (List.getD x7.2.2.1 (Int.toNat (x3:Int)+Int.toNat (x7.2.1:Int)) []=List.getD x7.2.2.1 (Int.toNat (x3:Int)+Int.toNat ((x7.2.1:Int)-1)) []))=c;cases c<;>simp only [cond_true,cond_false]<;>omega
       omega;trivial
       · have q1:=h8.1.1;have e3:x7.2.2.2=x3:=by have :=h8.2;omega
         have hi:=h8.1;rw [e3] at hi;have e1:Int.toNat (x3:Int)+Int.toNat (x7.2.1:Int)=x3+x7.2.1:=by omega
         have e2:Int.toNat (x3:Int)+Int.toNat ((x7.2.1:Int)-1)=x3+x7.2.1-1:=by omega
         rw [e1,e2];by_cases hd:List.getD x7.2.2.1 (x3+x7.2.1) []=List.getD x7.2.2.1 (x3+x7.2.1-1) []
         · rw [decide_eq_true hd];exact S.O5 hi (by omega) hd
         rw [decide_eq_false hd];exact S.Vj hi (by omega) hd
       omega;simp only [S.ah,S.len];have q2:=h8.1.2.1;omega
     intro dG;try simp only [df,tn] at dG
     with_reducible and_intros
     omega
     iterate 2
      · have q1:=h8.1.2.1;have q2:=h8.1.2.2.2.1;have q3:=h8.1.2.2.2.2.1;omega
     omega
     · have q1:=h8.1.2.1;have q2:=h8.1.2.2.2.1;have q3:=h8.1.2.2.2.2.1;simp only [List.length_append,List.length_take];omega
     have q1:=h8.1.2.1;have q2:=h8.1.2.2.2.1;have q3:=h8.1.2.2.2.2.1;have e1:Int.toNat (x7.1:Int)=x7.1:=by omega
     rw [e1,S.My (by omega)];exact S.Vk h8.1 (by have :=h8.2;omega)
   intro jV;try simp only [df,tn] at jV
   with_reducible and_intros
   iterate 2 omega
   refine⟨(x3+nat_lit 1),?_⟩;try dsimp only
   with_reducible and_intros
   omega;exact S.Vi h4 h5 jV;simp only [S.ah,S.len];omega
 intro eU;try simp only [df] at eU
 exact S.Xu h4 eU
theorem alT(l:List (List UInt8))(hp:S.small l)(hf:Vg.Row.ok (Vg.TA.fG [.jK (.slice [.str]), .fn (.func 137) [] []]) l)(hg:Vg.gK.ok [] ()):Zt l:=by
 unfold Zt;have ml:l.length≤9223372036854775807:=hf.1.1;clear hf hg;with_reducible and_intros
 iterate 2 exact hp
 exact S.Ky hp;rfl
theorem alU(b:List UInt8)(hp:S.small b)(hf:Vg.Row.ok (Vg.PS.flat [.one (.slice [.int .u8])]) b):Zu b:=by
 unfold Zu;have hJ:b.length≤9223372036854775807:=hf.1.1;clear hf;with_reducible and_intros
 exact hp;exact S.Kx hp;exact S.Xv _
theorem alV(l:List Int)(hp:True)(hf:Vg.Row.ok (Vg.PS.flat [.one (.slice [.int .i64])]) l):Zv l:=by
 delta Zv q44 aE z0 z1 ao;have ml:l.length≤9223372036854775807:=hf.1.1;clear hf;refine⟨?_,?_⟩
 · refine⟨(nat_lit 0:Nat),?_⟩;try dsimp only
   with_reducible and_intros
   omega;exact(S.Ms l).symm;exact S.adu l
 intro x1 h2;refine⟨?_,?_⟩
 · intro h3;try simp only [dt] at h3
   with_reducible and_intros
   iterate 2 omega
   · intro h4;try simp only [V.nL,dt,tn] at h4
     exact S.Vn h3 h4
   intro h5;try simp only [V.fl,df,tn] at h5
   with_reducible and_intros
   iterate 2 omega
   refine⟨(x1+nat_lit 1),?_⟩;try dsimp only
   with_reducible and_intros
   omega;rw [S.qx,tn];exact S.O7 h2 h3 h5;simp only [S.ah,S.len];omega
 intro h6;try simp only [df] at h6
 exact S.Vo h2 (by with_reducible assumption)
theorem alW(n:Int)(p:Bool)(q:Bool)(s1:Int)(s2:Int)(hp:True)(hf:Vg.Row.ok (Vg.TA.fG [.jK (.int .i64), .jK (.bool), .jK (.bool), .ref 50000 0]) (n,p,q))(hg:Vg.gK.ok [.cells [.jK (.int .i64), .jK (.int .i64)]] ((s1,s2),())):Zw n p q s1 s2:=by
 unfold Zw;have R4: -9223372036854775808≤n∧n≤9223372036854775807:=hf.1;have mR: -9223372036854775808≤s1∧s1≤9223372036854775807:=hg.1.1;have mS: -9223372036854775808≤s2∧s2≤9223372036854775807:=hg.1.2.1;clear hf hg;with_reducible and_intros
 · simp only [S.pR];grind
 iterate 2 rfl
theorem alX(a:List Int)(b:List Int)(s1:Int)(s2:Int)(hp:b.length=0)(hf:Vg.Row.ok (Vg.TA.fG [.jK (.slice [.int .i64]), .jK (.slice [.int .i64]), .fn (.func 148) [] [.ref 50000 0]]) (a,b))(hg:Vg.gK.ok [.cells [.jK (.int .i64), .jK (.int .i64)]] ((s1,s2),())):Zy a b s1 s2:=by
 delta Zy Zx zL q47 q48 q49 q50 q51 z0 z1;have hb:b= []:=List.eq_nil_of_length_eq_zero hp;subst hb;have ha:a.length≤9223372036854775807:=hf.1.1;clear hf hg;refine⟨trivial,trivial,?_,?_⟩
 · refine⟨(S.Vm a,[]),⟨?_,?_,rfl,rfl,rfl⟩,S.adv a s1 s2⟩
   · simp only [S.Vm];cases S.fN a<;>rfl
   simp [S.fO]
 rintro⟨r,out⟩ h;have hl:=h.2;cases r with
 |nil=>simp [S.fO];exact S.Vr h
 |cons n r=>
  simp [S.fO];refine⟨by omega,fun hn=>⟨?_,?_⟩,fun hn=> ?_⟩
  · simp at hl;omega
  · exact⟨r,out++ [n],⟨rfl,rfl⟩,S.Vq h hn,by simp [S.len]⟩
  exact⟨r,out,⟨rfl,rfl⟩,S.Xx h hn,by simp [S.len]⟩
theorem alY(l:List Int)(s1:Int)(s2:Int)(hp:True)(hf:Vg.Row.ok (Vg.PS.flat [.one (.slice [.int .i64]), .agg [.int .i64, .int .i64]]) (l,s1,s2)):Zz l s1 s2:=by
 unfold Zz;have ml:l.length≤9223372036854775807:=hf.1.1;have mR: -9223372036854775808≤s1∧s1≤9223372036854775807:=hf.2.1;have mS: -9223372036854775808≤s2∧s2≤9223372036854775807:=hf.2.2.1;clear hf;refine⟨?_,?_⟩
 · rfl
 rfl
theorem alZ(a:List Int)(b:List Int)(hp:True)(hf:Vg.Row.ok (Vg.PS.flat [.one (.slice [.int .i64]), .one (.slice [.int .i64])]) (a,b)):ZA a b:=by
 delta ZA aE z0 z1 ao;have vD:a.length≤9223372036854775807:=hf.1.1;have hJ:b.length≤9223372036854775807:=hf.2.1.1;clear hf;refine⟨?_,?_⟩
 · intro h1;try simp only [nt,df] at h1
   exact S.Vt h1
 intro h2;try simp only [nf,dt] at h2
 refine⟨?_,?_⟩
 · refine⟨(nat_lit 0:Nat),?_⟩;try dsimp only
   refine⟨?_,?_⟩
   · omega
   exact S.adw h2
 intro x3 h4;refine⟨?_,?_⟩
 · intro h5;try simp only [dt] at h5
   with_reducible and_intros
   iterate 4 omega
   · intro h6;try simp only [nt,df,tn] at h6
     exact S.Vs h6
   intro h7;try simp only [nf,dt,tn] at h7
   with_reducible and_intros
   iterate 2 omega
   refine⟨(x3+nat_lit 1),?_⟩;try dsimp only
   with_reducible and_intros
   omega;exact S.O8 h4 h5 h7;simp only [S.ah,S.len];omega
 intro h8;try simp only [df] at h8
 exact S.Vu h4 h8
theorem al0(d:List (List UInt8×List Int))(hp:S.jO d)(hf:Vg.Row.ok (Vg.PS.flat [.one (.slice [.str, .slice [.int .i64]])]) d):ZB d:=by
 delta ZB Fz q53 q54 aE z0 z1 ao;have Ø:d.length≤9223372036854775807:=hf.1.1;clear hf;have n3:=hp.1;refine⟨?_,?_⟩
 · refine⟨(nat_lit 0:Nat),?_⟩;try dsimp only
   refine⟨?_,?_⟩
   · omega
   exact S.asw d
 intro x1 h2;refine⟨?_,?_⟩
 · intro h3;try simp only [dt] at h3
   with_reducible and_intros
   iterate 2 omega
   · intro h4;try simp only [dt] at h4
     with_reducible and_intros
     iterate 4 omega
   · intro h5;try simp only [df] at h5
     trivial
   · intro h6;try simp only [V.L6,dt] at h6
     refine S.QF h3 ((S.EK _ _).2 (.inl ⟨by omega,?_⟩));have e:Int.toNat ((x1:Int)-1)=x1-1:=by omega
     have h62:=h6.2;rw [e] at h62;exact h62
   intro h7;try simp only [V.zd,df] at h7
   with_reducible and_intros
   · intro h8;try simp only [dt,tn] at h8
     trivial
   · intro h9;try simp only [df,tn] at h9
     with_reducible and_intros
     trivial
     · intro cY;try simp only [nt] at cY
       trivial
     intro ew;try simp only [nf] at ew
     exact S.Vv hp
   · intro dG;try simp only [V.nL,dt,tn,nt] at dG
     exact S.QF h3 ((S.EK _ _).2 (.inr (dG.imp (fun q=>by have :((S.iN d x1).length:Int)=0:=q;omega) id)))
   intro jV;try simp only [V.fl,df,tn,nf] at jV
   with_reducible and_intros
   iterate 2 omega
   refine⟨(x1+nat_lit 1),?_⟩;try dsimp only
   with_reducible and_intros
   omega
   · refine S.XA h2 h3 ((S.rU _ _).2 ⟨?_,?_,jV.2.1,jV.2.2⟩);rotate_left
     · have :=jV.1;simp only [S.iN];omega
     rcases h7 with h7|h7
     · left;omega
     right;have e:Int.toNat ((x1:Int)-1)=x1-1:=by omega
     rw [e] at h7;exact h7
   simp only [S.ah,S.len];omega
 intro eU;try simp only [df] at eU
 exact S.adz h2 (by with_reducible assumption)
theorem al1(docs:List (List UInt8))(s1:Int)(s2:Int)(hp:True)(hf:Vg.Row.ok (Vg.PS.flat [.one (.slice [.slice [.int .u8]]), .agg [.int .i64, .int .i64]]) (docs,s1,s2)):ZC docs s1 s2:=by
 delta ZC aE z0 z1 ao;have vE:docs.length≤9223372036854775807:=hf.1.1;have mR: -9223372036854775808≤s1∧s1≤9223372036854775807:=hf.2.1;have mS: -9223372036854775808≤s2∧s2≤9223372036854775807:=hf.2.2.1;clear hf;refine⟨?_,?_⟩
 · refine⟨(nat_lit 0:Nat),?_⟩;try dsimp only
   refine⟨?_,?_⟩
   · omega
   exact S.QG docs
 intro x1 h2;refine⟨?_,?_⟩
 · intro h3;try simp only [dt] at h3
   with_reducible and_intros
   iterate 2 omega
   · intro h4;try simp only [dt,tn] at h4
     exact S.HE h3 h4
   intro h5;try simp only [df,tn] at h5
   with_reducible and_intros
   iterate 2 omega
   refine⟨(x1+nat_lit 1),?_⟩;try dsimp only
   with_reducible and_intros
   omega;exact S.EM h2 h3 (by omega);simp only [S.ah,S.len];omega
 intro h6;try simp only [df] at h6
 have q:=S.HF h2 h6;simp only [S.cF,q,Bool.true_and,S.rL]
theorem al2(b:List UInt8)(t:List UInt8)(hp:S.small b)(hf:Vg.Row.ok (Vg.PS.flat [.one (.slice [.int .u8]), .one (.str)]) (b,t)):ZD b t:=by
 delta ZD z0 ao;have hJ:b.length≤9223372036854775807:=hf.1.1;have ats:t.length≤9223372036854775807:=hf.2.1;clear hf;refine⟨?_,?_⟩
 · exact hp
 rfl
theorem al3(a:List (List UInt8×List Int))(b:List (List UInt8×List Int))(hp:True)(hf:Vg.Row.ok (Vg.PS.flat [.one (.slice [.str, .slice [.int .i64]]), .one (.slice [.str, .slice [.int .i64]])]) (a,b)):ZE a b:=by
 delta ZE q55 aE z0 z1 ao;have vD:a.length≤9223372036854775807:=hf.1.1;have hJ:b.length≤9223372036854775807:=hf.2.1.1;clear hf;refine⟨?_,?_⟩
 · intro h1;try simp only [nt,df] at h1
   exact S.Pa h1
 intro h2;try simp only [nf,dt] at h2
 refine⟨?_,?_⟩
 · refine⟨(nat_lit 0:Nat),?_⟩;try dsimp only
   refine⟨?_,?_⟩
   · omega
   exact S.XC h2
 intro x3 h4;refine⟨?_,?_⟩
 · intro h5;try simp only [dt] at h5
   with_reducible and_intros
   iterate 4 omega
   · intro h6;try simp only [nt,df,tn] at h6
     trivial
   · intro h7;try simp only [nf,dt,tn] at h7
     with_reducible and_intros
     iterate 4 omega
     trivial
   · intro h8;try simp only [V.nL,nt,df,tn] at h8
     refine S.O9 (k:=x3) fun e=> ?_;rw [e] at h8;rcases h8 with q|q
     · exact q rfl
     simp [S.mH] at q
   intro h9;try simp only [V.fl,nf,dt,tn] at h9
   with_reducible and_intros
   iterate 2 omega
   refine⟨(x3+nat_lit 1),?_⟩;try dsimp only
   with_reducible and_intros
   omega;exact S.Mt h4 h5 (Prod.ext h9.1 (by simpa [S.mH] using h9.2));simp only [S.ah,S.len];omega
 intro cY;try simp only [df] at cY
 exact S.Pb h4 cY
theorem al4(a:List (List UInt8))(b:List (List UInt8))(hp:True)(hf:Vg.Row.ok (Vg.PS.flat [.one (.slice [.slice [.int .u8]]), .one (.slice [.slice [.int .u8]])]) (a,b)):ZF a b:=by
 delta ZF aE z0 z1 ao;have vD:a.length≤9223372036854775807:=hf.1.1;have hJ:b.length≤9223372036854775807:=hf.2.1.1;clear hf;refine⟨?_,?_⟩
 · intro h1;try simp only [nt,df] at h1
   exact S.Pd h1
 intro h2;try simp only [nf,dt] at h2
 refine⟨?_,?_⟩
 · refine⟨(nat_lit 0:Nat),?_⟩;try dsimp only
   refine⟨?_,?_⟩
   · omega
   exact S.XD h2
 intro x3 h4;refine⟨?_,?_⟩
 · intro h5;try simp only [dt] at h5
   with_reducible and_intros
   iterate 4 omega
   · intro h6;try simp only [nt,df,tn] at h6
     exact S.Pc h6
   intro h7;try simp only [nf,dt,tn] at h7
   with_reducible and_intros
   iterate 2 omega
   refine⟨(x3+nat_lit 1),?_⟩;try dsimp only
   with_reducible and_intros
   omega;exact S.Mu h4 h5 h7;simp only [S.ah,S.len];omega
 intro h8;try simp only [df] at h8
 exact S.Pe h4 h8
theorem al5(docs:List (List UInt8))(s1:Int)(s2:Int)(hp:S.eG docs s1 s2)(hf:Vg.Row.ok (Vg.PS.flat [.one (.slice [.slice [.int .u8]]), .agg [.int .i64, .int .i64]]) (docs,s1,s2)):ZG docs s1 s2:=by
 delta ZG zM aE z0 z1 ao;have vE:docs.length≤9223372036854775807:=hf.1.1;have mR: -9223372036854775808≤s1∧s1≤9223372036854775807:=hf.2.1;have mS: -9223372036854775808≤s2∧s2≤9223372036854775807:=hf.2.2.1;clear hf;have p1:=hp.1;have p2:=hp.2.1;have p3:=hp.2.2.1;have p4:=hp.2.2.2.1;refine⟨?_,?_⟩
 · refine⟨0,?_⟩;try dsimp only
   with_reducible and_intros
   omega;exact S.XE docs s1;simp only [S.eh];omega
 intro x1 h2;refine⟨?_,?_⟩
 · intro h3;try simp only [dt] at h3
   with_reducible and_intros
   iterate 2 omega
   exact S.EN hp _
   · have q1:=S.pU hp x1;have q2:=S.uW hp (Int.toNat (s1+(x1:Int)));simp only [S.eh] at h2;omega
   iterate 2 omega
   refine⟨x1+1,?_⟩;try dsimp only
   with_reducible and_intros
   omega;exact S.qy docs s1 x1
   · simp only [S.eh];omega
   simp only [S.ah];omega
 intro h4;try simp only [df] at h4
 with_reducible and_intros
 · have q1:=S.pU hp x1;simp only [S.eh] at h2;simp only [S.small];omega
 · refine⟨(nat_lit 0:Nat),?_⟩;try dsimp only
   with_reducible and_intros
   omega;rfl;exact Nat.zero_le _
 intro x5 h6;refine⟨?_,?_⟩
 · intro h7;try simp only [dt] at h7
   with_reducible and_intros
   iterate 3 omega
   · refine⟨(0,List.getD (S.sorted (S.fo docs s1 x1)) (Int.toNat (x5:Int)) []),?_⟩;try dsimp only
     with_reducible and_intros
     omega;rfl;exact S.Vw _ _ _
     · simp only [S.eh];omega
     rfl
   intro x8 h9;refine⟨?_,?_⟩
   · intro cY;try simp only [dt] at cY
     with_reducible and_intros
     iterate 5 omega
     exact S.EN hp _
     · intro ew;with_reducible and_intros
       · have q:=S.BI docs s1 x8.2 x8.1;have q2:=S.EO h9.1 p2;simp only [lc,ln];omega
       iterate 2 omega
       refine⟨(x8.1+1,x8.2),?_⟩;try dsimp only
       with_reducible and_intros
       omega;rfl
       · rw [h9.2] at ew;exact S.uX ew
       · simp only [S.eh];omega
       exact h9.2;simp only [S.ah];omega
     intro dG;with_reducible and_intros
     iterate 2 omega
     refine⟨(x8.1+1,x8.2),?_⟩;try dsimp only
     with_reducible and_intros
     omega;rfl
     · rw [h9.2] at dG;exact S.xP dG
     · simp only [S.eh];omega
     exact h9.2;simp only [S.ah];omega
   intro jV;try simp only [df] at jV
   with_reducible and_intros
   · have q:=S.Mx docs s1 s2 x5;have q1:=S.pU hp x1;have q2:=S.mJ (S.fo docs s1 x1);have q3:=S.EO h2 p2;simp only [lc,ln];omega
   omega
   · have q1:=S.pU hp x1;have q2:=S.mJ (S.fo docs s1 x1);have q3:=S.EO h2 p2;omega
   refine⟨(x5+nat_lit 1),?_⟩;try dsimp only
   with_reducible and_intros
   omega
   · have e:=S.rV (docs:=docs) h2 h4;have h92:=h9.2;rw [e.1] at h7 h92;exact S.zq (by omega) (S.rV (docs:=docs) h9.1 jV).2 h92
   · have e:=S.rV (docs:=docs) h2 h4;rw [e.1] at h7;simp only [S.eb,S.ah,S.len];omega
   have e:=S.rV (docs:=docs) h2 h4;rw [e.1] at h7;simp only [S.eb,S.ah,S.len];omega
 intro eU;try simp only [df] at eU
 have e:=S.rV (docs:=docs) h2 h4;rw [e.1] at eU;exact S.BJ (by omega)
theorem al6(s1:Int)(s2:Int)(hp:True)(hf:Vg.Row.ok (Vg.PS.flat [.agg [.int .i64, .int .i64]]) (s1,s2)):ZH s1 s2:=by
 delta ZH z0;have mR: -9223372036854775808≤s1∧s1≤9223372036854775807:=hf.1;have mS: -9223372036854775808≤s2∧s2≤9223372036854775807:=hf.2.1;clear hf;simp only [S.jb,S.rL]
theorem al7(s1:Int)(s2:Int)(s3:List (List UInt8×List Int))(hp:S.jO s3)(hf:Vg.Row.ok (Vg.PS.flat [.agg [.int .i64, .int .i64, .slice [.str, .slice [.int .i64]]]]) (s1,s2,s3)):ZI s1 s2 s3:=by
 delta ZI q57 aE z0 z1 ao;have mR: -9223372036854775808≤s1∧s1≤9223372036854775807:=hf.1;have mS: -9223372036854775808≤s2∧s2≤9223372036854775807:=hf.2.1;have P1:s3.length≤9223372036854775807:=hf.2.2.1.1;clear hf;with_reducible and_intros
 trivial
 · intro h1;try simp only [nt] at h1
   trivial
 · intro h2;try simp only [nf] at h2
   omega
 · intro h3;try simp only [V.nL,nt] at h3
   exact S.adB h3
 intro h4;try simp only [V.fl,nf] at h4
 refine⟨?_,?_⟩
 · refine⟨(nat_lit 0:Nat),?_⟩;try dsimp only
   refine⟨?_,?_⟩
   · omega
   exact S.akf h4.1 h4.2
 intro x5 h6;refine⟨?_,?_⟩
 · intro h7;try simp only [dt] at h7
   with_reducible and_intros
   iterate 2 omega
   trivial
   · intro h8;try simp only [nt,df,tn] at h8
     exact S.XH h7 (decide_eq_false h8)
   intro h9;try simp only [nf,dt,tn] at h9
   with_reducible and_intros
   iterate 2 omega
   refine⟨(x5+nat_lit 1),?_⟩;try dsimp only
   with_reducible and_intros
   omega;exact S.Vz h6 h7 (decide_eq_true h9);simp only [S.ah,S.len];omega
 intro cY;try simp only [df] at cY
 exact S.XI h6 cY
theorem al8(docs:List (List UInt8))(s1:Int)(s2:Int)(hp:True)(hf:Vg.Row.ok (Vg.PS.flat [.one (.slice [.slice [.int .u8]]), .agg [.int .i64, .int .i64]]) (docs,s1,s2)):ZJ docs s1 s2:=by
 delta ZJ z0 z1;have vE:docs.length≤9223372036854775807:=hf.1.1;have mR: -9223372036854775808≤s1∧s1≤9223372036854775807:=hf.2.1;have mS: -9223372036854775808≤s2∧s2≤9223372036854775807:=hf.2.2.1;clear hf;with_reducible and_intros
 trivial
 · intro h1;try simp only [nt,df] at h1
   with_reducible and_intros
   iterate 3 (rw [(S.Mz (by simpa using h1)).1])
   have q:=S.Mz (docs:=docs) (a:=s1) (b:=s2) (by simpa using h1);rw [q.1,q.2]
 intro h2;try simp only [nf,dt] at h2
 refine⟨?_,?_⟩
 · intro h3;try simp only [dt] at h3
   with_reducible and_intros
   iterate 3 (rw [S.MA h3])
   rw [S.MA h3]
 intro h4;try simp only [df] at h4
 with_reducible and_intros
 iterate 3 (rw [S.MB (by simpa using h2) h4])
 rw [S.MB (by simpa using h2) h4]
theorem al9(docs:List (List UInt8))(s1:Int)(s2:Int)(hp:True)(hf:Vg.Row.ok (Vg.PS.flat [.one (.slice [.slice [.int .u8]]), .agg [.int .i64, .int .i64]]) (docs,s1,s2)):ZK docs s1 s2:=by
 unfold ZK;have vE:docs.length≤9223372036854775807:=hf.1.1;have mR: -9223372036854775808≤s1∧s1≤9223372036854775807:=hf.2.1;have mS: -9223372036854775808≤s2∧s2≤9223372036854775807:=hf.2.2.1;clear hf;refine⟨?_,?_⟩
 · trivial
 simp only [S.cM,S.rL]
theorem ama(docs:List (List UInt8))(s1:Int)(s2:Int)(hp:S.eG docs s1 s2)(hf:Vg.Row.ok (Vg.PS.flat [.one (.slice [.slice [.int .u8]]), .agg [.int .i64, .int .i64]]) (docs,s1,s2)):ZL docs s1 s2:=by
 unfold ZL;have vE:docs.length≤9223372036854775807:=hf.1.1;have mR: -9223372036854775808≤s1∧s1≤9223372036854775807:=hf.2.1;have mS: -9223372036854775808≤s2∧s2≤9223372036854775807:=hf.2.2.1;clear hf;with_reducible and_intros
 exact hp;iterate 3 rfl
theorem amb(a1:Int)(a2:Int)(a3:List (List UInt8×List Int))(b1:Int)(b2:Int)(b3:List (List UInt8×List Int))(hp:True)(hf:Vg.Row.ok (Vg.PS.flat [.agg [.int .i64, .int .i64, .slice [.str, .slice [.int .i64]]], .agg [.int .i64, .int .i64, .slice [.str, .slice [.int .i64]]]]) (a1,a2,a3,b1,b2,b3)):ZM a1 a2 a3 b1 b2 b3:=by
 unfold ZM;have Ù: -9223372036854775808≤a1∧a1≤9223372036854775807:=hf.1;have Ú: -9223372036854775808≤a2∧a2≤9223372036854775807:=hf.2.1;have av5:a3.length≤9223372036854775807:=hf.2.2.1.1;have Û: -9223372036854775808≤b1∧b1≤9223372036854775807:=hf.2.2.2.1;have Ü: -9223372036854775808≤b2∧b2≤9223372036854775807:=hf.2.2.2.2.1;have av6:b3.length≤9223372036854775807:=hf.2.2.2.2.2.1.1;clear hf;with_reducible and_intros
 · intro h1;trivial
 · intro h2;trivial
 simp only [S.XJ,S.lY,S.fx,S.rL,Bool.and_assoc]
theorem amc(d:List (List UInt8×List Int))(hp:True)(hf:Vg.Row.ok (Vg.PS.flat [.one (.slice [.str, .slice [.int .i64]])]) d):ZN d:=by
 delta ZN q58 aE z0 z1 ao;have Ø:d.length≤9223372036854775807:=hf.1.1;clear hf;refine⟨?_,?_⟩
 · refine⟨(nat_lit 0:Nat),?_⟩;try dsimp only
   refine⟨?_,?_⟩
   · omega
   exact S.asx d
 intro x1 h2;refine⟨?_,?_⟩
 · intro h3;try simp only [dt] at h3
   with_reducible and_intros
   iterate 2 omega
   · intro h4;try simp only [dt,tn] at h4
     trivial
   · intro h5;try simp only [df,tn] at h5
     refine⟨?_,?_⟩
     · omega
     omega
   · intro h6;try simp only [V.nL,dt,tn] at h6
     refine S.adC h3 ?_;simp only [S.qA,Bool.or_eq_true,dt];exact h6
   intro h7;try simp only [V.fl,df,tn] at h7
   with_reducible and_intros
   iterate 2 omega
   refine⟨(x1+nat_lit 1),?_⟩;try dsimp only
   with_reducible and_intros
   omega
   · refine S.XL h2 h3 ?_;simp only [S.qA,Bool.or_eq_false_iff,df];exact h7
   simp only [S.ah,S.len];omega
 intro h8;try simp only [df] at h8
 exact S.adD h2 h8
theorem amd(docs:List (List UInt8))(hp:True)(hf:Vg.Row.ok (Vg.PS.flat [.one (.slice [.slice [.int .u8]])]) docs):ZO docs:=by
 delta ZO aE z0 z1 ao;have vE:docs.length≤9223372036854775807:=hf.1.1;clear hf;refine⟨?_,?_⟩
 · refine⟨(nat_lit 0:Nat),?_⟩;try dsimp only
   refine⟨?_,?_⟩
   · omega
   exact S.asy docs
 intro x1 h2;refine⟨?_,?_⟩
 · intro h3;try simp only [dt] at h3
   with_reducible and_intros
   iterate 2 omega
   · intro h4;try simp only [dt,tn] at h4
     exact S.adE h3 h4
   intro h5;try simp only [df,tn] at h5
   with_reducible and_intros
   iterate 2 omega
   refine⟨(x1+nat_lit 1),?_⟩;try dsimp only
   with_reducible and_intros
   omega;exact S.XM h2 h3 h5;simp only [S.ah,S.len];omega
 intro h6;try simp only [df] at h6
 exact S.adF h2 h6
theorem ame(s1:Int)(s2:Int)(s3:List (List UInt8×List Int))(hp:True)(hf:Vg.Row.ok (Vg.PS.flat [.agg [.int .i64, .int .i64, .slice [.str, .slice [.int .i64]]]]) (s1,s2,s3)):ZP s1 s2 s3:=by
 unfold ZP;have mR: -9223372036854775808≤s1∧s1≤9223372036854775807:=hf.1;have mS: -9223372036854775808≤s2∧s2≤9223372036854775807:=hf.2.1;have P1:s3.length≤9223372036854775807:=hf.2.2.1.1;clear hf;with_reducible and_intros
 iterate 3 rfl
theorem amf(l:List (Int×Int×List (List UInt8×List Int)))(hp:S.nR l)(hf:Vg.Row.ok (Vg.PS.flat [.one (.slice [.int .i64, .int .i64, .slice [.str, .slice [.int .i64]]])]) l):ZR l:=by
 delta ZR ZQ FA PW V1 vz Ct GU aE Cr z0 z1 ao;have ml:l.length≤9223372036854775807:=hf.1.1;clear hf;with_reducible and_intros
 iterate 2 omega
 · have :=hp.1;omega
 · refine⟨0,?_⟩;try dsimp only
   with_reducible and_intros
   rfl
   · simp only [S.aC];exact S.adL l
   omega
 intro x1 h2;refine⟨?_,?_⟩
 · refine⟨(0,x1),?_⟩;try dsimp only
   with_reducible and_intros
   omega;rfl;iterate 2 omega
   rfl
 intro x3 h4;refine⟨?_,?_⟩
 · intro h5;try simp only [dt] at h5
   with_reducible and_intros
   iterate 3 omega
   iterate 2
    · rw [S.ga];omega
   · intro h6;try simp only [dt,tn] at h6
     with_reducible and_intros
     iterate 2 omega
     refine⟨(x3.1+1,x3.2),?_⟩;try dsimp only
     with_reducible and_intros
     omega
     · rw [←h4.2];exact S.X4 h6
     iterate 2 omega
     exact h4.2;simp only [S.ah,S.len];omega
   intro h7;try simp only [df,tn] at h7
   with_reducible and_intros
   · intro h8;try simp only [dt] at h8
     trivial
   · intro h9;try simp only [df] at h9
     with_reducible and_intros
     omega
     iterate 2
      · rw [S.ga];omega
     exact S.X3 l _ _;exact S.asE h5 h7;omega
     · rw [←h4.2] at h9 ⊢;first|exact(S.fQ h4.1.1 h9).1|exact(S.fQ h4.1.1 h9).2.1|exact(S.fQ h4.1.1 h9).2.2.1|exact(S.fQ h4.1.1 h9).2.2.2
     omega
     iterate 2
      · rw [←h4.2] at h9 ⊢;first|exact(S.fQ h4.1.1 h9).1|exact(S.fQ h4.1.1 h9).2.1|exact(S.fQ h4.1.1 h9).2.2.1|exact(S.fQ h4.1.1 h9).2.2.2
     exact S.X3 l _ _;rw [←h4.2] at h9 ⊢;first|exact(S.fQ h4.1.1 h9).1|exact(S.fQ h4.1.1 h9).2.1|exact(S.fQ h4.1.1 h9).2.2.1|exact(S.fQ h4.1.1 h9).2.2.2
   iterate 2 omega
   refine⟨(x3.1+1,x3.2),?_⟩;try dsimp only
   with_reducible and_intros
   omega
   · rw [←h4.2];exact S.X5 h7
   iterate 2 omega
   exact h4.2;simp only [S.ah,S.len];omega
 intro cY;try simp only [df] at cY
 refine⟨?_,?_⟩
 · intro ew;try simp only [dt] at ew
   rw [←h4.2] at ew;exact S.akn hp h4.1.1 cY ew
 intro dG;try simp only [df] at dG
 with_reducible and_intros
 omega
 · rw [←h4.2] at dG ⊢;first|exact(S.fQ h4.1.1 dG).1|exact(S.fQ h4.1.1 dG).2.1|exact(S.fQ h4.1.1 dG).2.2.1|exact(S.fQ h4.1.1 dG).2.2.2
 omega
 iterate 2
  · rw [←h4.2] at dG ⊢;first|exact(S.fQ h4.1.1 dG).1|exact(S.fQ h4.1.1 dG).2.1|exact(S.fQ h4.1.1 dG).2.2.1|exact(S.fQ h4.1.1 dG).2.2.2
 exact S.X3 l _ _
 · rw [←h4.2] at dG ⊢;first|exact(S.fQ h4.1.1 dG).1|exact(S.fQ h4.1.1 dG).2.1|exact(S.fQ h4.1.1 dG).2.2.1|exact(S.fQ h4.1.1 dG).2.2.2
 · refine⟨(0,x1),?_⟩;try dsimp only
   with_reducible and_intros
   omega;exact S.akl l x1
   · rw [←h4.2] at dG ⊢;exact(S.QL hp h4.1.1 cY dG).2
   rfl;omega
   · rw [←h4.2] at dG;exact(S.QL hp h4.1.1 cY dG).1
   rfl
 intro Ý eU;refine⟨?_,?_⟩
 · intro jd;try simp only [dt] at jd
   with_reducible and_intros
   iterate 3 omega
   exact(S.rk jd).1;exact(S.rk jd).2
   · intro tA;try simp only [dt,tn] at tA
     with_reducible and_intros
     omega;exact(S.rk jd).1;exact(S.rk jd).2;exact(S.X6 jd).1;exact tA
   · intro zR;try simp only [df,tn] at zR
     trivial
   · intro s9;try simp only [V.L6,dt,tn] at s9
     with_reducible and_intros
     omega;exact(S.rk jd).1;exact(S.rk jd).2;exact(S.X6 jd).1;exact s9.1
     · have q:=S.adK hp (k:=Ý.2) jd;exact Nat.le_trans (Nat.add_le_add q.1 q.2) (by decide)
     omega;exact(S.rk jd).1;exact(S.rk jd).2;exact(S.ah6 hp jd).1;exact(S.ah6 hp jd).2;omega;exact(S.rk jd).1;exact(S.rk jd).2;iterate 2 omega
     refine⟨(Ý.1+1,Ý.2),?_⟩;try dsimp only
     with_reducible and_intros
     omega;exact(S.X7 hp eU.1.2 jd s9.1 s9.2).1;rfl;exact(S.X7 hp eU.1.2 jd s9.1 s9.2).2;iterate 2 omega
     exact eU.2;simp only [S.ah,S.len];omega
   intro zS;try simp only [V.zd,df,tn] at zS
   with_reducible and_intros
   iterate 2 omega
   refine⟨(Ý.1+1,Ý.2),?_⟩;try dsimp only
   with_reducible and_intros
   omega;exact(S.QM hp eU.1.2 jd (fun q=>zS.elim (fun z=>z q.1) (fun z=>z q.2))).1;rfl;exact(S.QM hp eU.1.2 jd (fun q=>zS.elim (fun z=>z q.1) (fun z=>z q.2))).2;iterate 2 omega
   exact eU.2;simp only [S.ah,S.len];omega
 intro GY;try simp only [df] at GY
 refine⟨?_,?_⟩
 · have :=S.asF hp h2;simp only [List.length_singleton];omega
 refine⟨(x1+1),?_⟩;try dsimp only
 with_reducible and_intros
 · have e:=S.KG eU.2 h2 (Nat.le_of_lt eU.1.2);subst e;exact(S.X8 eU.1.1 GY eU.1.2).1
 · have e:=S.KG eU.2 h2 (Nat.le_of_lt eU.1.2);subst e;exact(S.X8 eU.1.1 GY eU.1.2).2
 · have e:=S.KG eU.2 h2 (Nat.le_of_lt eU.1.2);have e2:=eU.1.2;first|omega|(simp only [S.ah];omega)
 have e:=S.KG eU.2 h2 (Nat.le_of_lt eU.1.2);have e2:=eU.1.2;first|omega|(simp only [S.ah];omega)
theorem amg(l:List (Int×Int×List (List UInt8×List Int)))(hp:S.rX l)(hf:Vg.Row.ok (Vg.PS.flat [.one (.slice [.int .i64, .int .i64, .slice [.str, .slice [.int .i64]]])]) l):ZS l:=by
 delta ZS Nk q67 aE z0 z1 ao;have ml:l.length≤9223372036854775807:=hf.1.1;clear hf;refine⟨?_,?_⟩
 · intro h1;try simp only [dt] at h1
   with_reducible and_intros
   iterate 3 (rw [S.X9 h1])
   rw [S.X9 h1]
 intro h2;try simp only [df] at h2
 refine⟨?_,?_⟩
 · refine⟨(nat_lit 0:Nat),?_⟩;try dsimp only
   refine⟨?_,?_⟩
   · omega
   exact S.adM hp h2
 intro x3 h4;refine⟨?_,?_⟩
 · intro h5;try simp only [dt] at h5
   with_reducible and_intros
   iterate 2 omega
   exact hp.2 _ (S.gB (show x3<l.length by omega))
   · intro h6;try simp only [nt] at h6
     with_reducible and_intros
     iterate 3 (rw [S.Ya h5 h6])
     rw [S.Ya h5 h6]
   intro h7;try simp only [nf] at h7
   with_reducible and_intros
   iterate 2 omega
   refine⟨(x3+nat_lit 1),?_⟩;try dsimp only
   with_reducible and_intros
   omega;exact S.adN h4 h5 h7;simp only [S.ah,S.len];omega
 intro h8;try simp only [df] at h8
 refine⟨?_,?_⟩
 · refine⟨0,?_⟩;try dsimp only
   refine⟨?_,?_⟩
   · omega
   exact S.adO h4 h8
 intro x9 cY;refine⟨?_,?_⟩
 · intro ew;try simp only [dt] at ew
   with_reducible and_intros
   iterate 6 omega
   · intro dG;try simp only [nt,df] at dG
     with_reducible and_intros
     iterate 3 (rw [S.Yb cY ew dG])
     rw [S.Yb cY ew dG]
   intro jV;try simp only [nf,dt] at jV
   with_reducible and_intros
   iterate 2 omega
   refine⟨(x9+1),?_⟩;try dsimp only
   with_reducible and_intros
   omega;exact S.adP cY ew jV;simp only [S.ah,S.len];omega
 intro eU;try simp only [df] at eU
 with_reducible and_intros
 iterate 6 omega
 exact S.akp cY
 iterate 2
  · rw [S.Py cY eU];rfl
 rw [S.Py cY eU];rw [S.Py cY eU]
theorem amh(s1:Int)(s2:Int)(hp:True)(hf:Vg.Row.ok (Vg.PS.flat [.agg [.int .i64, .int .i64]]) (s1,s2)):ZT s1 s2:=by
 delta ZT q68 aE z0 z1;have mR: -9223372036854775808≤s1∧s1≤9223372036854775807:=hf.1;have mS: -9223372036854775808≤s2∧s2≤9223372036854775807:=hf.2.1;clear hf;refine⟨?_,?_⟩
 · intro h1;try simp only [V.nL,dt] at h1
   exact S.X0 h1
 intro h2;try simp only [V.fl,df] at h2
 with_reducible and_intros
 iterate 2 omega
 · refine⟨(Int.toNat (s2-s1)),?_⟩;try dsimp only
   with_reducible and_intros
   omega
   · rw [S.MN (by omega)];omega
   exact S.adI h2
 intro x3 h4;refine⟨?_,?_⟩
 · intro h5;try simp only [dt] at h5
   with_reducible and_intros
   iterate 2
    · have q1:=S.Po (s2-s1) (by omega);have q2:=S.adJ (n:=(x3:Int)) h5;have q3:=S.XS (s2-s1);have q4:=S.X1 h4;have q5:=S.Po (x3:Int) (by omega);omega
   iterate 2 omega
   refine⟨(Int.toNat ((↑x3:Int)/(2:Int))),?_⟩;try dsimp only
   with_reducible and_intros
   omega;exact S.X2 h5;exact S.Px h4 h5;omega
 intro h6;try simp only [df] at h6
 exact S.VH h2 h4 h6
theorem ami(l:List (Int×Int))(hp:True)(hf:Vg.Row.ok (Vg.PS.flat [.one (.slice [.int .i64, .int .i64])]) l):ZW l:=by
 delta ZW ZU ZV aE z0 z1 ao;have ml:l.length≤9223372036854775807:=hf.1.1;clear hf;with_reducible and_intros
 iterate 2 omega
 · refine⟨0,?_⟩;try dsimp only
   refine⟨?_,?_⟩
   · simp only [S.ah,S.len] at *;omega
   exact S.n_0 l
 intro x1 h2;refine⟨?_,?_⟩
 · intro h3;try simp only [dt] at h3
   with_reducible and_intros
   omega
   · simp only [S.ah,S.len] at *;omega
   trivial;omega
   · simp only [S.ah,S.len] at *;omega
   omega
   · simp only [S.ah,S.len] at *;omega
   trivial
   · intro h4;try simp only [dt] at h4
     refine⟨?_,?_⟩
     · rw [S.Yc h2 h3 h4]
     rw [S.Yc h2 h3 h4]
   intro h5;try simp only [df] at h5
   with_reducible and_intros
   omega
   · simp only [S.ah,S.len] at *;omega
   refine⟨(x1+1),?_⟩;try dsimp only
   with_reducible and_intros
   omega;exact S.asG h2 h3 h5;simp only [S.ah,S.len] at *;omega
 intro h6;try simp only [df] at h6
 refine⟨?_,?_⟩
 · rw [S.Yd h2 h6]
 rw [S.Yd h2 h6]
theorem amj(l:List (Int×Int×List (List UInt8×List Int)))(hp:S.small l)(hf:Vg.Row.ok (Vg.PS.flat [.one (.slice [.int .i64, .int .i64, .slice [.str, .slice [.int .i64]]])]) l):ZX l:=by
 delta ZX aE z0 z1 ao;have ml:l.length≤9223372036854775807:=hf.1.1;clear hf;refine⟨?_,?_⟩
 · refine⟨(nat_lit 0:Nat),?_⟩;try dsimp only
   with_reducible and_intros
   omega;simp [S.ej,S.bq];omega
 intro x1 h2;refine⟨?_,?_⟩
 · intro h3;try simp only [dt] at h3
   with_reducible and_intros
   iterate 2 omega
   · have :=S.zy l x1;simp only [List.length_singleton,S.small] at *;omega
   iterate 2 omega
   refine⟨(x1+nat_lit 1),?_⟩;try dsimp only
   with_reducible and_intros
   omega;exact S.BT h3;omega;simp only [S.ah,S.len] at *;omega
 intro h4;try simp only [df] at h4
 exact S.E4 h4
theorem amk(m:Nat)(n:Int)(hm:n.toNat<m+1)(hp:True)(hf:Vg.Row.ok (Vg.PS.flat [.one (.int .i64)]) n):ZY m n:=by
 delta ZY aE z0 z1;have R4: -9223372036854775808≤n∧n≤9223372036854775807:=hf.1;clear hf;refine⟨?_,?_⟩
 · intro h1;try simp only [dt] at h1
   exact S.ah5 h1
 intro h2;try simp only [df] at h2
 with_reducible and_intros
 iterate 3 omega
 trivial
 · have :=S.XS (n/2);omega
 · have :=S.Po (n/2) (by omega);omega
 exact S.XR (by omega)
theorem aml(s1:Int)(s2:Int)(hp:True)(hf:Vg.Row.ok (Vg.PS.flat [.agg [.int .i64, .int .i64]]) (s1,s2)):ZZ s1 s2:=by
 delta ZZ q71 aE z0;have mR: -9223372036854775808≤s1∧s1≤9223372036854775807:=hf.1;have mS: -9223372036854775808≤s2∧s2≤9223372036854775807:=hf.2.1;clear hf;refine⟨?_,?_⟩
 · intro h1;try simp only [V.nL,dt] at h1
   (unfold S.eH;rw [if_pos (by omega)])
 intro h2;try simp only [V.fl,df] at h2
 with_reducible and_intros
 iterate 2 omega
 trivial
 · (unfold S.eH;rw [if_neg (by omega)])
theorem amm(l:List (Int×Int))(hp:True)(hf:Vg.Row.ok (Vg.PS.flat [.one (.slice [.int .i64, .int .i64])]) l):Z0 l:=by
 delta Z0 aE z0 z1 ao;have ml:l.length≤9223372036854775807:=hf.1.1;clear hf;refine⟨?_,?_⟩
 · refine⟨(nat_lit 0:Nat),?_⟩;try dsimp only
   with_reducible and_intros
   omega;iterate 2 rfl
   simp only [S.ah,S.len,S.rj] at *;omega
 intro x1 h2;with_reducible and_intros
 omega
 · simp only [S.ah,S.len,S.rj] at *;omega
 · intro h3;try simp only [dt] at h3
   with_reducible and_intros
   iterate 2 omega
   trivial;iterate 4 omega
   trivial;iterate 2 omega
   refine⟨(x1+nat_lit 1),?_⟩;try dsimp only
   with_reducible and_intros
   omega;exact S.QN.1;exact S.QN.2
   · simp only [S.ah,S.len,S.rj] at *;omega
   simp only [S.ah,S.len,S.rj] at *;omega
 intro h4;try simp only [df] at h4
 refine⟨?_,?_⟩
 · rw [S.Ye h2 h4]
 rw [S.Ye h2 h4]
theorem amn(m:Nat)(l:List (Int×Int))(hm:l.length<m+1)(hp:S.len l≤1000000)(hf:Vg.Row.ok (Vg.PS.flat [.one (.slice [.int .i64, .int .i64])]) l):Z1 m l:=by
 delta Z1 q72 q73 aE z0 z1 ao;have ml:l.length≤9223372036854775807:=hf.1.1;clear hf;with_reducible and_intros
 trivial
 · intro h1;try simp only [nt] at h1
   exact(S.EU h1).symm
 intro h2;try simp only [nf] at h2
 with_reducible and_intros
 iterate 2
  · have q:=S.kW h2;omega
 · have q:=S.kW h2;simp only [S.len,List.length_append,List.length_take,List.length_drop,List.length_singleton,ln,Vg.fu] at *;omega
 iterate 6
  · have q:=S.kW h2;omega
 · have q:=S.kW h2;simp only [S.len,List.length_append,List.length_take,List.length_drop,List.length_singleton,ln,Vg.fu] at *;omega
 iterate 4
  · have q:=S.kW h2;omega
 iterate 3
  · have q:=S.kW h2;simp only [S.len,List.length_append,List.length_take,List.length_drop,List.length_singleton,ln,Vg.fu] at *;omega
 exact(congrArg S.dO (S.Pz l (S.kW h2).1)).trans (S.BO h2)
theorem amo(l:List UInt8)(hp:S.small l)(hf:Vg.Row.ok (Vg.PS.flat [.one (.slice [.int .u8])]) l):Z2 l:=by
 delta Z2 jz;have ml:l.length≤9223372036854775807:=hf.1.1;clear hf;with_reducible and_intros
 · intro h1;exact h1.symm
 · simp only [S.small,Vg.fu,ln] at *;omega
 rfl
theorem amp(l:List (List UInt8×List Int))(hp:S.small l)(hf:Vg.Row.ok (Vg.PS.flat [.one (.slice [.str, .slice [.int .i64]])]) l):Z3 l:=by
 unfold Z3;have ml:l.length≤9223372036854775807:=hf.1.1;clear hf;with_reducible and_intros
 · intro h1;exact h1.symm
 · simp only [S.small,Vg.fu,ln] at *;omega
 rfl
theorem amq(a:List Int)(b:List Int)(hp:True)(hf:Vg.Row.ok (Vg.PS.flat [.one (.slice [.int .i64]), .one (.slice [.int .i64])]) (a,b)):Z4 a b:=by
 delta Z4 aE z0 z1 ao;have vD:a.length≤9223372036854775807:=hf.1.1;have hJ:b.length≤9223372036854775807:=hf.2.1.1;clear hf;refine⟨?_,?_⟩
 · intro h1;try simp only [nt,df] at h1
   exact(decide_eq_false (S.E6 h1)).symm
 intro h2;try simp only [nf,dt] at h2
 refine⟨?_,?_⟩
 · refine⟨(nat_lit 0:Nat),?_⟩;try dsimp only
   refine⟨?_,?_⟩
   · omega
   exact S.PA h2
 intro x3 h4;refine⟨?_,?_⟩
 · intro h5;try simp only [dt] at h5
   with_reducible and_intros
   iterate 4 omega
   · intro h6;try simp only [nt,df,tn] at h6
     exact(decide_eq_false (S.MP 0 h6)).symm
   intro h7;try simp only [nf,dt,tn] at h7
   with_reducible and_intros
   iterate 2 omega
   refine⟨(x3+nat_lit 1),?_⟩;try dsimp only
   with_reducible and_intros
   omega;exact S.AM 0 h4 h5 h7;simp only [S.ah,S.len,S.gR,S.iP] at *;omega
 intro h8;try simp only [df] at h8
 exact(decide_eq_true (S.E5 h4 h8)).symm
theorem amr(a1:List UInt8)(a2:List Int)(b1:List UInt8)(b2:List Int)(hp:True)(hf:Vg.Row.ok (Vg.PS.flat [.agg [.str, .slice [.int .i64]], .agg [.str, .slice [.int .i64]]]) (a1,a2,b1,b2)):Z5 a1 a2 b1 b2:=by
 unfold Z5;have Ù:a1.length≤9223372036854775807:=hf.1;have Ú:a2.length≤9223372036854775807:=hf.2.1.1;have Û:b1.length≤9223372036854775807:=hf.2.2.1;have Ü:b2.length≤9223372036854775807:=hf.2.2.2.1.1;clear hf;with_reducible and_intros
 · intro h1;try simp only [dt] at h1
   trivial
 · intro h2;try simp only [df] at h2
   trivial
 simp only [S.vc,S.AL];cases decide (a1=b1)<;>rfl
theorem ams(a:List (List UInt8×List Int))(b:List (List UInt8×List Int))(hp:True)(hf:Vg.Row.ok (Vg.TA.fG [.jK (.slice [.str, .slice [.int .i64]]), .jK (.slice [.str, .slice [.int .i64]]), .fn (.func 109) [] []]) (a,b))(hg:Vg.gK.ok [] ()):Z6 a b:=by
 delta Z6 q74 aE z0 z1 ao;have vD:a.length≤9223372036854775807:=hf.1.1;have hJ:b.length≤9223372036854775807:=hf.2.1.1;clear hf hg;refine⟨?_,?_⟩
 · intro h1;try simp only [nt,df] at h1
   exact(decide_eq_false (S.E6 h1)).symm
 intro h2;try simp only [nf,dt] at h2
 refine⟨?_,?_⟩
 · refine⟨(nat_lit 0:Nat),?_⟩;try dsimp only
   refine⟨?_,?_⟩
   · omega
   exact S.PA h2
 intro x3 h4;refine⟨?_,?_⟩
 · intro h5;try simp only [dt] at h5
   with_reducible and_intros
   iterate 4 omega
   trivial
   · intro h6;try simp only [nt] at h6
     exact(decide_eq_false (S.MP ([],[]) (S.adR h6))).symm
   intro h7;try simp only [nf] at h7
   with_reducible and_intros
   iterate 2 omega
   refine⟨(x3+nat_lit 1),?_⟩;try dsimp only
   with_reducible and_intros
   omega;exact S.AM ([],[]) h4 h5 (S.adQ h7);simp only [S.ah,S.len,S.gR,S.iP] at *;omega
 intro h8;try simp only [df] at h8
 exact(decide_eq_true (S.E5 h4 h8)).symm
theorem amt(a:List (List UInt8×List Int))(b:List (List UInt8×List Int))(hp:True)(hf:Vg.Row.ok (Vg.PS.flat [.one (.slice [.str, .slice [.int .i64]]), .one (.slice [.str, .slice [.int .i64]])]) (a,b)):Z7 a b:=by
 unfold Z7;have vD:a.length≤9223372036854775807:=hf.1.1;have hJ:b.length≤9223372036854775807:=hf.2.1.1;clear hf;refine⟨?_,?_⟩
 · trivial
 rfl
theorem amu(y1:List (List UInt8))(y2:List (Int×Int×List (List UInt8×List Int)))(hp:True)(hf:Vg.Row.ok (Vg.PS.flat [.agg [.slice [.slice [.int .u8]], .slice [.int .i64, .int .i64, .slice [.str, .slice [.int .i64]]]]]) (y1,y2)):Z8 y1 y2:=by
 delta Z8 KU PX q77 aE z0 z1 ao;have fB:y1.length≤9223372036854775807:=hf.1.1;have fC:y2.length≤9223372036854775807:=hf.2.1.1;clear hf;refine⟨?_,?_⟩
 · intro h1;try simp only [V.nL,dt] at h1
   exact S.asH h1
 intro h2;try simp only [V.fl,df] at h2
 refine⟨?_,?_⟩
 · refine⟨(nat_lit 0:Nat),?_⟩;try dsimp only
   refine⟨?_,?_⟩
   · omega
   exact⟨by omega,by omega,S.QG _⟩
 intro x3 h4;refine⟨?_,?_⟩
 · intro h5;try simp only [dt] at h5
   with_reducible and_intros
   iterate 2 omega
   · intro h6;try simp only [dt,tn] at h6
     exact S.asI h5 h6
   intro h7;try simp only [df,tn] at h7
   with_reducible and_intros
   iterate 2 omega
   refine⟨(x3+nat_lit 1),?_⟩;try dsimp only
   with_reducible and_intros
   omega;exact⟨h4.1,h4.2.1,S.EM h4.2.2 h5 (by omega)⟩;simp only [S.ah,S.len,S.gR,S.iP] at *;omega
 intro h8;try simp only [df] at h8
 refine⟨?_,?_⟩
 · refine⟨(nat_lit 0:Nat),?_⟩;try dsimp only
   with_reducible and_intros
   omega;rfl;exact S.Yf h4 h8
 intro x9 cY;refine⟨?_,?_⟩
 · intro ew;try simp only [dt] at ew
   with_reducible and_intros
   iterate 2 omega
   · intro dG;try simp only [V.nL,nt,df,tn,dt] at dG
     exact S.CM ew (S.asJ dG)
   intro jV;try simp only [V.fl,nf,dt,tn,df] at jV
   with_reducible and_intros
   trivial
   · intro eU;try simp only [nt,df,tn] at eU
     trivial
   · intro jd;try simp only [nf,dt,tn] at jd
     trivial
   · intro tA;try simp only [V.nL,nt,df,tn] at tA
     exact S.CM ew (S.asK cY jV tA)
   intro zR;try simp only [V.fl,nf,dt,tn] at zR
   with_reducible and_intros
   iterate 2 omega
   refine⟨(x9+nat_lit 1),?_⟩;try dsimp only
   with_reducible and_intros
   omega;exact S.HN _ _;exact S.MQ cY ew (S.asL cY jV zR);simp only [S.ah,S.len,S.gR,S.iP] at *;omega
 intro s9;try simp only [df] at s9
 exact S.QO cY s9
theorem amv(y1:List (List UInt8))(y2:List (Int×Int×List (List UInt8×List Int)))(hp:True)(hf:Vg.Row.ok (Vg.PS.flat [.agg [.slice [.slice [.int .u8]], .slice [.int .i64, .int .i64, .slice [.str, .slice [.int .i64]]]]]) (y1,y2)):Z9 y1 y2:=by
 unfold Z9;have fB:y1.length≤9223372036854775807:=hf.1.1;have fC:y2.length≤9223372036854775807:=hf.2.1.1;clear hf;with_reducible and_intros
 trivial
 · intro h1;try simp only [nt] at h1
   refine⟨?_,?_⟩
   · rw [S.zz h1]
   rw [S.zz h1]
 intro h2;try simp only [nf] at h2
 refine⟨?_,?_⟩
 · rw [S.eZ h2]
 rw [S.eZ h2]
theorem amw(y1:List (List UInt8))(y2:List (Int×Int×List (List UInt8×List Int)))(hp:True)(hf:Vg.Row.ok (Vg.PS.flat [.agg [.slice [.slice [.int .u8]], .slice [.int .i64, .int .i64, .slice [.str, .slice [.int .i64]]]]]) (y1,y2)):À y1 y2:=by
 delta À aE z0 z1 ao;have fB:y1.length≤9223372036854775807:=hf.1.1;have fC:y2.length≤9223372036854775807:=hf.2.1.1;clear hf;refine⟨?_,?_⟩
 · intro h1;try simp only [dt] at h1
   exact S.akq h1
 intro h2;try simp only [df] at h2
 with_reducible and_intros
 iterate 4 omega
 exact S.akr h2
theorem amx(y1:List (List UInt8))(y2:List (Int×Int×List (List UInt8×List Int)))(hp:S.nj y1 y2)(hf:Vg.Row.ok (Vg.PS.flat [.agg [.slice [.slice [.int .u8]], .slice [.int .i64, .int .i64, .slice [.str, .slice [.int .i64]]]]]) (y1,y2)):Á y1 y2:=by
 delta Á GV aE Cr z0 z1 ao;have fB:y1.length≤9223372036854775807:=hf.1.1;have fC:y2.length≤9223372036854775807:=hf.2.1.1;clear hf;with_reducible and_intros
 iterate 2 omega
 · have :=hp.1;omega
 iterate 2 omega
 · have :=hp.2.1;omega
 · refine⟨(nat_lit 0:Nat),?_⟩;try dsimp only
   with_reducible and_intros
   omega;exact S.QP _ _;simp only [S.ah,S.len,S.gR,S.iP] at *;omega
 intro x1 h2;refine⟨?_,?_⟩
 · intro h3;try simp only [dt] at h3
   with_reducible and_intros
   iterate 2 omega
   exact S.MS hp _;omega;exact(S.wc _ h3).1;exact(S.wc _ h3).2;iterate 2 omega
   refine⟨(x1+nat_lit 1),?_⟩;try dsimp only
   with_reducible and_intros
   omega;exact S.MR _ h3
   · simp only [S.ah,S.len,S.gR,S.iP] at *;omega
   simp only [S.ah,S.len,S.gR,S.iP] at *;omega
 intro h4;try simp only [df] at h4
 refine⟨?_,?_⟩
 · refine⟨(nat_lit 0:Nat),?_⟩;try dsimp only
   with_reducible and_intros
   omega;exact S.QP _ _;simp only [S.ah,S.len,S.gR,S.iP] at *;omega
 intro x5 h6;refine⟨?_,?_⟩
 · intro h7;try simp only [dt] at h7
   with_reducible and_intros
   iterate 2 omega
   exact(S.xU hp _).1;omega;exact(S.wc _ h7).1;exact(S.wc _ h7).2
   · refine⟨((nat_lit 0:Nat),((Int.toNat (↑x5:Int)),(List.set (S.cZ ((0:Int),(0:Int),[]) y2 x5) (Int.toNat (↑x5:Int)) (Prod.fst (List.getD y2 (Int.toNat (↑x5:Int)) ((0:Int),(0:Int),[])),Prod.fst (Prod.snd (List.getD y2 (Int.toNat (↑x5:Int)) ((0:Int),(0:Int),[]))),[])))),?_⟩;try dsimp only
     with_reducible and_intros
     omega;rfl;omega;rfl;exact S.aks h7;omega
   intro x8 h9;refine⟨?_,?_⟩
   · intro cY;try simp only [dt,tn] at cY
     with_reducible and_intros
     omega;trivial;omega
     iterate 2
      · have q:=h9.1.2.2.1;have q2:=h9.1.1;have q3:=h9.2;omega
     omega;exact(S.xU hp _).2 _;omega
     iterate 2
      · have e:x5=x8.2.1:=(by omega);subst e;first|exact cY|exact Int.ofNat_lt.1 cY
     omega
     · have q:=(S.xU hp x5).1;exact S.VI q cY
     refine⟨((Prod.fst x8+nat_lit 1),((Prod.fst (Prod.snd x8)),(Prod.snd (Prod.snd x8)))),?_⟩;try dsimp only
     with_reducible and_intros
     omega;rfl;omega
     · have e:x5=x8.2.1:=(by omega);subst e;exact S.vL _ _ _
     · have e:x5=x8.2.1:=(by omega);subst e;exact S.VJ h9.1 cY
     omega;have e:x5=x8.2.1:=(by omega);subst e;exact S.VK cY
   intro ew;try simp only [df,tn] at ew
   with_reducible and_intros
   · have q:=h9.1.2.2.1;have q2:=h9.1.1;have q3:=h9.2;omega
   iterate 2 omega
   refine⟨(x5+nat_lit 1),?_⟩;try dsimp only
   with_reducible and_intros
   omega
   · have e:x5=x8.2.1:=(by omega);subst e;exact S.Yg h9.1
   · simp only [S.ah,S.len,S.gR,S.iP] at *;omega
   simp only [S.ah,S.len,S.gR,S.iP] at *;omega
 intro dG;try simp only [df] at dG
 refine⟨?_,?_⟩
 · exact S.HO _ h4
 exact S.HO _ dG
theorem amy(l:List (Int×Int×List (List UInt8×List Int)))(i:Int)(m:Int)(s1:Int)(s2:Int)(s3:List (List UInt8×List Int))(hp:S.r5 l i m)(hf:Vg.Row.ok (Vg.PS.flat [.one (.slice [.int .i64, .int .i64, .slice [.str, .slice [.int .i64]]]), .one (.int .i64), .one (.int .i64), .agg [.int .i64, .int .i64, .slice [.str, .slice [.int .i64]]]]) (l,i,m,s1,s2,s3)):Â l i m s1 s2 s3:=by
 delta Â aE z0 ao;have ml:l.length≤9223372036854775807:=hf.1.1;have aiu: -9223372036854775808≤i∧i≤9223372036854775807:=hf.2.1;have Þ: -9223372036854775808≤m∧m≤9223372036854775807:=hf.2.2.1;have mR: -9223372036854775808≤s1∧s1≤9223372036854775807:=hf.2.2.2.1;have mS: -9223372036854775808≤s2∧s2≤9223372036854775807:=hf.2.2.2.2.1;have P1:s3.length≤9223372036854775807:=hf.2.2.2.2.2.1.1;clear hf;with_reducible and_intros
 exact hp.2.1;rfl
 · obtain⟨q1,q2,q3,q4⟩:=hp;first|omega|(simp only [List.length_append,List.length_take,List.length_drop,List.length_singleton];omega)
 exact Nat.one_pos
 iterate 6
  · obtain⟨q1,q2,q3,q4⟩:=hp;first|omega|(simp only [List.length_append,List.length_take,List.length_drop,List.length_singleton];omega)
 · unfold S.pW;rw [show(i+m).toNat=i.toNat+m.toNat by have :=hp.2;omega]
theorem amz(y1:List (List UInt8))(y2:List (Int×Int×List (List UInt8×List Int)))(d:List UInt8)(hp:True)(hf:Vg.Row.ok (Vg.PS.flat [.agg [.slice [.slice [.int .u8]], .slice [.int .i64, .int .i64, .slice [.str, .slice [.int .i64]]]], .one (.slice [.int .u8])]) (y1,y2,d)):Ã y1 y2 d:=by
 delta Ã z0 z1 ao;have fB:y1.length≤9223372036854775807:=hf.1.1;have fC:y2.length≤9223372036854775807:=hf.2.1.1;have Ø:d.length≤9223372036854775807:=hf.2.2.1.1;clear hf;with_reducible and_intros
 trivial
 · intro h1;try simp only [dt] at h1
   with_reducible and_intros
   iterate 2 (rw [S.QQ h1])
   rw [S.QQ h1]
 intro h2;try simp only [df] at h2
 refine⟨?_,?_⟩
 · intro h3;try simp only [dt] at h3
   with_reducible and_intros
   iterate 2 (rw [S.QR h2 h3])
   rw [S.QR h2 h3]
 intro h4;try simp only [df] at h4
 with_reducible and_intros
 exact S.qH _ _
 · simp only [S.small];omega
 · have :=(S.ek y1 y2).1;simp only [List.length_singleton];omega
 iterate 2 (rw [S.MT h2 h4])
 rw [S.MT h2 h4]
theorem amA(y1:List (List UInt8))(y2:List (Int×Int×List (List UInt8×List Int)))(hp:True)(hf:Vg.Row.ok (Vg.PS.flat [.agg [.slice [.slice [.int .u8]], .slice [.int .i64, .int .i64, .slice [.str, .slice [.int .i64]]]]]) (y1,y2)):Ä y1 y2:=by
 delta Ä GW z0;have fB:y1.length≤9223372036854775807:=hf.1.1;have fC:y2.length≤9223372036854775807:=hf.2.1.1;clear hf;with_reducible and_intros
 iterate 2 trivial
 · intro h1;try simp only [dt] at h1
   with_reducible and_intros
   iterate 2 (rw [S.QS h1])
   rw [S.QS h1]
 intro h2;try simp only [df] at h2
 refine⟨?_,?_⟩
 · intro h3;try simp only [dt] at h3
   with_reducible and_intros
   iterate 2 (rw [S.QT h2 h3])
   rw [S.QT h2 h3]
 intro h4;try simp only [df] at h4
 with_reducible and_intros
 trivial
 · intro h5;try simp only [nt,df] at h5
   with_reducible and_intros
   iterate 3 (exact absurd (by rw [S.ah9 h2]) h5)
 intro h6;try simp only [nf,dt] at h6
 with_reducible and_intros
 exact S.qH _ _
 · have :=(S.ek y1 y2).2.1;simp only [List.length_singleton];omega
 iterate 2 (rw [S.QU h2 h4])
 rw [S.QU h2 h4]
theorem amB(y1:List (List UInt8))(y2:List (Int×Int×List (List UInt8×List Int)))(i:Int)(m:Int)(hp:True)(hf:Vg.Row.ok (Vg.PS.flat [.agg [.slice [.slice [.int .u8]], .slice [.int .i64, .int .i64, .slice [.str, .slice [.int .i64]]]], .one (.int .i64), .one (.int .i64)]) (y1,y2,i,m)):Å y1 y2 i m:=by
 delta Å Nl q81 aE z0 z1;have fB:y1.length≤9223372036854775807:=hf.1.1;have fC:y2.length≤9223372036854775807:=hf.2.1.1;have aiu: -9223372036854775808≤i∧i≤9223372036854775807:=hf.2.2.1;have Þ: -9223372036854775808≤m∧m≤9223372036854775807:=hf.2.2.2.1;clear hf;with_reducible and_intros
 trivial
 · intro h1;try simp only [dt] at h1
   trivial
 · intro h2;try simp only [df] at h2
   refine⟨?_,?_⟩
   · intro h3;try simp only [dt] at h3
     trivial
   intro h4;try simp only [df] at h4
   refine⟨?_,?_⟩
   · intro h5;try simp only [dt] at h5
     trivial
   intro h6;try simp only [df] at h6
   refine⟨?_,?_⟩
   · have :=(S.ek y1 y2).2.1;omega
   have :=(S.ek y1 y2).2.1;omega
 · intro h7;try simp only [V.nL,dt] at h7
   with_reducible and_intros
   iterate 2 (rw [S.QV h7])
   rw [S.QV h7]
 intro h8;try simp only [V.fl,df] at h8
 with_reducible and_intros
 iterate 5
  · have :=(S.ek y1 y2).2.1;omega
 exact(S.QW h8).1
 · intro h9;try simp only [nt,df] at h9
   with_reducible and_intros
   iterate 3 (exact absurd (by rw [(S.QW h8).2.1]) h9)
 intro cY;try simp only [nf,dt] at cY
 with_reducible and_intros
 exact S.qH _ _;exact(S.QW h8).2.2;iterate 2 (rw [S.QX h8])
 rw [S.QX h8]
theorem amC(y1:List (List UInt8))(y2:List (Int×Int×List (List UInt8×List Int)))(hp:True)(hf:Vg.Row.ok (Vg.PS.flat [.agg [.slice [.slice [.int .u8]], .slice [.int .i64, .int .i64, .slice [.str, .slice [.int .i64]]]]]) (y1,y2)):Æ y1 y2:=by
 delta Æ PY GX aE z0;have fB:y1.length≤9223372036854775807:=hf.1.1;have fC:y2.length≤9223372036854775807:=hf.2.1.1;clear hf;with_reducible and_intros
 trivial;exact S.qH _ _
 · refine⟨(S.bq (S.ak y1 y2).2),?_⟩;try dsimp only
   refine⟨?_,?_⟩
   · exact(S.iG y1 y2).eq
   exact S.asM _ _
 intro x1 h2;with_reducible and_intros
 exact S.asN h2;trivial
 · intro h3;try simp only [nt] at h3
   refine⟨?_,?_⟩
   · rfl
   exact S.adS h2 h3
 intro h4;try simp only [nf] at h4
 with_reducible and_intros
 iterate 5
  · have q:=S.aia h2 h4;omega
 exact(S.E7 h2 h4 rfl).1
 · intro h5;try simp only [nt,df] at h5
   refine⟨?_,?_⟩
   · exact absurd (S.E7 h2 h4 rfl).2.1 h5
   exact absurd (S.E7 h2 h4 rfl).2.1 h5
 intro h6;try simp only [nf,dt] at h6
 refine⟨?_,?_⟩
 · exact(S.E7 h2 h4 rfl).2.2.1
 refine⟨(S.jc x1 (S.bu (S.bq (S.aB (S.ak y1 y2).1 x1))).1.toNat),?_⟩;try dsimp only
 with_reducible and_intros
 exact(S.E7 h2 h4 rfl).2.2.2.1;exact(S.E7 h2 h4 rfl).2.2.2.2.1;exact(S.E7 h2 h4 rfl).2.2.2.2.2
theorem amD(y1:List (List UInt8))(y2:List (Int×Int×List (List UInt8×List Int)))(hp:True)(hf:Vg.Row.ok (Vg.PS.flat [.agg [.slice [.slice [.int .u8]], .slice [.int .i64, .int .i64, .slice [.str, .slice [.int .i64]]]]]) (y1,y2)):Ç y1 y2:=by
 delta Ç k6 q85 q86 aE z0 z1 ao;have fB:y1.length≤9223372036854775807:=hf.1.1;have fC:y2.length≤9223372036854775807:=hf.2.1.1;clear hf;with_reducible and_intros
 trivial
 · intro h1;try simp only [V.nL,nt,dt] at h1
   exact S.asO h1
 intro h2;try simp only [V.fl,nf,df] at h2
 refine⟨?_,?_⟩
 · refine⟨(nat_lit 0:Nat),?_⟩;try dsimp only
   refine⟨?_,?_⟩
   · omega
   exact⟨h2.1,by omega,fun i hi=>absurd hi (Nat.not_lt_zero i),Nat.zero_le _⟩
 intro x3 h4;refine⟨?_,?_⟩
 · intro h5;try simp only [dt] at h5
   with_reducible and_intros
   iterate 2 omega
   · intro h6;try simp only [dt] at h6
     refine⟨?_,?_⟩
     · intro h7;try simp only [nt,df,tn] at h7
       trivial
     intro h8;try simp only [nf,dt,tn] at h8
     refine⟨?_,?_⟩
     · intro h9;try simp only [dt] at h9
       with_reducible and_intros
       iterate 4 omega
       · intro cY;try simp only [nt,df,tn] at cY
         trivial
       intro ew;try simp only [nf,dt,tn] at ew
       trivial
     intro dG;try simp only [df] at dG
     trivial
   · intro jV;try simp only [df] at jV
     refine⟨?_,?_⟩
     · intro eU;try simp only [dt] at eU
       with_reducible and_intros
       iterate 4 omega
       · intro jd;try simp only [nt,df,tn] at jd
         trivial
       intro tA;try simp only [nf,dt,tn] at tA
       trivial
     intro zR;try simp only [df] at zR
     trivial
   · intro s9;exact S.CM h5 (S.adT (S.Yi.symm.trans s9))
   intro zS;with_reducible and_intros
   iterate 2 omega
   exact S.mK (S.aib (S.Yi.symm.trans zS)).2;trivial
   · intro GY;try simp only [nt] at GY
     exact S.CM h5 (S.akt GY)
   intro p7;try simp only [nf] at p7
   with_reducible and_intros
   iterate 2 omega
   refine⟨(x3+nat_lit 1),?_⟩;try dsimp only
   with_reducible and_intros
   omega;exact S.MQ h4 h5 (S.adU (S.aib (S.Yi.symm.trans zS)) p7);simp only [S.ah,S.len,S.gR,S.iP,S.gL] at *;omega
 intro V2;try simp only [df] at V2
 exact S.QO h4 V2
theorem amE(y1:List (List UInt8))(y2:List (Int×Int×List (List UInt8×List Int)))(hp:True)(hf:Vg.Row.ok (Vg.PS.flat [.agg [.slice [.slice [.int .u8]], .slice [.int .i64, .int .i64, .slice [.str, .slice [.int .i64]]]]]) (y1,y2)):È y1 y2:=by
 unfold È;have fB:y1.length≤9223372036854775807:=hf.1.1;have fC:y2.length≤9223372036854775807:=hf.2.1.1;clear hf;with_reducible and_intros
 trivial
 · intro h1;refine⟨?_,?_⟩
   · rw [S.eZ h1]
   rw [S.eZ h1]
 intro h2;refine⟨?_,?_⟩
 · rw [S.zz h2]
 rw [S.zz h2]
theorem amF(y1:List (List UInt8))(y2:List (Int×Int×List (List UInt8×List Int)))(hp:True)(hf:Vg.Row.ok (Vg.PS.flat [.agg [.slice [.slice [.int .u8]], .slice [.int .i64, .int .i64, .slice [.str, .slice [.int .i64]]]]]) (y1,y2)):É y1 y2:=by
 delta É aE z0 z1;have fB:y1.length≤9223372036854775807:=hf.1.1;have fC:y2.length≤9223372036854775807:=hf.2.1.1;clear hf;with_reducible and_intros
 trivial
 · refine⟨(nat_lit 0:Nat),?_⟩;try dsimp only
   with_reducible and_intros
   omega;rfl;omega
 intro x1 h2;refine⟨?_,?_⟩
 · intro h3;try simp only [dt] at h3
   with_reducible and_intros
   iterate 3 omega
   · have :=(S.ek y1 y2).2.1;omega
   refine⟨(x1+nat_lit 1),?_⟩;try dsimp only
   with_reducible and_intros
   omega;exact S.HN _ _
   · simp only [S.ah,S.len,S.gR,S.iP,S.gL] at *;omega
   simp only [S.ah,S.len,S.gR,S.iP,S.gL] at *;omega
 intro h4;try simp only [df] at h4
 exact S.VM h2 h4
theorem amG(y1:List (List UInt8))(y2:List (Int×Int×List (List UInt8×List Int)))(hp:S.small y2)(hf:Vg.Row.ok (Vg.PS.flat [.agg [.slice [.slice [.int .u8]], .slice [.int .i64, .int .i64, .slice [.str, .slice [.int .i64]]]]]) (y1,y2)):Ê y1 y2:=by
 delta Ê aE z0 z1 ao;have fB:y1.length≤9223372036854775807:=hf.1.1;have fC:y2.length≤9223372036854775807:=hf.2.1.1;clear hf;refine⟨?_,?_⟩
 · refine⟨(nat_lit 0:Nat),?_⟩;try dsimp only
   with_reducible and_intros
   omega;rfl;simp only [S.ah,S.len,S.gR,S.iP,S.gL] at *;omega
 intro x1 h2;refine⟨?_,?_⟩
 · intro h3;try simp only [dt] at h3
   with_reducible and_intros
   iterate 2 omega
   · have :=S.zy y2 x1;simp only [List.length_singleton,S.small] at *;omega
   iterate 2 omega
   refine⟨(x1+nat_lit 1),?_⟩;try dsimp only
   with_reducible and_intros
   omega;exact S.BT h3
   · simp only [S.ah,S.len,S.gR,S.iP,S.gL] at *;omega
   simp only [S.ah,S.len,S.gR,S.iP,S.gL] at *;omega
 intro h4;try simp only [df] at h4
 exact S.E4 h4
theorem amH(y1:List (List UInt8))(y2:List (Int×Int×List (List UInt8×List Int)))(l:List (Int×Int))(hp:S.l3 y1 l)(hf:Vg.Row.ok (Vg.PS.flat [.agg [.slice [.slice [.int .u8]], .slice [.int .i64, .int .i64, .slice [.str, .slice [.int .i64]]]], .one (.slice [.int .i64, .int .i64])]) (y1,y2,l)):Ë y1 y2 l:=by
 delta Ë FB aE z0 z1 ao;have fB:y1.length≤9223372036854775807:=hf.1.1;have fC:y2.length≤9223372036854775807:=hf.2.1.1;have ml:l.length≤9223372036854775807:=hf.2.2.1.1;clear hf;refine⟨?_,?_⟩
 · refine⟨(nat_lit 0:Nat),?_⟩;try dsimp only
   with_reducible and_intros
   omega;iterate 2 rfl
   simp only [S.ah,S.len,S.gR,S.iP,S.gL] at *;omega
 intro x1 h2;refine⟨?_,?_⟩
 · intro h3;try simp only [dt] at h3
   with_reducible and_intros
   iterate 2 omega
   exact hp.2 _ (S.bo l x1 _ (by omega))
   · have :=S.VO y1 l x1;have :=hp.1;simp only [List.length_singleton];omega
   iterate 2 omega
   refine⟨(x1+nat_lit 1),?_⟩;try dsimp only
   with_reducible and_intros
   omega;rfl;exact S.PC y1 h3
   · simp only [S.ah,S.len,S.gR,S.iP,S.gL] at *;omega
   simp only [S.ah,S.len,S.gR,S.iP,S.gL] at *;omega
 intro h4;try simp only [df] at h4
 refine⟨?_,?_⟩
 · rfl
 exact S.VN y1 h4
theorem amI(y1:List (List UInt8))(y2:List (Int×Int×List (List UInt8×List Int)))(d:List UInt8)(hp:True)(hf:Vg.Row.ok (Vg.PS.flat [.agg [.slice [.slice [.int .u8]], .slice [.int .i64, .int .i64, .slice [.str, .slice [.int .i64]]]], .one (.slice [.int .u8])]) (y1,y2,d)):Ì y1 y2 d:=by
 delta Ì z0 z1 ao;have fB:y1.length≤9223372036854775807:=hf.1.1;have fC:y2.length≤9223372036854775807:=hf.2.1.1;have Ø:d.length≤9223372036854775807:=hf.2.2.1.1;clear hf;with_reducible and_intros
 trivial
 · intro h1;try simp only [dt] at h1
   with_reducible and_intros
   iterate 2 (rw [S.QQ h1])
   rw [S.QQ h1]
 intro h2;try simp only [df] at h2
 refine⟨?_,?_⟩
 · intro h3;try simp only [dt] at h3
   with_reducible and_intros
   iterate 2 (rw [S.QR h2 h3])
   rw [S.QR h2 h3]
 intro h4;try simp only [df] at h4
 with_reducible and_intros
 iterate 2
  · have :=(S.ek y1 y2).1;simp only [Vg.fu,List.nil_append,ln,List.length_singleton];omega
 iterate 2
  · rw [S.MT h2 h4];try rfl
 rw [S.MT h2 h4];try rfl
theorem aeu(y1:List (List UInt8))(y2:List (Int×Int×List (List UInt8×List Int)))(hp:True)(hf:Vg.Row.ok (Vg.PS.flat [.agg [.slice [.slice [.int .u8]], .slice [.int .i64, .int .i64, .slice [.str, .slice [.int .i64]]]]]) (y1,y2)):Ra y1 y2:=by
 delta Ra q88 z0;have fB:y1.length≤9223372036854775807:=hf.1.1;have fC:y2.length≤9223372036854775807:=hf.2.1.1;clear hf;with_reducible and_intros
 iterate 2 trivial
 · intro h1;try simp only [dt] at h1
   with_reducible and_intros
   iterate 2
    · rw [S.jS] at h1;rw [S.QS h1]
   rw [S.jS] at h1;rw [S.QS h1]
 intro h2;try simp only [df] at h2
 refine⟨?_,?_⟩
 · intro h3;try simp only [dt] at h3
   with_reducible and_intros
   iterate 2
    · rw [S.jS] at h2;rw [S.QT h2 h3]
   rw [S.jS] at h2;rw [S.QT h2 h3]
 intro h4;try simp only [df] at h4
 with_reducible and_intros
 exact S.E8 _ _;trivial
 · have :=(S.ek y1 y2).2.1;simp only [S.fy,List.length_singleton];omega
 · rw [S.jS] at h2 ⊢;exact(S.aic h2 h4).1
 · rw [S.jS] at h2;rw [S.QU h2 h4]
 · rw [S.jS] at h2 ⊢;exact(S.aic h2 h4).2
 rw [S.jS] at h2;rw [S.QU h2 h4]
theorem aev(y1:List (List UInt8))(y2:List (Int×Int×List (List UInt8×List Int)))(i:Int)(m:Int)(hp:True)(hf:Vg.Row.ok (Vg.PS.flat [.agg [.slice [.slice [.int .u8]], .slice [.int .i64, .int .i64, .slice [.str, .slice [.int .i64]]]], .one (.int .i64), .one (.int .i64)]) (y1,y2,i,m)):Rb y1 y2 i m:=by
 delta Rb vA q90 q91 q92 aE z0 z1;have fB:y1.length≤9223372036854775807:=hf.1.1;have fC:y2.length≤9223372036854775807:=hf.2.1.1;have aiu: -9223372036854775808≤i∧i≤9223372036854775807:=hf.2.2.1;have Þ: -9223372036854775808≤m∧m≤9223372036854775807:=hf.2.2.2.1;clear hf;with_reducible and_intros
 trivial
 · intro h1;try simp only [dt] at h1
   trivial
 · intro h2;try simp only [df] at h2
   refine⟨?_,?_⟩
   · intro h3;try simp only [dt] at h3
     trivial
   intro h4;try simp only [df] at h4
   refine⟨?_,?_⟩
   · intro h5;try simp only [dt] at h5
     trivial
   intro h6;try simp only [df] at h6
   refine⟨?_,?_⟩
   · have :=(S.ek y1 y2).2.1;omega
   have :=(S.ek y1 y2).2.1;omega
 · intro h7;try simp only [V.nL,dt] at h7
   with_reducible and_intros
   iterate 2 (rw [S.QV (docs:=y1) (l:=y2) (i:=i) (m:=m) (by omega)])
   rw [S.QV (docs:=y1) (l:=y2) (i:=i) (m:=m) (by omega)]
 intro h8;try simp only [V.fl,df] at h8
 with_reducible and_intros
 exact S.E8 _ _
 iterate 2
  · have :=(S.ek y1 y2).2.1;have :=S.fy (S.ak y1 y2).2;omega
 · have :=(S.ek y1 y2).2.1;have :=S.fy (S.ak y1 y2).2;simp only [Vg.fu,List.length_append,List.length_take,List.length_drop,ln,List.length_singleton];omega
 iterate 10
  · have :=(S.ek y1 y2).2.1;have :=S.fy (S.ak y1 y2).2;omega
 · have :=(S.ek y1 y2).2.1;have :=S.fy (S.ak y1 y2).2;simp only [Vg.fu,List.length_append,List.length_take,List.length_drop,ln,List.length_singleton];omega
 iterate 4
  · have :=(S.ek y1 y2).2.1;have :=S.fy (S.ak y1 y2).2;omega
 · have :=(S.ek y1 y2).2.1;have :=S.fy (S.ak y1 y2).2;simp only [Vg.fu,List.length_append,List.length_take,List.length_drop,ln,List.length_singleton];omega
 · rw [S.tda];exact(S.aid (docs:=y1) (l:=y2) (i:=i) (m:=m) (by omega)).1
 rw [S.QX (docs:=y1) (l:=y2) (i:=i) (m:=m) (by omega)]
 · rw [S.tda];exact(S.aid (docs:=y1) (l:=y2) (i:=i) (m:=m) (by omega)).2
 rw [S.QX (docs:=y1) (l:=y2) (i:=i) (m:=m) (by omega)]
theorem aew(y1:List (List UInt8))(y2:List (Int×Int×List (List UInt8×List Int)))(hp:True)(hf:Vg.Row.ok (Vg.PS.flat [.agg [.slice [.slice [.int .u8]], .slice [.int .i64, .int .i64, .slice [.str, .slice [.int .i64]]]]]) (y1,y2)):Rc y1 y2:=by
 unfold Rc;have fB:y1.length≤9223372036854775807:=hf.1.1;have fC:y2.length≤9223372036854775807:=hf.2.1.1;clear hf;with_reducible and_intros
 trivial;exact S.E8 _ _
 · have :=(S.ek y1 y2).2.1;simp only [S.len,S.fy];omega
 exact S.asP _ _;iterate 2 rfl
theorem aex(a1:List (List UInt8))(a2:List (Int×Int×List (List UInt8×List Int)))(b1:List (List UInt8))(b2:List (Int×Int×List (List UInt8×List Int)))(hp:True)(hf:Vg.Row.ok (Vg.PS.flat [.agg [.slice [.slice [.int .u8]], .slice [.int .i64, .int .i64, .slice [.str, .slice [.int .i64]]]], .agg [.slice [.slice [.int .u8]], .slice [.int .i64, .int .i64, .slice [.str, .slice [.int .i64]]]]]) (a1,a2,b1,b2)):Re a1 a2 b1 b2:=by
 delta Re q93 aE z0 z1 ao;have Ù:a1.length≤9223372036854775807:=hf.1.1;have Ú:a2.length≤9223372036854775807:=hf.2.1.1;have Û:b1.length≤9223372036854775807:=hf.2.2.1.1;have Ü:b2.length≤9223372036854775807:=hf.2.2.2.1.1;clear hf;with_reducible and_intros
 trivial
 · intro h1;try simp only [V.nL,nt,df] at h1
   exact S.aku h1
 intro h2;try simp only [V.fl,nf,dt] at h2
 refine⟨?_,?_⟩
 · refine⟨(nat_lit 0:Nat),?_⟩;try dsimp only
   refine⟨?_,?_⟩
   · omega
   exact S.asQ h2
 intro x3 h4;refine⟨?_,?_⟩
 · intro h5;try simp only [dt] at h5
   with_reducible and_intros
   iterate 4 omega
   trivial
   · intro h6;try simp only [nt] at h6
     exact S.adV h6
   intro h7;try simp only [nf] at h7
   with_reducible and_intros
   iterate 2 omega
   refine⟨(x3+nat_lit 1),?_⟩;try dsimp only
   with_reducible and_intros
   omega;exact S.Yj h4 h5 h7;simp only [S.ah,S.len,S.gR,S.iP,S.gL] at *;omega
 intro h8;try simp only [df] at h8
 exact S.adW h4 h8
theorem aey(y1:List (List UInt8))(y2:List (Int×Int×List (List UInt8×List Int)))(hp:S.small y2)(hf:Vg.Row.ok (Vg.PS.flat [.agg [.slice [.slice [.int .u8]], .slice [.int .i64, .int .i64, .slice [.str, .slice [.int .i64]]]]]) (y1,y2)):Rf y1 y2:=by
 delta Rf PZ aE z0 z1 ao;have fB:y1.length≤9223372036854775807:=hf.1.1;have fC:y2.length≤9223372036854775807:=hf.2.1.1;clear hf;refine⟨?_,?_⟩
 · refine⟨(nat_lit 0:Nat),?_⟩;try dsimp only
   with_reducible and_intros
   omega;iterate 2 rfl
   simp only [S.ah,S.len,S.gR,S.gL,S.pL,S.pD] at *;omega
 intro x1 h2;refine⟨?_,?_⟩
 · intro h3;try simp only [dt] at h3
   with_reducible and_intros
   iterate 2 omega
   trivial
   · simp only [List.length_take,List.length_singleton,S.small] at *;omega
   iterate 2 omega
   refine⟨(x1+nat_lit 1),?_⟩;try dsimp only
   with_reducible and_intros
   omega;rfl;exact(S.aw y2 x1 (0,0,[]) (by omega)).symm
   · simp only [S.ah,S.len,S.gR,S.gL,S.pL,S.pD] at *;omega
   simp only [S.ah,S.len,S.gR,S.gL,S.pL,S.pD] at *;omega
 intro h4;try simp only [df] at h4
 refine⟨?_,?_⟩
 · rfl
 exact List.take_of_length_le (by omega)
theorem aez(y1:List (List UInt8))(y2:List (Int×Int×List (List UInt8×List Int)))(hp:True)(hf:Vg.Row.ok (Vg.PS.flat [.agg [.slice [.slice [.int .u8]], .slice [.int .i64, .int .i64, .slice [.str, .slice [.int .i64]]]]]) (y1,y2)):Rg y1 y2:=by
 delta Rg aE z0 z1 ao;have fB:y1.length≤9223372036854775807:=hf.1.1;have fC:y2.length≤9223372036854775807:=hf.2.1.1;clear hf;refine⟨?_,?_⟩
 · refine⟨(nat_lit 0:Nat),?_⟩;try dsimp only
   refine⟨?_,?_⟩
   · omega
   exact S.asS _
 intro x1 h2;refine⟨?_,?_⟩
 · intro h3;try simp only [dt] at h3
   with_reducible and_intros
   iterate 2 omega
   trivial
   · intro h4;exact S.adX h3 h4
   intro h5;with_reducible and_intros
   iterate 2 omega
   refine⟨(x1+nat_lit 1),?_⟩;try dsimp only
   with_reducible and_intros
   omega;exact S.Yk h2 h3 h5;simp only [S.ah,S.len,S.gR,S.gL,S.pL,S.pD] at *;omega
 intro h6;try simp only [df] at h6
 refine⟨?_,?_⟩
 · trivial
 exact S.adY h2 h6
theorem aeA(b:List UInt8)(hp:True)(hf:Vg.Row.ok (Vg.PS.flat [.one (.slice [.int .u8])]) b):Rh b:=by
 delta Rh q95 Cr z0;refine⟨by omega,?_⟩;simp only [List.length_replicate,List.drop_replicate,Go.S.copied];rfl
theorem aeB(n:Int)(hp:S.r6 n)(hf:Vg.Row.ok (Vg.PS.flat [.one (.int .i64)]) n):Ri n:=by
 delta Ri q96 KV aE Cr z0 z1;simp only [Go.S.r6] at hp;refine⟨by omega,⟨by omega,by omega,by omega⟩,⟨by omega,by omega,by omega⟩,⟨0,⟨rfl,by simp,rfl⟩,by simp [Go.S.vj]⟩,fun x hx=>⟨fun h=> ?_,fun h=> ?_⟩⟩
 · simp only [Go.S.vj] at hx;simp only [List.length_replicate,dt] at h ⊢;refine⟨by omega,by omega,by omega,by omega,by omega,by omega,by omega,x+1,⟨by omega,by trivial,by trivial,by trivial⟩,?_,?_⟩<;>simp only [Go.S.vj,Go.S.ah]<;>omega
 simp only [Go.S.vj] at hx;simp only [List.length_replicate,df] at h;refine⟨rfl,by omega,rfl,?_⟩;simp only [Go.S.pY];congr 1;omega
theorem aeC(d1:List (List UInt8))(d2:List (Int×List UInt8))(hp:S.pZ d1)(hf:Vg.Row.ok (Vg.PS.flat [.agg [.slice [.slice [.int .u8]], .slice [.int .i64, .slice [.int .u8]]]]) (d1,d2)):Rj d1 d2:=by
 delta Rj aE z0 z1 ao;obtain⟨h1,h2⟩:=hp;refine⟨⟨by omega,by omega⟩,⟨0,⟨rfl,?_⟩,by simp [Go.S.eb]⟩,fun x hx=>⟨fun h=> ?_,fun h=> ?_⟩⟩
 · simp [Go.S.pY,Go.S.gb]
 · simp only [dt] at h;have j1:x<d1.length:=by omega
   have hf:=Go.S.gC (d1.take x) fun b hb=>h2 b (List.mem_of_mem_take hb);have hb:=h2 _ (Go.S.bo d1 x [] j1)
   have hs:Go.S.gb d1 x=(d1.take x++List.replicate (d1.length-x) (List.replicate 64 0)).flatten:=by
    simp only [Go.S.gb,List.flatten_append,List.flatten_replicate_replicate]
   have oN:∀b∈d1.take x++List.replicate (d1.length-x) (List.replicate 64 (0:UInt8)),b.length=64:=by
    intro b hb;rcases List.mem_append.1 hb with hb|hb
    · exact h2 b (List.mem_of_mem_take hb)
    rw [(List.mem_replicate.1 hb).2,List.length_replicate]
   simp only [tn];refine⟨by omega,by omega,j1,?_,by omega,x+1,⟨by omega,?_⟩,?_,?_⟩
   · simp only [Go.S.gb,List.length_append,hf,List.length_take,List.length_replicate];omega
   · rw [hs,hb,show Min.min 64 64=64 by rfl,List.take_of_length_le (l:=d1.getD x []) (by omega)];have :=Go.S.oM _ x (d1.getD x []) oN (by simp;omega) (by omega);rw [hb] at this;have h0:=oN _ (Go.S.bo (d1.take x++List.replicate (d1.length-x) (List.replicate 64 0)) x [] (by simp;omega));rw [List.drop_of_length_le (Nat.le_of_eq h0),List.append_nil] at this;rw [this];simp only [Go.S.gb];rw [List.set_append_right _ _ (by simp;omega),List.length_take,Nat.min_eq_left (by omega),Nat.sub_self,show d1.length-x=(d1.length-(x+1))+1 by omega,List.replicate_succ,List.set_cons_zero,Go.S.aw d1 x [] j1];simp only [List.flatten_append,List.flatten_cons,List.flatten_replicate_replicate,List.append_assoc,List.flatten_nil,List.nil_append]
   · simp only [Go.S.eb];omega
   simp only [Go.S.ah,Go.S.len];omega
 simp only [df] at h;simp only [Go.S.eb] at hx;have j1:x=d1.length:=by omega
 subst j1;simp [Go.S.len,Go.S.gb,Go.S.flat]
theorem aeD(d1:List (List UInt8))(d2:List (Int×List UInt8))(hp:True)(hf:Vg.Row.ok (Vg.PS.flat [.agg [.slice [.slice [.int .u8]], .slice [.int .i64, .slice [.int .u8]]]]) (d1,d2)):Rk d1 d2:=by
 delta Rk q98 aE z0 z1 ao;have hl1:d1.length≤9223372036854775807:=hf.1.1;have hl2:d2.length≤9223372036854775807:=hf.2.1.1;refine⟨fun h=> ?_,fun h=>⟨⟨0,rfl,by simp [Go.S.M3]⟩,fun x hx=>⟨fun h'=>⟨by simp at h';omega,fun g=> ?_,fun g=>⟨by simp at h';omega,x+1,rfl,?_,?_⟩⟩,fun h'=>⟨⟨0,rfl,by simp [Go.S.M4]⟩,fun y hy=>⟨fun h2=>⟨by simp at h2;omega,fun g=> ?_,fun g=>⟨by simp at h2;omega,y+1,rfl,?_,?_⟩⟩,fun h2=> ?_⟩⟩⟩⟩⟩
 · refine Go.S.s5 fun hr=> ?_;rcases Go.S.mO h with h|h<;>simp at h<;>omega
 · simp only [tn,dt,nt,df] at h' g;exact Go.S.s5 fun hr=>absurd (hr.2.2.1 _ (Go.S.bo d1 x [] (by omega))) (by omega)
 · simp only [tn,dt,nf] at h' g;refine⟨by omega,fun b hb=> ?_⟩;rw [Go.S.aw d1 x [] (by omega)] at hb;rcases List.mem_append.1 hb with hb|hb
   · exact hx.2 b hb
   simp only [List.mem_singleton] at hb;subst hb;omega
 · simp at h';simp only [Go.S.ah,Go.S.len];omega
 · simp only [dt] at h2;have :=fun hr:(∀x∈d2,0≤x.1∧x.1<d1.length∧x.2.length=64)=>hr _ (Go.S.bo d2 y (0,[]) (by omega));refine Go.S.s5 fun hr=> ?_;obtain⟨a,b,c⟩:=this hr.2.2.2;simp only [tn] at g;rcases Go.S.mO g with g|g
   · simp only [dt] at g;omega
   rcases Go.S.mO g with g|g
   · simp only [dt] at g;omega
   simp only [nt,df] at g;omega
 · simp only [dt] at h2;simp only [tn] at g;obtain⟨g1,g2⟩:=Go.S.lv g;obtain⟨g2,g3⟩:=Go.S.lv g2;simp only [df,nf,dt] at g1 g2 g3;refine⟨by omega,fun b hb=> ?_⟩;rw [Go.S.aw d2 y (0,[]) (by omega)] at hb;rcases List.mem_append.1 hb with hb|hb
   · exact hy.2 b hb
   simp only [List.mem_singleton] at hb;subst hb;omega
 · simp at h2;simp only [Go.S.ah,Go.S.len];omega
 obtain⟨h1,h3⟩:=Go.S.lv h;simp only [df] at h1 h3 h' h2;have e1:x=d1.length:=by have :=hx.1;omega
 have e2:y=d2.length:=by have :=hy.1;omega
 subst e1;subst e2;have hx:=hx.2;have hy:=hy.2
 rw [List.take_length] at hx hy;exact(Go.S.cA.2 ⟨by omega,by omega,hx,hy⟩).symm
theorem aeE(d1:List (List UInt8))(d2:List (Int×List UInt8))(hp:True)(hf:Vg.Row.ok (Vg.PS.flat [.agg [.slice [.slice [.int .u8]], .slice [.int .i64, .slice [.int .u8]]]]) (d1,d2)):Rl d1 d2:=by
 unfold Rl;refine⟨trivial,fun h=> ?_,fun h=> ?_⟩<;>simp at h<;>simp [Go.S.vB,Go.S.vW,h]
theorem aeF(d1:List (List UInt8))(d2:List (Int×List UInt8))(hp:True)(hf:Vg.Row.ok (Vg.PS.flat [.agg [.slice [.slice [.int .u8]], .slice [.int .i64, .slice [.int .u8]]]]) (d1,d2)):Rm d1 d2:=by
 delta Rm ao;exact⟨trivial,rfl⟩
theorem aeG(n:Int)(hp:True)(hf:Vg.Row.ok (Vg.PS.flat [.one (.int .i64)]) n):Rn n:=by
 delta Rn q99 z0 z1;refine⟨fun h=> ?_,fun h=> ?_⟩
 · have :n<0∨4096<n:=by rcases Go.S.mO h with h|h<;>simp at h<;>omega
   simp [Go.S.xa,Go.S.M5,this]
 obtain⟨h1,h2⟩:=Go.S.lv h;simp only [df] at h1 h2;have :¬(n<0∨4096<n):=by omega
 refine⟨⟨by omega,by omega⟩,rfl,?_,?_⟩
 · simp only [Go.S.xa,if_neg this,Go.S.pY,Go.S.M6]
 simp only [Go.S.M5,if_neg this]
theorem aeH(d1:List (List UInt8))(d2:List (Int×List UInt8))(i:Int)(hp:True)(hf:Vg.Row.ok (Vg.PS.flat [.agg [.slice [.slice [.int .u8]], .slice [.int .i64, .slice [.int .u8]]], .one (.int .i64)]) (d1,d2,i)):Ro d1 d2 i:=by
 delta Ro aE z0 z1 ao;refine⟨trivial,fun h=> ?_,fun h=> ?_⟩
 · have :i<0∨(Go.S.vB d1 d2).length≤i:=by rcases Go.S.mO h with h|h<;>simp at h<;>omega
   simp [Go.S.dQ,Go.S.gv,this]
 obtain⟨h1,h2⟩:=Go.S.lv h;simp only [df] at h1 h2;have hn:¬(i<0∨(Go.S.vB d1 d2).length≤i):=by omega
 have hw:=Go.S.CN d1 d2;refine⟨by omega,⟨0,⟨rfl,by simp [Go.S.qI,Go.S.cont,Go.S.bX]⟩,by simp [Go.S.eb]⟩,fun x hx=>⟨fun h=> ?_,fun h=> ?_⟩⟩
 · simp only [dt] at h;refine⟨by omega,by omega,x+1,⟨rfl,?_⟩,?_,?_⟩
   · simp only [Go.S.qI,Go.S.cont,tn,Go.S.aw _ x (0,[]) (show x<(Go.S.vW d1 d2).length by omega),List.foldl_append,List.foldl_cons,List.foldl_nil,Bool.cond_eq_ite,dt]
   · simp only [Go.S.eb];omega
   simp only [Go.S.ah,Go.S.len];omega
 simp only [df] at h;have j1:x=(Go.S.vW d1 d2).length:=by simp only [Go.S.eb] at hx;omega
 subst j1;refine⟨trivial,by simp [Go.S.gv,hn],?_⟩;simp only [Go.S.dQ,Go.S.gv,if_neg hn,if_true,Go.S.qI,List.take_length];exact Go.S.xV (Go.S.AN _ (Go.S.l9 d1 d2) _ _ (by simp only [Go.S.bX];exact Go.S.lb d1 d2 _ (Go.S.bo _ _ _ (by omega))))
theorem aeI(d1:List (List UInt8))(d2:List (Int×List UInt8))(i:Int)(b:List UInt8)(hp:True)(hf:Vg.Row.ok (Vg.PS.flat [.agg [.slice [.slice [.int .u8]], .slice [.int .i64, .slice [.int .u8]]], .one (.int .i64), .one (.slice [.int .u8])]) (d1,d2,i,b)):Rp d1 d2 i b:=by
 delta Rp aE z0 z1 ao;refine⟨trivial,fun h=> ?_,fun h=> ?_⟩
 · have :i<0∨(Go.S.vB d1 d2).length≤i∨b.length≠64:=by
    rcases Go.S.mO h with h|h
    · simp at h;exact .inl h
    rcases Go.S.mO h with h|h
    · simp at h;exact .inr (.inl h)
    simp at h;exact .inr (.inr (by omega))
   simp [Go.S.wB,Go.S.wW,Go.S.kY,this]
 obtain⟨h1,h2⟩:=Go.S.lv h;obtain⟨h2,h3⟩:=Go.S.lv h2;simp only [df,nf,dt] at h1 h2 h3;have hn:¬(i<0∨(Go.S.vB d1 d2).length≤i∨b.length≠64):=by omega
 refine⟨fun h=> ?_,fun h=>⟨⟨Go.S.l8 d1 d2,Go.S.lb d1 d2⟩,⟨0,⟨rfl,rfl⟩,by simp [Go.S.eb]⟩,fun x hx=>⟨fun h=> ?_,fun h=> ?_⟩⟩⟩
 · simp only [dt] at h;have :1000≤(Go.S.vW d1 d2).length:=by omega
   simp [Go.S.wB,Go.S.wW,Go.S.kY,hn,this]
 · simp only [dt] at h;have hw:=Go.S.CN d1 d2;simp only [Go.S.kX,List.length_map,List.length_take,lc,ln];refine⟨by omega,trivial,by omega,by omega,x+1,⟨rfl,?_⟩,?_,?_⟩
   · simp only [tn,Go.S.aw _ x (0,[]) (show x<(Go.S.vW d1 d2).length by omega),List.map_append,List.map_cons,List.map_nil]
   · simp only [Go.S.eb];omega
   simp only [Go.S.ah,Go.S.len];omega
 rename_i h';simp only [df] at h h';have j1:x=(Go.S.vW d1 d2).length:=by simp only [Go.S.eb] at hx;omega
 subst j1
 have hm:Go.S.kX (Go.S.vW d1 d2) (Go.S.vW d1 d2).length=Go.S.vW d1 d2:=by
  simp only [Go.S.kX,List.take_length];exact Go.S.Ea fun x hx=>by rw [Go.S.xV (Go.S.l9 d1 d2 x hx).2.2]
 have hw:¬1000≤(Go.S.vW d1 d2).length:=by omega
 refine⟨trivial,by rw [hm];simp;omega,rfl,?_,?_,?_⟩
 · exact Go.S.nq _ (Go.S.lb d1 d2)
 · simp only [hm,Go.S.wW,Go.S.kY,if_neg hn,if_neg hw,if_true,Go.S.xV (show b.length=64 by omega)]
 simp only [Go.S.kY,if_neg hn,if_neg hw]
theorem aeJ(d1:List (List UInt8))(d2:List (Int×List UInt8))(hp:True)(hf:Vg.Row.ok (Vg.PS.flat [.agg [.slice [.slice [.int .u8]], .slice [.int .i64, .slice [.int .u8]]]]) (d1,d2)):Rq d1 d2:=by
 delta Rq zN aE z0 z1 ao;refine⟨trivial,⟨Go.S.l8 d1 d2,Go.S.lb d1 d2⟩,⟨0,⟨rfl,by simp [Go.S.flat,Go.S.l6,Go.S.nV]⟩,by simp [Go.S.eb]⟩,fun x hx=>⟨fun h=> ?_,fun h=> ?_⟩⟩
 · simp only [dt] at h;have j1:x<(Go.S.vW d1 d2).length:=by omega
   have hw:=Go.S.CN d1 d2;obtain⟨a,b,c⟩:=Go.S.l9 d1 d2 _ (Go.S.bo _ x (0,[]) j1);have oN:=Go.S.wh ((Go.S.vW d1 d2).take x) (fun y hy=>(Go.S.l9 d1 d2 y (List.mem_of_mem_take hy)).2.2) (Go.S.vB d1 d2) (Go.S.lb d1 d2);have hl:=Go.S.wg ((Go.S.vW d1 d2).take x) (Go.S.vB d1 d2);simp only [tn,Go.S.len];refine⟨by omega,by omega,by omega,?_,by omega,x+1,⟨rfl,?_⟩,?_,?_⟩
   · simp only [Go.S.ya,Go.S.l6,Go.S.gC _ oN,hl];omega
   · rw [c,show Min.min 64 64=64 by rfl,List.take_of_length_le (l:=((Go.S.vW d1 d2).getD x (0,[])).2) (by omega)];have :=Go.S.oM _ ((Go.S.vW d1 d2).getD x (0,[])).1.toNat _ oN (by rw [hl];omega) (Nat.le_of_eq c);rw [c] at this;have h0:=oN _ (Go.S.bo (Go.S.nV ((Go.S.vW d1 d2).take x) (Go.S.vB d1 d2)) ((Go.S.vW d1 d2).getD x (0,[])).1.toNat [] (by rw [hl];omega));rw [List.drop_of_length_le (Nat.le_of_eq h0),List.append_nil] at this;simp only [Go.S.ya,Go.S.l6,this];simp only [Go.S.nV,Go.S.aw _ x (0,[]) j1,List.foldl_append,List.foldl_cons,List.foldl_nil,Go.S.vg]
   · simp only [Go.S.eb];omega
   simp only [Go.S.ah];omega
 simp only [df] at h;have j1:x=(Go.S.vW d1 d2).length:=by simp only [Go.S.eb] at hx;omega
 subst j1;have oN:=Go.S.wh (Go.S.vW d1 d2) (fun y hy=>(Go.S.l9 d1 d2 y hy).2.2) (Go.S.vB d1 d2) (Go.S.lb d1 d2);have hl:=Go.S.wg (Go.S.vW d1 d2) (Go.S.vB d1 d2);refine⟨rfl,?_⟩;have :=Go.S.nq _ oN;rw [hl] at this;simpa only [Go.S.ya,Go.S.l6,List.take_length,Go.S.len,Go.S.sync] using this
theorem aeK(d1:List (List UInt8))(d2:List (Int×List UInt8))(keep:List Int)(hp:True)(hf:Vg.Row.ok (Vg.PS.flat [.agg [.slice [.slice [.int .u8]], .slice [.int .i64, .slice [.int .u8]]], .one (.slice [.int .i64])]) (d1,d2,keep)):Rs d1 d2 keep:=by
 delta Rs xd Rr aE z0 z1 ao;refine⟨trivial,⟨Go.S.l8 d1 d2,Go.S.lb d1 d2⟩,⟨0,⟨rfl,by simp [Go.S.flat,Go.S.jT,Go.S.rm]⟩,by simp [Go.S.eb]⟩,fun x hx=>⟨fun h=> ?_,fun h=> ?_⟩⟩
 · simp only [dt] at h;have j1:x<(Go.S.vW d1 d2).length:=by omega
   have hw:=Go.S.CN d1 d2;obtain⟨a,b,c⟩:=Go.S.l9 d1 d2 _ (Go.S.bo _ x (0,[]) j1);have oN:=Go.S.xX keep ((Go.S.vW d1 d2).take x) (fun y hy=>(Go.S.l9 d1 d2 y (List.mem_of_mem_take hy))) (Go.S.vB d1 d2) (Go.S.lb d1 d2);have hl:=Go.S.xW keep ((Go.S.vW d1 d2).take x) (Go.S.vB d1 d2)
   have hk:(bif decide ((x:Int)<(keep.length:Int)) then min (max (keep.getD x 0) 0) 64 else(0:Int))=(Go.S.kept keep x:Int):=by
    simp only [Go.S.kept];by_cases VD:x<keep.length
    · have :(x:Int)<keep.length:=by omega
      simp only [this,decide_true,cond_true,List.getElem?_eq_getElem VD,List.getD,Option.getD_some];omega
    have :¬(x:Int)<keep.length:=by omega
    simp [this,List.getElem?_eq_none (show keep.length≤x by omega)]
   have ß:Go.S.kept keep x≤64:=Go.S.vk keep x;simp only [tn,Go.S.len,hk];refine⟨by omega,⟨fun h=>by simp at h;omega,fun _=>trivial⟩,by omega,by omega,by omega,?_,by omega,x+1,⟨rfl,?_⟩,?_,?_⟩
   · simp only [Go.S.wk,Go.S.jT,Go.S.gC _ oN,hl];omega
   · have hlen:(((Go.S.vW d1 d2).getD x (0,[])).2.take (Go.S.kept keep x)).length=Go.S.kept keep x:=by rw [List.length_take];omega
     rw [hlen,show Min.min (Go.S.kept keep x) 64=Go.S.kept keep x by omega,List.take_take,show Min.min 64 (Go.S.kept keep x)=Go.S.kept keep x by omega];have :=Go.S.oM _ ((Go.S.vW d1 d2).getD x (0,[])).1.toNat _ oN (by rw [hl];omega) (show(((Go.S.vW d1 d2).getD x (0,[])).2.take (Go.S.kept keep x)).length≤64 by omega);rw [hlen] at this;simp only [Go.S.wk,Go.S.jT,this,Go.S.M7 keep _ _ x j1,Go.S.sZ]
   · simp only [Go.S.eb];omega
   simp only [Go.S.ah];omega
 simp only [df] at h;have j1:x=(Go.S.vW d1 d2).length:=by simp only [Go.S.eb] at hx;omega
 subst j1;have oN:=Go.S.xX keep (Go.S.vW d1 d2) (fun y hy=>(Go.S.l9 d1 d2 y hy)) (Go.S.vB d1 d2) (Go.S.lb d1 d2);have hl:=Go.S.xW keep (Go.S.vW d1 d2) (Go.S.vB d1 d2);refine⟨rfl,?_⟩;have :=Go.S.nq _ oN;rw [hl] at this;simpa only [Go.S.wk,Go.S.jT,List.take_length,Go.S.len,Go.S.l7] using this
theorem aeL(a:List UInt8)(b:List UInt8)(hp:True)(hf:Vg.Row.ok (Vg.PS.flat [.one (.slice [.int .u8]), .one (.slice [.int .u8])]) (a,b)):Rt a b:=by
 unfold Rt;have vD:a.length≤9223372036854775807:=hf.1.1;have hJ:b.length≤9223372036854775807:=hf.2.1.1;clear hf;grind [Go.S.KJ]
theorem aeM(b:List UInt8)(hp:S.e6 b)(hf:Vg.Row.ok (Vg.PS.flat [.one (.slice [.int .u8])]) b):Rv b:=by
 delta Rv Ru aE z0 z1 ao;have hJ:b.length≤9223372036854775807:=hf.1.1;clear hf;with_reducible and_intros
 omega;grind [Go.S.dS,Go.S.oE,Go.S.ah,Go.S.e8,Go.S.vq,Go.S.e6]
 · refine⟨(nat_lit 0:Nat),?_⟩;try dsimp only
   with_reducible and_intros
   omega;iterate 2 (grind [Go.S.dS,Go.S.oE,Go.S.ah,Go.S.e8,Go.S.vq,Go.S.e6])
 intro x1 h2;refine⟨?_,?_⟩
 · intro h3;try simp only [dt] at h3
   with_reducible and_intros
   iterate 5 omega
   · have q:x1≤8:=h2;omega
   refine⟨(x1+nat_lit 1),?_⟩;try dsimp only
   with_reducible and_intros
   omega;exact S.PM hp (S.ad6 h3);iterate 2 (grind [Go.S.dS,Go.S.oE,Go.S.ah,Go.S.e8,Go.S.vq,Go.S.e6])
 intro h4;try simp only [df] at h4
 refine⟨?_,?_⟩
 · intro h5;try simp only [dt] at h5
   refine⟨?_,?_⟩
   · grind [Go.S.dS,Go.S.oE,Go.S.ah,Go.S.e8,Go.S.vq,Go.S.e6]
   grind [Go.S.dS,Go.S.oE,Go.S.ah,Go.S.e8,Go.S.vq,Go.S.e6]
 intro h6;try simp only [df] at h6
 with_reducible and_intros
 iterate 2 omega
 iterate 2 (grind [Go.S.dS,Go.S.oE,Go.S.ah,Go.S.e8,Go.S.vq,Go.S.e6])
theorem aeN(m1:Int)(m2:Int)(hp:S.ma m1 m2)(hf:Vg.Row.ok (Vg.PS.flat [.agg [.int .i64, .int .i64]]) (m1,m2)):Rx m1 m2:=by
 delta Rx Í vC Î Rw aE Cr z0 z1 ao;have av7: -9223372036854775808≤m1∧m1≤9223372036854775807:=hf.1;have av8: -9223372036854775808≤m2∧m2≤9223372036854775807:=hf.2.1;clear hf;with_reducible and_intros
 iterate 4 omega
 trivial
 · refine⟨(nat_lit 0:Nat),?_⟩;try dsimp only
   with_reducible and_intros
   omega;rfl;exact Nat.zero_le _
 intro x1 h2;refine⟨?_,?_⟩
 · intro h3;try simp only [dt] at h3
   with_reducible and_intros
   iterate 8 omega
   · have q:=S.vu m1 m2 x1 h2;omega
   iterate 6 omega
   · have q:=S.vu m1 m2 x1 h2;rw [List.length_set];omega
   iterate 2 omega
   refine⟨(x1+nat_lit 1),?_⟩;try dsimp only
   with_reducible and_intros
   omega;exact S.Nd hp.1 (by omega) hp.2 (by omega) (by omega)
   · show x1+1≤8;omega
   simp only [S.ah];omega
 intro h4;try simp only [df] at h4
 with_reducible and_intros
 omega
 iterate 2
  · have q:=S.vu m1 m2 x1 h2;rw [show Int.toNat 32=32 from rfl];omega
 exact S.VX h4 h2
theorem aeO(b:List UInt8)(m:Int)(hp:True)(hf:Vg.Row.ok (Vg.PS.flat [.one (.slice [.int .u8]), .one (.int .i64)]) (b,m)):Ry b m:=by
 delta Ry xe Ï z0 ao;have hJ:b.length≤9223372036854775807:=hf.1.1;have Þ: -9223372036854775808≤m∧m≤9223372036854775807:=hf.2.1;clear hf;refine⟨?_,?_⟩
 · intro h1;try simp only [nt,df] at h1
   with_reducible and_intros
   iterate 3 (grind [Go.S.cG,Go.S.KJ,Go.S.e6,Go.S.ma])
 intro h2;try simp only [nf,dt] at h2
 with_reducible and_intros
 grind [Go.S.cG,Go.S.KJ,Go.S.e6,Go.S.ma];iterate 2 omega
 grind [Go.S.cG,Go.S.KJ,Go.S.e6,Go.S.ma]
 · intro h3;try simp only [nt] at h3
   trivial
 · intro h4;try simp only [nf] at h4
   refine⟨?_,?_⟩
   · intro h5;try simp only [nt] at h5
     trivial
   intro h6;try simp only [nf] at h6
   refine⟨?_,?_⟩
   · intro h7;try simp only [dt] at h7
     trivial
   intro h8;try simp only [df] at h8
   refine⟨?_,?_⟩
   · exact⟨S.wi _,S.wi _⟩
   trivial
 · intro h9;try simp only [V.nL,nt,dt] at h9
   with_reducible and_intros
   iterate 3 (grind [Go.S.cG,Go.S.KJ,Go.S.e6,Go.S.ma])
 intro cY;try simp only [V.fl,nf,df] at cY
 with_reducible and_intros
 iterate 3 (grind [Go.S.cG,Go.S.KJ,Go.S.e6,Go.S.ma])
theorem aeP(d1:List (List UInt8))(d2:List (Int×List UInt8))(hp:True)(hf:Vg.Row.ok (Vg.PS.flat [.agg [.slice [.slice [.int .u8]], .slice [.int .i64, .slice [.int .u8]]]]) (d1,d2)):Rz d1 d2:=by
 delta Rz aE;have AY:d1.length≤9223372036854775807:=hf.1.1;have AZ:d2.length≤9223372036854775807:=hf.2.1.1;clear hf;with_reducible and_intros
 trivial;grind [Go.S.dI,Go.S.kP]
 · have q:=S.l8 d1 d2;simp only [S.kP];omega
 grind [Go.S.dI,Go.S.kP]
 · have q:=S.l8 d1 d2;simp only [S.kP];omega
 grind [Go.S.dI,Go.S.kP]
theorem aeQ(d1:List (List UInt8))(d2:List (Int×List UInt8))(hp:True)(hf:Vg.Row.ok (Vg.PS.flat [.agg [.slice [.slice [.int .u8]], .slice [.int .i64, .slice [.int .u8]]]]) (d1,d2)):RA d1 d2:=by
 delta RA aE z0 z1;have AY:d1.length≤9223372036854775807:=hf.1.1;have AZ:d2.length≤9223372036854775807:=hf.2.1.1;clear hf;refine⟨?_,?_⟩
 · refine⟨(nat_lit 0:Nat),?_⟩;try dsimp only
   with_reducible and_intros
   omega;iterate 3 rfl
   exact Nat.zero_le _
 intro x1 h2;refine⟨?_,?_⟩
 · intro h3;try simp only [dt] at h3
   with_reducible and_intros
   trivial
   · intro h4;try simp only [nt,df] at h4
     with_reducible and_intros
     omega
     · have q:x1≤2:=h2;omega
     refine⟨(x1+nat_lit 1),?_⟩;try dsimp only
     with_reducible and_intros
     omega;iterate 3 (rw [S.AS,S.vr,if_pos h4])
     · show x1+1≤2;omega
     simp only [S.ah];omega
   intro h5;try simp only [nf,dt] at h5
   with_reducible and_intros
   iterate 2 trivial
   omega
   · have q:x1≤2:=h2;omega
   refine⟨(x1+nat_lit 1),?_⟩;try dsimp only
   with_reducible and_intros
   omega
   · rw [S.Q1,S.AS,S.vr,if_neg (show ¬(S.gv d1 d2 (x1:Int)≠0) from fun w=>w h5)];split;(rename_i q;exact q.1.symm);rfl
   iterate 2
    · rw [S.Q1,S.AS,S.vr,if_neg (show ¬(S.gv d1 d2 (x1:Int)≠0) from fun w=>w h5)];split<;>rfl
   · show x1+1≤2;omega
   simp only [S.ah];omega
 intro h6;try simp only [df] at h6
 with_reducible and_intros
 iterate 2
  · have q:x1≤2:=h2;obtain rfl :x1=2:=(by omega);rfl
 have q:x1≤2:=h2;obtain rfl :x1=2:=(by omega);rfl
theorem aeR(d1:List (List UInt8))(d2:List (Int×List UInt8))(n:Int)(hp:S.qJ d1 d2 n)(hf:Vg.Row.ok (Vg.PS.flat [.agg [.slice [.slice [.int .u8]], .slice [.int .i64, .slice [.int .u8]]], .one (.int .i64)]) (d1,d2,n)):RB d1 d2 n:=by
 delta RB aE jz z0 z1 ao;have AY:d1.length≤9223372036854775807:=hf.1.1;have AZ:d2.length≤9223372036854775807:=hf.2.1.1;have R4: -9223372036854775808≤n∧n≤9223372036854775807:=hf.2.2.1;clear hf;refine⟨?_,?_⟩
 · refine⟨0,?_⟩;try dsimp only
   with_reducible and_intros
   iterate 2 rfl
   exact .inr rfl
 intro x1 h2;refine⟨?_,?_⟩
 · intro h3;try simp only [dt] at h3
   with_reducible and_intros
   trivial
   · intro h4;try simp only [nt,df] at h4
     exact absurd (S.ad7 hp h2 h3) h4
   intro h5;try simp only [nf,dt] at h5
   with_reducible and_intros
   · have q:=S.zG h2;have q1:=S.r8 hp h2 h3;have q2:=S.zF h5;omega
   iterate 2
    · have q1:=S.r8 hp h2 h3;omega
   refine⟨(x1+1),?_⟩;try dsimp only
   with_reducible and_intros
   omega;exact(S.AT d1 d2 x1).symm;exact S.akC hp h2 h3;have q1:=S.r8 hp h2 h3;simp only [S.ah];omega
 intro h6;try simp only [df] at h6
 with_reducible and_intros
 exact hp.2;omega;exact S.YB hp h2 h6
theorem aeS(r1:List UInt8)(r2:Int)(r3:Int)(hp:S.KL r1)(hf:Vg.Row.ok (Vg.PS.flat [.agg [.slice [.int .u8], .int .i64, .int .i64]]) (r1,r2,r3)):RC r1 r2 r3:=by
 delta RC H4 Nn Np iQ jz z0;have KW:r1.length≤9223372036854775807:=hf.1.1;have KX: -9223372036854775808≤r2∧r2≤9223372036854775807:=hf.2.1;have KY: -9223372036854775808≤r3∧r3≤9223372036854775807:=hf.2.2.1;clear hf;with_reducible and_intros
 trivial
 · intro h1;try simp only [dt] at h1
   rw [(S.nm _ _ _).1];exact hp
 · intro h2;try simp only [df] at h2
   refine⟨?_,?_⟩
   · intro h3;try simp only [dt] at h3
     refine⟨?_,?_⟩
     · rw [(S.nm _ _ _).1];exact hp
     rw [(S.nm _ _ _).1,(S.nm _ _ _).1];exact hp
   intro h4;try simp only [df] at h4
   trivial
 exact S.asV r1 r2 r3;exact congrArg (fun z=>z.1.1) (S.wj r1 r2 r3);exact congrArg (fun z=>z.1.2) (S.wj r1 r2 r3);exact congrArg (fun z=>z.2.1) (S.wj r1 r2 r3);exact congrArg (fun z=>z.2.2.1) (S.wj r1 r2 r3);exact congrArg (fun z=>z.2.2.2.1) (S.wj r1 r2 r3);exact congrArg (fun z=>z.2.2.2.2) (S.wj r1 r2 r3)
theorem aeT(y1:List (List UInt8))(y2:List (Int×Int×List (List UInt8×List Int)))(e1:Int)(e2:Int)(e3:Int)(e4:List UInt8)(hp:True)(hf:Vg.Row.ok (Vg.PS.flat [.agg [.slice [.slice [.int .u8]], .slice [.int .i64, .int .i64, .slice [.str, .slice [.int .i64]]]], .agg [.int .i64, .int .i64, .int .i64, .slice [.int .u8]]]) (y1,y2,e1,e2,e3,e4)):RJ y1 y2 e1 e2 e3 e4:=by
 unfold RJ;have fB:y1.length≤9223372036854775807:=hf.1.1;have fC:y2.length≤9223372036854775807:=hf.2.1.1;have ob: -9223372036854775808≤e1∧e1≤9223372036854775807:=hf.2.2.1;have oc: -9223372036854775808≤e2∧e2≤9223372036854775807:=hf.2.2.2.1;have od: -9223372036854775808≤e3∧e3≤9223372036854775807:=hf.2.2.2.2.1;have oe:e4.length≤9223372036854775807:=hf.2.2.2.2.2.1.1;clear hf;with_reducible and_intros
 trivial;iterate 3 rfl
theorem aeU(y1:List (List UInt8))(y2:List (Int×Int×List (List UInt8×List Int)))(e1:Int)(e2:Int)(e3:Int)(e4:List UInt8)(hp:True)(hf:Vg.Row.ok (Vg.PS.flat [.agg [.slice [.slice [.int .u8]], .slice [.int .i64, .int .i64, .slice [.str, .slice [.int .i64]]]], .agg [.int .i64, .int .i64, .int .i64, .slice [.int .u8]]]) (y1,y2,e1,e2,e3,e4)):RL y1 y2 e1 e2 e3 e4:=by
 unfold RL;have fB:y1.length≤9223372036854775807:=hf.1.1;have fC:y2.length≤9223372036854775807:=hf.2.1.1;have ob: -9223372036854775808≤e1∧e1≤9223372036854775807:=hf.2.2.1;have oc: -9223372036854775808≤e2∧e2≤9223372036854775807:=hf.2.2.2.1;have od: -9223372036854775808≤e3∧e3≤9223372036854775807:=hf.2.2.2.2.1;have oe:e4.length≤9223372036854775807:=hf.2.2.2.2.2.1.1;clear hf;with_reducible and_intros
 trivial;iterate 3 rfl
theorem aeV(y1:List (List UInt8))(y2:List (Int×Int×List (List UInt8×List Int)))(e1:Int)(e2:Int)(e3:Int)(e4:List UInt8)(hp:True)(hf:Vg.Row.ok (Vg.PS.flat [.agg [.slice [.slice [.int .u8]], .slice [.int .i64, .int .i64, .slice [.str, .slice [.int .i64]]]], .agg [.int .i64, .int .i64, .int .i64, .slice [.int .u8]]]) (y1,y2,e1,e2,e3,e4)):RM y1 y2 e1 e2 e3 e4:=by
 unfold RM;have fB:y1.length≤9223372036854775807:=hf.1.1;have fC:y2.length≤9223372036854775807:=hf.2.1.1;have ob: -9223372036854775808≤e1∧e1≤9223372036854775807:=hf.2.2.1;have oc: -9223372036854775808≤e2∧e2≤9223372036854775807:=hf.2.2.2.1;have od: -9223372036854775808≤e3∧e3≤9223372036854775807:=hf.2.2.2.2.1;have oe:e4.length≤9223372036854775807:=hf.2.2.2.2.2.1.1;clear hf;with_reducible and_intros
 trivial;iterate 3 rfl
theorem aeW(y1:List (List UInt8))(y2:List (Int×Int×List (List UInt8×List Int)))(e1:Int)(e2:Int)(e3:Int)(e4:List UInt8)(hp:True)(hf:Vg.Row.ok (Vg.PS.flat [.agg [.slice [.slice [.int .u8]], .slice [.int .i64, .int .i64, .slice [.str, .slice [.int .i64]]]], .agg [.int .i64, .int .i64, .int .i64, .slice [.int .u8]]]) (y1,y2,e1,e2,e3,e4)):RN y1 y2 e1 e2 e3 e4:=by
 delta RN z0;have fB:y1.length≤9223372036854775807:=hf.1.1;have fC:y2.length≤9223372036854775807:=hf.2.1.1;have ob: -9223372036854775808≤e1∧e1≤9223372036854775807:=hf.2.2.1;have oc: -9223372036854775808≤e2∧e2≤9223372036854775807:=hf.2.2.2.1;have od: -9223372036854775808≤e3∧e3≤9223372036854775807:=hf.2.2.2.2.1;have oe:e4.length≤9223372036854775807:=hf.2.2.2.2.2.1.1;clear hf;with_reducible and_intros
 trivial;iterate 3 rfl
theorem aeX(hp:True)(hf:Vg.Row.ok (Vg.PS.flat []) ()):RO:=by
 unfold RO;clear hf;trivial
theorem aeY(y1:List (List UInt8))(y2:List (Int×Int×List (List UInt8×List Int)))(e1:Int)(e2:Int)(e3:Int)(e4:List UInt8)(hp:True)(hf:Vg.Row.ok (Vg.PS.flat [.agg [.slice [.slice [.int .u8]], .slice [.int .i64, .int .i64, .slice [.str, .slice [.int .i64]]]], .agg [.int .i64, .int .i64, .int .i64, .slice [.int .u8]]]) (y1,y2,e1,e2,e3,e4)):RP y1 y2 e1 e2 e3 e4:=by
 delta RP z0 z1;have fB:y1.length≤9223372036854775807:=hf.1.1;have fC:y2.length≤9223372036854775807:=hf.2.1.1;have ob: -9223372036854775808≤e1∧e1≤9223372036854775807:=hf.2.2.1;have oc: -9223372036854775808≤e2∧e2≤9223372036854775807:=hf.2.2.2.1;have od: -9223372036854775808≤e3∧e3≤9223372036854775807:=hf.2.2.2.2.1;have oe:e4.length≤9223372036854775807:=hf.2.2.2.2.2.1.1;clear hf;with_reducible and_intros
 · intro h1;with_reducible and_intros
   trivial;omega;trivial
   iterate 2
    · subst h1;rfl
   subst h1;rfl
 · intro h2;with_reducible and_intros
   trivial;omega;trivial
   iterate 2
    · subst h2;rfl
   subst h2;rfl
 · intro h3;with_reducible and_intros
   trivial;omega;trivial
   iterate 2
    · subst h3;rfl
   subst h3;rfl
 · intro h4;with_reducible and_intros
   trivial;omega;trivial
   iterate 2
    · subst h4;rfl
   subst h4;rfl
 intro h5;with_reducible and_intros
 trivial
 · intro h6;exact h5.1 h6
 · intro h7;exact h5.2.1 h7
 · intro h8;exact h5.2.2.1 h8
 · intro h9;exact h5.2.2.2.1 h9
 iterate 2 trivial
 iterate 2 (rw [S.HY h5])
 rw [S.HY h5]
theorem aeZ(e1:Int)(e2:Int)(e3:Int)(e4:List UInt8)(hp:True)(hf:Vg.Row.ok (Vg.PS.flat [.agg [.int .i64, .int .i64, .int .i64, .slice [.int .u8]]]) (e1,e2,e3,e4)):RD e1 e2 e3 e4:=by
 delta RD Ð aE z0 z1 ao;have ob: -9223372036854775808≤e1∧e1≤9223372036854775807:=hf.1;have oc: -9223372036854775808≤e2∧e2≤9223372036854775807:=hf.2.1;have od: -9223372036854775808≤e3∧e3≤9223372036854775807:=hf.2.2.1;have oe:e4.length≤9223372036854775807:=hf.2.2.2.1.1;clear hf;refine⟨?_,?_⟩
 · intro h1;try simp only [V.nL,dt] at h1
   refine⟨?_,?_⟩
   · rw [S.Fo h1]
   rw [S.Fo h1]
 intro h2;try simp only [V.fl,df] at h2
 with_reducible and_intros
 trivial
 · intro h3;try simp only [dt] at h3
   refine⟨?_,?_⟩
   · intro h4;try simp only [dt] at h4
     refine⟨?_,?_⟩
     · rw [S.BZ h3 h4]
     rw [S.BZ h3 h4]
   intro h5;try simp only [df] at h5
   with_reducible and_intros
   exact S.PN h2 h5
   · intro h6;try simp only [nt,df] at h6
     refine⟨?_,?_⟩
     · exact absurd (S.zH h2) h6
     exact absurd (S.zH h2) h6
   intro h7;try simp only [nf,dt] at h7
   refine⟨?_,?_⟩
   · rw [S.Fp h3 h5,S.CO h2]
   rw [S.Fp h3 h5]
 intro h8;try simp only [df] at h8
 refine⟨?_,?_⟩
 · intro h9;try simp only [dt] at h9
   refine⟨?_,?_⟩
   · refine⟨(nat_lit 0:Nat),?_⟩;try dsimp only
     with_reducible and_intros
     omega;exact S.zH h2;exact S.CO h2;exact Nat.zero_le _
   intro FC ew;refine⟨?_,?_⟩
   · intro dG;try simp only [dt] at dG
     with_reducible and_intros
     iterate 3 omega
     · intro jV;try simp only [dt] at jV
       with_reducible and_intros
       · have q:=S.YC e1 e2 e3 FC;omega
       iterate 2
        · have q:FC≤2:=ew;omega
       refine⟨(FC+nat_lit 1),?_⟩;try dsimp only
       with_reducible and_intros
       omega;exact(S.YD dG jV).1;exact(S.YD dG jV).2
       · have q:(FC:Int)<2:=dG;show FC+1≤2;omega
       have q:(FC:Int)<2:=dG;simp only [S.ah];omega
     intro eU;try simp only [df] at eU
     with_reducible and_intros
     iterate 2
      · have q:FC≤2:=ew;omega
     refine⟨(FC+nat_lit 1),?_⟩;try dsimp only
     with_reducible and_intros
     omega;exact congrArg Prod.snd (S.YE dG eU);exact congrArg Prod.fst (S.YE dG eU)
     · have q:(FC:Int)<2:=dG;show FC+1≤2;omega
     have q:(FC:Int)<2:=dG;simp only [S.ah];omega
   intro jd;try simp only [df] at jd
   refine⟨?_,?_⟩
   · intro tA;try simp only [nt,df] at tA
     refine⟨?_,?_⟩
     · rw [S.zI h9 ew jd,if_neg tA]
     rw [S.zI h9 ew jd,if_neg tA]
   intro zR;try simp only [nf,dt] at zR
   refine⟨?_,?_⟩
   · rw [S.zI h9 ew jd,if_pos zR]
   rw [S.zI h9 ew jd,if_pos zR]
 intro s9;try simp only [df] at s9
 refine⟨?_,?_⟩
 · intro zS;try simp only [nt,df] at zS
   refine⟨?_,?_⟩
   · exact absurd (S.zH h2) zS
   exact absurd (S.zH h2) zS
 intro GY;try simp only [nf,dt] at GY
 refine⟨?_,?_⟩
 · rw [S.B2 h2 h8 s9,S.CO h2]
 rw [S.B2 h2 h8 s9]
theorem ae0(d1:List (List UInt8))(d2:List (Int×List UInt8))(hp:True)(hf:Vg.Row.ok (Vg.PS.flat [.agg [.slice [.slice [.int .u8]], .slice [.int .i64, .slice [.int .u8]]]]) (d1,d2)):RE d1 d2:=by
 delta RE Nq oq z0 z1 ao;have AY:d1.length≤9223372036854775807:=hf.1.1;have AZ:d2.length≤9223372036854775807:=hf.2.1.1;clear hf;with_reducible and_intros
 trivial
 · intro h1;try simp only [nt] at h1
   trivial
 · intro h2;try simp only [nf] at h2
   trivial
 · intro h3;try simp only [V.nL,nt,dt] at h3
   with_reducible and_intros
   iterate 4
    · simp only [S.bV];rw [S.aif h3]<;>rfl
   simp only [S.bV];rw [S.aif h3]<;>rfl
 intro h4;try simp only [V.fl,nf,df] at h4
 with_reducible and_intros
 trivial
 · intro h5;try simp only [nt] at h5
   with_reducible and_intros
   iterate 4
    · simp only [S.bV];rw [S.aih h4 h5]<;>rfl
   simp only [S.bV];rw [S.aih h4 h5]<;>rfl
 intro h6;try simp only [nf] at h6
 with_reducible and_intros
 exact S.aea h6
 · refine⟨(((0:Int)),(([]),([]))),?_⟩;try dsimp only
   with_reducible and_intros
   rfl;omega;iterate 3 rfl
   exact S.YG _
 intro x7 h8;refine⟨?_,?_⟩
 · intro h9;try simp only [dt] at h9
   with_reducible and_intros
   · have q:=S.PO d1 d2;unfold S.KL;omega
   · intro cY;try simp only [nt,df] at cY
     with_reducible and_intros
     iterate 4
      · simp only [S.bV];rw [S.Q4 h4 h6 h8 h9 cY]<;>rfl
     simp only [S.bV];rw [S.Q4 h4 h6 h8 h9 cY]<;>rfl
   intro ew;try simp only [nf,dt] at ew
   with_reducible and_intros
   trivial
   · intro dG;try simp only [nt,df] at dG
     with_reducible and_intros
     iterate 4
      · simp only [S.bV];rw [S.Nh h4 h6 h8 h9 ew dG]<;>rfl
     simp only [S.bV];rw [S.Nh h4 h6 h8 h9 ew dG]<;>rfl
   intro jV;try simp only [nf,dt] at jV
   refine⟨((Prod.fst (Prod.fst (S.cr (S.ba d1 d2) (Prod.fst x7) (0:Int)))),((Prod.fst (Prod.fst (S.bH (Prod.fst (Prod.snd x7)) (Prod.snd (Prod.snd x7)) (Prod.fst (Prod.snd (S.cr (S.ba d1 d2) (Prod.fst x7) (0:Int)))) (Prod.fst (Prod.snd (Prod.snd (S.cr (S.ba d1 d2) (Prod.fst x7) (0:Int))))) (Prod.fst (Prod.snd (Prod.snd (Prod.snd (S.cr (S.ba d1 d2) (Prod.fst x7) (0:Int)))))) (Prod.snd (Prod.snd (Prod.snd (Prod.snd (S.cr (S.ba d1 d2) (Prod.fst x7) (0:Int))))))))),(Prod.snd (Prod.fst (S.bH (Prod.fst (Prod.snd x7)) (Prod.snd (Prod.snd x7)) (Prod.fst (Prod.snd (S.cr (S.ba d1 d2) (Prod.fst x7) (0:Int)))) (Prod.fst (Prod.snd (Prod.snd (S.cr (S.ba d1 d2) (Prod.fst x7) (0:Int))))) (Prod.fst (Prod.snd (Prod.snd (Prod.snd (S.cr (S.ba d1 d2) (Prod.fst x7) (0:Int)))))) (Prod.snd (Prod.snd (Prod.snd (Prod.snd (S.cr (S.ba d1 d2) (Prod.fst x7) (0:Int))))))))))),?_⟩;try dsimp only
   with_reducible and_intros
   rfl;iterate 2 omega
   iterate 2 rfl
   exact S.asY h8 h9 ew jV;exact S.YI h8 h9 ew
 intro eU;try simp only [df] at eU
 with_reducible and_intros
 iterate 4
  · simp only [S.bV];rw [S.Q5 h4 h6 h8 eU]<;>rfl
 simp only [S.bV];rw [S.Q5 h4 h6 h8 eU]<;>rfl
theorem ae1(d1:List (List UInt8))(d2:List (Int×List UInt8))(a:Int)(b:List UInt8)(hp:S.KM a b)(hf:Vg.Row.ok (Vg.PS.flat [.agg [.slice [.slice [.int .u8]], .slice [.int .i64, .slice [.int .u8]]], .one (.int .i64), .one (.slice [.int .u8])]) (d1,d2,a,b)):RF d1 d2 a b:=by
 delta RF zO Ñ H5 aE z0 ao;have AY:d1.length≤9223372036854775807:=hf.1.1;have AZ:d2.length≤9223372036854775807:=hf.2.1.1;have vD: -9223372036854775808≤a∧a≤9223372036854775807:=hf.2.2.1;have hJ:b.length≤9223372036854775807:=hf.2.2.2.1.1;clear hf;with_reducible and_intros
 iterate 2
  · obtain⟨q1,q2,q3⟩:=hp;omega
 · refine⟨(a,b,[]),?_⟩;try dsimp only
   with_reducible and_intros
   iterate 3 rfl
   exact⟨hp.1,rfl,rfl⟩
 intro x1 h2;refine⟨?_,?_⟩
 · intro h3;try simp only [dt] at h3
   with_reducible and_intros
   exact h2.1;omega
   iterate 2
    · have q:=S.KO hp h2;have q0:=h2.1;omega
   trivial
   · intro h4;try simp only [nt,df] at h4
     rw [S.aeb h2 h3 h4]
   intro h5;try simp only [nf,dt] at h5
   with_reducible and_intros
   exact h2.1;iterate 2 omega
   iterate 2
    · have q:=S.zF h5;omega
   · have q:=S.KO hp h2;simp only [S.mj,List.length_map,lc,ln];omega
   iterate 2
    · have q:=S.KO hp h2;have q0:=h2.1;omega
   iterate 2 omega
   refine⟨(x1.1+((min (64-(x1.1%64).toNat) x1.2.1.length:Nat):Int),x1.2.1.drop (64-(x1.1%64).toNat),x1.2.2++ [(2+x1.1/64,S.mP (S.dQ d1 d2 (2+x1.1/64)) x1.1 x1.2.1)]),?_⟩;try dsimp only
   with_reducible and_intros
   rw [(S.AU h2 h3 h5).1]
   · rw [(S.AU h2 h3 h5).1,tn];exact(S.AU h2 h3 h5).2.2.1.symm
   · rw [←(S.AU h2 h3 h5).2.2.2.1];simp only [S.mj,List.map_append];rfl
   exact(S.AU h2 h3 h5).2.2.2.2;have q:=(S.AU h2 h3 h5).2.1;simp only [List.length_drop];omega
 intro h6;try simp only [df] at h6
 rw [S.YJ h2 h6]
theorem ae2(d1:List (List UInt8))(d2:List (Int×List UInt8))(s1:Int)(s2:Int)(s3:List (List UInt8))(s4:List (Int×Int×List (List UInt8×List Int)))(e1:Int)(e2:Int)(e3:Int)(e4:List UInt8)(hp:True)(hf:Vg.Row.ok (Vg.PS.flat [.agg [.slice [.slice [.int .u8]], .slice [.int .i64, .slice [.int .u8]]], .agg [.int .i64, .int .i64, .slice [.slice [.int .u8]], .slice [.int .i64, .int .i64, .slice [.str, .slice [.int .i64]]]], .agg [.int .i64, .int .i64, .int .i64, .slice [.int .u8]]]) (d1,d2,s1,s2,s3,s4,e1,e2,e3,e4)):RG d1 d2 s1 s2 s3 s4 e1 e2 e3 e4:=by
 delta RG gr hC B5 aE z0 z1;have AY:d1.length≤9223372036854775807:=hf.1.1;have AZ:d2.length≤9223372036854775807:=hf.2.1.1;have mR: -9223372036854775808≤s1∧s1≤9223372036854775807:=hf.2.2.1;have mS: -9223372036854775808≤s2∧s2≤9223372036854775807:=hf.2.2.2.1;have P1:s3.length≤9223372036854775807:=hf.2.2.2.2.1.1;have av9:s4.length≤9223372036854775807:=hf.2.2.2.2.2.1.1;have ob: -9223372036854775808≤e1∧e1≤9223372036854775807:=hf.2.2.2.2.2.2.1;have oc: -9223372036854775808≤e2∧e2≤9223372036854775807:=hf.2.2.2.2.2.2.2.1;have od: -9223372036854775808≤e3∧e3≤9223372036854775807:=hf.2.2.2.2.2.2.2.2.1;have oe:e4.length≤9223372036854775807:=hf.2.2.2.2.2.2.2.2.2.1.1;clear hf;refine⟨?_,?_⟩
 · intro h1;try simp only [dt] at h1
   with_reducible and_intros
   iterate 6
    · (try simp only [S.bV,S.gZ] at *);rw [S.asZ h1]<;>rfl
 intro h2;try simp only [df] at h2
 with_reducible and_intros
 trivial
 · intro h3;try simp only [V.nL,nt,df] at h3
   with_reducible and_intros
   iterate 6
    · (try simp only [S.bV,S.gZ] at *);rw [S.as0 h2 h3]<;>rfl
 intro h4;try simp only [V.fl,nf,dt] at h4
 with_reducible and_intros
 trivial
 · intro h5;try simp only [nt,df] at h5
   with_reducible and_intros
   iterate 6
    · (try simp only [S.bV,S.gZ] at *);rw [S.as1 h2 h4 h5]<;>rfl
 intro h6;try simp only [nf,dt] at h6
 with_reducible and_intros
 trivial
 · intro h7;try simp only [nt,df] at h7
   with_reducible and_intros
   iterate 6
    · (try simp only [S.bV,S.gZ] at *);rw [S.as2 h2 h4 h6 h7]<;>rfl
 intro h8;try simp only [nf,dt] at h8
 with_reducible and_intros
 trivial
 iterate 2
  · (try simp only [S.bV,S.gZ] at *);have q:=S.KP h4.1;have q1:=S.AX d1 d2;omega
 · intro h9;try simp only [dt] at h9
   with_reducible and_intros
   iterate 6
    · (try simp only [S.bV,S.gZ] at *);rw [S.as3 h2 h4 h6 h8 h9]<;>rfl
 intro cY;try simp only [df] at cY
 with_reducible and_intros
 iterate 5
  · (try simp only [S.bV,S.gZ] at *);have q:=S.KP h4.1;have q1:=S.AX d1 d2;have q2:=S.qK (a:=e1) (b:=e2) (c:=e3) (d:=e4);omega
 · (try simp only [S.bV,S.gZ] at *);first|omega|rfl|trivial|assumption
 · (try simp only [S.bV,S.gZ] at *);exact⟨rfl,rfl⟩
 · (try simp only [S.bV,S.gZ] at *);have q:=S.KP h4.1;have q1:=S.AX d1 d2;have q2:=S.qK (a:=e1) (b:=e2) (c:=e3) (d:=e4);exact⟨q.2.2.1,by omega,by omega⟩
 · (try simp only [S.bV,S.gZ] at *);have q:=S.H2 d1 d2 (S.kZ (S.bg d1 d2).1).2.1 (S.aQ e1 e2 e3 e4).1;have q2:=S.qK (a:=e1) (b:=e2) (c:=e3) (d:=e4);simp only [lc,ln];omega
 · (try simp only [S.bV,S.gZ] at *);have q:=S.KP h4.1;exact⟨by omega,by omega⟩
 · (try simp only [S.bV,S.gZ] at *);have q:=S.H2 d1 d2 (S.kZ (S.bg d1 d2).1).2.1 (S.aQ e1 e2 e3 e4).1;have q2:=S.qK (a:=e1) (b:=e2) (c:=e3) (d:=e4);simp only [lc,ln,List.length_append];omega
 iterate 6
  · (try simp only [S.bV,S.gZ] at *);rw [S.as4 h2 h4 h6 h8 cY]<;>rfl
theorem ae3(d1:List (List UInt8))(d2:List (Int×List UInt8))(l:List (Bool×Int×List UInt8))(f:Int)(hp:True)(hf:Vg.Row.ok (Vg.PS.flat [.agg [.slice [.slice [.int .u8]], .slice [.int .i64, .slice [.int .u8]]], .one (.slice [.bool, .int .i64, .slice [.int .u8]]), .one (.int .i64)]) (d1,d2,l,f)):RH d1 d2 l f:=by
 delta RH zP aE z0 z1 ao;have AY:d1.length≤9223372036854775807:=hf.1.1;have AZ:d2.length≤9223372036854775807:=hf.2.1.1;have ml:l.length≤9223372036854775807:=hf.2.2.1.1;have awE: -9223372036854775808≤f∧f≤9223372036854775807:=hf.2.2.2.1;clear hf;refine⟨?_,?_⟩
 · refine⟨((nat_lit 0:Nat),((d1),(d2))),?_⟩;try dsimp only
   with_reducible and_intros
   omega;iterate 2 rfl
   exact S.as5 d1 d2 l f
 intro x1 h2;refine⟨?_,?_⟩
 · intro h3;try simp only [dt] at h3
   with_reducible and_intros
   iterate 2 omega
   · intro h4;try simp only [dt] at h4
     with_reducible and_intros
     iterate 2
      · simp only [S.r9];rw [S.aii h2 h3 h4]
     simp only [S.r9];rw [S.aii h2 h3 h4]
   intro h5;try simp only [df] at h5
   refine⟨?_,?_⟩
   · intro h6;with_reducible and_intros
     trivial;iterate 2 omega
     refine⟨((Prod.fst x1+nat_lit 1),((S.ya (Prod.fst (Prod.snd x1),Prod.snd (Prod.snd x1))),([]))),?_⟩;try dsimp only
     with_reducible and_intros
     omega;iterate 2 rfl
     exact S.YM h2 h3 h5 h6;have q:(x1.1:Int)<l.length:=h3;simp only [S.ah,S.len];omega
   intro h7;with_reducible and_intros
   trivial
   · intro h8;try simp only [nt,df,tn] at h8
     with_reducible and_intros
     iterate 2
      · simp only [S.r9];rw [S.Q7 h2 h3 h5 h7 h8]
     simp only [S.r9];rw [S.Q7 h2 h3 h5 h7 h8]
   intro h9;try simp only [nf,dt,tn] at h9
   with_reducible and_intros
   iterate 2 omega
   refine⟨((Prod.fst x1+nat_lit 1),((S.wB (Prod.fst (Prod.snd x1)) (Prod.snd (Prod.snd x1))),(S.wW (Prod.fst (Prod.snd x1)) (Prod.snd (Prod.snd x1)) (Prod.fst (Prod.snd (List.getD l (Int.toNat (↑(Prod.fst x1):Int)) (Bool.false,(0:Int),[])))) (Prod.snd (Prod.snd (List.getD l (Int.toNat (↑(Prod.fst x1):Int)) (Bool.false,(0:Int),[]))))))),?_⟩;try dsimp only
   with_reducible and_intros
   omega;iterate 2 rfl
   exact S.VY h2 h3 h5 h7 h9;have q:(x1.1:Int)<l.length:=h3;simp only [S.ah,S.len];omega
 intro cY;try simp only [df] at cY
 with_reducible and_intros
 iterate 2
  · simp only [S.r9];rw [S.Q8 h2 cY]
 simp only [S.r9];rw [S.Q8 h2 cY]
theorem ae4(y1:List (List UInt8))(y2:List (Int×Int×List (List UInt8×List Int)))(e1:Int)(e2:Int)(e3:Int)(e4:List UInt8)(hp:True)(hf:Vg.Row.ok (Vg.PS.flat [.agg [.slice [.slice [.int .u8]], .slice [.int .i64, .int .i64, .slice [.str, .slice [.int .i64]]]], .agg [.int .i64, .int .i64, .int .i64, .slice [.int .u8]]]) (y1,y2,e1,e2,e3,e4)):RQ y1 y2 e1 e2 e3 e4:=by
 delta RQ z0 z1;have fB:y1.length≤9223372036854775807:=hf.1.1;have fC:y2.length≤9223372036854775807:=hf.2.1.1;have ob: -9223372036854775808≤e1∧e1≤9223372036854775807:=hf.2.2.1;have oc: -9223372036854775808≤e2∧e2≤9223372036854775807:=hf.2.2.2.1;have od: -9223372036854775808≤e3∧e3≤9223372036854775807:=hf.2.2.2.2.1;have oe:e4.length≤9223372036854775807:=hf.2.2.2.2.2.1.1;clear hf;refine⟨?_,?_⟩
 · intro h1;try simp only [dt] at h1
   with_reducible and_intros
   trivial
   iterate 2
    · subst h1;rfl
   subst h1;rfl
 intro h2;try simp only [df] at h2
 refine⟨?_,?_⟩
 · intro h3;try simp only [dt] at h3
   with_reducible and_intros
   trivial
   iterate 2
    · subst h3;rfl
   subst h3;rfl
 intro h4;try simp only [df] at h4
 refine⟨?_,?_⟩
 · intro h5;try simp only [dt] at h5
   with_reducible and_intros
   trivial
   iterate 2
    · subst h5;rfl
   subst h5;rfl
 intro h6;try simp only [df] at h6
 refine⟨?_,?_⟩
 · intro h7;try simp only [dt] at h7
   with_reducible and_intros
   trivial
   iterate 2
    · subst h7;rfl
   subst h7;rfl
 intro h8;try simp only [df] at h8
 with_reducible and_intros
 trivial;iterate 2 (rw [S.Fv h2 h4 h6 h8])
 rw [S.Fv h2 h4 h6 h8]
theorem ae5(n:Int)(hp:True)(hf:Vg.Row.ok (Vg.PS.flat [.one (.int .i64)]) n):RR n:=by
 delta RR z0;have R4: -9223372036854775808≤n∧n≤9223372036854775807:=hf.1;clear hf;exact S.aed n
theorem ae6(e1:Int)(e2:Int)(e3:Int)(e4:List UInt8)(hp:True)(hf:Vg.Row.ok (Vg.PS.flat [.agg [.int .i64, .int .i64, .int .i64, .slice [.int .u8]]]) (e1,e2,e3,e4)):RS e1 e2 e3 e4:=by
 delta RS z0 z1 ao;have ob: -9223372036854775808≤e1∧e1≤9223372036854775807:=hf.1;have oc: -9223372036854775808≤e2∧e2≤9223372036854775807:=hf.2.1;have od: -9223372036854775808≤e3∧e3≤9223372036854775807:=hf.2.2.1;have oe:e4.length≤9223372036854775807:=hf.2.2.2.1.1;clear hf;refine⟨?_,?_⟩
 · intro h1;try simp only [dt] at h1
   exact S.YN h1
 intro h2;try simp only [df] at h2
 refine⟨?_,?_⟩
 · intro h3;try simp only [dt] at h3
   with_reducible and_intros
   trivial
   · intro h4;trivial
   · intro h5;trivial
   exact S.YO h2 h3
 intro h6;try simp only [df] at h6
 exact S.YP h2 h6
theorem ae7(e1:Int)(e2:Int)(e3:Int)(e4:List UInt8)(hp:S.zJ e1 e2 e3 e4)(hf:Vg.Row.ok (Vg.PS.flat [.agg [.int .i64, .int .i64, .int .i64, .slice [.int .u8]]]) (e1,e2,e3,e4)):RT e1 e2 e3 e4:=by
 delta RT jz z0;have ob: -9223372036854775808≤e1∧e1≤9223372036854775807:=hf.1;have oc: -9223372036854775808≤e2∧e2≤9223372036854775807:=hf.2.1;have od: -9223372036854775808≤e3∧e3≤9223372036854775807:=hf.2.2.1;have oe:e4.length≤9223372036854775807:=hf.2.2.2.1.1;clear hf;with_reducible and_intros
 exact(S.zK hp).1
 · intro h1;try simp only [dt] at h1
   with_reducible and_intros
   · have q:=(S.zK hp).2.1 h1;unfold S.small;omega
   · have q:=(S.zK hp).2.1 h1;have q1:=S.eR e1;have q2:=S.HG (s:=e4);omega
   rw [S.as6 h1]
 intro h2;try simp only [df] at h2
 refine⟨?_,?_⟩
 · intro h3;try simp only [dt] at h3
   with_reducible and_intros
   exact((S.zK hp).2.2 h2 h3).1
   · have q1:=S.eR e1;have q2:=S.eR e2;omega
   exact((S.zK hp).2.2 h2 h3).2
   · have q1:=S.eR e1;have q2:=S.eR e2;have q3:=S.eR e3;rw [List.length_append];omega
   rw [S.as7 h2 h3]
 intro h4;try simp only [df] at h4
 rw [S.as8 h2 h4]
theorem ae8(hp:True)(hf:Vg.Row.ok (Vg.PS.flat []) ()):RZ:=by
 delta RZ qL zQ xf RU RV B6 RW RX RY Nr z0 z1;clear hf;with_reducible and_intros
 iterate 7 trivial
 · intro h1;try simp only [dt] at h1
   refine⟨?_,?_⟩
   · intro h2;try simp only [dt] at h2
     refine⟨?_,?_⟩
     · intro h3;try simp only [dt] at h3
       refine⟨?_,?_⟩
       · intro h4;try simp only [dt] at h4
         refine⟨?_,?_⟩
         · intro h5;try simp only [dt] at h5
           with_reducible and_intros
           iterate 2 trivial
           · intro h6;try simp only [dt] at h6
             with_reducible and_intros
             iterate 2 trivial
             · intro h7;try simp only [dt] at h7
               with_reducible and_intros
               iterate 2 trivial
               · intro h8;with_reducible and_intros
                 iterate 2 trivial
                 · intro h9;try simp only [dt] at h9
                   refine⟨?_,?_⟩
                   · intro cY;try simp only [dt] at cY
                     refine⟨?_,?_⟩
                     · intro ew;try simp only [dt] at ew
                       refine⟨?_,?_⟩
                       · intro dG;try simp only [dt] at dG
                         refine⟨?_,?_⟩
                         · intro jV;try simp only [dt] at jV
                           refine⟨?_,?_⟩
                           · intro eU;try simp only [dt] at eU
                             refine⟨?_,?_⟩
                             · trivial
                             trivial
                           intro jd;try simp only [df] at jd
                           trivial
                         intro tA;try simp only [df] at tA
                         trivial
                       intro zR;try simp only [df] at zR
                       trivial
                     intro s9;try simp only [df] at s9
                     trivial
                   intro zS;try simp only [df] at zS
                   trivial
                 intro GY;try simp only [df] at GY
                 trivial
               intro p7;trivial
             intro V2;try simp only [df] at V2
             trivial
           intro h23;try simp only [df] at h23
           trivial
         intro Wq;try simp only [df] at Wq
         trivial
       intro P0;try simp only [df] at P0
       trivial
     intro h26;try simp only [df] at h26
     trivial
   intro h27;try simp only [df] at h27
   trivial
 · intro Õ;try simp only [df] at Õ
   trivial
 trivial
theorem ae9(e1:Int)(e2:Int)(e3:Int)(e4:List UInt8)(hp:True)(hf:Vg.Row.ok (Vg.PS.flat [.agg [.int .i64, .int .i64, .int .i64, .slice [.int .u8]]]) (e1,e2,e3,e4)):R0 e1 e2 e3 e4:=by
 unfold R0;have ob: -9223372036854775808≤e1∧e1≤9223372036854775807:=hf.1;have oc: -9223372036854775808≤e2∧e2≤9223372036854775807:=hf.2.1;have od: -9223372036854775808≤e3∧e3≤9223372036854775807:=hf.2.2.1;have oe:e4.length≤9223372036854775807:=hf.2.2.2.1.1;clear hf;with_reducible and_intros
 iterate 4 rfl
theorem afa(e1:Int)(e2:Int)(e3:Int)(e4:List UInt8)(hp:True)(hf:Vg.Row.ok (Vg.PS.flat [.agg [.int .i64, .int .i64, .int .i64, .slice [.int .u8]]]) (e1,e2,e3,e4)):R1 e1 e2 e3 e4:=by
 delta R1 ao;have ob: -9223372036854775808≤e1∧e1≤9223372036854775807:=hf.1;have oc: -9223372036854775808≤e2∧e2≤9223372036854775807:=hf.2.1;have od: -9223372036854775808≤e3∧e3≤9223372036854775807:=hf.2.2.1;have oe:e4.length≤9223372036854775807:=hf.2.2.2.1.1;clear hf;rfl
theorem afb(y1:List (List UInt8))(y2:List (Int×Int×List (List UInt8×List Int)))(e1:Int)(e2:Int)(e3:Int)(e4:List UInt8)(hp:True)(hf:Vg.Row.ok (Vg.PS.flat [.agg [.slice [.slice [.int .u8]], .slice [.int .i64, .int .i64, .slice [.str, .slice [.int .i64]]]], .agg [.int .i64, .int .i64, .int .i64, .slice [.int .u8]]]) (y1,y2,e1,e2,e3,e4)):R2 y1 y2 e1 e2 e3 e4:=by
 delta R2 Ò z0 z1;have fB:y1.length≤9223372036854775807:=hf.1.1;have fC:y2.length≤9223372036854775807:=hf.2.1.1;have ob: -9223372036854775808≤e1∧e1≤9223372036854775807:=hf.2.2.1;have oc: -9223372036854775808≤e2∧e2≤9223372036854775807:=hf.2.2.2.1;have od: -9223372036854775808≤e3∧e3≤9223372036854775807:=hf.2.2.2.2.1;have oe:e4.length≤9223372036854775807:=hf.2.2.2.2.2.1.1;clear hf;with_reducible and_intros
 trivial
 · intro h1;trivial
 · intro h2;trivial
 · intro h3;try simp only [V.nL,nt,df] at h3
   refine⟨?_,?_⟩
   · trivial
   rfl
 intro h4;try simp only [V.fl,nf,dt] at h4
 with_reducible and_intros
 trivial;exact(S.KH h4.1).1;iterate 3 trivial
 exact S.PR _ _ _ _ _ _;trivial
 · intro h5;try simp only [V.nL,nt,df] at h5
   rw [S.MU] at h5;rcases h5 with q|q;cases q;exact absurd trivial q
 intro h6;try simp only [V.fl,nf,dt] at h6
 with_reducible and_intros
 iterate 2 trivial
 · intro h7;try simp only [nt] at h7
   with_reducible and_intros
   · intro h8;try simp only [dt] at h8
     refine⟨?_,?_⟩
     · intro h9;try simp only [dt] at h9
       trivial
     intro cY;try simp only [df] at cY
     trivial
   · intro ew;try simp only [df] at ew
     trivial
   rw [S.as9 h7];rfl
 intro dG;try simp only [nf] at dG
 with_reducible and_intros
 iterate 2 trivial
 · intro jV;try simp only [dt] at jV
   refine⟨?_,?_⟩
   · intro eU;try simp only [dt] at eU
     trivial
   intro jd;try simp only [df] at jd
   trivial
 · intro tA;try simp only [df] at tA
   trivial
 rw [S.ata dG];simp
end Go

end
section
set_option linter.unusedVariables false
namespace Go.J
open Go Vg
def body(f:Func):Code:=f.body.getD .skip
def E0:Env:= {T:=fK,sig:=fun _=>none,lI:=G0}
abbrev R5:List PS:= [.one (.int .i64)]
def aiv:Int→Prop×AV×List AB:=fun x=>match x with
 |v=>(0≤v, .own 0,[.row 5 [.int .u8] (S.num v) false])
def aiw:Int→Nat:=fun x=>match x with
 |v=>v.toNat
def atv:Int→Nat→Option an:=fun _ _=>none
def aix:bf:=ar R5 aiv
def atw(m:Nat):Env:=Env.cons 48 (lz R5 aiw m aiv) E0
def aiy:Env:=Env.cons 48 aix E0
abbrev aiz:List PS:= [.one (.str)]
def atx:List UInt8→Prop×AV×List AB:=fun x=>match x with
 |s=>(S.small s, .own 0,[.row 5 [.int .u8] (S.text s) false])
def aty:List UInt8→Nat→Option an:=fun _ _=>none
def aiA:bf:=ar aiz atx
def aiB:Env:=Env.cons 49 aiA aiy
abbrev aiC:List PS:= [.one (.slice [.int .u8])]
def atz:List UInt8→Prop×AV×List AB:=fun x=>match x with
 |b=>(b.length≤140737488355328, .own 0,[.row 5 [.int .u8] (b) false])
def atA:List UInt8→Nat→Option an:=fun _ _=>none
def aiD:bf:=ar aiC atz
def aiE:Env:=Env.cons 83 aiD aiB
abbrev aiF:List TA:= [.own 50000, .jK (.int .i64)]
abbrev aiG:List TB:= [.row 5 [.int .u8]]
def atB:Int→((List UInt8)×Unit)→gg:=fun x y=>match x,y with
 |v,(l,())=> {pre:=S.zf l v,res:= .own 60000,heap:= [none],new:= [.row 5 [.int .u8] (l++S.num v) false]}
def atC:Int→((List UInt8)×Unit)→Nat→Option an:=fun x y=>match x,y with
 |v,(l,())=>fun id=>(match id with
  |0=>some {τ:=List UInt8×Int,aO:= [(1,fun k=> .int .i64 k.2),(0,fun k=> .own 300)],keys:= [(300,fun k=> .row 5 [.int .u8] k.1 false)],cu:= [(Vg.Loc.slot 0,300)],drop:= [50000],bB:= [],inv:=fun k=>S.oF l v k.1 k.2,ah:=fun k=>k.2.toNat}
  |_=>none)
def aiH:gh:=iX aiF aiG atB
def aiI:gh:=aiH
def aiJ:Env:=Env.gm 82 [true,false] aiI aiE
abbrev aiK:List TA:= [.own 50000, .jK (.str)]
abbrev aiL:List TB:= [.row 5 [.int .u8]]
def atD:(List UInt8)→((List UInt8)×Unit)→gg:=fun x y=>match x,y with
 |s,(l,())=> {pre:=S.lT l s,res:= .own 60000,heap:= [none],new:= [.row 5 [.int .u8] (l++S.text s) false]}
def atE:(List UInt8)→((List UInt8)×Unit)→Nat→Option an:=fun _ _ _=>none
def aiM:gh:=iX aiK aiL atD
def aiN:gh:=aiM
def aiO:Env:=Env.gm 84 [true,false] aiN aiJ
abbrev aiP:List PS:= [.one (.slice [.int .u8]), .one (.int .i64)]
def atF:List UInt8×Int→Prop×AV×List AB:=fun x=>match x with
 |(b,v)=>(b.length≤35184372088832, .cD [.own 0, .int .i64 (((S.jg b v,S.iz v)).2:Int)],[.row 5 [.int .u8] (((S.jg b v,S.iz v)).1) false])
def atG:List UInt8×Int→Nat→Option an:=fun _ _=>none
def aiQ:bf:=ar aiP atF
def aiR:Env:=Env.cons 44 aiQ aiO
abbrev aiS:List PS:= [.one (.slice [.int .u8]), .one (.str)]
def atH:List UInt8×List UInt8→Prop×AV×List AB:=fun x=>match x with
 |(b,s)=>(S.lT b s, .own 0,[.row 5 [.int .u8] (b++S.text s) false])
def atI:List UInt8×List UInt8→Nat→Option an:=fun _ _=>none
def aiT:bf:=ar aiS atH
def aiU:Env:=Env.cons 45 aiT aiR
abbrev aiV:List PS:= [.agg [.slice [.int .u8], .int .i64, .int .i64]]
def atJ:List UInt8×Int×Int→Prop×AV×List AB:=fun x=>match x with
 |(r1,r2,r3)=>(True, .bool (S.inside r1 r2),[])
def atK:List UInt8×Int×Int→Nat→Option an:=fun _ _=>none
def aiW:bf:=ar aiV atJ
def aiX:Env:=Env.cons 131 aiW aiU
abbrev aiY:List PS:= [.agg [.slice [.int .u8], .int .i64, .int .i64]]
def atL:List UInt8×Int×Int→Prop×AV×List AB:=fun x=>match x with
 |(r1,r2,r3)=>(r1.length≤140737488355328, .agg [.sl [.int .u8] (((r1,r2,S.cW r1 r2 r3)).1), .int .i64 (((r1,r2,S.cW r1 r2 r3)).2.1:Int), .int .i64 (((r1,r2,S.cW r1 r2 r3)).2.2:Int)],[])
def atM:List UInt8×Int×Int→Nat→Option an:=fun _ _=>none
def aiZ:bf:=ar aiY atL
def ai0:Env:=Env.cons 118 aiZ aiX
abbrev ai1:List PS:= [.one (.slice [.int .u8]), .one (.int .i64)]
def atN:List UInt8×Int→Prop×AV×List AB:=fun x=>match x with
 |(b,p)=>(S.dE b p, .cD [.int .i64 ((S.aK b p).1:Int), .int .i64 ((S.aK b p).2.1:Int), .int .i64 ((S.aK b p).2.2:Int)],[])
def atO:List UInt8×Int→Nat→Option an:=fun x=>match x with
 |(b,p)=>fun id=>(match id with
  |0=>some {τ:=Nat,aO:= [(7,fun k=> .int .i64 (S.eF b p k)),(8,fun k=> .int .i64 ((k:Nat):Int))],keys:= [],cu:= [],drop:= [],bB:= [],inv:=fun k=>S.gN b p k,ah:=fun k=>S.ah 9 k}
  |_=>none)
def ai2:bf:=ar ai1 atN
def ai3:Env:=Env.cons 119 ai2 ai0
abbrev à:List PS:= [.one (.slice [.int .u8]), .one (.int .i64), .one (.int .i64)]
def amJ:List UInt8×Int×Int→Prop×AV×List AB:=fun x=>match x with
 |(b,p,cb)=>(S.dE b p, .cD [.str ((S.bW b p cb).1), .int .i64 ((S.bW b p cb).2.1:Int), .int .i64 ((S.bW b p cb).2.2:Int)],[])
def amK:List UInt8×Int×Int→Nat→Option an:=fun _ _=>none
def á:bf:=ar à amJ
def â:Env:=Env.cons 120 á ai3
abbrev ã:List PS:= [.agg [.slice [.int .u8], .int .i64, .int .i64], .one (.int .i64)]
def amL:List UInt8×Int×Int×Int→Prop×AV×List AB:=fun x=>match x with
 |(r1,r2,r3,cb)=>(r1.length≤140737488355328, .cD [.agg [.sl [.int .u8] (((S.bm r1 r2 r3 cb).1).1), .int .i64 (((S.bm r1 r2 r3 cb).1).2.1:Int), .int .i64 (((S.bm r1 r2 r3 cb).1).2.2:Int)], .str ((S.bm r1 r2 r3 cb).2)],[])
def amM:List UInt8×Int×Int×Int→Nat→Option an:=fun _ _=>none
def ä:bf:=ar ã amL
def å:Env:=Env.cons 89 ä â
abbrev æ:List PS:= [.agg [.slice [.int .u8], .int .i64, .int .i64]]
def amN:List UInt8×Int×Int→Prop×AV×List AB:=fun x=>match x with
 |(r1,r2,r3)=>(r1.length≤140737488355328, .cD [.agg [.sl [.int .u8] (((S.al r1 r2 r3).1).1), .int .i64 (((S.al r1 r2 r3).1).2.1:Int), .int .i64 (((S.al r1 r2 r3).1).2.2:Int)], .int .i64 ((S.al r1 r2 r3).2:Int)],[])
def amO:List UInt8×Int×Int→Nat→Option an:=fun _ _=>none
def ç:bf:=ar æ amN
def è:Env:=Env.cons 88 ç å
abbrev é:List PS:= [.one (.int .i64)]
def amP:Int→Prop×AV×List AB:=fun x=>match x with
 |c=>(True, .bool (S.bp c),[])
def amQ:Int→Nat→Option an:=fun _ _=>none
def ê:bf:=ar é amP
def ë:Env:=Env.cons 190 ê è
abbrev ì:List PS:= [.one (.int .i64)]
def amR:Int→Prop×AV×List AB:=fun x=>match x with
 |c=>(True, .int .i64 (S.c7 c:Int),[])
def amS:Int→Nat→Option an:=fun _ _=>none
def í:bf:=ar ì amR
def î:Env:=Env.cons 191 í ë
abbrev ï:List PS:= [.one (.int .i64)]
def amT:Int→Prop×AV×List AB:=fun x=>match x with
 |c=>(0≤c, .int .u8 ((S.more c).toNat:Int),[])
def amU:Int→Nat→Option an:=fun _ _=>none
def ð:bf:=ar ï amT
def ñ:Env:=Env.cons 192 ð î
abbrev ò:List PS:= [.one (.int .i64)]
def amV:Int→Prop×AV×List AB:=fun x=>match x with
 |c=>(True, .cD [.own 0, .int .i64 (((S.eS c,S.tm c)).2:Int)],[.row 5 [.int .u8] (((S.eS c,S.tm c)).1) false])
def amW:Int→Nat→Option an:=fun _ _=>none
def ó:bf:=ar ò amV
def ô:Env:=Env.cons 166 ó ñ
abbrev õ:List PS:= [.one (.slice [.int .u8])]
def amX:List UInt8→Prop×AV×List AB:=fun x=>match x with
 |b=>(0<b.length, .cD [.int .i64 ((S.aL b).1:Int), .int .i64 ((S.aL b).2:Int)],[])
def amY:List UInt8→Nat→Option an:=fun x=>match x with
 |b=>fun id=>(match id with
  |1=>some {τ:=Nat,aO:= [(42,fun k=> .int .i64 ((k:Nat):Int)),(4,fun k=> .int .i64 (S.bC b k))],keys:= [],cu:= [],drop:= [],bB:= [],inv:=fun k=>S.lB b k,ah:=fun k=>S.ah 4 k}
  |_=>none)
def ö:bf:=ar õ amX
def ø:Env:=Env.cons 165 ö ô
abbrev ù:List PS:= [.one (.slice [.int .u8])]
def amZ:List UInt8→Prop×AV×List AB:=fun x=>match x with
 |b=>(S.small b, .own 0,[.row 3 [.int .i64] (S.decode b) false])
def am0:List UInt8→Nat→Option an:=fun x=>match x with
 |b=>fun id=>(match id with
  |0=>some {τ:=List UInt8×List Int,aO:= [(0,fun k=> .sl [.int .u8] k.1),(3,fun k=> .own 300)],keys:= [(300,fun k=> .row 3 [.int .i64] k.2 false)],cu:= [(Vg.Loc.slot 3,300)],drop:= [],bB:= [],inv:=fun k=>S.ic b k.1 k.2,ah:=fun k=>S.len k.1}
  |_=>none)
def ú:bf:=ar ù amZ
def û:Env:=Env.cons 153 ú ø
abbrev ü:List PS:= [.one (.int .i64)]
def am1:Int→Prop×AV×List AB:=fun x=>match x with
 |c=>(True, .bool (S.letter c),[])
def am2:Int→Nat→Option an:=fun x=>match x with
 |c=>fun id=>(match id with
  |0=>some {τ:=Nat,aO:= [(6,fun k=> .int .i64 ((k:Nat):Int))],keys:= [],cu:= [],drop:= [],bB:= [],inv:=fun k=>S.lA c k,ah:=fun k=>S.ah 9 k}
  |_=>none)
def ý:bf:=ar ü am1
def þ:Env:=Env.cons 154 ý û
abbrev ÿ:List PS:= [.one (.int .i64)]
def am3:Int→Prop×AV×List AB:=fun x=>match x with
 |c=>(True, .bool (S.digit c),[])
def am4:Int→Nat→Option an:=fun _ _=>none
def Ā:bf:=ar ÿ am3
def ā:Env:=Env.cons 155 Ā þ
abbrev Ă:List PS:= [.one (.int .i64)]
def am5:Int→Prop×AV×List AB:=fun x=>match x with
 |c=>(True, .int .i64 (S.aT c:Int),[])
def am6:Int→Nat→Option an:=fun x=>match x with
 |c=>fun id=>(match id with
  |0=>some {τ:=Nat,aO:= [(6,fun k=> .int .i64 ((k:Nat):Int))],keys:= [],cu:= [],drop:= [],bB:= [],inv:=fun k=>S.lU c k,ah:=fun k=>S.ah 7 k}
  |_=>none)
def ă:bf:=ar Ă am5
def Ą:Env:=Env.cons 167 ă ā
abbrev ą:List PS:= [.one (.int .i64), .one (.int .i64), .one (.int .i64)]
def am7:Int×Int×Int→Prop×AV×List AB:=fun x=>match x with
 |(c,a,b)=>(True, .bool (S.bJ c a b),[])
def am8:Int×Int×Int→Nat→Option an:=fun _ _=>none
def Ć:bf:=ar ą am7
def ć:Env:=Env.cons 208 Ć Ą
abbrev Ĉ:List PS:= [.one (.int .i64)]
def am9:Int→Prop×AV×List AB:=fun x=>match x with
 |c=>(True, .bool (S.iZ c),[])
def ana:Int→Nat→Option an:=fun _ _=>none
def ĉ:bf:=ar Ĉ am9
def Ċ:Env:=Env.cons 199 ĉ ć
abbrev ċ:List PS:= [.one (.int .i64)]
def anb:Int→Prop×AV×List AB:=fun x=>match x with
 |c=>(0≤c∧c≤1114111, .own 0,[.row 5 [.int .u8] (S.enc c) false])
def anc:Int→Nat→Option an:=fun _ _=>none
def Č:bf:=ar ċ anb
def č:Env:=Env.cons 200 Č Ċ
abbrev Ď:List PS:= [.one (.int .i64), .one (.int .i64)]
def ane:Int×Int→Prop×AV×List AB:=fun x=>match x with
 |(a,b)=>(True, .int .i64 (S.ju a b:Int),[])
def anf:Int×Int→Nat→Option an:=fun _ _=>none
def ď:bf:=ar Ď ane
def Đ:Env:=Env.cons 201 ď č
abbrev đ:List PS:= [.one (.int .i64)]
def ang:Int→Prop×AV×List AB:=fun x=>match x with
 |c=>(True, .bool (S.letter c),[])
def anh:Int→Nat→Option an:=fun _ _=>none
def Ē:bf:=ar đ ang
def ē:Env:=Env.cons 202 Ē Đ
abbrev Ĕ:List PS:= [.one (.int .i64)]
def ani:Int→Prop×AV×List AB:=fun x=>match x with
 |c=>(True, .int .i64 (S.aT c:Int),[])
def anj:Int→Nat→Option an:=fun _ _=>none
def ĕ:bf:=ar Ĕ ani
def Ė:Env:=Env.cons 203 ĕ ē
abbrev ė:List PS:= [.one (.slice [.int .u8]), .one (.int .i64)]
def ank:List UInt8×Int→Prop×AV×List AB:=fun x=>match x with
 |(b,n)=>(S.v7 b n, .int .i64 (S.aZ b n:Int),[])
def anl:List UInt8×Int→Nat→Option an:=fun x=>match x with
 |(b,n)=>fun id=>(match id with
  |0=>some {τ:=Nat,aO:= [(7,fun k=> .int .i64 ((k:Nat):Int)),(6,fun k=> .int .i64 (S.kR b n (k-1)))],keys:= [],cu:= [],drop:= [],bB:= [],inv:=fun k=>S.nc b n k,ah:=fun k=>S.ah n.toNat k}
  |_=>none)
def Ę:bf:=ar ė ank
def ę:Env:=Env.cons 198 Ę Ė
abbrev Ě:List PS:= [.one (.slice [.int .u8])]
def anm:List UInt8→Prop×AV×List AB:=fun x=>match x with
 |b=>(S.small b, .own 0,[.row 3 [.int .i64] (S.decode b) false])
def ann:List UInt8→Nat→Option an:=fun x=>match x with
 |b=>fun id=>(match id with
  |0=>some {τ:=Nat×List Int,aO:= [(4,fun k=> .int .i64 ((k.1:Nat):Int)),(3,fun k=> .own 300)],keys:= [(300,fun k=> .row 3 [.int .i64] k.2 false)],cu:= [(Vg.Loc.slot 3,300)],drop:= [],bB:= [],inv:=fun k=>S.ic b (b.drop k.1) k.2∧k.1≤b.length,ah:=fun k=>S.ah (S.len b) k.1}
  |2=>some {τ:=Nat×Nat,aO:= [(7,fun k=> .int .i64 ((k.1+1:Nat):Int)),(5,fun k=> .int .i64 (S.fm (b.drop k.2) k.1).1),(6,fun k=> .int .i64 (S.fm (b.drop k.2) k.1).2)],keys:= [],cu:= [],drop:= [],bB:= [(4,fun k=> .int .i64 ((k.2:Nat):Int))],inv:=fun k=>k.1≤4,ah:=fun k=>S.ah 4 k.1}
  |_=>none)
def ě:bf:=ar Ě anm
def Ĝ:Env:=Env.cons 179 ě ę
abbrev ĝ:List PS:= [.one (.slice [.int .i64])]
def ano:List Int→Prop×AV×List AB:=fun x=>match x with
 |u=>(S.GP u, .str (S.dF u),[])
def anp:List Int→Nat→Option an:=fun x=>match x with
 |u=>fun id=>(match id with
  |0=>some {τ:=Nat×List UInt8,aO:= [(10,fun k=> .int .i64 ((k.1:Nat):Int)),(3,fun k=> .own 300)],keys:= [(300,fun k=> .row 5 [.int .u8] k.2 false)],cu:= [(Vg.Loc.slot 3,300)],drop:= [],bB:= [],inv:=fun k=>S.iC u k.1 k.2,ah:=fun k=>S.ah (S.len u) k.1}
  |_=>none)
def Ğ:bf:=ar ĝ ano
def ğ:Env:=Env.cons 156 Ğ Ĝ
abbrev Ġ:List PS:= [.one (.slice [.int .u8])]
def anq:List UInt8→Prop×AV×List AB:=fun x=>match x with
 |b=>(S.small b, .own 0,[.row 9 [.str] (S.aW b) false])
def anr:List UInt8→Nat→Option an:=fun x=>match x with
 |b=>fun id=>(match id with
  |0=>some {τ:=Nat×List (List UInt8)×List Int,aO:= [(10,fun k=> .int .i64 ((k.1:Nat):Int)),(3,fun k=> .own 300),(4,fun k=> .own 301)],keys:= [(300,fun k=> .row 9 [.str] k.2.1 false),(301,fun k=> .row 3 [.int .i64] k.2.2 false)],cu:= [(Vg.Loc.slot 3,300),(Vg.Loc.slot 4,301)],drop:= [104000,104001,104002,40],bB:= [],inv:=fun k=>S.ie (S.decode b) k.1 k.2.1 k.2.2,ah:=fun k=>S.ah (S.len (S.decode b)) k.1}
  |_=>none)
def ġ:bf:=ar Ġ anq
def Ģ:Env:=Env.cons 136 ġ ğ
abbrev ģ:List PS:= [.one (.str)]
def ans:List UInt8→Prop×AV×List AB:=fun x=>match x with
 |s=>(S.small s, .bool (S.isTerm s),[])
def ant:List UInt8→Nat→Option an:=fun _ _=>none
def Ĥ:bf:=ar ģ ans
def ĥ:Env:=Env.cons 146 Ĥ Ģ
abbrev Ħ:List PS:= [.one (.int .i64)]
def anu:Int→Prop×AV×List AB:=fun x=>match x with
 |c=>(True, .bool (S.eQ c),[])
def anv:Int→Nat→Option an:=fun _ _=>none
def ħ:bf:=ar Ħ anu
def Ĩ:Env:=Env.cons 180 ħ ĥ
abbrev ĩ:List PS:= [.one (.slice [.int .i64])]
def anw:List Int→Prop×AV×List AB:=fun x=>match x with
 |u=>(S.GP u, .str (S.dF u),[])
def anx:List Int→Nat→Option an:=fun x=>match x with
 |u=>fun id=>(match id with
  |0=>some {τ:=Nat×List UInt8,aO:= [(4,fun k=> .int .i64 ((k.1:Nat):Int)),(3,fun k=> .str k.2)],keys:= [],cu:= [],drop:= [],bB:= [],inv:=fun k=>S.iC u k.1 k.2,ah:=fun k=>S.ah (S.len u) k.1}
  |_=>none)
def Ī:bf:=ar ĩ anw
def ī:Env:=Env.cons 181 Ī Ĩ
abbrev Ĭ:List PS:= [.one (.slice [.int .u8])]
def anz:List UInt8→Prop×AV×List AB:=fun x=>match x with
 |b=>(S.small b, .own 0,[.row 9 [.str] (S.aW b) false])
def anA:List UInt8→Nat→Option an:=fun x=>match x with
 |b=>fun id=>(match id with
  |0=>some {τ:=Nat×List (List UInt8),aO:= [(5,fun k=> .int .i64 ((k.1:Nat):Int)),(4,fun k=> .own 300)],keys:= [(300,fun k=> .row 9 [.str] k.2 false)],cu:= [(Vg.Loc.slot 4,300)],drop:= [],bB:= [],inv:=fun k=>S.jL (S.decode b) k.1 k.2,ah:=fun k=>S.ah (S.len (S.decode b)+1) k.1}
  |2=>some {τ:=Nat×Nat,aO:= [(6,fun k=> .int .i64 ((k.1:Nat):Int))],keys:= [],cu:= [],drop:= [],bB:= [(5,fun k=> .int .i64 ((k.2:Nat):Int))],inv:=fun k=>S.oG (S.decode b) k.2 k.1,ah:=fun k=>S.ah (S.len (S.decode b)) k.1}
  |_=>none)
def ĭ:bf:=ar Ĭ anz
def Į:Env:=Env.cons 161 ĭ ī
abbrev į:List PS:= [.one (.slice [.str])]
def anB:List (List UInt8)→Prop×AV×List AB:=fun x=>match x with
 |l=>(True, .int .i64 (((S.cE l:Nat):Int):Int),[])
def anC:List (List UInt8)→Nat→Option an:=fun x=>match x with
 |l=>fun id=>(match id with
  |0=>some {τ:=Nat,aO:= [(4,fun k=> .int .i64 ((k:Nat):Int)),(3,fun k=> .int .i64 ((S.cL l k:Nat):Int))],keys:= [],cu:= [],drop:= [],bB:= [],inv:=fun k=>S.oU l k,ah:=fun k=>S.ah (S.len l) k}
  |_=>none)
def İ:bf:=ar į anB
def ı:Env:=Env.cons 162 İ Į
abbrev Ĳ:List TA:= [.own 50000]
abbrev ĳ:List TB:= [.row 9 [.str]]
def anD:Unit→((List (List UInt8))×Unit)→gg:=fun x y=>match x,y with
 |(),(l,())=> {pre:=S.small l,res:= .own 60000,heap:= [none],new:= [.row 9 [.str] (S.sorted l) false]}
def anE:Unit→((List (List UInt8))×Unit)→Nat→Option an:=fun x y=>match x,y with
 |(),(l,())=>fun id=>(match id with
  |0=>some {τ:=List (List UInt8)×List (List UInt8),aO:= [(0,fun k=> .own 310),(3,fun k=> .own 300)],keys:= [(310,fun k=> .row 9 [.str] k.1 false),(300,fun k=> .row 9 [.str] k.2 false)],cu:= [(Vg.Loc.slot 0,310),(Vg.Loc.slot 3,300)],drop:= [50000,301],bB:= [],inv:=fun k=>S.nO l k.1 k.2,ah:=fun k=>S.len k.1}
  |2=>some {τ:=Nat×List (List UInt8)×List (List UInt8)×List UInt8,aO:= [(6,fun k=> .int .i64 ((k.1:Nat):Int)),(5,fun k=> .own 301)],keys:= [(301,fun k=> .row 9 [.str] k.2.1 false)],cu:= [(Vg.Loc.slot 5,301)],drop:= [],bB:= [(0,fun k=> .sl [.str] k.2.2.1),(4,fun k=> .str k.2.2.2)],inv:=fun k=>S.gO k.2.2.1 k.2.2.2 k.1 k.2.1,ah:=fun k=>S.ah (S.len k.2.2.1) k.1}
  |_=>none)
def Ĵ:gh:=iX Ĳ ĳ anD
def ĵ:gh:=Ĵ
def Ķ:Env:=Env.gm 142 [true] ĵ ı
abbrev ķ:List PS:= [.one (.slice [.int .u8])]
def anF:List UInt8→Prop×AV×List AB:=fun x=>match x with
 |b=>(S.small b, .own 0,[.row 9 [.str] (S.sorted (S.aW b)) false])
def anG:List UInt8→Nat→Option an:=fun _ _=>none
def ĸ:bf:=ar ķ anF
def Ĺ:Env:=Env.cons 141 ĸ Ķ
abbrev ĺ:List PS:= [.one (.slice [.int .u8]), .one (.str)]
def anH:List UInt8×List UInt8→Prop×AV×List AB:=fun x=>match x with
 |(b,t)=>(S.small b, .own 0,[.row 3 [.int .i64] (S.places b t) false])
def anI:List UInt8×List UInt8→Nat→Option an:=fun x=>match x with
 |(b,t)=>fun id=>(match id with
  |0=>some {τ:=Nat×List Int,aO:= [(7,fun k=> .int .i64 ((k.1:Nat):Int)),(6,fun k=> .own 300)],keys:= [(300,fun k=> .row 3 [.int .i64] k.2 false)],cu:= [(Vg.Loc.slot 6,300)],drop:= [],bB:= [],inv:=fun k=>S.iD (S.aW b) t k.1 k.2,ah:=fun k=>S.ah (S.len (S.aW b)) k.1}
  |_=>none)
def Ļ:bf:=ar ĺ anH
def ļ:Env:=Env.cons 163 Ļ Ĺ
abbrev Ľ:List PS:= [.one (.str)]
def anJ:List UInt8→Prop×AV×List AB:=fun x=>match x with
 |s=>(True, .bool false,[])
def anK:List UInt8→Nat→Option an:=fun _ _=>none
def ľ:bf:=ar Ľ anJ
def Ŀ:Env:=Env.cons 157 ľ ļ
abbrev ŀ:List PS:= [.one (.str), .one (.str)]
def anL:List UInt8×List UInt8→Prop×AV×List AB:=fun x=>match x with
 |(a,b)=>(True, .int .i64 (S.gn a b:Int),[])
def anM:List UInt8×List UInt8→Nat→Option an:=fun _ _=>none
def Ł:bf:=ar ŀ anL
def ł:Env:=Env.cons 137 Ł Ŀ
abbrev Ń:List TA:= [.jK (.str), .jK (.str), .ref 50000 0]
abbrev ń:List TB:= [.cells [.fn (.func 137) [] []]]
def anN:(List UInt8×List UInt8)→(Unit×Unit)→gg:=fun x y=>match x,y with
 |(a,b),((),())=> {pre:=True,res:= .bool (decide (a=b)),heap:= [some (.cells [.fn (.func 137) [] []])],new:= []}
def anO:(List UInt8×List UInt8)→(Unit×Unit)→Nat→Option an:=fun _ _ _=>none
def Ņ:gh:=iX Ń ń anN
def ņ:gh:=Ņ
def Ň:Env:=Env.gm 152 [false,false,true] ņ ł
abbrev ň:List TA:= [.own 50000, .fn (.func 152) [] [.ref 50001 0]]
abbrev ŉ:List TB:= [.row 9 [.str], .cells [.fn (.func 137) [] []]]
def anP:Unit→((List (List UInt8))×Unit×Unit)→gg:=fun x y=>match x,y with
 |(),(l,((),()))=> {pre:=S.small l,res:= .own 60000,heap:= [none,some (.cells [.fn (.func 137) [] []])],new:= [.row 9 [.str] (S.bO l) false]}
def anQ:Unit→((List (List UInt8))×Unit×Unit)→Nat→Option an:=fun x y=>match x,y with
 |(),(l,((),()))=>fun id=>(match id with
  |0=>some {τ:=Nat,aO:= [(5,fun k=> .int .i64 ((k:Nat):Int))],keys:= [(50001,fun k=> .cells [.fn (.func 137) [] []])],cu:= [],drop:= [],bB:= [],inv:=fun k=>S.oJ l k,ah:=fun k=>S.ah (S.len l) k}
  |2=>some {τ:=Nat×Nat×List (List UInt8)×Nat,aO:= [(5,fun k=> .int .i64 ((k.1:Nat):Int)),(7,fun k=> .int .i64 ((k.2.1:Nat):Int))],keys:= [(50000,fun k=> .row 9 [.str] k.2.2.1 false),(50001,fun k=> .cells [.fn (.func 137) [] []])],cu:= [],drop:= [],bB:= [(30,fun k=> .int .i64 ((k.2.2.2:Nat):Int))],inv:=fun k=>S.jM l k.2.2.2 k.1 k.2.1 k.2.2.1,ah:=fun k=>S.ah (S.len l) k.2.1}
  |_=>none)
def Ŋ:gh:=iX ň ŉ anP
def ŋ:gh:=Ŋ
def Ō:Env:=Env.gm 151 [true,true] ŋ Ň
abbrev anR:List PS:= [.one (.slice [.str])]
def anS:List (List UInt8)→Prop×AV×List AB:=fun x=>match x with
 |l=>(S.small l, .own 0,[.row 9 [.str] (l) false])
def ō:bf:=ar anR anS
def Ŏ:Env:=Env.cons 149 ō Ō
abbrev anT:List PS:= [.one (.slice [.int .i64])]
def anU:List Int→Prop×AV×List AB:=fun x=>match x with
 |l=>(S.small l, .own 0,[.row 3 [.int .i64] (l) false])
def ŏ:bf:=ar anT anU
def Ő:Env:=Env.cons 99 ŏ Ŏ
abbrev anV:List TA:= [.own 50000, .fn (.func 137) [] []]
abbrev anW:List TB:= [.row 9 [.str]]
def anX:Unit→((List (List UInt8))×Unit)→gg:=fun x y=>match x,y with
 |(),(l,())=> {pre:=S.small l,res:= .cD [],heap:= [some (.row 9 [.str] (S.gp l) false)],new:= []}
def ő:gh:=iX anV anW anX
def Œ:gh:=ő
def œ:Env:=Env.gm 150 [true,true] Œ Ő
abbrev Ŕ:List TA:= [.jK (.slice [.str]), .fn (.func 137) [] []]
abbrev ŕ:List TB:= []
def anY:(List (List UInt8))→Unit→gg:=fun x y=>match x,y with
 |l,()=> {pre:=S.small l,res:= .own 60000,heap:= [],new:= [.row 9 [.str] (S.bO (S.gp l)) false]}
def anZ:(List (List UInt8))→Unit→Nat→Option an:=fun _ _ _=>none
def Ŗ:gh:=iX Ŕ ŕ anY
def ŗ:gh:=Ŗ
def Ř:Env:=Env.gm 135 [false,true] ŗ œ
abbrev ř:List PS:= [.one (.slice [.int .u8])]
def an0:List UInt8→Prop×AV×List AB:=fun x=>match x with
 |b=>(S.small b, .own 0,[.row 9 [.str] (S.sorted (S.aW b)) false])
def an1:List UInt8→Nat→Option an:=fun _ _=>none
def Ś:bf:=ar ř an0
def ś:Env:=Env.cons 126 Ś Ř
abbrev Ŝ:List PS:= [.one (.slice [.int .i64])]
def an2:List Int→Prop×AV×List AB:=fun x=>match x with
 |l=>(True, .bool (S.fN l),[])
def an3:List Int→Nat→Option an:=fun x=>match x with
 |l=>fun id=>(match id with
  |0=>some {τ:=Nat,aO:= [(8,fun k=> .int .i64 ((k:Nat):Int)),(3,fun k=> .int .i64 (S.mG l k))],keys:= [],cu:= [],drop:= [],bB:= [],inv:=fun k=>S.kT l k,ah:=fun k=>S.ah (S.len l) k}
  |_=>none)
def ŝ:bf:=ar Ŝ an2
def Ş:Env:=Env.cons 145 ŝ ś
abbrev ş:List TA:= [.jK (.int .i64), .jK (.bool), .jK (.bool), .ref 50000 0]
abbrev Š:List TB:= [.cells [.jK (.int .i64), .jK (.int .i64)]]
def an4:(Int×Bool×Bool)→((Int×Int)×Unit)→gg:=fun x y=>match x,y with
 |(n,p,q),((s1,s2),())=> {pre:=True,res:= .bool (S.pR n s1 s2),heap:= [some (.cells [.int .i64 s1, .int .i64 s2])],new:= []}
def an5:(Int×Bool×Bool)→((Int×Int)×Unit)→Nat→Option an:=fun _ _ _=>none
def š:gh:=iX ş Š an4
def Ţ:gh:=š
def ţ:Env:=Env.gm 148 [false,false,false,true] Ţ Ş
abbrev Ť:List TA:= [.jK (.slice [.int .i64]), .jK (.slice [.int .i64]), .fn (.func 148) [] [.ref 50000 0]]
abbrev ť:List TB:= [.cells [.jK (.int .i64), .jK (.int .i64)]]
def an6:(List Int×List Int)→((Int×Int)×Unit)→gg:=fun x y=>match x,y with
 |(a,b),((s1,s2),())=> {pre:=b.length=0,res:= .own 60000,heap:= [some (.cells [.int .i64 s1, .int .i64 s2])],new:= [.row 3 [.int .i64] (S.EJ a s1 s2) false]}
def an7:(List Int×List Int)→((Int×Int)×Unit)→Nat→Option an:=fun x y=>match x,y with
 |(a,b),((s1,s2),())=>fun id=>(match id with
  |0=>some {τ:=List Int×List Int,aO:= [(0,fun k=> .sl [.int .i64] k.1),(1,fun k=> .sl [.int .i64] S.fO),(7,fun k=> .own 300)],keys:= [(300,fun k=> .row 3 [.int .i64] k.2 false),(50000,fun k=> .cells [.int .i64 s1, .int .i64 s2])],cu:= [(Vg.Loc.slot 7,300)],drop:= [],bB:= [],inv:=fun k=>S.jN a s1 s2 k.1 k.2,ah:=fun k=>S.len k.1}
  |_=>none)
def Ŧ:gh:=iX Ť ť an6
def ŧ:gh:=Ŧ
def Ũ:Env:=Env.gm 147 [false,false,true] ŧ ţ
abbrev ũ:List PS:= [.one (.slice [.int .i64]), .agg [.int .i64, .int .i64]]
def an8:List Int×Int×Int→Prop×AV×List AB:=fun x=>match x with
 |(l,s1,s2)=>(True, .own 0,[.row 3 [.int .i64] (S.EJ l s1 s2) false])
def an9:List Int×Int×Int→Nat→Option an:=fun _ _=>none
def Ū:bf:=ar ũ an8
def ū:Env:=Env.cons 134 Ū Ũ
abbrev Ŭ:List PS:= [.one (.slice [.int .i64]), .one (.slice [.int .i64])]
def aoa:List Int×List Int→Prop×AV×List AB:=fun x=>match x with
 |(a,b)=>(True, .bool (S.mH a b),[])
def aob:List Int×List Int→Nat→Option an:=fun x=>match x with
 |(a,b)=>fun id=>(match id with
  |0=>some {τ:=Nat,aO:= [(5,fun k=> .int .i64 ((k:Nat):Int))],keys:= [],cu:= [],drop:= [],bB:= [],inv:=fun k=>S.qw a b k,ah:=fun k=>S.ah (S.len a) k}
  |_=>none)
def ŭ:bf:=ar Ŭ aoa
def Ů:Env:=Env.cons 115 ŭ ū
abbrev ů:List PS:= [.one (.slice [.str, .slice [.int .i64]])]
def aoc:List (List UInt8×List Int)→Prop×AV×List AB:=fun x=>match x with
 |d=>(S.jO d, .bool (S.dJ d),[])
def aod:List (List UInt8×List Int)→Nat→Option an:=fun x=>match x with
 |d=>fun id=>(match id with
  |0=>some {τ:=Nat,aO:= [(7,fun k=> .int .i64 ((k:Nat):Int))],keys:= [],cu:= [],drop:= [],bB:= [],inv:=fun k=>S.BG d k,ah:=fun k=>S.ah (S.len d) k}
  |_=>none)
def Ű:bf:=ar ů aoc
def ű:Env:=Env.cons 133 Ű Ů
abbrev aoe:List PS:= [.one (.slice [.slice [.int .u8]]), .agg [.int .i64, .int .i64]]
def aof:List (List UInt8)×Int×Int→Prop×AV×List AB:=fun x=>match x with
 |(docs,s1,s2)=>(True, .cD [.sl [.str, .slice [.int .i64]] ((S.gy docs s1 s2).1), .int .i64 ((S.gy docs s1 s2).2:Int)],[])
def Ų:bf:=ar aoe aof
def ų:Env:=Env.cons 107 Ų ű
abbrev Ŵ:List PS:= [.one (.slice [.slice [.int .u8]]), .agg [.int .i64, .int .i64]]
def aog:List (List UInt8)×Int×Int→Prop×AV×List AB:=fun x=>match x with
 |(docs,s1,s2)=>(True, .bool (S.cF docs s1 s2),[])
def aoh:List (List UInt8)×Int×Int→Nat→Option an:=fun x=>match x with
 |(docs,s1,s2)=>fun id=>(match id with
  |0=>some {τ:=Nat,aO:= [(5,fun k=> .int .i64 ((k:Nat):Int))],keys:= [],cu:= [],drop:= [],bB:= [],inv:=fun k=>S.lW docs k,ah:=fun k=>S.ah (S.len docs) k}
  |_=>none)
def ŵ:bf:=ar Ŵ aog
def Ŷ:Env:=Env.cons 113 ŵ ų
abbrev ŷ:List PS:= [.one (.slice [.int .u8]), .one (.str)]
def aoi:List UInt8×List UInt8→Prop×AV×List AB:=fun x=>match x with
 |(b,t)=>(S.small b, .bool (S.pT b t),[])
def aoj:List UInt8×List UInt8→Nat→Option an:=fun _ _=>none
def Ÿ:bf:=ar ŷ aoi
def Ź:Env:=Env.cons 143 Ÿ Ŷ
abbrev ź:List PS:= [.one (.slice [.str, .slice [.int .i64]]), .one (.slice [.str, .slice [.int .i64]])]
def aok:List (List UInt8×List Int)×List (List UInt8×List Int)→Prop×AV×List AB:=fun x=>match x with
 |(a,b)=>(True, .bool (S.fx a b),[])
def aol:List (List UInt8×List Int)×List (List UInt8×List Int)→Nat→Option an:=fun x=>match x with
 |(a,b)=>fun id=>(match id with
  |0=>some {τ:=Nat,aO:= [(5,fun k=> .int .i64 ((k:Nat):Int))],keys:= [],cu:= [],drop:= [],bB:= [],inv:=fun k=>S.jh a b k,ah:=fun k=>S.ah (S.len a) k}
  |_=>none)
def Ż:bf:=ar ź aok
def ż:Env:=Env.cons 85 Ż Ź
abbrev Ž:List PS:= [.one (.slice [.slice [.int .u8]]), .one (.slice [.slice [.int .u8]])]
def aom:List (List UInt8)×List (List UInt8)→Prop×AV×List AB:=fun x=>match x with
 |(a,b)=>(True, .bool (S.lu a b),[])
def aon:List (List UInt8)×List (List UInt8)→Nat→Option an:=fun x=>match x with
 |(a,b)=>fun id=>(match id with
  |0=>some {τ:=Nat,aO:= [(5,fun k=> .int .i64 ((k:Nat):Int))],keys:= [],cu:= [],drop:= [],bB:= [],inv:=fun k=>S.nP a b k,ah:=fun k=>S.ah (S.len a) k}
  |_=>none)
def ž:bf:=ar Ž aom
def ſ:Env:=Env.cons 32 ž ż
abbrev aaa:List PS:= [.one (.slice [.slice [.int .u8]]), .agg [.int .i64, .int .i64]]
def aoo:List (List UInt8)×Int×Int→Prop×AV×List AB:=fun x=>match x with
 |(docs,s1,s2)=>(S.eG docs s1 s2, .own 0,[.row 136 [.str, .slice [.int .i64]] (S.make docs s1 s2) false])
def aop:List (List UInt8)×Int×Int→Nat→Option an:=fun x=>match x with
 |(docs,s1,s2)=>fun id=>(match id with
  |0=>some {τ:=Nat,aO:= [(6,fun k=> .int .i64 (s1+(k:Nat))),(5,fun k=> .own 300)],keys:= [(300,fun k=> .row 9 [.str] (S.fo docs s1 k) false)],cu:= [(Vg.Loc.slot 5,300)],drop:= [102700,102701,102702,27],bB:= [],inv:=fun k=>S.eh s1 s2 k,ah:=fun k=>S.ah (s2-s1).toNat k}
  |2=>some {τ:=Nat,aO:= [(8,fun k=> .int .i64 ((k:Nat):Int)),(7,fun k=> .own 301)],keys:= [(301,fun k=> .row 136 [.str, .slice [.int .i64]] (S.jv docs s1 s2 k) false)],cu:= [(Vg.Loc.slot 7,301)],drop:= [302],bB:= [],inv:=fun k=>S.eb (S.bP docs s1 s2) k,ah:=fun k=>S.ah (S.len (S.bP docs s1 s2)) k}
  |4=>some {τ:=Nat×List UInt8,aO:= [(10,fun k=> .int .i64 (s1+(k.1:Nat)))],keys:= [(9,fun k=> .cells [.str k.2, .own 302]),(302,fun k=> .row 3 [.int .i64] (S.bD docs s1 k.2 k.1) false)],cu:= [(Vg.Loc.cell 9 1,302)],drop:= [],bB:= [(37,fun k=> .str k.2)],inv:=fun k=>S.eh s1 s2 k.1,ah:=fun k=>S.ah (s2-s1).toNat k.1}
  |_=>none)
def aab:bf:=ar aaa aoo
def aac:Env:=Env.cons 129 aab ſ
abbrev aad:List PS:= [.agg [.int .i64, .int .i64]]
def aoq:Int×Int→Prop×AV×List AB:=fun x=>match x with
 |(s1,s2)=>(True, .bool (S.jb s1 s2),[])
def aor:Int×Int→Nat→Option an:=fun _ _=>none
def aae:bf:=ar aad aoq
def aaf:Env:=Env.cons 132 aae aac
abbrev aag:List PS:= [.agg [.int .i64, .int .i64, .slice [.str, .slice [.int .i64]]]]
def aos:Int×Int×List (List UInt8×List Int)→Prop×AV×List AB:=fun x=>match x with
 |(s1,s2,s3)=>(S.jO s3, .bool (S.ig s1 s2 s3),[])
def aot:Int×Int×List (List UInt8×List Int)→Nat→Option an:=fun x=>match x with
 |(s1,s2,s3)=>fun id=>(match id with
  |0=>some {τ:=Nat,aO:= [(18,fun k=> .int .i64 ((k:Nat):Int))],keys:= [],cu:= [],drop:= [],bB:= [],inv:=fun k=>S.qz s1 s2 s3 k,ah:=fun k=>S.ah (S.len s3) k}
  |_=>none)
def aah:bf:=ar aag aos
def aai:Env:=Env.cons 123 aah aaf
abbrev aaj:List PS:= [.one (.slice [.slice [.int .u8]]), .agg [.int .i64, .int .i64]]
def aou:List (List UInt8)×Int×Int→Prop×AV×List AB:=fun x=>match x with
 |(docs,s1,s2)=>(True, .cD [.agg [.int .i64 (((S.cx docs s1 s2).1).1:Int), .int .i64 (((S.cx docs s1 s2).1).2.1:Int), .sl [.str, .slice [.int .i64]] (((S.cx docs s1 s2).1).2.2)], .int .i64 ((S.cx docs s1 s2).2:Int)],[])
def aov:List (List UInt8)×Int×Int→Nat→Option an:=fun _ _=>none
def aak:bf:=ar aaj aou
def aal:Env:=Env.cons 75 aak aai
abbrev aam:List PS:= [.one (.slice [.slice [.int .u8]]), .agg [.int .i64, .int .i64]]
def aow:List (List UInt8)×Int×Int→Prop×AV×List AB:=fun x=>match x with
 |(docs,s1,s2)=>(True, .bool (S.cM docs s1 s2),[])
def aox:List (List UInt8)×Int×Int→Nat→Option an:=fun _ _=>none
def aan:bf:=ar aam aow
def aao:Env:=Env.cons 114 aan aal
abbrev aap:List PS:= [.one (.slice [.slice [.int .u8]]), .agg [.int .i64, .int .i64]]
def aoy:List (List UInt8)×Int×Int→Prop×AV×List AB:=fun x=>match x with
 |(docs,s1,s2)=>(S.eG docs s1 s2, .agg [.int .i64 (((s1,s2,S.make docs s1 s2)).1:Int), .int .i64 (((s1,s2,S.make docs s1 s2)).2.1:Int), .sl [.str, .slice [.int .i64]] (((s1,s2,S.make docs s1 s2)).2.2)],[])
def aoz:List (List UInt8)×Int×Int→Nat→Option an:=fun _ _=>none
def aaq:bf:=ar aap aoy
def aar:Env:=Env.cons 111 aaq aao
abbrev aas:List PS:= [.agg [.int .i64, .int .i64, .slice [.str, .slice [.int .i64]]], .agg [.int .i64, .int .i64, .slice [.str, .slice [.int .i64]]]]
def aoA:Int×Int×List (List UInt8×List Int)×Int×Int×List (List UInt8×List Int)→Prop×AV×List AB:=fun x=>match x with
 |(a1,a2,a3,b1,b2,b3)=>(True, .bool (S.lY a1 a2 a3 b1 b2 b3),[])
def aoB:Int×Int×List (List UInt8×List Int)×Int×Int×List (List UInt8×List Int)→Nat→Option an:=fun _ _=>none
def aat:bf:=ar aas aoA
def aau:Env:=Env.cons 46 aat aar
abbrev aav:List PS:= [.one (.slice [.str, .slice [.int .i64]])]
def aoC:List (List UInt8×List Int)→Prop×AV×List AB:=fun x=>match x with
 |d=>(True, .bool (S.gu d),[])
def aoD:List (List UInt8×List Int)→Nat→Option an:=fun x=>match x with
 |d=>fun id=>(match id with
  |0=>some {τ:=Nat,aO:= [(3,fun k=> .int .i64 ((k:Nat):Int))],keys:= [],cu:= [],drop:= [],bB:= [],inv:=fun k=>S.uZ d k,ah:=fun k=>S.ah (S.len d) k}
  |_=>none)
def aaw:bf:=ar aav aoC
def aax:Env:=Env.cons 33 aaw aau
abbrev aay:List PS:= [.one (.slice [.slice [.int .u8]])]
def aoE:List (List UInt8)→Prop×AV×List AB:=fun x=>match x with
 |docs=>(True, .bool (S.la docs),[])
def aoF:List (List UInt8)→Nat→Option an:=fun x=>match x with
 |docs=>fun id=>(match id with
  |0=>some {τ:=Nat,aO:= [(3,fun k=> .int .i64 ((k:Nat):Int))],keys:= [],cu:= [],drop:= [],bB:= [],inv:=fun k=>S.u3 docs k,ah:=fun k=>S.ah (S.len docs) k}
  |_=>none)
def aaz:bf:=ar aay aoE
def aaA:Env:=Env.cons 34 aaz aax
abbrev aaB:List PS:= [.agg [.int .i64, .int .i64, .slice [.str, .slice [.int .i64]]]]
def aoG:Int×Int×List (List UInt8×List Int)→Prop×AV×List AB:=fun x=>match x with
 |(s1,s2,s3)=>(True, .agg [.int .i64 (((s1,s2,s3)).1:Int), .int .i64 (((s1,s2,s3)).2.1:Int), .sl [.str, .slice [.int .i64]] (((s1,s2,s3)).2.2)],[])
def aoH:Int×Int×List (List UInt8×List Int)→Nat→Option an:=fun _ _=>none
def aaC:bf:=ar aaB aoG
def aaD:Env:=Env.cons 43 aaC aaA
abbrev aaE:List PS:= [.one (.slice [.int .i64, .int .i64, .slice [.str, .slice [.int .i64]]])]
def aoI:List (Int×Int×List (List UInt8×List Int))→Prop×AV×List AB:=fun x=>match x with
 |l=>(S.nR l, .sl [.str, .slice [.int .i64]] (S.ni l),[])
def aoJ:List (Int×Int×List (List UInt8×List Int))→Nat→Option an:=fun x=>match x with
 |l=>fun id=>(match id with
  |0=>some {τ:=Nat,aO:= [(3,fun k=> .own 300)],keys:= [(300,fun k=> .row 136 [.str, .slice [.int .i64]] (S.cy l k) false),(13,fun k=> .row 3 [.int .i64] (S.aC l k) false)],cu:= [(Vg.Loc.slot 3,300)],drop:= [302],bB:= [],inv:=fun k=>k≤S.uL l,ah:=fun k=>S.ah (S.uL l) k}
  |2=>some {τ:=Nat×Nat,aO:= [(16,fun k=> .int .i64 ((k.1:Nat):Int)),(5,fun k=> .int .i64 (S.cN l (S.aC l k.2) k.1))],keys:= [],cu:= [],drop:= [],bB:= [(4,fun k=> .sl [.int .i64] (S.aC l k.2))],inv:=fun k=>k.1≤l.length∧k.2≤S.uL l,ah:=fun k=>S.ah (S.len l) k.1}
  |4=>some {τ:=Nat×Nat,aO:= [(74,fun k=> .int .i64 ((k.1:Nat):Int))],keys:= [(13,fun k=> .row 3 [.int .i64] (S.bc l k.2 k.1) false),(8,fun k=> .cells [.str (S.lF l k.2), .own 302]),(302,fun k=> .row 3 [.int .i64] (S.cR l (S.lF l k.2) k.1) false)],cu:= [(Vg.Loc.cell 8 1,302)],drop:= [],bB:= [(3,fun k=> .sl [.str, .slice [.int .i64]] (S.cy l k.2))],inv:=fun k=>k.1≤l.length∧k.2<S.uL l,ah:=fun k=>S.ah (S.len l) k.1}
  |_=>none)
def aaF:bf:=ar aaE aoI
def aaG:Env:=Env.cons 124 aaF aaD
abbrev aaH:List PS:= [.one (.slice [.int .i64, .int .i64, .slice [.str, .slice [.int .i64]]])]
def aoK:List (Int×Int×List (List UInt8×List Int))→Prop×AV×List AB:=fun x=>match x with
 |l=>(S.rX l, .cD [.agg [.int .i64 (((S.dp l).1).1:Int), .int .i64 (((S.dp l).1).2.1:Int), .sl [.str, .slice [.int .i64]] (((S.dp l).1).2.2)], .int .i64 ((S.dp l).2:Int)],[])
def aoL:List (Int×Int×List (List UInt8×List Int))→Nat→Option an:=fun x=>match x with
 |l=>fun id=>(match id with
  |0=>some {τ:=Nat,aO:= [(14,fun k=> .int .i64 ((k:Nat):Int))],keys:= [],cu:= [],drop:= [],bB:= [],inv:=fun k=>S.oL l k,ah:=fun k=>S.ah (S.len l) k}
  |2=>some {τ:=Nat,aO:= [(6,fun k=> .int .i64 ((k:Int)+1))],keys:= [],cu:= [],drop:= [],bB:= [],inv:=fun k=>S.ri l k,ah:=fun k=>S.ah (S.len l) k}
  |_=>none)
def aaI:bf:=ar aaH aoK
def aaJ:Env:=Env.cons 103 aaI aaG
abbrev aaK:List PS:= [.agg [.int .i64, .int .i64]]
def aoM:Int×Int→Prop×AV×List AB:=fun x=>match x with
 |(s1,s2)=>(True, .int .i64 (S.eH s1 s2:Int),[])
def aoN:Int×Int→Nat→Option an:=fun x=>match x with
 |(s1,s2)=>fun id=>(match id with
  |0=>some {τ:=Nat,aO:= [(4,fun n=> .int .i64 ((n:Nat):Int)),(3,fun n=> .int .i64 (S.lg (s2-s1)-S.lg n))],keys:= [],cu:= [],drop:= [],bB:= [],inv:=fun n=>S.lZ s1 s2 n,ah:=fun n=>n}
  |_=>none)
def aaL:bf:=ar aaK aoM
def aaM:Env:=Env.cons 125 aaL aaJ
abbrev aaN:List PS:= [.one (.slice [.int .i64, .int .i64])]
def aoO:List (Int×Int)→Prop×AV×List AB:=fun x=>match x with
 |l=>(True, .cD [.int .i64 ((S.bu l).1:Int), .bool ((S.bu l).2)],[])
def aoP:List (Int×Int)→Nat→Option an:=fun x=>match x with
 |l=>fun id=>(match id with
  |0=>some {τ:=Nat,aO:= [(4,fun k=> .int .i64 (((S.len l:Nat):Int)-2-(k:Int)))],keys:= [],cu:= [],drop:= [],bB:= [],inv:=fun k=>S.kV l k,ah:=fun k=>S.ah (S.len l) k}
  |_=>none)
def aaO:bf:=ar aaN aoO
def aaP:Env:=Env.cons 105 aaO aaM
abbrev aaQ:List PS:= [.one (.slice [.int .i64, .int .i64, .slice [.str, .slice [.int .i64]]])]
def aoQ:List (Int×Int×List (List UInt8×List Int))→Prop×AV×List AB:=fun x=>match x with
 |l=>(S.small l, .sl [.int .i64, .int .i64] (S.bq l),[])
def aoR:List (Int×Int×List (List UInt8×List Int))→Nat→Option an:=fun x=>match x with
 |l=>fun id=>(match id with
  |0=>some {τ:=Nat,aO:= [(8,fun k=> .int .i64 ((k:Nat):Int)),(3,fun k=> .own 300)],keys:= [(300,fun k=> .row 88 [.int .i64, .int .i64] (S.ej l k) false)],cu:= [(Vg.Loc.slot 3,300)],drop:= [],bB:= [],inv:=fun k=>k≤l.length,ah:=fun k=>S.ah (S.len l) k}
  |_=>none)
def aaR:bf:=ar aaQ aoQ
def P2:Env:=Env.cons 106 aaR aaP
abbrev KZ:List PS:= [.one (.int .i64)]
def aaS:Int→Prop×AV×List AB:=fun x=>match x with
 |n=>(True, .int .i64 (S.lg n:Int),[])
def aaT:Int→Nat:=fun x=>match x with
 |n=>n.toNat
def aoS:Int→Nat→Option an:=fun _ _=>none
def aaU:bf:=ar KZ aaS
def aoT(m:Nat):Env:=Env.cons 144 (lz KZ aaT m aaS) P2
def aaV:Env:=Env.cons 144 aaU P2
abbrev aaW:List PS:= [.agg [.int .i64, .int .i64]]
def aoU:Int×Int→Prop×AV×List AB:=fun x=>match x with
 |(s1,s2)=>(True, .int .i64 (S.eH s1 s2:Int),[])
def aoV:Int×Int→Nat→Option an:=fun _ _=>none
def aaX:bf:=ar aaW aoU
def aaY:Env:=Env.cons 130 aaX aaV
abbrev aaZ:List PS:= [.one (.slice [.int .i64, .int .i64])]
def aoW:List (Int×Int)→Prop×AV×List AB:=fun x=>match x with
 |l=>(True, .cD [.int .i64 ((S.bu l).1:Int), .bool ((S.bu l).2)],[])
def aoX:List (Int×Int)→Nat→Option an:=fun x=>match x with
 |l=>fun id=>(match id with
  |0=>some {τ:=Nat,aO:= [(6,fun k=> .int .i64 ((k:Nat):Int)),(4,fun k=> .int .i64 (S.eY l k).1),(5,fun k=> .bool ((S.eY l k).2))],keys:= [],cu:= [],drop:= [],bB:= [],inv:=fun k=>S.rj l k,ah:=fun k=>S.ah (S.len l) k}
  |_=>none)
def aa0:bf:=ar aaZ aoW
def P3:Env:=Env.cons 112 aa0 aaY
abbrev K1:List PS:= [.one (.slice [.int .i64, .int .i64])]
def aa1:List (Int×Int)→Prop×AV×List AB:=fun x=>match x with
 |l=>(S.len l≤1000000, .sl [.int .i64, .int .i64] (S.dO l),[])
def aa2:List (Int×Int)→Nat:=fun x=>match x with
 |l=>l.length
def aoY:List (Int×Int)→Nat→Option an:=fun _ _=>none
def aa3:bf:=ar K1 aa1
def aoZ(m:Nat):Env:=Env.cons 80 (lz K1 aa2 m aa1) P3
def aa4:Env:=Env.cons 80 aa3 P3
abbrev aa5:List PS:= [.one (.slice [.int .u8])]
def ao0:List UInt8→Prop×AV×List AB:=fun x=>match x with
 |l=>(S.small l, .own 0,[.row 5 [.int .u8] (l) false])
def ao1:List UInt8→Nat→Option an:=fun _ _=>none
def aa6:bf:=ar aa5 ao0
def aa7:Env:=Env.cons 95 aa6 aa4
abbrev aa8:List PS:= [.one (.slice [.str, .slice [.int .i64]])]
def ao2:List (List UInt8×List Int)→Prop×AV×List AB:=fun x=>match x with
 |l=>(S.small l, .own 0,[.row 136 [.str, .slice [.int .i64]] (l) false])
def ao3:List (List UInt8×List Int)→Nat→Option an:=fun _ _=>none
def aa9:bf:=ar aa8 ao2
def aba:Env:=Env.cons 98 aa9 aa7
abbrev abb:List PS:= [.one (.slice [.int .i64]), .one (.slice [.int .i64])]
def ao4:List Int×List Int→Prop×AV×List AB:=fun x=>match x with
 |(a,b)=>(True, .bool (S.AL a b),[])
def ao5:List Int×List Int→Nat→Option an:=fun x=>match x with
 |(a,b)=>fun id=>(match id with
  |0=>some {τ:=Nat,aO:= [(13,fun k=> .int .i64 ((k:Nat):Int))],keys:= [],cu:= [],drop:= [],bB:= [],inv:=fun k=>S.zx a b k,ah:=fun k=>S.ah (S.len a) k}
  |_=>none)
def abc:bf:=ar abb ao4
def abd:Env:=Env.cons 110 abc aba
abbrev abe:List PS:= [.agg [.str, .slice [.int .i64]], .agg [.str, .slice [.int .i64]]]
def ao6:List UInt8×List Int×List UInt8×List Int→Prop×AV×List AB:=fun x=>match x with
 |(a1,a2,b1,b2)=>(True, .bool (S.vc a1 a2 b1 b2),[])
def ao7:List UInt8×List Int×List UInt8×List Int→Nat→Option an:=fun _ _=>none
def abf:bf:=ar abe ao6
def abg:Env:=Env.cons 109 abf abd
abbrev abh:List TA:= [.jK (.slice [.str, .slice [.int .i64]]), .jK (.slice [.str, .slice [.int .i64]]), .fn (.func 109) [] []]
abbrev abi:List TB:= []
def ao8:(List (List UInt8×List Int)×List (List UInt8×List Int))→Unit→gg:=fun x y=>match x,y with
 |(a,b),()=> {pre:=True,res:= .bool (S.fx a b),heap:= [],new:= []}
def ao9:(List (List UInt8×List Int)×List (List UInt8×List Int))→Unit→Nat→Option an:=fun x y=>match x,y with
 |(a,b),()=>fun id=>(match id with
  |0=>some {τ:=Nat,aO:= [(17,fun k=> .int .i64 ((k:Nat):Int))],keys:= [],cu:= [],drop:= [],bB:= [],inv:=fun k=>S.jh a b k,ah:=fun k=>S.ah (S.len a) k}
  |_=>none)
def abj:gh:=iX abh abi ao8
def abk:gh:=abj
def abl:Env:=Env.gm 108 [false,false,true] abk abg
abbrev abn:List PS:= [.one (.slice [.str, .slice [.int .i64]]), .one (.slice [.str, .slice [.int .i64]])]
def apa:List (List UInt8×List Int)×List (List UInt8×List Int)→Prop×AV×List AB:=fun x=>match x with
 |(a,b)=>(True, .bool (S.fx a b),[])
def apb:List (List UInt8×List Int)×List (List UInt8×List Int)→Nat→Option an:=fun _ _=>none
def abo:bf:=ar abn apa
def abp:Env:=Env.cons 76 abo abl
abbrev abq:List PS:= [.agg [.slice [.slice [.int .u8]], .slice [.int .i64, .int .i64, .slice [.str, .slice [.int .i64]]]]]
def apc:List (List UInt8)×List (Int×Int×List (List UInt8×List Int))→Prop×AV×List AB:=fun x=>match x with
 |(y1,y2)=>(True, .bool (S.aX y1 y2),[])
def apd:List (List UInt8)×List (Int×Int×List (List UInt8×List Int))→Nat→Option an:=fun x=>match x with
 |(y1,y2)=>fun id=>(match id with
  |0=>some {τ:=Nat,aO:= [(23,fun k=> .int .i64 ((k:Nat):Int))],keys:= [],cu:= [],drop:= [],bB:= [],inv:=fun k=>S.E3 y1 y2 k,ah:=fun k=>S.ah (S.len y1) k}
  |2=>some {τ:=Nat,aO:= [(34,fun k=> .int .i64 ((k:Nat):Int)),(5,fun k=> .int .i64 (S.cX y2 k))],keys:= [],cu:= [],drop:= [],bB:= [],inv:=fun k=>S.pX y1 y2 k,ah:=fun k=>S.ah (S.len y2) k}
  |_=>none)
def abr:bf:=ar abq apc
def abt:Env:=Env.cons 37 abr abp
abbrev abu:List PS:= [.agg [.slice [.slice [.int .u8]], .slice [.int .i64, .int .i64, .slice [.str, .slice [.int .i64]]]]]
def ape:List (List UInt8)×List (Int×Int×List (List UInt8×List Int))→Prop×AV×List AB:=fun x=>match x with
 |(y1,y2)=>(True, .agg [.sl [.slice [.int .u8]] ((S.ak y1 y2).1), .sl [.int .i64, .int .i64, .slice [.str, .slice [.int .i64]]] ((S.ak y1 y2).2)],[])
def apf:List (List UInt8)×List (Int×Int×List (List UInt8×List Int))→Nat→Option an:=fun _ _=>none
def abv:bf:=ar abu ape
def abw:Env:=Env.cons 100 abv abt
abbrev abx:List PS:= [.agg [.slice [.slice [.int .u8]], .slice [.int .i64, .int .i64, .slice [.str, .slice [.int .i64]]]]]
def apg:List (List UInt8)×List (Int×Int×List (List UInt8×List Int))→Prop×AV×List AB:=fun x=>match x with
 |(y1,y2)=>(True, .int .i64 (S.bR y2:Int),[])
def aph:List (List UInt8)×List (Int×Int×List (List UInt8×List Int))→Nat→Option an:=fun _ _=>none
def aby:bf:=ar abx apg
def P4:Env:=Env.cons 102 aby abw
abbrev abz:List PS:= [.agg [.slice [.slice [.int .u8]], .slice [.int .i64, .int .i64, .slice [.str, .slice [.int .i64]]]]]
def api:List (List UInt8)×List (Int×Int×List (List UInt8×List Int))→Prop×AV×List AB:=fun x=>match x with
 |(y1,y2)=>(S.nj y1 y2, .agg [.own 0, .own 1],[.row 26 [.slice [.int .u8]] y1 false, .row 91 [.int .i64, .int .i64, .slice [.str, .slice [.int .i64]]] y2 false])
def apj:List (List UInt8)×List (Int×Int×List (List UInt8×List Int))→Nat→Option an:=fun x=>match x with
 |(y1,y2)=>fun id=>(match id with
  |0=>some {τ:=Nat,aO:= [(22,fun k=> .int .i64 ((k:Nat):Int))],keys:= [(13,fun k=> .row 26 [.slice [.int .u8]] (S.cZ [] y1 k) false)],cu:= [],drop:= [],bB:= [],inv:=fun k=>S.gR y1 k,ah:=fun k=>S.ah (S.len y1) k}
  |2=>some {τ:=Nat,aO:= [(37,fun k=> .int .i64 ((k:Nat):Int))],keys:= [(17,fun k=> .row 91 [.int .i64, .int .i64, .slice [.str, .slice [.int .i64]]] (S.cZ (0,0,[]) y2 k) false)],cu:= [],drop:= [],bB:= [],inv:=fun k=>S.gR y2 k,ah:=fun k=>S.ah (S.len y2) k}
  |4=>some {τ:=Nat×Nat×List S.ax,aO:= [(55,fun k=> .int .i64 ((k.1:Nat):Int))],keys:= [(17,fun k=> .gD 91 (some 104900) [.int .i64, .int .i64, .slice [.str, .slice [.int .i64]]] k.2.2 k.2.1),(104900,fun k=> .row 136 [.str, .slice [.int .i64]] (S.aq y2 k.2.1).2.2 false)],cu:= [],drop:= [],bB:= [(6,fun k=> .int .i64 ((k.2.1:Nat):Int))],inv:=fun k=>S.qG y2 k.2.2 k.2.1 k.1,ah:=fun k=>S.ah (S.iP y2 k.2.1) k.1}
  |_=>none)
def abA:bf:=ar abz api
def abB:Env:=Env.cons 101 abA P4
def apk:Env:= {P4 with gD:=fun t=>Nat.beq t 91,cls:=fun d=>bif Nat.beq d 73 then some 17 else none,spl:=fun d=>false}
abbrev abC:List PS:= [.one (.slice [.int .i64, .int .i64, .slice [.str, .slice [.int .i64]]]), .one (.int .i64), .one (.int .i64), .agg [.int .i64, .int .i64, .slice [.str, .slice [.int .i64]]]]
def apl:List (Int×Int×List (List UInt8×List Int))×Int×Int×Int×Int×List (List UInt8×List Int)→Prop×AV×List AB:=fun x=>match x with
 |(l,i,m,s1,s2,s3)=>(S.r5 l i m, .own 0,[.row 91 [.int .i64, .int .i64, .slice [.str, .slice [.int .i64]]] (S.pW l i.toNat m.toNat (s1,s2,s3)) false])
def apm:List (Int×Int×List (List UInt8×List Int))×Int×Int×Int×Int×List (List UInt8×List Int)→Nat→Option an:=fun _ _=>none
def abD:bf:=ar abC apl
def abE:Env:=Env.cons 104 abD abB
abbrev abF:List PS:= [.agg [.slice [.slice [.int .u8]], .slice [.int .i64, .int .i64, .slice [.str, .slice [.int .i64]]]], .one (.slice [.int .u8])]
def apn:List (List UInt8)×List (Int×Int×List (List UInt8×List Int))×List UInt8→Prop×AV×List AB:=fun x=>match x with
 |(y1,y2,d)=>(True, .cD [.agg [.sl [.slice [.int .u8]] (((S.aU y1 y2 d).1).1), .sl [.int .i64, .int .i64, .slice [.str, .slice [.int .i64]]] (((S.aU y1 y2 d).1).2)], .int .i64 ((S.aU y1 y2 d).2:Int)],[])
def apo:List (List UInt8)×List (Int×Int×List (List UInt8×List Int))×List UInt8→Nat→Option an:=fun _ _=>none
def abG:bf:=ar abF apn
def abH:Env:=Env.cons 68 abG abE
abbrev abI:List PS:= [.agg [.slice [.slice [.int .u8]], .slice [.int .i64, .int .i64, .slice [.str, .slice [.int .i64]]]]]
def apq:List (List UInt8)×List (Int×Int×List (List UInt8×List Int))→Prop×AV×List AB:=fun x=>match x with
 |(y1,y2)=>(True, .cD [.agg [.sl [.slice [.int .u8]] (((S.aN y1 y2).1).1), .sl [.int .i64, .int .i64, .slice [.str, .slice [.int .i64]]] (((S.aN y1 y2).1).2)], .int .i64 ((S.aN y1 y2).2:Int)],[])
def apr:List (List UInt8)×List (Int×Int×List (List UInt8×List Int))→Nat→Option an:=fun _ _=>none
def abJ:bf:=ar abI apq
def abK:Env:=Env.cons 70 abJ abH
abbrev abL:List PS:= [.agg [.slice [.slice [.int .u8]], .slice [.int .i64, .int .i64, .slice [.str, .slice [.int .i64]]]], .one (.int .i64), .one (.int .i64)]
def aps:List (List UInt8)×List (Int×Int×List (List UInt8×List Int))×Int×Int→Prop×AV×List AB:=fun x=>match x with
 |(y1,y2,i,m)=>(True, .cD [.agg [.sl [.slice [.int .u8]] (((S.bt y1 y2 i m).1).1), .sl [.int .i64, .int .i64, .slice [.str, .slice [.int .i64]]] (((S.bt y1 y2 i m).1).2)], .int .i64 ((S.bt y1 y2 i m).2:Int)],[])
def apt:List (List UInt8)×List (Int×Int×List (List UInt8×List Int))×Int×Int→Nat→Option an:=fun _ _=>none
def abM:bf:=ar abL aps
def abN:Env:=Env.cons 72 abM abK
abbrev abO:List PS:= [.agg [.slice [.slice [.int .u8]], .slice [.int .i64, .int .i64, .slice [.str, .slice [.int .i64]]]]]
def apu:List (List UInt8)×List (Int×Int×List (List UInt8×List Int))→Prop×AV×List AB:=fun x=>match x with
 |(y1,y2)=>(True, .agg [.sl [.slice [.int .u8]] ((S.cq y1 y2).1), .sl [.int .i64, .int .i64, .slice [.str, .slice [.int .i64]]] ((S.cq y1 y2).2)],[])
def apv:List (List UInt8)×List (Int×Int×List (List UInt8×List Int))→Nat→Option an:=fun x=>match x with
 |(y1,y2)=>fun id=>(match id with
  |0=>some {τ:=List (Int×Int),aO:= [],keys:= [(3,fun L=> .cells [.own 101100, .own 300]),(300,fun L=> .row 91 [.int .i64, .int .i64, .slice [.str, .slice [.int .i64]]] (S.aB (S.ak y1 y2).1 L) false)],cu:= [(Vg.Loc.cell 3 1,300)],drop:= [101101],bB:= [],inv:=fun L=>S.nk y1 y2 L,ah:=fun L=>L.length}
  |_=>none)
def abP:bf:=ar abO apu
def abQ:Env:=Env.cons 74 abP abN
abbrev abR:List PS:= [.agg [.slice [.slice [.int .u8]], .slice [.int .i64, .int .i64, .slice [.str, .slice [.int .i64]]]]]
def apw:List (List UInt8)×List (Int×Int×List (List UInt8×List Int))→Prop×AV×List AB:=fun x=>match x with
 |(y1,y2)=>(True, .bool (S.aX y1 y2),[])
def apx:List (List UInt8)×List (Int×Int×List (List UInt8×List Int))→Nat→Option an:=fun x=>match x with
 |(y1,y2)=>fun id=>(match id with
  |0=>some {τ:=Nat,aO:= [(3,fun k=> .int .i64 ((k:Nat):Int))],keys:= [],cu:= [],drop:= [],bB:= [],inv:=fun k=>S.pX y1 y2 k,ah:=fun k=>S.ah (S.len y2) k}
  |_=>none)
def abS:bf:=ar abR apw
def abT:Env:=Env.cons 81 abS abQ
abbrev abU:List PS:= [.agg [.slice [.slice [.int .u8]], .slice [.int .i64, .int .i64, .slice [.str, .slice [.int .i64]]]]]
def apy:List (List UInt8)×List (Int×Int×List (List UInt8×List Int))→Prop×AV×List AB:=fun x=>match x with
 |(y1,y2)=>(True, .agg [.sl [.slice [.int .u8]] ((S.ak y1 y2).1), .sl [.int .i64, .int .i64, .slice [.str, .slice [.int .i64]]] ((S.ak y1 y2).2)],[])
def apz:List (List UInt8)×List (Int×Int×List (List UInt8×List Int))→Nat→Option an:=fun _ _=>none
def abV:bf:=ar abU apy
def abW:Env:=Env.cons 42 abV abT
abbrev abX:List PS:= [.agg [.slice [.slice [.int .u8]], .slice [.int .i64, .int .i64, .slice [.str, .slice [.int .i64]]]]]
def apA:List (List UInt8)×List (Int×Int×List (List UInt8×List Int))→Prop×AV×List AB:=fun x=>match x with
 |(y1,y2)=>(True, .int .i64 (S.fP y1 y2:Int),[])
def apB:List (List UInt8)×List (Int×Int×List (List UInt8×List Int))→Nat→Option an:=fun x=>match x with
 |(y1,y2)=>fun id=>(match id with
  |0=>some {τ:=Nat,aO:= [(4,fun k=> .int .i64 ((k:Nat):Int)),(3,fun k=> .int .i64 (S.cX (S.ak y1 y2).2 k))],keys:= [],cu:= [],drop:= [],bB:= [],inv:=fun k=>k≤S.gL y1 y2,ah:=fun k=>S.ah (S.gL y1 y2) k}
  |_=>none)
def abY:bf:=ar abX apA
def abZ:Env:=Env.cons 77 abY abW
abbrev ab1:List PS:= [.agg [.slice [.slice [.int .u8]], .slice [.int .i64, .int .i64, .slice [.str, .slice [.int .i64]]]]]
def apC:List (List UInt8)×List (Int×Int×List (List UInt8×List Int))→Prop×AV×List AB:=fun x=>match x with
 |(y1,y2)=>(S.small y2, .own 0,[.row 88 [.int .i64, .int .i64] (S.bq y2) false])
def apD:List (List UInt8)×List (Int×Int×List (List UInt8×List Int))→Nat→Option an:=fun x=>match x with
 |(y1,y2)=>fun id=>(match id with
  |0=>some {τ:=Nat,aO:= [(4,fun k=> .int .i64 ((k:Nat):Int)),(3,fun k=> .own 300)],keys:= [(300,fun k=> .row 88 [.int .i64, .int .i64] (S.ej y2 k) false)],cu:= [(Vg.Loc.slot 3,300)],drop:= [],bB:= [],inv:=fun k=>S.gR y2 k,ah:=fun k=>S.ah (S.len y2) k}
  |_=>none)
def ab2:bf:=ar ab1 apC
def ab3:Env:=Env.cons 79 ab2 abZ
abbrev ab4:List PS:= [.agg [.slice [.slice [.int .u8]], .slice [.int .i64, .int .i64, .slice [.str, .slice [.int .i64]]]], .one (.slice [.int .i64, .int .i64])]
def apE:List (List UInt8)×List (Int×Int×List (List UInt8×List Int))×List (Int×Int)→Prop×AV×List AB:=fun x=>match x with
 |(y1,y2,l)=>(S.l3 y1 l, .agg [.sl [.slice [.int .u8]] (((y1,S.aB y1 l)).1), .sl [.int .i64, .int .i64, .slice [.str, .slice [.int .i64]]] (((y1,S.aB y1 l)).2)],[])
def apF:List (List UInt8)×List (Int×Int×List (List UInt8×List Int))×List (Int×Int)→Nat→Option an:=fun x=>match x with
 |(y1,y2,l)=>fun id=>(match id with
  |0=>some {τ:=Nat,aO:= [(6,fun k=> .int .i64 ((k:Nat):Int))],keys:= [(5,fun k=> .cells [.sl [.slice [.int .u8]] y1, .own 300]),(300,fun k=> .row 104 [.int .i64, .int .i64, .slice [.str, .slice [.int .i64]]] (S.kl y1 l k) false)],cu:= [(Vg.Loc.cell 5 1,300)],drop:= [],bB:= [],inv:=fun k=>S.gR l k,ah:=fun k=>S.ah (S.len l) k}
  |_=>none)
def ab5:bf:=ar ab4 apE
def ab6:Env:=Env.cons 78 ab5 ab3
abbrev ab7:List PS:= [.agg [.slice [.slice [.int .u8]], .slice [.int .i64, .int .i64, .slice [.str, .slice [.int .i64]]]], .one (.slice [.int .u8])]
def apG:List (List UInt8)×List (Int×Int×List (List UInt8×List Int))×List UInt8→Prop×AV×List AB:=fun x=>match x with
 |(y1,y2,d)=>(True, .cD [.agg [.sl [.slice [.int .u8]] (((S.aU y1 y2 d).1).1), .sl [.int .i64, .int .i64, .slice [.str, .slice [.int .i64]]] (((S.aU y1 y2 d).1).2)], .int .i64 ((S.aU y1 y2 d).2:Int)],[])
def apH:List (List UInt8)×List (Int×Int×List (List UInt8×List Int))×List UInt8→Nat→Option an:=fun _ _=>none
def ab8:bf:=ar ab7 apG
def ab9:Env:=Env.cons 38 ab8 ab6
abbrev R6:List PS:= [.agg [.slice [.slice [.int .u8]], .slice [.int .i64, .int .i64, .slice [.str, .slice [.int .i64]]]]]
def afc:List (List UInt8)×List (Int×Int×List (List UInt8×List Int))→Prop×AV×List AB:=fun x=>match x with
 |(y1,y2)=>(True, .cD [.agg [.sl [.slice [.int .u8]] (((S.aN y1 y2).1).1), .sl [.int .i64, .int .i64, .slice [.str, .slice [.int .i64]]] (((S.aN y1 y2).1).2)], .int .i64 ((S.aN y1 y2).2:Int)],[])
def afd:List (List UInt8)×List (Int×Int×List (List UInt8×List Int))→Nat→Option an:=fun _ _=>none
def R7:bf:=ar R6 afc
def R8:Env:=Env.cons 39 R7 ab9
abbrev R9:List PS:= [.agg [.slice [.slice [.int .u8]], .slice [.int .i64, .int .i64, .slice [.str, .slice [.int .i64]]]], .one (.int .i64), .one (.int .i64)]
def afe:List (List UInt8)×List (Int×Int×List (List UInt8×List Int))×Int×Int→Prop×AV×List AB:=fun x=>match x with
 |(y1,y2,i,m)=>(True, .cD [.agg [.sl [.slice [.int .u8]] (((S.bt y1 y2 i m).1).1), .sl [.int .i64, .int .i64, .slice [.str, .slice [.int .i64]]] (((S.bt y1 y2 i m).1).2)], .int .i64 ((S.bt y1 y2 i m).2:Int)],[])
def aff:List (List UInt8)×List (Int×Int×List (List UInt8×List Int))×Int×Int→Nat→Option an:=fun _ _=>none
def Sa:bf:=ar R9 afe
def Sb:Env:=Env.cons 40 Sa R8
abbrev Sc:List PS:= [.agg [.slice [.slice [.int .u8]], .slice [.int .i64, .int .i64, .slice [.str, .slice [.int .i64]]]]]
def afg:List (List UInt8)×List (Int×Int×List (List UInt8×List Int))→Prop×AV×List AB:=fun x=>match x with
 |(y1,y2)=>(True, .agg [.sl [.slice [.int .u8]] ((S.cq y1 y2).1), .sl [.int .i64, .int .i64, .slice [.str, .slice [.int .i64]]] ((S.cq y1 y2).2)],[])
def afh:List (List UInt8)×List (Int×Int×List (List UInt8×List Int))→Nat→Option an:=fun _ _=>none
def Sd:bf:=ar Sc afg
def Se:Env:=Env.cons 41 Sd Sb
abbrev Sf:List PS:= [.agg [.slice [.slice [.int .u8]], .slice [.int .i64, .int .i64, .slice [.str, .slice [.int .i64]]]], .agg [.slice [.slice [.int .u8]], .slice [.int .i64, .int .i64, .slice [.str, .slice [.int .i64]]]]]
def afi:List (List UInt8)×List (Int×Int×List (List UInt8×List Int))×List (List UInt8)×List (Int×Int×List (List UInt8×List Int))→Prop×AV×List AB:=fun x=>match x with
 |(a1,a2,b1,b2)=>(True, .bool (S.mN a1 a2 b1 b2),[])
def afj:List (List UInt8)×List (Int×Int×List (List UInt8×List Int))×List (List UInt8)×List (Int×Int×List (List UInt8×List Int))→Nat→Option an:=fun x=>match x with
 |(a1,a2,b1,b2)=>fun id=>(match id with
  |0=>some {τ:=Nat,aO:= [(5,fun k=> .int .i64 ((k:Nat):Int))],keys:= [],cu:= [],drop:= [],bB:= [],inv:=fun k=>S.nU a1 a2 b1 b2 k,ah:=fun k=>S.ah (S.len a2) k}
  |_=>none)
def Sh:bf:=ar Sf afi
def Si:Env:=Env.cons 16 Sh Se
abbrev Sj:List PS:= [.agg [.slice [.slice [.int .u8]], .slice [.int .i64, .int .i64, .slice [.str, .slice [.int .i64]]]]]
def afk:List (List UInt8)×List (Int×Int×List (List UInt8×List Int))→Prop×AV×List AB:=fun x=>match x with
 |(y1,y2)=>(S.small y2, .agg [.sl [.slice [.int .u8]] (((y1,y2)).1), .sl [.int .i64, .int .i64, .slice [.str, .slice [.int .i64]]] (((y1,y2)).2)],[])
def afl:List (List UInt8)×List (Int×Int×List (List UInt8×List Int))→Nat→Option an:=fun x=>match x with
 |(y1,y2)=>fun id=>(match id with
  |0=>some {τ:=Nat,aO:= [(4,fun k=> .int .i64 ((k:Nat):Int))],keys:= [(3,fun k=> .cells [.sl [.slice [.int .u8]] y1, .own 300]),(300,fun k=> .row 104 [.int .i64, .int .i64, .slice [.str, .slice [.int .i64]]] (y2.take k) false)],cu:= [(Vg.Loc.cell 3 1,300)],drop:= [],bB:= [],inv:=fun k=>S.gR y2 k,ah:=fun k=>S.ah (S.len y2) k}
  |_=>none)
def Sk:bf:=ar Sj afk
def Sl:Env:=Env.cons 13 Sk Si
abbrev Sm:List PS:= [.agg [.slice [.slice [.int .u8]], .slice [.int .i64, .int .i64, .slice [.str, .slice [.int .i64]]]]]
def afm:List (List UInt8)×List (Int×Int×List (List UInt8×List Int))→Prop×AV×List AB:=fun x=>match x with
 |(y1,y2)=>(True, .bool (S.kn y1 y2),[])
def afn:List (List UInt8)×List (Int×Int×List (List UInt8×List Int))→Nat→Option an:=fun x=>match x with
 |(y1,y2)=>fun id=>(match id with
  |0=>some {τ:=Nat,aO:= [(3,fun k=> .int .i64 ((k:Nat):Int))],keys:= [],cu:= [],drop:= [],bB:= [],inv:=fun k=>S.ve y2 k,ah:=fun k=>S.ah (S.len y2) k}
  |_=>none)
def Sn:bf:=ar Sm afm
def Sq:Env:=Env.cons 8 Sn Sl
abbrev Sr:List PS:= [.one (.slice [.int .u8])]
def afo:List UInt8→Prop×AV×List AB:=fun x=>match x with
 |b=>(True, .own 0,[.row 5 [.int .u8] (S.copied b) false])
def afp:List UInt8→Nat→Option an:=fun _ _=>none
def Ss:bf:=ar Sr afo
def Su:Env:=Env.cons 92 Ss Sq
abbrev Sv:List PS:= [.one (.int .i64)]
def afq:Int→Prop×AV×List AB:=fun x=>match x with
 |n=>(S.r6 n, .own 0,[.views 26 (some 1) n.toNat n.toNat 64, .row 5 [.int .u8] (S.pY n) false])
def afr:Int→Nat→Option an:=fun x=>match x with
 |n=>fun id=>(match id with
  |0=>some {τ:=Nat,aO:= [(15,fun k=> .int .i64 ((k:Nat):Int))],keys:= [(12,fun k=> .views 26 (some 10) n.toNat k 64)],cu:= [],drop:= [],bB:= [],inv:=fun k=>S.vj k n.toNat,ah:=fun k=>S.ah n.toNat k}
  |_=>none)
def Sw:bf:=ar Sv afq
def Sx:Env:=Env.cons 66 Sw Su
abbrev Sy:List PS:= [.agg [.slice [.slice [.int .u8]], .slice [.int .i64, .slice [.int .u8]]]]
def afs:List (List UInt8)×List (Int×List UInt8)→Prop×AV×List AB:=fun x=>match x with
 |(d1,d2)=>(S.pZ d1, .agg [.own 0, .nil],[.views 26 (some 1) (S.len d1) (S.len d1) 64, .row 5 [.int .u8] (S.flat d1) false])
def aft:List (List UInt8)×List (Int×List UInt8)→Nat→Option an:=fun x=>match x with
 |(d1,d2)=>fun id=>(match id with
  |0=>some {τ:=Nat,aO:= [(14,fun k=> .int .i64 ((k:Nat):Int))],keys:= [(100901,fun k=> .row 5 [.int .u8] (S.gb d1 k) false)],cu:= [],drop:= [],bB:= [],inv:=fun k=>S.eb d1 k,ah:=fun k=>S.ah (S.len d1) k}
  |_=>none)
def Sz:bf:=ar Sy afs
def SA:Env:=Env.cons 62 Sz Sx
abbrev SB:List PS:= [.agg [.slice [.slice [.int .u8]], .slice [.int .i64, .slice [.int .u8]]]]
def afu:List (List UInt8)×List (Int×List UInt8)→Prop×AV×List AB:=fun x=>match x with
 |(d1,d2)=>(True, .bool (S.aP d1 d2),[])
def afv:List (List UInt8)×List (Int×List UInt8)→Nat→Option an:=fun x=>match x with
 |(d1,d2)=>fun id=>(match id with
  |0=>some {τ:=Nat,aO:= [(20,fun k=> .int .i64 ((k:Nat):Int))],keys:= [],cu:= [],drop:= [],bB:= [],inv:=fun k=>S.M3 d1 k,ah:=fun k=>S.ah (S.len d1) k}
  |2=>some {τ:=Nat,aO:= [(31,fun k=> .int .i64 ((k:Nat):Int))],keys:= [],cu:= [],drop:= [],bB:= [],inv:=fun k=>S.M4 d1 d2 k,ah:=fun k=>S.ah (S.len d2) k}
  |_=>none)
def SC:bf:=ar SB afu
def SD:Env:=Env.cons 50 SC SA
abbrev SE:List PS:= [.agg [.slice [.slice [.int .u8]], .slice [.int .i64, .slice [.int .u8]]]]
def afw:List (List UInt8)×List (Int×List UInt8)→Prop×AV×List AB:=fun x=>match x with
 |(d1,d2)=>(True, .agg [.sl [.slice [.int .u8]] (((S.vB d1 d2,S.vW d1 d2)).1), .sl [.int .i64, .slice [.int .u8]] (((S.vB d1 d2,S.vW d1 d2)).2)],[])
def afx:List (List UInt8)×List (Int×List UInt8)→Nat→Option an:=fun _ _=>none
def SF:bf:=ar SE afw
def SG:Env:=Env.cons 61 SF SD
abbrev SH:List PS:= [.agg [.slice [.slice [.int .u8]], .slice [.int .i64, .slice [.int .u8]]]]
def afy:List (List UInt8)×List (Int×List UInt8)→Prop×AV×List AB:=fun x=>match x with
 |(d1,d2)=>(True, .int .i64 (S.kP (S.vB d1 d2):Int),[])
def afz:List (List UInt8)×List (Int×List UInt8)→Nat→Option an:=fun _ _=>none
def SI:bf:=ar SH afy
def SJ:Env:=Env.cons 51 SI SG
abbrev SK:List PS:= [.one (.int .i64)]
def afA:Int→Prop×AV×List AB:=fun x=>match x with
 |n=>(True, .cD [.agg [.sl [.slice [.int .u8]] (S.xa n), .nil], .int .i64 (S.M5 n)],[])
def afB:Int→Nat→Option an:=fun _ _=>none
def SL:bf:=ar SK afA
def SM:Env:=Env.cons 35 SL SJ
abbrev SN:List PS:= [.agg [.slice [.slice [.int .u8]], .slice [.int .i64, .slice [.int .u8]]], .one (.int .i64)]
def afC:List (List UInt8)×List (Int×List UInt8)×Int→Prop×AV×List AB:=fun x=>match x with
 |(d1,d2,i)=>(True, .cD [.own 0, .int .i64 (((S.dQ d1 d2 i,S.gv d1 d2 i)).2:Int)],[.row 5 [.int .u8] (((S.dQ d1 d2 i,S.gv d1 d2 i)).1) false])
def afD:List (List UInt8)×List (Int×List UInt8)×Int→Nat→Option an:=fun x=>match x with
 |(d1,d2,i)=>fun id=>(match id with
  |0=>some {τ:=Nat,aO:= [(28,fun k=> .int .i64 ((k:Nat):Int)),(6,fun k=> .sl [.int .u8] (S.qI (S.vW d1 d2) i (S.bX (S.vB d1 d2) i) k))],keys:= [],cu:= [],drop:= [],bB:= [],inv:=fun k=>S.eb (S.vW d1 d2) k,ah:=fun k=>S.ah (S.len (S.vW d1 d2)) k}
  |_=>none)
def SO:bf:=ar SN afC
def SP:Env:=Env.cons 86 SO SM
abbrev SQ:List PS:= [.agg [.slice [.slice [.int .u8]], .slice [.int .i64, .slice [.int .u8]]], .one (.int .i64), .one (.slice [.int .u8])]
def afE:List (List UInt8)×List (Int×List UInt8)×Int×List UInt8→Prop×AV×List AB:=fun x=>match x with
 |(d1,d2,i,b)=>(True, .cD [.agg [.sl [.slice [.int .u8]] (((((S.wB d1 d2,S.wW d1 d2 i b),S.kY d1 d2 i b)).1).1), .sl [.int .i64, .slice [.int .u8]] (((((S.wB d1 d2,S.wW d1 d2 i b),S.kY d1 d2 i b)).1).2)], .int .i64 ((((S.wB d1 d2,S.wW d1 d2 i b),S.kY d1 d2 i b)).2:Int)],[])
def afF:List (List UInt8)×List (Int×List UInt8)×Int×List UInt8→Nat→Option an:=fun x=>match x with
 |(d1,d2,i,b)=>fun id=>(match id with
  |0=>some {τ:=Nat,aO:= [(38,fun k=> .int .i64 ((k:Nat):Int))],keys:= [(8,fun k=> .cells [.own 103400, .own 200]),(200,fun k=> .row 129 [.int .i64, .slice [.int .u8]] (S.kX (S.vW d1 d2) k) false)],cu:= [(Vg.Loc.cell 8 1,200)],drop:= [],bB:= [],inv:=fun k=>S.eb (S.vW d1 d2) k,ah:=fun k=>S.ah (S.len (S.vW d1 d2)) k}
  |_=>none)
def SR:bf:=ar SQ afE
def SS:Env:=Env.cons 60 SR SP
abbrev SU:List PS:= [.agg [.slice [.slice [.int .u8]], .slice [.int .i64, .slice [.int .u8]]]]
def afG:List (List UInt8)×List (Int×List UInt8)→Prop×AV×List AB:=fun x=>match x with
 |(d1,d2)=>(True, .agg [.sl [.slice [.int .u8]] (S.ya (d1,d2)), .nil],[])
def afH:List (List UInt8)×List (Int×List UInt8)→Nat→Option an:=fun x=>match x with
 |(d1,d2)=>fun id=>(match id with
  |0=>some {τ:=Nat,aO:= [(13,fun k=> .int .i64 ((k:Nat):Int))],keys:= [(100901,fun k=> .row 5 [.int .u8] (S.l6 (S.vB d1 d2) (S.vW d1 d2) k) false)],cu:= [],drop:= [],bB:= [],inv:=fun k=>S.eb (S.vW d1 d2) k,ah:=fun k=>S.ah (S.len (S.vW d1 d2)) k}
  |_=>none)
def SV:bf:=ar SU afG
def SX:Env:=Env.cons 59 SV SS
abbrev SY:List PS:= [.agg [.slice [.slice [.int .u8]], .slice [.int .i64, .slice [.int .u8]]], .one (.slice [.int .i64])]
def afI:List (List UInt8)×List (Int×List UInt8)×List Int→Prop×AV×List AB:=fun x=>match x with
 |(d1,d2,keep)=>(True, .agg [.sl [.slice [.int .u8]] (S.wk (d1,d2) keep), .nil],[])
def afJ:List (List UInt8)×List (Int×List UInt8)×List Int→Nat→Option an:=fun x=>match x with
 |(d1,d2,keep)=>fun id=>(match id with
  |0=>some {τ:=Nat,aO:= [(16,fun k=> .int .i64 ((k:Nat):Int))],keys:= [(101201,fun k=> .row 5 [.int .u8] (S.jT keep (S.vB d1 d2) (S.vW d1 d2) k) false)],cu:= [],drop:= [],bB:= [],inv:=fun k=>S.eb (S.vW d1 d2) k,ah:=fun k=>S.ah (S.len (S.vW d1 d2)) k}
  |_=>none)
def SZ:bf:=ar SY afI
def S0:Env:=Env.cons 23 SZ SX
abbrev S1:List PS:= [.one (.slice [.int .u8]), .one (.slice [.int .u8])]
def afK:List UInt8×List UInt8→Prop×AV×List AB:=fun x=>match x with
 |(a,b)=>(True, .bool (S.KJ a b),[])
def afL:List UInt8×List UInt8→Nat→Option an:=fun _ _=>none
def S2:bf:=ar S1 afK
def S3:Env:=Env.cons 117 S2 S0
abbrev afM:List PS:= [.one (.slice [.int .u8]), .one (.int .i64)]
def afN:List UInt8×Int→Prop×AV×List AB:=fun x=>match x with
 |(b,n)=>(S.KK b n, .sl [.int .u8] S.clean,[])
def S4:bf:=ar afM afN
def S5:Env:=Env.cons 56 S4 S3
abbrev S6:List PS:= [.one (.slice [.int .u8])]
def afO:List UInt8→Prop×AV×List AB:=fun x=>match x with
 |b=>(S.e6 b, .cD [.int .i64 ((S.e8 b).1:Int), .bool ((S.e8 b).2)],[])
def afP:List UInt8→Nat→Option an:=fun x=>match x with
 |b=>fun id=>(match id with
  |0=>some {τ:=Nat,aO:= [(10,fun k=> .int .i64 ((k:Nat):Int)),(4,fun k=> .int .u64 ((S.dS b k:Nat):Int))],keys:= [],cu:= [],drop:= [],bB:= [],inv:=fun k=>S.oE k 8,ah:=fun k=>S.ah 8 k}
  |_=>none)
def S7:bf:=ar S6 afO
def S8:Env:=Env.cons 116 S7 S5
abbrev S9:List PS:= [.agg [.int .i64, .int .i64]]
def afQ:Int×Int→Prop×AV×List AB:=fun x=>match x with
 |(m1,m2)=>(S.ma m1 m2, .own 0,[.row 5 [.int .u8] (S.dX m1 m2) false])
def afR:Int×Int→Nat→Option an:=fun x=>match x with
 |(m1,m2)=>fun id=>(match id with
  |0=>some {τ:=Nat,aO:= [(10,fun k=> .int .i64 ((k:Nat):Int))],keys:= [(7,fun k=> .row 5 [.int .u8] (S.ep m1 m2 k) false)],cu:= [],drop:= [],bB:= [],inv:=fun k=>S.oE k 8,ah:=fun k=>S.ah 8 k}
  |_=>none)
def Ta:bf:=ar S9 afQ
def Tb:Env:=Env.cons 58 Ta S8
abbrev Tc:List PS:= [.one (.slice [.int .u8]), .one (.int .i64)]
def afS:List UInt8×Int→Prop×AV×List AB:=fun x=>match x with
 |(b,m)=>(True, .cD [.agg [.int .i64 (((S.cG b m).1).1:Int), .int .i64 (((S.cG b m).1).2:Int)], .bool ((S.cG b m).2)],[])
def afT:List UInt8×Int→Nat→Option an:=fun _ _=>none
def Td:bf:=ar Tc afS
def Te:Env:=Env.cons 87 Td Tb
abbrev Tf:List PS:= [.agg [.slice [.slice [.int .u8]], .slice [.int .i64, .slice [.int .u8]]]]
def afU:List (List UInt8)×List (Int×List UInt8)→Prop×AV×List AB:=fun x=>match x with
 |(d1,d2)=>(True, .int .i64 (S.dI d1 d2:Int),[])
def afV:List (List UInt8)×List (Int×List UInt8)→Nat→Option an:=fun _ _=>none
def Tg:bf:=ar Tf afU
def Th:Env:=Env.cons 55 Tg Te
abbrev Ti:List PS:= [.agg [.slice [.slice [.int .u8]], .slice [.int .i64, .slice [.int .u8]]]]
def afW:List (List UInt8)×List (Int×List UInt8)→Prop×AV×List AB:=fun x=>match x with
 |(d1,d2)=>(True, .cD [.agg [.int .i64 (((S.fH d1 d2).1).1:Int), .int .i64 (((S.fH d1 d2).1).2:Int)], .bool ((S.fH d1 d2).2)],[])
def afX:List (List UInt8)×List (Int×List UInt8)→Nat→Option an:=fun x=>match x with
 |(d1,d2)=>fun id=>(match id with
  |0=>some {τ:=Nat,aO:= [(11,fun k=> .int .i64 ((k:Nat):Int)),(5,fun k=> .bool (S.c9 d1 d2 k).2)],keys:= [(4,fun k=> .cells [.int .i64 (S.c9 d1 d2 k).1.1, .int .i64 (S.c9 d1 d2 k).1.2])],cu:= [],drop:= [],bB:= [],inv:=fun k=>S.oE k 2,ah:=fun k=>S.ah 2 k}
  |_=>none)
def Tj:bf:=ar Ti afW
def Tk:Env:=Env.cons 52 Tj Th
abbrev Tl:List PS:= [.agg [.slice [.slice [.int .u8]], .slice [.int .i64, .slice [.int .u8]]], .one (.int .i64)]
def afY:List (List UInt8)×List (Int×List UInt8)×Int→Prop×AV×List AB:=fun x=>match x with
 |(d1,d2,n)=>(S.qJ d1 d2 n, .sl [.int .u8] ((S.vt d1 d2).take n.toNat),[])
def afZ:List (List UInt8)×List (Int×List UInt8)×Int→Nat→Option an:=fun x=>match x with
 |(d1,d2,n)=>fun id=>(match id with
  |0=>some {τ:=Nat,aO:= [(6,fun k=> .int .i64 ((k:Int)+2)),(5,fun k=> .own 300)],keys:= [(300,fun k=> .row 5 [.int .u8] (S.dU d1 d2 k) false)],cu:= [(Vg.Loc.slot 5,300)],drop:= [],bB:= [],inv:=fun k=>S.nr d1 d2 n k,ah:=fun k=>S.ah 5000 k}
  |_=>none)
def Tm:bf:=ar Tl afY
def Tn:Env:=Env.cons 53 Tm Tk
abbrev To:List PS:= [.agg [.slice [.int .u8], .int .i64, .int .i64]]
def af0:List UInt8×Int×Int→Prop×AV×List AB:=fun x=>match x with
 |(r1,r2,r3)=>(S.KL r1, .cD [.agg [.sl [.int .u8] (((((r1,(S.cr r1 r2 r3).1.1,(S.cr r1 r2 r3).1.2),(S.cr r1 r2 r3).2)).1).1), .int .i64 (((((r1,(S.cr r1 r2 r3).1.1,(S.cr r1 r2 r3).1.2),(S.cr r1 r2 r3).2)).1).2.1:Int), .int .i64 (((((r1,(S.cr r1 r2 r3).1.1,(S.cr r1 r2 r3).1.2),(S.cr r1 r2 r3).2)).1).2.2:Int)], .agg [.int .i64 (((((r1,(S.cr r1 r2 r3).1.1,(S.cr r1 r2 r3).1.2),(S.cr r1 r2 r3).2)).2).1:Int), .int .i64 (((((r1,(S.cr r1 r2 r3).1.1,(S.cr r1 r2 r3).1.2),(S.cr r1 r2 r3).2)).2).2.1:Int), .int .i64 (((((r1,(S.cr r1 r2 r3).1.1,(S.cr r1 r2 r3).1.2),(S.cr r1 r2 r3).2)).2).2.2.1:Int), .sl [.int .u8] (((((r1,(S.cr r1 r2 r3).1.1,(S.cr r1 r2 r3).1.2),(S.cr r1 r2 r3).2)).2).2.2.2)]],[])
def af1:List UInt8×Int×Int→Nat→Option an:=fun _ _=>none
def Tp:bf:=ar To af0
def Tq:Env:=Env.cons 54 Tp Tn
abbrev Tr:List PS:= [.agg [.slice [.slice [.int .u8]], .slice [.int .i64, .int .i64, .slice [.str, .slice [.int .i64]]]], .agg [.int .i64, .int .i64, .int .i64, .slice [.int .u8]]]
def af2:List (List UInt8)×List (Int×Int×List (List UInt8×List Int))×Int×Int×Int×List UInt8→Prop×AV×List AB:=fun x=>match x with
 |(y1,y2,e1,e2,e3,e4)=>(True, .cD [.agg [.sl [.slice [.int .u8]] (((S.aU y1 y2 e4).1).1), .sl [.int .i64, .int .i64, .slice [.str, .slice [.int .i64]]] (((S.aU y1 y2 e4).1).2)], .int .i64 ((S.aU y1 y2 e4).2:Int)],[])
def af3:List (List UInt8)×List (Int×Int×List (List UInt8×List Int))×Int×Int×Int×List UInt8→Nat→Option an:=fun _ _=>none
def Ts:bf:=ar Tr af2
def Tt:Env:=Env.cons 67 Ts Tq
abbrev Tu:List PS:= [.agg [.slice [.slice [.int .u8]], .slice [.int .i64, .int .i64, .slice [.str, .slice [.int .i64]]]], .agg [.int .i64, .int .i64, .int .i64, .slice [.int .u8]]]
def af4:List (List UInt8)×List (Int×Int×List (List UInt8×List Int))×Int×Int×Int×List UInt8→Prop×AV×List AB:=fun x=>match x with
 |(y1,y2,e1,e2,e3,e4)=>(True, .cD [.agg [.sl [.slice [.int .u8]] (((S.aN y1 y2).1).1), .sl [.int .i64, .int .i64, .slice [.str, .slice [.int .i64]]] (((S.aN y1 y2).1).2)], .int .i64 ((S.aN y1 y2).2:Int)],[])
def af5:List (List UInt8)×List (Int×Int×List (List UInt8×List Int))×Int×Int×Int×List UInt8→Nat→Option an:=fun _ _=>none
def Tv:bf:=ar Tu af4
def Tw:Env:=Env.cons 69 Tv Tt
abbrev Tx:List PS:= [.agg [.slice [.slice [.int .u8]], .slice [.int .i64, .int .i64, .slice [.str, .slice [.int .i64]]]], .agg [.int .i64, .int .i64, .int .i64, .slice [.int .u8]]]
def af6:List (List UInt8)×List (Int×Int×List (List UInt8×List Int))×Int×Int×Int×List UInt8→Prop×AV×List AB:=fun x=>match x with
 |(y1,y2,e1,e2,e3,e4)=>(True, .cD [.agg [.sl [.slice [.int .u8]] (((S.bt y1 y2 e2 e3).1).1), .sl [.int .i64, .int .i64, .slice [.str, .slice [.int .i64]]] (((S.bt y1 y2 e2 e3).1).2)], .int .i64 ((S.bt y1 y2 e2 e3).2:Int)],[])
def af7:List (List UInt8)×List (Int×Int×List (List UInt8×List Int))×Int×Int×Int×List UInt8→Nat→Option an:=fun _ _=>none
def Tz:bf:=ar Tx af6
def TC:Env:=Env.cons 71 Tz Tw
abbrev TD:List PS:= [.agg [.slice [.slice [.int .u8]], .slice [.int .i64, .int .i64, .slice [.str, .slice [.int .i64]]]], .agg [.int .i64, .int .i64, .int .i64, .slice [.int .u8]]]
def af8:List (List UInt8)×List (Int×Int×List (List UInt8×List Int))×Int×Int×Int×List UInt8→Prop×AV×List AB:=fun x=>match x with
 |(y1,y2,e1,e2,e3,e4)=>(True, .cD [.agg [.sl [.slice [.int .u8]] ((((S.cq y1 y2,0)).1).1), .sl [.int .i64, .int .i64, .slice [.str, .slice [.int .i64]]] ((((S.cq y1 y2,0)).1).2)], .int .i64 (((S.cq y1 y2,0)).2:Int)],[])
def af9:List (List UInt8)×List (Int×Int×List (List UInt8×List Int))×Int×Int×Int×List UInt8→Nat→Option an:=fun _ _=>none
def TF:bf:=ar TD af8
def TG:Env:=Env.cons 73 TF TC
abbrev TH:List PS:= []
def aga:Unit→Prop×AV×List AB:=fun x=>match x with
 |()=>(True, .gf [0,1,2,3] [.fn (.func 67) [] [], .fn (.func 69) [] [], .fn (.func 71) [] [], .fn (.func 73) [] []],[])
def agb:Unit→Nat→Option an:=fun _ _=>none
def TI:bf:=ar TH aga
def TJ:Env:=Env.cons 36 TI TG
abbrev TK:List PS:= [.agg [.slice [.slice [.int .u8]], .slice [.int .i64, .int .i64, .slice [.str, .slice [.int .i64]]]], .agg [.int .i64, .int .i64, .int .i64, .slice [.int .u8]]]
def agc:List (List UInt8)×List (Int×Int×List (List UInt8×List Int))×Int×Int×Int×List UInt8→Prop×AV×List AB:=fun x=>match x with
 |(y1,y2,e1,e2,e3,e4)=>(True, .cD [.agg [.sl [.slice [.int .u8]] (((S.bH y1 y2 e1 e2 e3 e4).1).1), .sl [.int .i64, .int .i64, .slice [.str, .slice [.int .i64]]] (((S.bH y1 y2 e1 e2 e3 e4).1).2)], .int .i64 ((S.bH y1 y2 e1 e2 e3 e4).2:Int)],[])
def agd:List (List UInt8)×List (Int×Int×List (List UInt8×List Int))×Int×Int×Int×List UInt8→Nat→Option an:=fun _ _=>none
def TL:bf:=ar TK agc
def K2:Env:=Env.cons 11 TL TJ
abbrev TM:List PS:= [.agg [.int .i64, .int .i64, .int .i64, .slice [.int .u8]]]
def age:Int×Int×Int×List UInt8→Prop×AV×List AB:=fun x=>match x with
 |(e1,e2,e3,e4)=>(True, .cD [.sl [.int .u8] ((S.aQ e1 e2 e3 e4).1), .int .i64 ((S.aQ e1 e2 e3 e4).2:Int)],[])
def agf:Int×Int×Int×List UInt8→Nat→Option an:=fun x=>match x with
 |(e1,e2,e3,e4)=>fun id=>(match id with
  |1=>some {τ:=Nat,aO:= [(43,fun k=> .int .i64 ((k:Nat):Int)),(4,fun k=> .own 300),(5,fun k=> .int .i64 (S.jU e1 e2 e3 k).2)],keys:= [(300,fun k=> .row 5 [.int .u8] (S.jU e1 e2 e3 k).1 false)],cu:= [(Vg.Loc.slot 4,300)],drop:= [34,103400,103401,103402,101900,101901,101902,19],bB:= [],inv:=fun k=>S.oE k 2,ah:=fun k=>S.ah 2 k}
  |_=>none)
def TN:bf:=ar TM age
def TO:Env:=Env.cons 15 TN K2
def agh:Env:= {K2 with gD:=fun t=>false,cls:=fun d=>none,spl:=fun d=>Nat.beq d 48}
abbrev TP:List PS:= [.agg [.slice [.slice [.int .u8]], .slice [.int .i64, .slice [.int .u8]]]]
def agi:List (List UInt8)×List (Int×List UInt8)→Prop×AV×List AB:=fun x=>match x with
 |(d1,d2)=>(True, .cD [.agg [.int .i64 (((S.bV (d1,d2)).1).1:Int), .int .i64 (((S.bV (d1,d2)).1).2.1:Int), .sl [.slice [.int .u8]] (((S.bV (d1,d2)).1).2.2.1), .sl [.int .i64, .int .i64, .slice [.str, .slice [.int .i64]]] (((S.bV (d1,d2)).1).2.2.2)], .int .i64 ((S.bV (d1,d2)).2:Int)],[])
def agj:List (List UInt8)×List (Int×List UInt8)→Nat→Option an:=fun x=>match x with
 |(d1,d2)=>fun id=>(match id with
  |0=>some {τ:=Int×List (List UInt8)×List S.ax,aO:= [],keys:= [(7,fun k=> .cells [.sl [.int .u8] (S.ba d1 d2), .int .i64 k.1, .int .i64 0]),(6,fun k=> .cells [.sl [.slice [.int .u8]] k.2.1, .sl [.int .i64, .int .i64, .slice [.str, .slice [.int .i64]]] k.2.2])],cu:= [],drop:= [],bB:= [],inv:=fun k=>S.p6 (S.ba d1 d2) k,ah:=fun k=>((S.ba d1 d2).length-k.1.toNat)}
  |_=>none)
def TQ:bf:=ar TP agi
def TR:Env:=Env.cons 20 TQ TO
abbrev TS:List PS:= [.agg [.slice [.slice [.int .u8]], .slice [.int .i64, .slice [.int .u8]]], .one (.int .i64), .one (.slice [.int .u8])]
def agk:List (List UInt8)×List (Int×List UInt8)×Int×List UInt8→Prop×AV×List AB:=fun x=>match x with
 |(d1,d2,a,b)=>(S.KM a b, .sl [.bool, .int .i64, .slice [.int .u8]] (S.mj (S.en d1 d2 a b)),[])
def agl:List (List UInt8)×List (Int×List UInt8)×Int×List UInt8→Nat→Option an:=fun x=>match x with
 |(d1,d2,a,b)=>fun id=>(match id with
  |0=>some {τ:=Int×List UInt8×S.Ws,aO:= [(1,fun k=> .int .i64 k.1),(2,fun k=> .sl [.int .u8] k.2.1),(7,fun k=> .own 300)],keys:= [(300,fun k=> .row 96 [.bool, .int .i64, .slice [.int .u8]] (S.mj k.2.2) false)],cu:= [(Vg.Loc.slot 7,300)],drop:= [],bB:= [],inv:=fun k=>S.s8 d1 d2 a b k,ah:=fun k=>k.2.1.length}
  |_=>none)
def TT:bf:=ar TS agk
def TU:Env:=Env.cons 57 TT TR
abbrev TV:List PS:= [.agg [.slice [.slice [.int .u8]], .slice [.int .i64, .slice [.int .u8]]], .agg [.int .i64, .int .i64, .slice [.slice [.int .u8]], .slice [.int .i64, .int .i64, .slice [.str, .slice [.int .i64]]]], .agg [.int .i64, .int .i64, .int .i64, .slice [.int .u8]]]
def agm:List (List UInt8)×List (Int×List UInt8)×Int×Int×List (List UInt8)×List (Int×Int×List (List UInt8×List Int))×Int×Int×Int×List UInt8→Prop×AV×List AB:=fun x=>match x with
 |(d1,d2,s1,s2,s3,s4,e1,e2,e3,e4)=>(True, .cD [.sl [.bool, .int .i64, .slice [.int .u8]] ((S.gZ (d1,d2) (s1,s2,s3,s4) (e1,e2,e3,e4)).1), .agg [.int .i64 (((S.gZ (d1,d2) (s1,s2,s3,s4) (e1,e2,e3,e4)).2.1).1:Int), .int .i64 (((S.gZ (d1,d2) (s1,s2,s3,s4) (e1,e2,e3,e4)).2.1).2.1:Int), .sl [.slice [.int .u8]] (((S.gZ (d1,d2) (s1,s2,s3,s4) (e1,e2,e3,e4)).2.1).2.2.1), .sl [.int .i64, .int .i64, .slice [.str, .slice [.int .i64]]] (((S.gZ (d1,d2) (s1,s2,s3,s4) (e1,e2,e3,e4)).2.1).2.2.2)], .int .i64 ((S.gZ (d1,d2) (s1,s2,s3,s4) (e1,e2,e3,e4)).2.2:Int)],[])
def agn:List (List UInt8)×List (Int×List UInt8)×Int×Int×List (List UInt8)×List (Int×Int×List (List UInt8×List Int))×Int×Int×Int×List UInt8→Nat→Option an:=fun _ _=>none
def TW:bf:=ar TV agm
def TX:Env:=Env.cons 21 TW TU
abbrev TY:List PS:= [.agg [.slice [.slice [.int .u8]], .slice [.int .i64, .slice [.int .u8]]], .one (.slice [.bool, .int .i64, .slice [.int .u8]]), .one (.int .i64)]
def ago:List (List UInt8)×List (Int×List UInt8)×List (Bool×Int×List UInt8)×Int→Prop×AV×List AB:=fun x=>match x with
 |(d1,d2,l,f)=>(True, .cD [.agg [.sl [.slice [.int .u8]] (((S.r9 (d1,d2) l f).1).1), .sl [.int .i64, .slice [.int .u8]] (((S.r9 (d1,d2) l f).1).2)], .int .i64 ((S.r9 (d1,d2) l f).2:Int)],[])
def agp:List (List UInt8)×List (Int×List UInt8)×List (Bool×Int×List UInt8)×Int→Nat→Option an:=fun x=>match x with
 |(d1,d2,l,f)=>fun id=>(match id with
  |0=>some {τ:=Nat×S.Bs×S.Ws,aO:= [(14,fun k=> .int .i64 ((k.1:Nat):Int))],keys:= [(3,fun k=> .cells [.sl [.slice [.int .u8]] k.2.1, .sl [.int .i64, .slice [.int .u8]] k.2.2])],cu:= [],drop:= [],bB:= [],inv:=fun k=>S.mQ d1 d2 l f k,ah:=fun k=>S.ah (S.len l) k.1}
  |_=>none)
def TZ:bf:=ar TY ago
def T0:Env:=Env.cons 22 TZ TX
abbrev T1:List PS:= [.agg [.slice [.slice [.int .u8]], .slice [.int .i64, .int .i64, .slice [.str, .slice [.int .i64]]]], .agg [.int .i64, .int .i64, .int .i64, .slice [.int .u8]]]
def agq:List (List UInt8)×List (Int×Int×List (List UInt8×List Int))×Int×Int×Int×List UInt8→Prop×AV×List AB:=fun x=>match x with
 |(y1,y2,e1,e2,e3,e4)=>(True, .cD [.agg [.sl [.slice [.int .u8]] (((S.bH y1 y2 e1 e2 e3 e4).1).1), .sl [.int .i64, .int .i64, .slice [.str, .slice [.int .i64]]] (((S.bH y1 y2 e1 e2 e3 e4).1).2)], .int .i64 ((S.bH y1 y2 e1 e2 e3 e4).2:Int)],[])
def agr:List (List UInt8)×List (Int×Int×List (List UInt8×List Int))×Int×Int×Int×List UInt8→Nat→Option an:=fun _ _=>none
def T2:bf:=ar T1 agq
def T3:Env:=Env.cons 12 T2 T0
abbrev T4:List PS:= [.one (.int .i64)]
def ags:Int→Prop×AV×List AB:=fun x=>match x with
 |n=>(True, .bool (!S.du n),[])
def agt:Int→Nat→Option an:=fun _ _=>none
def T5:bf:=ar T4 ags
def T6:Env:=Env.cons 47 T5 T3
abbrev T7:List PS:= [.agg [.int .i64, .int .i64, .int .i64, .slice [.int .u8]]]
def agu:Int×Int×Int×List UInt8→Prop×AV×List AB:=fun x=>match x with
 |(e1,e2,e3,e4)=>(True, .bool (S.dR e1 e2 e3 e4),[])
def agv:Int×Int×Int×List UInt8→Nat→Option an:=fun _ _=>none
def T8:bf:=ar T7 agu
def T9:Env:=Env.cons 17 T8 T6
abbrev Ua:List PS:= [.agg [.int .i64, .int .i64, .int .i64, .slice [.int .u8]]]
def agw:Int×Int×Int×List UInt8→Prop×AV×List AB:=fun x=>match x with
 |(e1,e2,e3,e4)=>(S.zJ e1 e2 e3 e4, .sl [.int .u8] (S.kB e1 e2 e3 e4),[])
def agx:Int×Int×Int×List UInt8→Nat→Option an:=fun _ _=>none
def Ub:bf:=ar Ua agw
def Uc:Env:=Env.cons 18 Ub T9
abbrev Ud:List PS:= []
def agy:Unit→Prop×AV×List AB:=fun x=>match x with
 |()=>(True, .bool true,[])
def agz:Unit→Nat→Option an:=fun _ _=>none
def Ue:bf:=ar Ud agy
def Uf:Env:=Env.cons 10 Ue Uc
abbrev Ug:List PS:= [.agg [.int .i64, .int .i64, .int .i64, .slice [.int .u8]]]
def agA:Int×Int×Int×List UInt8→Prop×AV×List AB:=fun x=>match x with
 |(e1,e2,e3,e4)=>(True, .agg [.int .i64 (((e1,e2,e3,e4)).1:Int), .int .i64 (((e1,e2,e3,e4)).2.1:Int), .int .i64 (((e1,e2,e3,e4)).2.2.1:Int), .sl [.int .u8] (((e1,e2,e3,e4)).2.2.2)],[])
def agB:Int×Int×Int×List UInt8→Nat→Option an:=fun _ _=>none
def Uh:bf:=ar Ug agA
def Ui:Env:=Env.cons 14 Uh Uf
abbrev Uj:List PS:= [.agg [.int .i64, .int .i64, .int .i64, .slice [.int .u8]]]
def agC:Int×Int×Int×List UInt8→Prop×AV×List AB:=fun x=>match x with
 |(e1,e2,e3,e4)=>(True, .bool (decide ((S.len e4:Int)≤2500)),[])
def agD:Int×Int×Int×List UInt8→Nat→Option an:=fun _ _=>none
def Uk:bf:=ar Uj agC
def agE:Env:=Env.cons 9 Uk Ui
abbrev K3:List PS:= [.agg [.slice [.slice [.int .u8]], .slice [.int .i64, .int .i64, .slice [.str, .slice [.int .i64]]]], .agg [.int .i64, .int .i64, .int .i64, .slice [.int .u8]]]
def agF:List (List UInt8)×List (Int×Int×List (List UInt8×List Int))×Int×Int×Int×List UInt8→Prop×AV×List AB:=fun x=>match x with
 |(y1,y2,e1,e2,e3,e4)=>(True, .bool true,[])
def agG:List (List UInt8)×List (Int×Int×List (List UInt8×List Int))×Int×Int×Int×List UInt8→Nat→Option an:=fun _ _=>none
def agH:bf:=ar K3 agF
end Go.J

end
section
namespace Go.Vg
open Go Go.Shelf Go.RowKit Go.Proofs
def encS(s:List UInt8):Value:= .string ⟨s.toArray⟩
section
variable {w w':World} {A:Nat→Prop} {G:Nat→Option GD}
theorem zT:∀(l:List (List UInt8)) (cs:List Value),b9 (bk w A [.str]) cs l→cs=l.map encS∧∀s∈l,s.length≤maxLen
 | [],cs,h=>by simp only [b9] at h;simp [h]
 |s::l,cs,⟨c1,c2,hc,h1,h2⟩=>by
  subst hc;simp only [bk] at h1;obtain⟨v,bK,rfl,hv,rfl⟩:=h1;simp only [Rd] at hv;obtain⟨g1,g2⟩:=zT l c2 h2;obtain⟨rfl,hl⟩:=hv;refine⟨by rw [g1];rfl,fun s' gX=> ?_⟩;rcases List.mem_cons.1 gX with rfl|gX
  · exact hl
  · exact g2 s' gX
theorem A3:∀(l:List (List UInt8)),(∀s∈l,s.length≤maxLen)→b9 (bk w A [.str]) (l.map encS) l
 | [],_=>rfl
 |s::l,h=>⟨[encS s],l.map encS,rfl,by
   simp only [bk];exact⟨_,[],rfl,by simp only [Rd];exact⟨rfl,h s (by simp)⟩,rfl⟩,A3 l fun s' gX=>h s' (by simp [gX])⟩
theorem Ns:∀(l:List Int) (cs:List Value),b9 (bk w A [.int .i64]) cs l→cs=l.map (Value.int .i64)∧∀z∈l,lo .i64≤z∧z≤hi .i64
 | [],cs,h=>by simp only [b9] at h;simp [h]
 |s::l,cs,⟨c1,c2,hc,h1,h2⟩=>by
  subst hc;simp only [bk] at h1;obtain⟨v,bK,rfl,hv,rfl⟩:=h1;simp only [Rd] at hv;obtain⟨g1,g2⟩:=Ns l c2 h2;obtain⟨rfl,hl⟩:=hv;refine⟨by rw [g1];rfl,fun s' gX=> ?_⟩;rcases List.mem_cons.1 gX with rfl|gX
  · exact hl
  · exact g2 s' gX
theorem A4:∀(l:List Int),(∀z∈l,lo .i64≤z∧z≤hi .i64)→b9 (bk w A [.int .i64]) (l.map (Value.int .i64)) l
 | [],_=>rfl
 |s::l,h=>⟨[.int .i64 s],l.map (Value.int .i64),rfl,by
   simp only [bk];exact⟨_,[],rfl,by simp only [Rd];exact⟨rfl,h s (by simp)⟩,rfl⟩,A4 l fun s' gX=>h s' (by simp [gX])⟩
theorem H6 {e:Nat} {row:List Ty} {l:List (Row row)} {v:Value} {xs:List Value}(hA:∀b,A b→b<w.heap.size)(hb:Below w.heap.size w w')(ho:w'.ownsRow w.heap.size e row.length v l.length xs)(hr:b9 (bk w' A row) xs l):
  ∃A' aJ,j3 w A w' v (.own 0) [.row e row l false] A' aJ:=by
 have hblk:∀b,ay v=some b→w.heap.size≤b:=by
  intro b bA;rcases ho.2 with⟨rfl,_⟩|⟨g,cap,cur,rfl,hg,_⟩
  · cases bA
  · simp only [ay,Option.some.injEq] at bA;omega
 have h1:v.oneCell'=true :=by
  rcases ho.2 with⟨rfl,_⟩|⟨g,cap,cur,rfl,hg,_⟩<;>rfl
 have ho0:w'.ownsRow 0 e row.length v l.length xs:=by
  refine⟨ho.1,?_⟩;rcases ho.2 with h|⟨g,cap,cur,g1,g2,g3⟩
  · exact .inl h
  · exact .inr ⟨g,cap,cur,g1,Nat.zero_le _,g3⟩
 refine⟨A,fun _=>v,{os:=hb.os,tape:=hb.tape,output:=hb.output,size:=hb.size,same:=hb.block,mono:=fun _ h=>h,kE:=fun _ _ h=>h,bound:=fun b h=>Nat.lt_of_lt_of_le (hA b h) hb.size,res:= ?_,rows:= ?_,apart:= ?_}⟩
 · simp only [aa];exact⟨trivial,h1⟩
 · intro i ab hi;match i,hi with
   |0,hi=>
    simp only [List.getElem?_cons_zero,Option.some.injEq] at hi;subst hi;refine⟨⟨xs,ho0,hr,fun b bA=> ?_⟩,hblk⟩;simp only [Bool.false_eq_true,if_false];intro wz;have :=hA b wz;have :=hblk b bA;omega
   |i+1,hi=>simp at hi
 · intro i j b hi hj _ _;simp at hi hj;omega
end
theorem K4 {α γ:Type}(f:α→γ)(l:List α)(j:Nat)(d:γ)(hj:j<l.length):(l.map f).getD j d=f l[j]:=by
 rw [List.getD_eq_getElem?_getD,List.getElem?_map,List.getElem?_eq_getElem hj];rfl
theorem xg {P:Program} {f:FuncId} {args:Array Value} {w:World} {A:Nat→Prop} {e:Nat} {row:List Ty}(hA:∀b,A b→b<w.heap.size)
  (h:Calls P f args w fun e w'=>e= .returned (.slice none 0 0)∧w'=w):Calls P f args w fun ex w'=>∃v,ex= .returned v∧∃A' aJ,j3 w A w' v (.own 0) [.row e row [] false] A' aJ:=
 h.mono fun ex w' ⟨he,hw⟩=>by
  subst hw;exact⟨_,he,H6 (xs:= []) hA (Below.refl _ _) ⟨by simp, .inl ⟨rfl,rfl⟩⟩ rfl⟩
theorem nu {P:Program} {f:FuncId} {args:Array Value} {w:World} {A:Nat→Prop} {e:Nat} {row:List Ty} {l:List (Row row)} {xs:List Value}(hA:∀b,A b→b<w.heap.size)
  (hr:∀w',b9 (bk w' A row) xs l)
  (h:Calls P f args w fun ex w'=>∃v',ex= .returned v'∧w'.ownsRow w.heap.size e row.length v' l.length xs∧v'≠ .slice none 0 0∧Below w.heap.size w w'):
  Calls P f args w fun ex w'=>∃v,ex= .returned v∧∃A' aJ,j3 w A w' v (.own 0) [.row e row l false] A' aJ:=
 h.mono fun ex w' ⟨v',he,ho,_,hb⟩=>⟨v',he,H6 hA hb ho (hr w')⟩
theorem H7 {w:World} {A:Nat→Prop} {β:Nat→Value} {row:List Ty} {args:List Value} {l:List (Row row)}(h:af w A β args [.sl row l]):∃a cap cs,args= [.slice a l.length cap]∧l.length≤cap∧cap≤maxLen∧b9 (bk w A row) cs l∧
  (cs≠ []→∃b o,a=some ⟨b,o,none⟩∧A b∧w.rangeAt b o cs):=by
 simp only [af] at h;obtain⟨v,bK,rfl,hv,rfl⟩:=h;simp only [aa,Rd] at hv;obtain⟨a,cap,cs,rfl,h1,h2,h3,h4⟩:=hv;exact⟨a,cap,cs,rfl,h1,h2,h3,h4⟩
theorem A5 {P:Program} {ρ:Ren} {G:Nat→Option GD}(L:SlLaysN.n42 P ρ) {F:Row (PS.flat [.one (.slice [.str])])→Prop×AV×List AB}
  (hF:∀l:List (List UInt8),F l=(l.length≤1099511627776, .own 0,[.row (ρ.t 26) [.str] l false])):Valid P G (ρ.f 42) (ar [.one (.slice [.str])] F):=by
 intro w A β args cz pre res bs hA hG bw hs hp;unfold ar at hs;split at hs
 · rename_i x hx;change List (List UInt8) at x;have gX:=hs;rw [hF x] at gX;simp only [Option.some.injEq,Prod.mk.injEq] at gX;obtain⟨rfl,rfl,rfl⟩:=gX;obtain⟨g1,g2⟩:=pE _ hx bw;obtain⟨a,cap,cs,rfl,h1,h2,h3,h4⟩:=H7 (row:= [.str]) (l:=x) g1;obtain⟨rfl,hl⟩:=zT x cs h3;cases x with
   |nil=>cases a with
    |none=>exact xg hA (AnyG.slices_Clone_string_nil L 0 cap w)
    |some ad=>exact nu (xs:= []) hA (fun _=>rfl) (AnyG.slices_Clone_string_zero L ad cap w)
   |cons s x=>
    obtain⟨b,o,rfl,wz,hr⟩:=h4 (by simp);refine nu (xs:=(s::x).map encS) hA (fun _=>A3 _ hl) ?_
    have :=AnyG.slices_Clone_string L b o (s::x).length cap ((s::x).map fun s=>⟨s.toArray⟩) w (by simp) (by omega) (fun j hj=>by
     refine hr j _ ?_;simp only [List.length_map] at hj;rw [K4 _ _ _ _ hj,List.getElem?_map,List.getElem?_eq_getElem hj];rfl)
    have e1:(((s::x).map fun s=>(⟨s.toArray⟩:ByteArray)).take (s::x).length).map Value.string=(s::x).map encS:=by
     rw [List.take_of_length_le (by simp),List.map_map];rfl
    rw [e1] at this;exact this
 · cases hs
theorem A6 {P:Program} {ρ:Ren} {G:Nat→Option GD}(L:SlLaysN.n41 P ρ) {F:Row (PS.flat [.one (.slice [.int .i64])])→Prop×AV×List AB}
  (hF:∀l:List Int,F l=(l.length≤1099511627776, .own 0,[.row (ρ.t 23) [.int .i64] l false])):Valid P G (ρ.f 41) (ar [.one (.slice [.int .i64])] F):=by
 intro w A β args cz pre res bs hA hG bw hs hp;unfold ar at hs;split at hs
 · rename_i x hx;change List Int at x;have gX:=hs;rw [hF x] at gX;simp only [Option.some.injEq,Prod.mk.injEq] at gX;obtain⟨rfl,rfl,rfl⟩:=gX;obtain⟨g1,g2⟩:=pE _ hx bw;obtain⟨a,cap,cs,rfl,h1,h2,h3,h4⟩:=H7 (row:= [.int .i64]) (l:=x) g1;obtain⟨rfl,hl⟩:=Ns x cs h3;cases x with
   |nil=>cases a with
    |none=>exact xg hA (AnyG.slices_Clone_int_nil L 0 cap w)
    |some ad=>exact nu (xs:= []) hA (fun _=>rfl) (AnyG.slices_Clone_int_zero L ad cap w)
   |cons s x=>
    obtain⟨b,o,rfl,wz,hr⟩:=h4 (by simp);refine nu (xs:=(s::x).map (Value.int .i64)) hA (fun _=>A4 _ hl) ?_
    have :=AnyG.slices_Clone_int L b o (s::x).length cap (s::x) w (by simp) (by omega) (fun j hj=>by
     refine hr j _ ?_;rw [List.getElem?_map,List.getElem?_eq_getElem hj];simp [List.getD,List.getElem?_eq_getElem hj])
    rw [List.take_of_length_le (by simp)] at this;exact this
 · cases hs
end Go.Vg

end
section
namespace Go.Vg
open Go Go.Shelf Go.RowKit Go.Proofs Go.Sort Go.Lib
theorem vF(a b:List UInt8):ltOf S.gn a b=Op.bytesLess a b:=by
 unfold ltOf S.gn;by_cases h:Op.bytesLess a b
 · simp [h]
 · simp only [h];by_cases h2:Op.bytesLess b a<;>simp [h2]
theorem V3:SWO (ltOf S.gn) where
 irrefl x:=by rw [vF];exact S.bU x
 trans x y z h1 h2:=by rw [vF] at *;exact S.kg _ _ _ h1 h2
 ntrans x y z h1 h2:=by
  rw [vF] at *;cases h:Op.bytesLess x z with
  |false=>rfl
  |true=>
   rcases S.gP x y with t|t|t
   · rw [t] at h1;cases h1
   · subst t;rw [h] at h2;cases h2
   · rw [S.kg _ _ _ t h] at h2;cases h2
theorem Nt(x y:List UInt8)(h1:ltOf S.gn x y=false)(h2:ltOf S.gn y x=false):x=y:=by
 rw [vF] at *;rcases S.gP x y with t|t|t
 · rw [t] at h1;cases h1
 · exact t
 · rw [t] at h2;cases h2
theorem K5 {α:Type} [Inhabited α](enc:α→Value)(w:World)(EH off:Nat)(d:Array α) {c:Array Value} {e:TypeId} {fr:Nat×Nat}(h:w.heap[EH]? =some (.cells c e fr)):
  (putRow enc w EH off d).heap[EH]? =some (.cells (putCells enc off d c) e fr):=by
 unfold putRow mapBlock;simp [Array.getElem?_modify,h,onCells]
theorem Cu {α:Type} [Inhabited α](enc:α→Value)(w:World)(EH off k:Nat)(d:Array α)(h:k≠EH):(putRow enc w EH off d).heap[k]? =w.heap[k]? :=by
 unfold putRow mapBlock;simp [Array.getElem?_modify,Ne.symm h]
theorem size_putRow {α:Type} [Inhabited α](enc:α→Value)(w:World)(EH off:Nat)(d:Array α):(putRow enc w EH off d).heap.size=w.heap.size:=by
 unfold putRow mapBlock;simp
theorem FD(l:List (List UInt8))(c:Array Value)(h:l.length≤c.size):(putCells encS 0 l.toArray c).toList.take l.length=l.map encS:=by
 apply List.ext_getElem?;intro k;rw [List.getElem?_take];by_cases hk:k<l.length
 · rw [if_pos hk,List.getElem?_map,List.getElem?_eq_getElem hk,Array.getElem?_toList];simp only [putCells,Array.getElem?_mapIdx,Array.getElem?_eq_getElem (show k<c.size by omega),Option.map_some];rw [if_pos ⟨Nat.zero_le _,by simpa using hk⟩];simp [hk]
 · rw [if_neg hk,List.getElem?_eq_none (by simp;omega)]
theorem FE {α:Type} [Inhabited α](enc:α→Value)(d:Array α)(c:Array Value):(putCells enc 0 d c).size=c.size:=by simp [putCells]
theorem Cv {P:Program} {ρ:Ren} {G:Nat→Option GD}(L:SlLaysF.n6 P ρ) {g e:Nat}(eg:∀args w,(callFunc g args).run P w= .ok (.enter g args) w)
  (atP:∀(x y:List UInt8) (w:World),Calls P g #[encS x,encS y] w fun e w'=>e= .returned (.int .i64 (S.gn x y))∧w'=w)
  {F:Row (TA.fG [.own 50000, .fn (.func g) [] []])→gK [.row e [.str]]→gg}
  (hF:∀l:List (List UInt8),F () (l,())= {pre:=l.length≤1099511627776,res:= .cD [],heap:= [some (.row e [.str] (S.gp l) false)],new:= []}):
  cH P G (ρ.f 6) (iX [.own 50000, .fn (.func g) [] []] [.row e [.str]] F):=by
 intro w A β args cz hs r hA hG bw fY Cn n0 hp hlen Eh;unfold iX at n0;split at n0
 · rename_i cs dc;split at n0
   · rename_i x y hx hy;obtain⟨l,u⟩:=y;simp only [Option.some.injEq] at n0;have hxu:x=():=rfl;subst hxu;rw [hF l] at n0;subst n0;obtain⟨g1,g2⟩:=Aw dc hx bw;obtain⟨q1,q2,q3⟩:=Ej (w:=w) (A:=A) (β:=β) [.row e [.str]] hs (l,u) 50000 hy fY;have hb:=q2 0 (.row e [.str] l false) rfl;have apI:hs.length=1:=by rw [←q1];rfl
     simp only [TA.rJ,TA.put,af] at g1;obtain⟨v0,bK,rfl,hv0,v1,ai4,rfl,Lf,rfl⟩:=g1;simp only [aa] at hv0 Lf;obtain⟨hv0,gY⟩:=hv0;obtain⟨a1,a2,rfl,ha1,ha2⟩:=Lf;simp only [TA.rJ,af,List.drop_nil,List.take_nil] at ha1 ha2;have ea1:a1= #[]:=by apply Array.ext';simpa using ha1
     have ea2:a2= #[]:=by apply Array.ext';simpa using ha2
     subst ea1;subst ea2;obtain⟨xs,ho,qU,jy⟩:=hb;obtain⟨rfl,hl⟩:=zT l xs qU;have nD:∀s∈S.gp l,s.length≤maxLen:=fun s gX=>hl s ((List.mergeSort_perm l _).subset gX);have acb:(S.gp l).length=l.length:=(List.mergeSort_perm l _).length_eq;simp only [Bool.false_eq_true,if_false] at jy;rcases ho.2 with⟨Uw,hn2⟩|⟨g0,cap,cur,hv,_,hg0,He,P5,cU,Cc⟩
     ·
      have NP:l= []:=List.length_eq_zero_iff.1 hn2;subst NP;rw [hv0,Uw];have UA:S.gp []= []:=List.length_eq_zero_iff.1 acb;rw [UA];refine(AnyF.slices_SortFunc_none {L with} none 0 (.func (.func g) #[] #[]) w).mono fun ex w' ⟨he,hw⟩=> ?_;subst hw;refine⟨_,he,A,β,{os:=rfl,tape:=rfl,output:=rfl,size:=Nat.le_refl _,same:=fun _ _ _=>rfl,mono:=fun b h=>⟨h,rfl⟩,kE:=fun _ _ h=> .inl h,bound:=hA,res:=by simp only [aa];exact⟨#[],rfl,by simp [af]⟩,kept:= ?_,rows:= ?_,apart:= ?_}⟩
      · intro i ab hi;match i,hi with
        |0,hi=>
         simp only [List.getElem?_cons_zero,Option.some.injEq] at hi;subst hi;exact⟨⟨_,ho,qU,by simpa using jy⟩,rfl⟩
        |i+1,hi=>simp at hi
      · intro j ab hj;simp at hj
      · intro k k' b hk dx _ _;rcases hk with⟨i,ab,rfl,_,hi⟩|⟨j,_,hj⟩
        · rcases dx with⟨i',CZ,rfl,_,hX⟩|⟨j,_,hj⟩
          · match i,i',hi,hX with
            |0,0,_,_=>rfl
            |i+1,_,hi,_=>simp at hi
            |0,i+1,_,hX=>simp at hX
          · simp at hj
        · simp at hj
     · have acd:g0<w.heap.size:=(Array.getElem?_eq_some_iff.1 hg0).1;simp only [List.length_cons,List.length_nil,Nat.zero_add,Nat.mul_one] at cU Cc
       have atT:∀j,j<l.length→cur[j]? =some (encS (l.toArray)[j]!):=fun j hj=>by
        have h1:(cur.toList.take l.length)[j]? =some (encS l[j]):=by rw [Cc,List.getElem?_map,List.getElem?_eq_getElem hj];rfl
        rw [List.getElem?_take,if_pos hj,Array.getElem?_toList] at h1;rw [h1];simp [hj]
       have hH:Holds encS w g0 0 l.toArray:=fun j hj=>by
        have eJ:j<l.length:=by simpa using hj
        refine⟨?_,?_⟩
        · simp only [World.cell?,hg0];simpa using atT j eJ
        · simp only [World.frozen?,hg0];simp
       rw [hv0,hv];have hc:=Any.slices_SortFunc_total L encS (fun _=>rfl) S.gn V3 g #[] g0 0 cap l.toArray w eg (fun m os dk _ x y=>(atP x y _).mono fun ex w' ⟨he,hw⟩=>⟨he,0, #[],by rw [hw];rfl⟩) hH acd (by simp only [List.size_toArray];omega) Nt
       have e1:(l.toArray.toList.mergeSort fun x y=> !(ltOf S.gn) y x)=S.gp l:=by
        unfold S.gp;simp only [List.toList_toArray,vF]
       rw [e1] at hc;refine hc.mono fun ex w' ⟨he,n,os,hw⟩=> ?_;have hw0:(putRow encS (Go.Sort.ahead w n) g0 0 (S.gp l).toArray).heap[g0]? =some (.cells (putCells encS 0 (S.gp l).toArray cur) e (0,0)):=K5 encS (Go.Sort.ahead w n) g0 0 _ hg0
       have hg1:w'.heap[g0]? =some (.cells (putCells encS 0 (S.gp l).toArray cur) e (0,0)):=by
        rw [hw];unfold sortWorld grow;simp only;rw [Array.getElem?_append_left (by rw [size_putRow];exact acd)];exact hw0
       have xl:∀b,b<w.heap.size→b≠g0→w'.heap[b]? =w.heap[b]? :=fun b hb dD=>by
        rw [hw];unfold sortWorld grow;simp only;rw [Array.getElem?_append_left (by rw [size_putRow];exact hb),Cu encS (Go.Sort.ahead w n) g0 0 b _ dD];rfl
       have nW:w.heap.size≤w'.heap.size:=by
        rw [hw];unfold sortWorld grow;simp only [Array.size_append,size_putRow];exact Nat.le_add_right _ _
       have hHM:HM β 1 g0:=⟨0,by omega,by rw [show β (50000+0)=β 50000 from rfl,hv];rfl⟩;have atU:¬A g0:=jy g0 (by rw [hv];rfl);refine⟨_,he,A,β,{os:=by rw [hw];rfl,tape:=by rw [hw];rfl,output:=by rw [hw];rfl,size:=nW,same:= ?_,mono:= ?_,kE:=fun _ _ h=> .inl h,bound:=fun b h=>Nat.lt_of_lt_of_le (hA b h) nW,res:=by simp only [aa];exact⟨#[],rfl,by simp [af]⟩,kept:= ?_,rows:= ?_,apart:= ?_}⟩
       · intro b hb dD;rw [apI] at dD;exact xl b hb (fun h=>dD (h▸hHM))
       · intro b wz;exact⟨wz,xl b (hA b wz) (fun h=>atU (h▸wz))⟩
       · intro i ab hi;match i,hi with
         |0,hi=>
          simp only [List.getElem?_cons_zero,Option.some.injEq] at hi;subst hi;refine⟨⟨(S.gp l).map encS,⟨by simp, .inr ⟨g0,cap,_,?_,Nat.zero_le _,hg1,by omega,P5,by rw [FE];simpa using cU,?_⟩⟩,A3 _ nD,by simpa using jy⟩,rfl⟩
          · rw [acb];exact hv
          · have :=FD (S.gp l) cur (by omega);simpa using this
         |i+1,hi=>simp at hi
       · intro j ab hj;simp at hj
       · intro k k' b hk dx _ _;rcases hk with⟨i,ab,rfl,_,hi⟩|⟨j,_,hj⟩
         · rcases dx with⟨i',CZ,rfl,_,hX⟩|⟨j,_,hj⟩
           · match i,i',hi,hX with
             |0,0,_,_=>rfl
             |i+1,_,hi,_=>simp at hi
             |0,i+1,_,hX=>simp at hX
           · simp at hj
         · simp at hj
   · cases n0
 · cases n0
end Go.Vg

end
section
namespace Go.Proofs
open Go.Shelf
def Tryz.B7:Go.Shelf.Ren:=⟨fun|7=>128|10=>140|n=>n,fun|23=>196|26=>9|3=>50|28=>201|0=>0|27=>200|33=>210|4=>4|n=>n,fun|n=>n⟩
theorem Tryz.Ul:Go.Proofs.SlLaysZ.n7 Tryz.prog Tryz.B7:= {
 mixed:=by kernel_rfl
 f7:=⟨Tryz.f128.name,by decide,Tryz.func128.trans (congrArg some (by kernel_rfl))⟩
 f10:=⟨Tryz.f140.name,by decide,Tryz.func140.trans (congrArg some (by kernel_rfl))⟩
 t0:=Tryz.underlying0
 a0:=Tryz.isAgg0
 z0:=Tryz.sizeOf0
 v0:=Tryz.zeroValue0
 t4:=Tryz.underlying4
 a4:=Tryz.isAgg4
 z4:=Tryz.sizeOf4
 v4:=Tryz.zeroValue4
 t23:=Tryz.underlying196
 a23:=Tryz.isAgg196
 z23:=Tryz.sizeOf196
 v23:=Tryz.zeroValue196
 t26:=Tryz.underlying9
 a26:=Tryz.isAgg9
 z26:=Tryz.sizeOf9
 v26:=Tryz.zeroValue9
 t27:=Tryz.underlying200
 a27:=Tryz.isAgg200
 z27:=Tryz.sizeOf200
 v27:=Tryz.zeroValue200
 t28:=Tryz.underlying201
 a28:=Tryz.isAgg201
 z28:=Tryz.sizeOf201
 v28:=Tryz.zeroValue201
 t33:=Tryz.underlying210
 a33:=Tryz.isAgg210
 z33:=Tryz.sizeOf210
 v33:=Tryz.zeroValue210}
def Tryz.xh:Go.Shelf.Ren:=⟨fun|6=>127|8=>138|9=>139|11=>158|13=>160|12=>159|23=>177|24=>178|14=>168|15=>169|16=>170|17=>171|18=>172|19=>173|20=>174|21=>175|22=>176|25=>193|26=>194|27=>195|28=>196|29=>197|30=>157|31=>207|n=>n,fun|26=>9|28=>201|24=>197|0=>0|3=>3|37=>158|48=>188|50=>161|4=>4|40=>236|39=>235|45=>171|5=>5|9=>9|51=>252|55=>256|57=>262|58=>228|33=>210|n=>n,fun|n=>n⟩
theorem Tryz.V4:Go.Proofs.SlLaysZ.n6 Tryz.prog Tryz.xh:= {
 mixed:=by kernel_rfl
 f6:=⟨Tryz.f127.name,by decide,Tryz.func127.trans (congrArg some (by kernel_rfl))⟩
 f8:=⟨Tryz.f138.name,by decide,Tryz.func138.trans (congrArg some (by kernel_rfl))⟩
 f11:=⟨Tryz.f158.name,by decide,Tryz.func158.trans (congrArg some (by kernel_rfl))⟩
 t0:=Tryz.underlying0
 a0:=Tryz.isAgg0
 z0:=Tryz.sizeOf0
 v0:=Tryz.zeroValue0
 t24:=Tryz.underlying197
 a24:=Tryz.isAgg197
 z24:=Tryz.sizeOf197
 v24:=Tryz.zeroValue197
 t26:=Tryz.underlying9
 a26:=Tryz.isAgg9
 z26:=Tryz.sizeOf9
 v26:=Tryz.zeroValue9
 t28:=Tryz.underlying201
 a28:=Tryz.isAgg201
 z28:=Tryz.sizeOf201
 v28:=Tryz.zeroValue201
 i26:=by kernel_rfl}
def Tryz.Nu:Go.Shelf.Ren:=⟨fun|6=>139|8=>160|9=>159|19=>177|20=>178|21=>168|22=>169|23=>170|24=>171|25=>172|26=>173|27=>174|28=>175|29=>176|36=>193|31=>194|32=>195|37=>196|38=>197|39=>157|41=>207|n=>n,fun|27=>197|29=>9|3=>3|32=>158|26=>197|0=>0|44=>188|46=>161|4=>4|36=>236|35=>235|41=>171|5=>5|9=>9|53=>252|57=>256|63=>262|64=>228|n=>n,fun|n=>n⟩
theorem Tryz.Um:Go.Proofs.SlLaysM.n6 Tryz.prog Tryz.Nu:= {
 mixed:=by kernel_rfl
 f6:=⟨Tryz.f139.name,by decide,Tryz.func139.trans (congrArg some (by kernel_rfl))⟩
 f8:=Tryz.func160.trans (congrArg some (by kernel_rfl))
 f9:=⟨Tryz.f159.name,by decide,Tryz.func159.trans (congrArg some (by kernel_rfl))⟩
 f19:=Tryz.func177.trans (congrArg some (by kernel_rfl))
 f20:=Tryz.func178.trans (congrArg some (by kernel_rfl))
 f21:=⟨Tryz.f168.name,by decide,Tryz.func168.trans (congrArg some (by kernel_rfl))⟩
 f22:=⟨Tryz.f169.name,by decide,Tryz.func169.trans (congrArg some (by kernel_rfl))⟩
 f23:=⟨Tryz.f170.name,by decide,Tryz.func170.trans (congrArg some (by kernel_rfl))⟩
 f24:=⟨Tryz.f171.name,by decide,Tryz.func171.trans (congrArg some (by kernel_rfl))⟩
 f25:=⟨Tryz.f172.name,by decide,Tryz.func172.trans (congrArg some (by kernel_rfl))⟩
 f26:=⟨Tryz.f173.name,by decide,Tryz.func173.trans (congrArg some (by kernel_rfl))⟩
 f27:=⟨Tryz.f174.name,by decide,Tryz.func174.trans (congrArg some (by kernel_rfl))⟩
 f28:=⟨Tryz.f175.name,by decide,Tryz.func175.trans (congrArg some (by kernel_rfl))⟩
 f29:=⟨Tryz.f176.name,by decide,Tryz.func176.trans (congrArg some (by kernel_rfl))⟩
 f31:=Tryz.func194.trans (congrArg some (by kernel_rfl))
 f32:=Tryz.func195.trans (congrArg some (by kernel_rfl))
 f36:=⟨Tryz.f193.name,by decide,Tryz.func193.trans (congrArg some (by kernel_rfl))⟩
 f37:=⟨Tryz.f196.name,by decide,Tryz.func196.trans (congrArg some (by kernel_rfl))⟩
 f38:=⟨Tryz.f197.name,by decide,Tryz.func197.trans (congrArg some (by kernel_rfl))⟩
 f39:=⟨Tryz.f157.name,by decide,Tryz.func157.trans (congrArg some (by kernel_rfl))⟩
 f41:=⟨Tryz.f207.name,by decide,Tryz.func207.trans (congrArg some (by kernel_rfl))⟩
 t0:=Tryz.underlying0
 a0:=Tryz.isAgg0
 z0:=Tryz.sizeOf0
 v0:=Tryz.zeroValue0
 t3:=Tryz.underlying3
 a3:=Tryz.isAgg3
 z3:=Tryz.sizeOf3
 v3:=Tryz.zeroValue3
 t4:=Tryz.underlying4
 a4:=Tryz.isAgg4
 z4:=Tryz.sizeOf4
 v4:=Tryz.zeroValue4
 t5:=Tryz.underlying5
 a5:=Tryz.isAgg5
 z5:=Tryz.sizeOf5
 v5:=Tryz.zeroValue5
 t9:=Tryz.underlying9
 a9:=Tryz.isAgg9
 z9:=Tryz.sizeOf9
 v9:=Tryz.zeroValue9
 t26:=Tryz.underlying197
 a26:=Tryz.isAgg197
 z26:=Tryz.sizeOf197
 v26:=Tryz.zeroValue197
 t27:=Tryz.underlying197
 a27:=Tryz.isAgg197
 z27:=Tryz.sizeOf197
 v27:=Tryz.zeroValue197
 t29:=Tryz.underlying9
 a29:=Tryz.isAgg9
 z29:=Tryz.sizeOf9
 v29:=Tryz.zeroValue9
 t32:=Tryz.underlying158
 a32:=Tryz.isAgg158
 z32:=Tryz.sizeOf158
 v32:=Tryz.zeroValue158
 t35:=Tryz.underlying235
 a35:=Tryz.isAgg235
 z35:=Tryz.sizeOf235
 v35:=Tryz.zeroValue235
 t36:=Tryz.underlying236
 a36:=Tryz.isAgg236
 z36:=Tryz.sizeOf236
 v36:=Tryz.zeroValue236
 t41:=Tryz.underlying171
 a41:=Tryz.isAgg171
 z41:=Tryz.sizeOf171
 v41:=Tryz.zeroValue171
 t44:=Tryz.underlying188
 a44:=Tryz.isAgg188
 z44:=Tryz.sizeOf188
 v44:=Tryz.zeroValue188
 t46:=Tryz.underlying161
 a46:=Tryz.isAgg161
 z46:=Tryz.sizeOf161
 v46:=Tryz.zeroValue161
 t53:=Tryz.underlying252
 a53:=Tryz.isAgg252
 z53:=Tryz.sizeOf252
 v53:=Tryz.zeroValue252
 t57:=Tryz.underlying256
 a57:=Tryz.isAgg256
 z57:=Tryz.sizeOf256
 v57:=Tryz.zeroValue256
 t63:=Tryz.underlying262
 a63:=Tryz.isAgg262
 z63:=Tryz.sizeOf262
 v63:=Tryz.zeroValue262
 t64:=Tryz.underlying228
 a64:=Tryz.isAgg228
 z64:=Tryz.sizeOf228
 v64:=Tryz.zeroValue228}
def Tryz.FF:Go.Shelf.Ren:=⟨fun|42=>149|n=>n,fun|25=>197|26=>9|4=>4|n=>n,fun|n=>n⟩
theorem Tryz.P6:Go.Proofs.SlLaysN.n42 Tryz.prog Tryz.FF:= {
 mixed:=by kernel_rfl
 f42:=⟨Tryz.f149.name,by decide,Tryz.func149.trans (congrArg some (by kernel_rfl))⟩
 t4:=Tryz.underlying4
 a4:=Tryz.isAgg4
 z4:=Tryz.sizeOf4
 v4:=Tryz.zeroValue4
 t25:=Tryz.underlying197
 a25:=Tryz.isAgg197
 z25:=Tryz.sizeOf197
 v25:=Tryz.zeroValue197
 t26:=Tryz.underlying9
 a26:=Tryz.isAgg9
 z26:=Tryz.sizeOf9
 v26:=Tryz.zeroValue9
 i26:=by kernel_rfl}
def Tryz.FG:Go.Shelf.Ren:=⟨fun|41=>99|n=>n,fun|22=>50|23=>3|4=>4|n=>n,fun|n=>n⟩
theorem Tryz.P7:Go.Proofs.SlLaysN.n41 Tryz.prog Tryz.FG:= {
 mixed:=by kernel_rfl
 f41:=⟨Tryz.f99.name,by decide,Tryz.func99.trans (congrArg some (by kernel_rfl))⟩
 t4:=Tryz.underlying4
 a4:=Tryz.isAgg4
 z4:=Tryz.sizeOf4
 v4:=Tryz.zeroValue4
 t22:=Tryz.underlying50
 a22:=Tryz.isAgg50
 z22:=Tryz.sizeOf50
 v22:=Tryz.zeroValue50
 t23:=Tryz.underlying3
 a23:=Tryz.isAgg3
 z23:=Tryz.sizeOf3
 v23:=Tryz.zeroValue3
 i23:=by kernel_rfl}
def Tryz.P8:Go.Shelf.Ren:=⟨fun|6=>150|15=>160|14=>164|28=>177|29=>178|20=>182|21=>183|22=>184|23=>185|24=>186|25=>187|26=>188|27=>189|46=>204|47=>194|48=>195|49=>205|50=>206|57=>209|n=>n,fun|22=>197|24=>9|25=>208|3=>3|39=>158|0=>0|53=>188|55=>161|4=>4|46=>236|45=>235|50=>171|5=>5|9=>9|66=>252|70=>256|76=>262|77=>228|n=>n,fun|n=>n⟩
theorem Tryz.apK:Go.Proofs.SlLaysF.n6 Tryz.prog Tryz.P8:= {
 mixed:=by kernel_rfl
 f6:=⟨Tryz.f150.name,by decide,Tryz.func150.trans (congrArg some (by kernel_rfl))⟩
 f14:=⟨Tryz.f164.name,by decide,Tryz.func164.trans (congrArg some (by kernel_rfl))⟩
 f15:=Tryz.func160.trans (congrArg some (by kernel_rfl))
 f20:=⟨Tryz.f182.name,by decide,Tryz.func182.trans (congrArg some (by kernel_rfl))⟩
 f21:=⟨Tryz.f183.name,by decide,Tryz.func183.trans (congrArg some (by kernel_rfl))⟩
 f22:=⟨Tryz.f184.name,by decide,Tryz.func184.trans (congrArg some (by kernel_rfl))⟩
 f23:=⟨Tryz.f185.name,by decide,Tryz.func185.trans (congrArg some (by kernel_rfl))⟩
 f24:=⟨Tryz.f186.name,by decide,Tryz.func186.trans (congrArg some (by kernel_rfl))⟩
 f25:=⟨Tryz.f187.name,by decide,Tryz.func187.trans (congrArg some (by kernel_rfl))⟩
 f26:=⟨Tryz.f188.name,by decide,Tryz.func188.trans (congrArg some (by kernel_rfl))⟩
 f27:=⟨Tryz.f189.name,by decide,Tryz.func189.trans (congrArg some (by kernel_rfl))⟩
 f28:=Tryz.func177.trans (congrArg some (by kernel_rfl))
 f29:=Tryz.func178.trans (congrArg some (by kernel_rfl))
 f46:=⟨Tryz.f204.name,by decide,Tryz.func204.trans (congrArg some (by kernel_rfl))⟩
 f47:=Tryz.func194.trans (congrArg some (by kernel_rfl))
 f48:=Tryz.func195.trans (congrArg some (by kernel_rfl))
 f49:=⟨Tryz.f205.name,by decide,Tryz.func205.trans (congrArg some (by kernel_rfl))⟩
 f50:=⟨Tryz.f206.name,by decide,Tryz.func206.trans (congrArg some (by kernel_rfl))⟩
 f57:=⟨Tryz.f209.name,by decide,Tryz.func209.trans (congrArg some (by kernel_rfl))⟩
 t0:=Tryz.underlying0
 a0:=Tryz.isAgg0
 z0:=Tryz.sizeOf0
 v0:=Tryz.zeroValue0
 t3:=Tryz.underlying3
 a3:=Tryz.isAgg3
 z3:=Tryz.sizeOf3
 v3:=Tryz.zeroValue3
 t4:=Tryz.underlying4
 a4:=Tryz.isAgg4
 z4:=Tryz.sizeOf4
 v4:=Tryz.zeroValue4
 t5:=Tryz.underlying5
 a5:=Tryz.isAgg5
 z5:=Tryz.sizeOf5
 v5:=Tryz.zeroValue5
 t9:=Tryz.underlying9
 a9:=Tryz.isAgg9
 z9:=Tryz.sizeOf9
 v9:=Tryz.zeroValue9
 t22:=Tryz.underlying197
 a22:=Tryz.isAgg197
 z22:=Tryz.sizeOf197
 v22:=Tryz.zeroValue197
 a24:=Tryz.isAgg9
 z24:=Tryz.sizeOf9
 t25:=Tryz.underlying208
 a25:=Tryz.isAgg208
 z25:=Tryz.sizeOf208
 v25:=Tryz.zeroValue208
 t39:=Tryz.underlying158
 a39:=Tryz.isAgg158
 z39:=Tryz.sizeOf158
 v39:=Tryz.zeroValue158
 t45:=Tryz.underlying235
 a45:=Tryz.isAgg235
 z45:=Tryz.sizeOf235
 v45:=Tryz.zeroValue235
 t46:=Tryz.underlying236
 a46:=Tryz.isAgg236
 z46:=Tryz.sizeOf236
 v46:=Tryz.zeroValue236
 t50:=Tryz.underlying171
 a50:=Tryz.isAgg171
 z50:=Tryz.sizeOf171
 v50:=Tryz.zeroValue171
 t53:=Tryz.underlying188
 a53:=Tryz.isAgg188
 z53:=Tryz.sizeOf188
 v53:=Tryz.zeroValue188
 t55:=Tryz.underlying161
 a55:=Tryz.isAgg161
 z55:=Tryz.sizeOf161
 v55:=Tryz.zeroValue161
 t66:=Tryz.underlying252
 a66:=Tryz.isAgg252
 z66:=Tryz.sizeOf252
 v66:=Tryz.zeroValue252
 t70:=Tryz.underlying256
 a70:=Tryz.isAgg256
 z70:=Tryz.sizeOf256
 v70:=Tryz.zeroValue256
 t76:=Tryz.underlying262
 a76:=Tryz.isAgg262
 z76:=Tryz.sizeOf262
 v76:=Tryz.zeroValue262
 t77:=Tryz.underlying228
 a77:=Tryz.isAgg228
 z77:=Tryz.sizeOf228
 v77:=Tryz.zeroValue228}
end Go.Proofs

end
section
namespace Go.Proofs
open Go.RowKit Go.Maps Go.Sort Go.Shelf
theorem Tryz.ace(m:Nat):AnyZ.SortsIn Tryz.prog Tryz.xh Fence.wide m:=
 ⟨fun EH off cap ss W hH hblk cU=>callsIn_wide.2 (AnyM.slices_Sort_string Tryz.Um EH off cap ss W hH hblk cU),
  fun p cap W=>callsIn_wide.2 (AnyM.slices_Sort_string_none Tryz.Um p cap W)⟩
theorem Tryz.GZ(mb:Option Nat)(W:World):CallsIn Fence.wide 5 Tryz.prog 128 #[.map mb] W fun e w'=>e= .returned (.func (.func 140) #[] #[.pointer (some ⟨W.heap.size,0,none⟩)])∧w'=W.alloc (.cells #[.map mb] 196):=
 AnyZ.keys_in Tryz.Ul Fence.wide 5 trivial rfl mb W
set_option maxHeartbeats 1000000 in
theorem Tryz.p8 {H:Type}(b nn:Nat)(D0:DataW H)(R:Value→Option (DataW H×List MemPlace))(w:World)(fV:w.ownsMap Tryz.prog 9 R b nn D0)(Ll:Maps.size D0≤maxLen)(vI:Maps.size D0*16≤140737488355328):
  CallsIn Fence.wide 5 Tryz.prog 127 #[.func (.func 140) #[] #[.pointer (some ⟨w.heap.size,0,none⟩)]] (w.alloc (.cells #[.map (some b)] 196)) fun e w'=>∃(v:Value) (ss:List (List UInt8)),e= .returned v∧ss.Perm (strKeys D0)∧
   w'.ownsRow (w.alloc (.cells #[.map (some b)] 196)).heap.size 9 1 v ss.length ((ss.mergeSort (fun x y=>decide (x≤y))).map encStr)∧(v= .slice none 0 0↔ss= [])∧Below (w.alloc (.cells #[.map (some b)] 196)).heap.size (w.alloc (.cells #[.map (some b)] 196)) w':=by
 have oI:=fV.lt
 have atV:SeqGives Fence.wide 2 Tryz.prog 140 #[.pointer (some ⟨w.heap.size,0,none⟩)] encStr (fun ss=>ss.Perm (strKeys D0)) (Maps.size D0) (w.alloc (.cells #[.map (some b)] 196)):=
  AnyZ.keys_gives (ρ:=Tryz.B7) {Tryz.Ul with} Fence.wide _ trivial rfl (by omega) w.heap.size b nn D0 _ (by simp) (by simp) (by
   obtain⟨es,clock,hb,Ft,hs,hD⟩:=fV;exact⟨es,clock,(Below.heap_alloc _ _ b oI).trans hb,Ft,hs,hD⟩)
 exact AnyZ.sorted_in Tryz.V4 Fence.wide 5 trivial trivial trivial trivial rfl (by omega) (Tryz.ace _) (enters_of Tryz.func139 (by kernel_rfl) rfl) 140 #[.pointer (some ⟨w.heap.size,0,none⟩)] trivial (enters_of Tryz.func140 (by kernel_rfl) rfl) _ _ Ll vI _ atV
end Go.Proofs

end
section
namespace Go.Proofs
open Go.Shelf Go.RowKit Go.Lib Go.Sort
theorem agJ {x y:List UInt8}(h:Op.bytesLess x y=true):S.gn x y= -1:=by unfold S.gn;rw [if_pos h]
theorem agK {x y:List UInt8}(h:Op.bytesLess x y=false)(h2:(!x==y)=true):S.gn x y=1:=by
 have dD:x≠y:=by simpa using h2
 unfold S.gn;rw [h];rcases S.gP x y with t|t|t
 · rw [t] at h;cases h
 · exact absurd t dD
 · rw [t];rfl
theorem agL {x y:List UInt8}(h:Op.bytesLess x y=false)(h2:(!x==y)=false):S.gn x y=0:=by
 have he:x=y:=by simpa using h2
 subst he;unfold S.gn;rw [h];rfl
theorem Tryz.P9(x:ByteArray)(w:World):Calls Tryz.prog 157 #[.string x] w fun e w'=>e= .returned (.bool false)∧w'=w:=by
 go_enter Tryz.func157,Tryz.ntmps157
 go_wp2
 go_ret
 exact⟨by simp,rfl⟩
set_option maxHeartbeats 1000000 in
theorem Tryz.K6(x y:List UInt8)(w:World):Calls Tryz.prog 137 #[Vg.encS x,Vg.encS y] w fun e w'=>e= .returned (.int .i64 (S.gn x y))∧w'=w:=by
 unfold Vg.encS;go_enter Tryz.func137,Tryz.ntmps137
 go_wp2_with (go_at_call 157;refine(Tryz.P9 _ _).mono ?_;rintro e w' ⟨rfl,rfl⟩)
 all_goals go_ret
 all_goals refine⟨?_,rfl⟩
 all_goals first
  |(rw [agJ (by assumption)];rfl)
  |(rw [agK (by assumption) (by assumption)];rfl)
  |(rw [agL (by assumption) (by assumption)];rfl)
theorem Tryz.agM {G:Nat→Option Vg.GD} {F:Vg.Row (Vg.TA.fG [.own 50000, .fn (.func 137) [] []])→Vg.gK [.row 9 [.str]]→Vg.gg}
  (hF:∀l:List (List UInt8),F () (l,())= {pre:=l.length≤1099511627776,res:= .cD [],heap:= [some (.row 9 [.str] (S.gp l) false)],new:= []}):
  Vg.cH Tryz.prog G 150 (Vg.iX [.own 50000, .fn (.func 137) [] []] [.row 9 [.str]] F):=
 Vg.Cv Tryz.apK (enters_of Tryz.func137 (by kernel_rfl) rfl) Tryz.K6 hF
end Go.Proofs

end
section
namespace Go.DM
open Go Go.Vg Go.Maps Go.RowKit Go.ChangeShapes
section
variable {H:Type}
def items:DataW H→List Int
 | .slice ls _=>ls.filterMap fun d=>match d with| .lit (.int _ z)=>some z|_=>none
 |_=> []
theorem Nv(zs:List Int):items (H:=H) (.slice (lits .i64 zs) [])=zs:=by
 induction zs with
 |nil=>rfl
 |cons z zs ih=>
  simp only [items,lits,List.map_cons,List.filterMap_cons] at ih ⊢;rw [ih]
theorem yb {w:World} {base:Nat} {e:TypeId} {v:Value} {zs:List Int}(h:w.ownsInts base e .i64 v zs):items (H:=H) (rowDatum .i64 v zs)=zs:=by
 rcases h.datum (H:=H) with⟨h1,h2⟩|h1
 · rw [h1,h2];rfl
 · rw [h1];exact Nv zs
def Repr(D:DataW H)(m:List UInt8→List Int):Prop :=IsMap D∧∀s,items (D.atKey (.string s) .nil)=m s∧(has D (.string s)=true↔m s≠ [])
theorem Repr.empty:Repr (H:=H) (.map []) (fun _=> []):=⟨isMap_empty,fun s=>⟨rfl,by simp [has]⟩⟩
theorem Repr.ext {D:DataW H} {m m':List UInt8→List Int}(h:Repr D m)(e:∀s,m s=m' s):Repr D m':=by
 rw [←funext e];exact h
theorem Repr.put {D:DataW H} {m m':List UInt8→List Int}(h:Repr D m) {t:List UInt8} {w:World} {base:Nat} {e:TypeId} {v:Value} {zs:List Int}(ho:w.ownsInts base e .i64 v zs)(hz:zs≠ [])
  (h1:m' t=zs) (h2:∀s,s≠t→m' s=m s):Repr (D.put (.string t) (rowDatum .i64 v zs)) m':=by
 refine⟨h.1.put _ _,fun s=> ?_⟩;by_cases hs:s=t
 · subst hs;refine⟨?_,?_⟩
   · rw [atKey_put_same h.1 (by trivial),yb ho,h1]
   · rw [has_put_same h.1 (by trivial),h1];simp [hz]
 · have dD:Lit.string s≠Lit.string t:=fun hh=>hs (by injection hh);rw [atKey_put_other dD,has_put_other dD,h2 s hs];exact h.2 s
theorem acf {w:World} {Q:Nat→Prop} {base:Nat} {e:TypeId} {v:Value} {zs:List Int}(h:w.ownsInts base e .i64 v zs)(hq:∀g,v.ownBlock=some g→Q g):Rd w Q (.slice [.int .i64]) v zs:=by
 obtain⟨ho,hw⟩:=h
 have hz:∀z∈zs,lo .i64≤z∧z≤hi .i64:=fun z hz=>by
  have :=hw z hz;simp [Lit.wf,IntKind.min,IntKind.max,IntKind.signed,IntKind.bits] at this;simp only [lo,hi];omega
 simp only [Rd];rcases ho.2 with⟨rfl,h0⟩|⟨g,cap,cur,rfl,hg,hh,hn,hc,cU,Cc⟩
 · have :zs= []:=List.length_eq_zero_iff.1 h0;subst this;exact⟨none,0,[],rfl,Nat.le_refl _,Nat.zero_le _,rfl,fun h=>absurd rfl h⟩
 · refine⟨some ⟨g,0,none⟩,cap,zs.map (Value.int .i64),rfl,hn,hc,A4 zs hz,fun _=>⟨g,0,rfl,hq g rfl,fun j v hj=> ?_⟩⟩;have :=ho.cells (g:=g) rfl j v hj;rwa [Addr.add_mid] at this
end
end Go.DM
namespace Go.DM
open Go Go.Vg Go.Maps Go.RowKit Go.ChangeShapes
section
variable {H:Type} {P:Program}
theorem zU(w:World)(c:Array Value)(e:TypeId)(o:Obj)(j:Nat):((w.alloc (.cells c e)).alloc o).cell? ⟨w.heap.size,j,none⟩=c[j]? :=by
 have h1:((w.alloc (.cells c e)).alloc o).heap[w.heap.size]? =some (.cells c e (0,0)):=by
  rw [((World.grownBy_alloc (w.alloc (.cells c e)) o none).block w.heap.size (by simp) (by simp))];exact(MapKept.heap_alloc w _).1
 simp [World.cell?,h1]
theorem A7 {w:World} {base:Nat} {e:TypeId} {size:Nat} {v:Value} {n:Nat} {xs:List Value}(h:w.ownsRow base e size v n xs):∃av cp,v= .slice av n cp∧(0<n→∃g,av=some ⟨g,0,none⟩∧base≤g∧g<w.heap.size):=by
 have hl:=h.lt;rcases h.2 with⟨rfl,h0⟩|⟨g,cap,cur,rfl,hg,_⟩
 · exact⟨none,0,by rw [h0],fun h=>by omega⟩
 · exact⟨_,cap,rfl,fun _=>⟨g,rfl,hl g rfl⟩⟩
theorem tu {w w':World}(h:Below w.heap.size w w'):w.grownBy w' none:=⟨h.os,h.tape,h.output,h.size,fun i hi _=>h.block i hi⟩
theorem rq {w w':World} {k:TypeId} {base:Nat} {e:TypeId} {q:IntKind} {b n:Nat} {D:DataW H}(h:w.ownsGroups P k base e q b n D)(hb:Below w.heap.size w w'):w'.ownsGroups P k base e q b n D:=
 h.kept (tu hb) (by simp) (fun es clock _ x _=>by cases x.val.ownBlock<;>simp)
theorem Qa {w:World} {k:TypeId} {base:Nat} {e:TypeId} {q:IntKind} {b n:Nat} {D:DataW H}(h:w.ownsGroups P k base e q b n D):b<w.heap.size:=by
 obtain⟨es,clock,hb,_⟩:=h;exact(Array.getElem?_eq_some_iff.1 hb).1
theorem FH {w w':World} {k:TypeId} {base:Nat} {e:TypeId} {q:IntKind} {b n:Nat} {D:DataW H}(h:w.ownsGroups P k base e q b n D)(hb:Below w.heap.size w w') {No:Nat→Prop}(hn:∀g,No g→w.heap.size≤g):w'.Shuns b No:=by
 have h1:w.Shuns b (fun _=>False):=fun _ _ _ _ _ _ _ hf=>hf;exact(h1.reno (No':=No) h (fun g hg=> .inr (hn g hg))).kept (tu hb) (Qa h) (by simp)
theorem H9 {w:World} {base:Nat} {e:TypeId} {g cp:Nat} {n:Nat} {l:List (List UInt8)}(h:w.ownsRow base e 1 (.slice (some ⟨g,0,none⟩) n cp) n (l.map encS)) {j:Nat}(hj:j<l.length):w.cell? ⟨g,0+j,none⟩=some (encS (l.getD j [])):=by
 have :=h.cells (g:=g) rfl j (encS (l.getD j [])) (by rw [List.getElem?_map,List.getElem?_eq_getElem hj,List.getD_eq_getElem?_getD,List.getElem?_eq_getElem hj];rfl);rwa [Addr.add_mid] at this
end
end Go.DM
namespace Go.DM
open Go Go.Vg Go.Maps Go.RowKit Go.ChangeShapes
section
variable {H:Type} {P:Program}
theorem Nw {w w':World} {row:Option Nat}(h:w.grownBy w' row) {a:Addr} {v:Value}(hl:a.block<w.heap.size)(hn:some a.block≠row)(hc:w.cell? a=some v):w'.cell? a=some v:=
 (World.cell?_of_block (h.block _ hl hn)).trans hc
theorem Nx {k:TypeId}(hk:P.underlying k=some .string) {s:List UInt8}(h:s.length≤maxLen):keyOf P k (.string ⟨s.toArray⟩)=some (.string s):=by
 have :=Go.WideMaps.keyOf_string_mk (P:=P) (k:=k) (s:=⟨s.toArray⟩) hk (by simpa [ByteArray.size] using h);simpa using this
theorem agN {wr:World} {b g:Nat} {v v':Value} {o:Obj} {n cp:Nat}(GA:∀No:Nat→Prop,wr.Shuns b No→∀g,v.ownBlock=some g→¬No g)(hs:wr.Shuns b (fun g'=>(Value.slice (some ⟨g,0,none⟩) n cp).ownBlock=some g'))
  (uz:v'.ownBlock=v.ownBlock∨v'.ownBlock=some (wr.alloc o).heap.size) (hg:g<wr.heap.size):∀g',v'.ownBlock=some g'→¬((Value.slice (some ⟨g,0,none⟩) n cp).ownBlock=some g'):=fun g' wx hh=>by
 rcases uz with h|h
 · rw [h] at wx;exact GA _ hs g' wx hh
 · rw [h] at wx;simp only [Value.ownBlock,Option.some.injEq] at wx hh;simp at wx;omega
end
end Go.DM
namespace Go.DM
open Go Go.Vg Go.Maps Go.RowKit Go.ChangeShapes
section
variable {H:Type} {P:Program}
theorem FI {w:World} {k:TypeId} {base:Nat} {e:TypeId} {q:IntKind} {b n:Nat} {D:DataW H}(h:w.ownsGroups P k base e q b n D):w.ownsMap P k (rowElem w base e q) b n D:=by
 obtain⟨es,clock,hb,F,hs,hD,_⟩:=h;exact⟨es,clock,hb,F,hs,hD⟩
theorem A8 {w:World} {k:TypeId} {R:Value→Option (DataW H×List MemPlace)} {b n:Nat} {D:DataW H}(h:w.ownsMap P k R b n D):Maps.size D≤n:=by
 obtain⟨es,clock,hb,F,hs,rfl⟩:=h;rw [size_eq,length_sorted];simpa using hs
theorem Qb(docs:List (List UInt8))(a b:Int)(x:List UInt8):x∈S.bP docs a b↔S.sV docs a (b-a).toNat 0 x≠ []:=by
 unfold S.bP;rw [S.fW,S.xQ];simp [S.sV]
theorem V5 {w:World} {R:Value→Option (DataW H×List MemPlace)} {k:TypeId} {b n:Nat} {D:DataW H}(h:w.ownsMap P k R b n D)(K:Keyed P k)(hk:P.underlying k=some .string) {docs:List (List UInt8)} {f t:Int}
  (hr:Repr D (S.sV docs f (t-f).toNat 0)) {ss:List (List UInt8)} (hs:ss.Perm (strKeys D)):ss.mergeSort (fun x y=>decide (x≤y))=S.bP docs f t∧ss.length=(S.bP docs f t).length∧(∀s∈S.bP docs f t,s.length≤maxLen)∧(S.bP docs f t).length≤n:=by
 obtain⟨es,hD,hpw,_⟩:=h.entries K;obtain⟨Oj,hD',hko⟩:=h.keysOf;have hle:=strKeys_le h hk;have cU:=A8 h;obtain rfl :es=Oj:=by rw [hD] at hD';simpa using hD'
 subst hD;have hi:S.mi (S.bP docs f t):=S.kh _;have n3:=perm_strKeys hpw (fun p hp=>by obtain⟨v,hv⟩:=hko p hp;obtain⟨x,_,hx,_⟩:=Maps.keyOf_str hk hv;exact⟨x,hx⟩) (S.uY hi) (fun x=>by rw [Qb,(hr.2 x).2]);have Ó:=hs.trans n3.symm
 have hlen:(S.bP docs f t).length≤n:=by
  rw [n3.length_eq];simpa [strKeys,size_eq] using cU
 refine⟨?_,Ó.length_eq,fun s gX=>hle s (n3.subset gX),hlen⟩;have e1:ss.mergeSort leB=(S.bP docs f t).mergeSort leB:=mergeSort_of_perm Ó
 have e2:(S.bP docs f t).mergeSort leB=S.bP docs f t:=by
  refine List.mergeSort_of_pairwise (hi.imp fun {a b} fE=> ?_);rw [Go.Proofs.bytesLess_eq] at fE;simp only [leB,decide_eq_true_eq] at fE ⊢;exact List.le_of_lt fE
 exact e1.trans e2
end
end Go.DM
namespace Go.DM
open Go Go.Vg Go.Maps Go.RowKit Go.ChangeShapes
section
variable {H:Type} {P:Program}
theorem Dw {w:World} {base:Nat} {e:TypeId} {q:IntKind} {v:Value} {zs:List Int}(h:w.ownsInts base e q v zs):v.oneCell'=true :=by
 rcases h.1.2 with⟨rfl,_⟩|⟨g,cap,cur,rfl,_⟩<;>rfl
theorem V6 {w:World} {Q:Nat→Prop} {s:List UInt8} {v:Value} {zs:List Int}(hs:s.length≤maxLen)(hv:Rd w Q (.slice [.int .i64]) v zs):bk w Q [.str, .slice [.int .i64]] [.string ⟨s.toArray⟩,v] (s,zs):=by
 simp only [bk];refine⟨_,[v],rfl,?_,v,[],rfl,hv,rfl⟩;simp only [Rd];exact⟨rfl,hs⟩
theorem Ia {α:Type} {R:List Value→α→Prop}:∀(l:List α) (cs:List Value) (c:List Value) (x:α),b9 R cs l→R c x→b9 R (cs++c) (l++ [x])
 | [],cs,c,x,h,hx=>by
   simp only [b9] at h;subst h;exact⟨c,[],by simp,hx,rfl⟩
 |y::l,cs,c,x,⟨c1,c2,hc,h1,h2⟩,hx=>by
  subst hc;exact⟨c1,c2++c,by simp,h1,Ia l c2 c x h2 hx⟩
theorem acg {w w':World} {base:Nat} {e:TypeId} {v:Value} {zs:List Int} {Q:Nat→Prop}(h:w'.ownsInts base e .i64 v zs)(hb:Below w.heap.size w w')(hl:∀g,v.ownBlock=some g→g<w.heap.size)(hq:∀g,base≤g→g<w.heap.size→Q g):Rd w Q (.slice [.int .i64]) v zs:=by
 have h':w.ownsInts base e .i64 v zs:=by
  refine⟨⟨h.1.1,?_⟩,h.2⟩;rcases h.1.2 with hn|⟨g,cap,cur,rfl,hg,hh,rest⟩
  · exact .inl hn
  · exact .inr ⟨g,cap,cur,rfl,hg,(hb.block g (hl g rfl)).symm.trans hh,rest⟩
 exact acf h' (fun g hg=>hq g (h'.1.lt g hg).1 (hl g hg))
theorem K7(w:World)(a b:Value)(t:TypeId):∀j u,[a,b][j]? =some u→(w.alloc (.cells #[a,b] t)).cell? ((⟨w.heap.size,0,none⟩:Addr).add j)=some u:=by
 intro j u hj;rw [Addr.add_mid,Nat.zero_add];have h1:(w.alloc (.cells #[a,b] t)).heap[w.heap.size]? =some (.cells #[a,b] t (0,0)):=(MapKept.heap_alloc w _).1;simp only [World.cell?,h1];simpa using hj
end
end Go.DM

end
