/- HeadApart: for every input the given Go function returns true and leaves its arguments as they were. Conditions: none. -/
import Derived.Test.YtcmmooohmnjklaaGreatDoorPartH
import Derived.Test.YtcmmooohmnjklaaGreatDoorCards
import Derived.Test.YtcmmooohmnjklaaGreatDoorTie
import Derived.Deep.DeepHandedRow
import Derived.ProofKit
import Derived.OpenShut
set_option linter.unusedVariables false
set_option linter.unusedSimpArgs false
section
set_option linter.unusedVariables false
set_option maxHeartbeats 0
set_option maxRecDepth 100000
namespace Go.J
open Go.Proofs
open Go Vg
theorem ac9:Valid Tryz.prog G0 92 OL:=ah Du mixed OK abh Tryz.func92 (c:=body Tryz.f92) (by kernel_rfl) (by
 rintro⟨s1,s2,s3⟩ hp hf
 have h:=aao s1 s2 s3 hp hf
 with_reducible refine Eq.mp ?_ h
 kernel_rfl)
theorem Dv:ak Tryz.prog OM:=ak.cons Du ac9 (aB.of Tryz.func92 (c:=body Tryz.f92) (by kernel_rfl) (by kernel_rfl))
theorem ada:Valid Tryz.prog G0 51 OO:=ah Dv mixed ON abj Tryz.func51 (c:=body Tryz.f51) (by kernel_rfl) (by
 rintro⟨s1,s2,s3⟩ hp hf
 have h:=aap s1 s2 s3 hp hf
 with_reducible refine Eq.mp ?_ h
 kernel_rfl)
theorem Dw:ak Tryz.prog OP:=ak.cons Dv ada (aB.of Tryz.func51 (c:=body Tryz.f51) (by kernel_rfl) (by kernel_rfl))
theorem au6:Valid Tryz.prog G0 79 aud:=ah Dw mixed auc auW Tryz.func79 (c:=body Tryz.f79) (by kernel_rfl) (by
 rintro⟨s1,s2,s3,s4⟩ hp hf
 have h:=auS s1 s2 s3 s4 hp hf
 with_reducible refine Eq.mp ?_ h
 kernel_rfl)
theorem asu:ak Tryz.prog aue:=ak.cons Dw au6 (aB.of Tryz.func79 (c:=body Tryz.f79) (by kernel_rfl) (by kernel_rfl))
theorem adb:Valid Tryz.prog G0 55 OR:=ah asu mixed OQ abl Tryz.func55 (c:=body Tryz.f55) (by kernel_rfl) (by
 rintro⟨docs,s1,s2⟩ hp hf
 have h:=aaq docs s1 s2 hp hf
 with_reducible refine Eq.mp ?_ h
 kernel_rfl)
theorem Dx:ak Tryz.prog OS:=ak.cons asu adb (aB.of Tryz.func55 (c:=body Tryz.f55) (by kernel_rfl) (by kernel_rfl))
theorem au7:Valid Tryz.prog G0 39 auo:=ah Dx mixed auf auY Tryz.func39 (c:=body Tryz.f39) (by kernel_rfl) (by
 rintro⟨l,n⟩ hp hf
 have h:=auT l n hp hf
 with_reducible refine Eq.mp ?_ h
 kernel_rfl)
theorem asv:ak Tryz.prog aup:=ak.cons Dx au7 (aB.of Tryz.func39 (c:=body Tryz.f39) (by kernel_rfl) (by kernel_rfl))
theorem adl:Valid Tryz.prog G0 23 Pf:=ah asv mixed Pe abD Tryz.func23 (c:=body Tryz.f23) (by kernel_rfl) (by
 rintro⟨s1,s2,s3,s4⟩ hp hf
 have h:=aay s1 s2 s3 s4 hp hf
 with_reducible refine Eq.mp ?_ h
 kernel_rfl)
theorem DF:ak Tryz.prog Pg:=ak.cons asv adl (aB.of Tryz.func23 (c:=body Tryz.f23) (by kernel_rfl) (by kernel_rfl))
theorem adt:Valid Tryz.prog G0 99 PF:=ah DF mixed PE abT Tryz.func99 (c:=body Tryz.f99) (by kernel_rfl) (by
 rintro⟨a,b⟩ hp hf
 have h:=aaG a b hp hf
 with_reducible refine Eq.mp ?_ h
 kernel_rfl)
theorem DP:ak Tryz.prog PG:=ak.cons DF adt (aB.of Tryz.func99 (c:=body Tryz.f99) (by kernel_rfl) (by kernel_rfl))
theorem adu:Valid Tryz.prog G0 98 PI:=ah DP mixed PH abV Tryz.func98 (c:=body Tryz.f98) (by kernel_rfl) (by
 rintro⟨a1,a2,b1,b2⟩ hp hf
 have h:=aaH a1 a2 b1 b2 hp hf
 with_reducible refine Eq.mp ?_ h
 kernel_rfl)
theorem DQ:ak Tryz.prog PJ:=ak.cons DP adu (aB.of Tryz.func98 (c:=body Tryz.f98) (by kernel_rfl) (by kernel_rfl))
theorem adv:ca Tryz.prog G0 97 PM:=dF DQ mixed PK PL abX Tryz.func97 (c:=body Tryz.f97) (by kernel_rfl) (by
 rintro⟨a,b⟩ ⟨⟩ hp hf hg
 have h:=aaI a b hp hf hg
 with_reducible refine Eq.mp ?_ h
 kernel_rfl)
theorem č:ca Tryz.prog G0 97 PN:=adv
theorem DR:ak Tryz.prog PO:=ak.eP DQ č (aB.of Tryz.func97 (c:=body Tryz.f97) (by kernel_rfl) (by kernel_rfl))
theorem adw:Valid Tryz.prog G0 56 PR:=ah DR mixed PQ abZ Tryz.func56 (c:=body Tryz.f56) (by kernel_rfl) (by
 rintro⟨a,b⟩ hp hf
 have h:=aaJ a b hp hf
 with_reducible refine Eq.mp ?_ h
 kernel_rfl)
theorem DS:ak Tryz.prog PT:=ak.cons DR adw (aB.of Tryz.func56 (c:=body Tryz.f56) (by kernel_rfl) (by kernel_rfl))
theorem adx:Valid Tryz.prog G0 19 PV:=ah DS mixed PU ab2 Tryz.func19 (c:=body Tryz.f19) (by kernel_rfl) (by
 rintro⟨y1,y2⟩ hp hf
 have h:=aaK y1 y2 hp hf
 with_reducible refine Eq.mp ?_ h
 kernel_rfl)
theorem DT:ak Tryz.prog PW:=ak.cons DS adx (aB.of Tryz.func19 (c:=body Tryz.f19) (by kernel_rfl) (by kernel_rfl))
theorem ady:Valid Tryz.prog G0 50 PY:=ah DT mixed PX ab4 Tryz.func50 (c:=body Tryz.f50) (by kernel_rfl) (by
 rintro⟨y1,y2⟩ hp hf
 have h:=aaL y1 y2 hp hf
 with_reducible refine Eq.mp ?_ h
 kernel_rfl)
theorem DU:ak Tryz.prog PZ:=ak.cons DT ady (aB.of Tryz.func50 (c:=body Tryz.f50) (by kernel_rfl) (by kernel_rfl))
theorem adz:Valid Tryz.prog G0 61 P1:=ah DU mixed P0 ab6 Tryz.func61 (c:=body Tryz.f61) (by kernel_rfl) (by
 rintro⟨y1,y2⟩ hp hf
 have h:=aaM y1 y2 hp hf
 with_reducible refine Eq.mp ?_ h
 kernel_rfl)
theorem rJ:ak Tryz.prog Iu:=ak.cons DU adz (aB.of Tryz.func61 (c:=body Tryz.f61) (by kernel_rfl) (by kernel_rfl))
theorem adC:Valid Tryz.prog G0 21 P9:=ah rJ mixed P8 ace Tryz.func21 (c:=body Tryz.f21) (by kernel_rfl) (by
 rintro⟨y1,y2⟩ hp hf
 have h:=aaP y1 y2 hp hf
 with_reducible refine Eq.mp ?_ h
 kernel_rfl)
theorem DX:ak Tryz.prog Qa:=ak.cons rJ adC (aB.of Tryz.func21 (c:=body Tryz.f21) (by kernel_rfl) (by kernel_rfl))
theorem adG:Valid Tryz.prog G0 16 Ql:=ah DX mixed Qk acn Tryz.func16 (c:=body Tryz.f16) (by kernel_rfl) (by
 rintro⟨y1,y2⟩ hp hf
 have h:=aaT y1 y2 hp hf
 with_reducible refine Eq.mp ?_ h
 kernel_rfl)
theorem D3:ak Tryz.prog Qm:=ak.cons DX adG (aB.of Tryz.func16 (c:=body Tryz.f16) (by kernel_rfl) (by kernel_rfl))
theorem azK:Valid Tryz.prog G0 35 awp:=ah D3 mixed awo ay7 Tryz.func35 (c:=body Tryz.f35) (by kernel_rfl) (by
 rintro⟨y1,y2,y3⟩ hp hf
 have h:=ayB y1 y2 y3 hp hf
 with_reducible refine Eq.mp ?_ h
 kernel_rfl)
theorem auE:ak Tryz.prog awq:=ak.cons D3 azK (aB.of Tryz.func35 (c:=body Tryz.f35) (by kernel_rfl) (by kernel_rfl))
theorem azL:Valid Tryz.prog G0 30 aws:=ah auE mixed awr ay9 Tryz.func30 (c:=body Tryz.f30) (by kernel_rfl) (by
 rintro⟨y1,y2⟩ hp hf
 have h:=ayC y1 y2 hp hf
 with_reducible refine Eq.mp ?_ h
 kernel_rfl)
theorem agz:ak Tryz.prog avJ:=ak.cons auE azL (aB.of Tryz.func30 (c:=body Tryz.f30) (by kernel_rfl) (by kernel_rfl))
theorem azM:ca Tryz.prog G0 70 awv:=dF (E:=azc) {fU:=agz.fU,sig:=agz.sig,pX:=agz.pX} mixed awt awu azb Tryz.func70 (c:=body Tryz.f70) (by kernel_rfl) (by
 rintro v ⟨q,⟨⟨⟩,⟨⟩⟩⟩ hp hf hg
 have h:=ayD v q hp hf hg
 with_reducible refine Eq.mp ?_ h
 kernel_rfl)
theorem avO:ca Tryz.prog G0 70 avL:=azM
theorem agY:ak Tryz.prog avM:=ak.eP agz avO (aB.of Tryz.func70 (c:=body Tryz.f70) (by kernel_rfl) (by kernel_rfl))
theorem azN:ca Tryz.prog G0 70 awS:=dF (E:=azf) {fU:=agY.fU,sig:=agY.sig,pX:=agY.pX} mixed awQ awR aze Tryz.func70 (c:=body Tryz.f70) (by kernel_rfl) (by
 rintro v ⟨q,⟨⟨⟩,⟨l,⟨⟩⟩⟩⟩ hp hf hg
 have h:=ayE v q l hp hf hg
 with_reducible refine Eq.mp ?_ h
 kernel_rfl)
theorem aym:ca Tryz.prog G0 70 awT:=ca.or azN avO
theorem auG:ak Tryz.prog awU:=ak.eP agY aym (aB.of Tryz.func70 (c:=body Tryz.f70) (by kernel_rfl) (by kernel_rfl))
theorem azO:ca Tryz.prog G0 72 awX:=dF auG mixed awV awW azh Tryz.func72 (c:=body Tryz.f72) (by kernel_rfl) (by
 rintro d ⟨⟨⟩,⟨l,⟨⟩⟩⟩ hp hf hg
 have h:=ayF d l hp hf hg
 with_reducible refine Eq.mp ?_ h
 kernel_rfl)
theorem ayn:ca Tryz.prog G0 72 awY:=azO
theorem auM:ak Tryz.prog awZ:=ak.eP auG ayn (aB.of Tryz.func72 (c:=body Tryz.f72) (by kernel_rfl) (by kernel_rfl))
theorem azP:Valid Tryz.prog G0 37 aw1:=ah auM mixed aw0 azj Tryz.func37 (c:=body Tryz.f37) (by kernel_rfl) (by
 rintro⟨y1,y2,y3⟩ hp hf
 have h:=ayG y1 y2 y3 hp hf
 with_reducible refine Eq.mp ?_ h
 kernel_rfl)
theorem auN:ak Tryz.prog aw2:=ak.cons auM azP (aB.of Tryz.func37 (c:=body Tryz.f37) (by kernel_rfl) (by kernel_rfl))
theorem azQ:ca Tryz.prog G0 73 aw5:=dF auN mixed aw3 aw4 azl Tryz.func73 (c:=body Tryz.f73) (by kernel_rfl) (by
 rintro⟨⟩ ⟨⟨r1,r2,r3⟩,⟨⟩⟩ hp hf hg
 have h:=ayH r1 r2 r3 hp hf hg
 with_reducible refine Eq.mp ?_ h
 kernel_rfl)
theorem ayo:ca Tryz.prog G0 73 aw6:=azQ
theorem auO:ak Tryz.prog aw7:=ak.eP auN ayo (aB.of Tryz.func73 (c:=body Tryz.f73) (by kernel_rfl) (by kernel_rfl))
theorem azR:ca Tryz.prog G0 75 axa:=dF auO mixed aw8 aw9 azn Tryz.func75 (c:=body Tryz.f75) (by kernel_rfl) (by
 rintro⟨⟩ ⟨⟨r1,r2,r3⟩,⟨⟩⟩ hp hf hg
 have h:=ayI r1 r2 r3 hp hf hg
 with_reducible refine Eq.mp ?_ h
 kernel_rfl)
theorem ayp:ca Tryz.prog G0 75 axb:=azR
theorem auR:ak Tryz.prog axc:=ak.eP auO ayp (aB.of Tryz.func75 (c:=body Tryz.f75) (by kernel_rfl) (by kernel_rfl))
theorem azS:ca Tryz.prog G0 77 axf:=dF auR mixed axd axe azp Tryz.func77 (c:=body Tryz.f77) (by kernel_rfl) (by
 rintro⟨⟩ ⟨a,⟨⟨⟩,⟨⟨⟩,⟨⟨r1,r2,r3⟩,⟨⟩⟩⟩⟩⟩ hp hf hg
 have h:=ayJ a r1 r2 r3 hp hf hg
 with_reducible refine Eq.mp ?_ h
 kernel_rfl)
theorem ayq:ca Tryz.prog G0 77 axg:=azS
theorem au2:ak Tryz.prog axh:=ak.eP auR ayq (aB.of Tryz.func77 (c:=body Tryz.f77) (by kernel_rfl) (by kernel_rfl))
theorem azT:Valid Tryz.prog G0 38 axj:=ah au2 mixed axi azr Tryz.func38 (c:=body Tryz.f38) (by kernel_rfl) (by
 rintro b hp hf
 have h:=ayZ b hp hf
 with_reducible refine Eq.mp ?_ h
 kernel_rfl)
theorem avq:ak Tryz.prog axk:=ak.cons au2 azT (aB.of Tryz.func38 (c:=body Tryz.f38) (by kernel_rfl) (by kernel_rfl))
theorem azW:Valid Tryz.prog G0 32 axy:=ah avq mixed axr azx Tryz.func32 (c:=body Tryz.f32) (by kernel_rfl) (by
 rintro⟨a1,a2,a3,b1,b2,b3⟩ hp hf
 have h:=ay2 a1 a2 a3 b1 b2 b3 hp hf
 with_reducible refine Eq.mp ?_ h
 kernel_rfl)
theorem avu:ak Tryz.prog axB:=ak.cons avq azW (aB.of Tryz.func32 (c:=body Tryz.f32) (by kernel_rfl) (by kernel_rfl))
theorem azX:Valid Tryz.prog G0 29 axD:=ah avu mixed axC azz Tryz.func29 (c:=body Tryz.f29) (by kernel_rfl) (by
 rintro⟨⟩ hp hf
 have h:=ay3 hp hf
 with_reducible refine Eq.mp ?_ h
 kernel_rfl)
theorem avv:ak Tryz.prog axE:=ak.cons avu azX (aB.of Tryz.func29 (c:=body Tryz.f29) (by kernel_rfl) (by kernel_rfl))
theorem azY:Valid Tryz.prog G0 33 axG:=ah avv mixed axF azB Tryz.func33 (c:=body Tryz.f33) (by kernel_rfl) (by
 rintro⟨y1,y2,y3⟩ hp hf
 have h:=ay4 y1 y2 y3 hp hf
 with_reducible refine Eq.mp ?_ h
 kernel_rfl)
theorem avP:ak Tryz.prog azC:=ak.cons avv azY (aB.of Tryz.func33 (c:=body Tryz.f33) (by kernel_rfl) (by kernel_rfl))
theorem aAv:Valid Tryz.prog G0 36 az1:=ah avP mixed az0 aAm Tryz.func36 (c:=body Tryz.f36) (by kernel_rfl) (by
 rintro⟨y1,y2,y3⟩ hp hf
 have h:=aAj y1 y2 y3 hp hf
 with_reducible refine Eq.mp ?_ h
 kernel_rfl)
theorem azH:ak Tryz.prog aAn:=ak.cons avP aAv (aB.of Tryz.func36 (c:=body Tryz.f36) (by kernel_rfl) (by kernel_rfl))
theorem aAJ:Valid Tryz.prog G0 9 aAE:=ah azH mixed az5 aAD Tryz.func9 (c:=body Tryz.f9) (by kernel_rfl) (by
 rintro⟨y1,y2,y3,z1,z2,z3⟩ hp hf
 have h:=aAB y1 y2 y3 z1 z2 z3 hp hf
 with_reducible refine Eq.mp ?_ h
 kernel_rfl)
end Go.J

end
section
set_option linter.unusedVariables false
namespace Go.Proofs.YtcmmooohmnjklaaGreatDoor
open Go Go.Vg Go.ChangeShapes Go.WideShapes Go.ChangeAt Go.RowKit
theorem own:ownKnob Tryz.prog.godebug=none:=by kernel_rfl
theorem laidOut:laidOutB Tryz.prog=true :=by kernel_rfl
set_option maxRecDepth 100000 in
theorem amR {W:World}(h:laidMet Tryz.prog [("rubrick/sha.begin",Rows.laid_rubrick_sha_begin),("rubrick/sha.rounds",Rows.laid_rubrick_sha_rounds),("rubrick/utf.letters",Rows.laid_rubrick_utf_letters),("rubrick/utf.shifts",Rows.laid_rubrick_utf_shifts)] W):∀i d,Go.J.G0 i=some d→mH W (fun b=>b<W.heap.size) i d:=by
 intro i d hd
 match i,hd with
 |0,hd=>
  cases hd
  exact Da (k:= .u32) (zs:= [1779033703,3144134277,1013904242,2773480762,1359893119,2600822924,528734635,1541459225]) h (.head _) (by kernel_rfl) (by kernel_rfl) Tryz.underlying155 Tryz.underlying154 (by kernel_rfl) (by kernel_rfl) (by decide) (by simp [oI,jv,lo,hi,Row.hd,Row.tl,DI.toInt])
 |1,hd=>
  cases hd
  exact Da (k:= .u32) (zs:= [1116352408,1899447441,3049323471,3921009573,961987163,1508970993,2453635748,2870763221,3624381080,310598401,607225278,1426881987,1925078388,2162078206,2614888103,3248222580,3835390401,4022224774,264347078,604807628,770255983,1249150122,1555081692,1996064986,2554220882,2821834349,2952996808,3210313671,3336571891,3584528711,113926993,338241895,666307205,773529912,1294757372,1396182291,1695183700,1986661051,2177026350,2456956037,2730485921,2820302411,3259730800,3345764771,3516065817,3600352804,4094571909,275423344,430227734,506948616,659060556,883997877,958139571,1322822218,1537002063,1747873779,1955562222,2024104815,2227730452,2361852424,2428436474,2756734187,3204031479,3329325298]) h (.tail _ (.head _)) (by kernel_rfl) (by kernel_rfl) Tryz.underlying227 Tryz.underlying154 (by kernel_rfl) (by kernel_rfl) (by decide) (by simp [oI,jv,lo,hi,Row.hd,Row.tl,DI.toInt,S.rO])
 |2,hd=>
  cases hd
  exact C9 (k:= .i64) (zss:= [[65,90],[97,122],[192,214],[216,246],[248,255],[913,929],[931,937],[945,969],[1024,1119]]) h (.tail _ (.tail _ (.head _))) (by kernel_rfl) (by kernel_rfl) Tryz.underlying234 Tryz.underlying233 (by kernel_rfl) (by kernel_rfl) rfl (fun i f hf=>by
   match i,hf with
   |0,hf=>cases hf;exact⟨rfl,Tryz.underlying3,by kernel_rfl⟩
   |1,hf=>cases hf;exact⟨rfl,Tryz.underlying3,by kernel_rfl⟩
   |i+2,hf=>simp at hf) (by decide) (by decide) (by simp [oI,jv,lo,hi,Row.hd,Row.tl,DI.toInt])
 |3,hd=>
  cases hd
  exact C9 (k:= .i64) (zss:= [[65,90,32],[192,214,32],[216,222,32],[913,929,32],[931,937,32],[1024,1039,80],[1040,1071,32]]) h (.tail _ (.tail _ (.tail _ (.head _)))) (by kernel_rfl) (by kernel_rfl) Tryz.underlying253 Tryz.underlying252 (by kernel_rfl) (by kernel_rfl) rfl (fun i f hf=>by
   match i,hf with
   |0,hf=>cases hf;exact⟨rfl,Tryz.underlying3,by kernel_rfl⟩
   |1,hf=>cases hf;exact⟨rfl,Tryz.underlying3,by kernel_rfl⟩
   |2,hf=>cases hf;exact⟨rfl,Tryz.underlying3,by kernel_rfl⟩
   |i+3,hf=>simp at hf) (by decide) (by decide) (by simp [oI,jv,lo,hi,Row.hd,Row.tl,DI.toInt])
 |_+4,hd=>cases hd
def apq(w:World)(cs:Array Value):World:= {w with heap:=w.heap.modify 0 fun
    | .cells _ t frozen=> .cells cs t frozen
    |o=>o}
def apr(w:World)(cs:Array Value):World:= {w with heap:=w.heap.modify 1 fun
    | .cells _ t frozen=> .cells cs t frozen
    |o=>o}
def aps(w:World)(cs:Array Value):World:= {w with heap:=w.heap.modify 2 fun
    | .cells _ t frozen=> .cells cs t frozen
    |o=>o}
def apt(w:World)(cs:Array Value):World:= {w with heap:=w.heap.modify 3 fun
    | .cells _ t frozen=> .cells cs t frozen
    |o=>o}
noncomputable def wB (os:Os):World:=apt (aps (apr (apq (World.holding Tryz.prog os ⟨#[], #[],[]⟩) #[.int .u32 1779033703, .int .u32 3144134277, .int .u32 1013904242, .int .u32 2773480762, .int .u32 1359893119, .int .u32 2600822924, .int .u32 528734635, .int .u32 1541459225]) #[.int .u32 1116352408, .int .u32 1899447441, .int .u32 3049323471, .int .u32 3921009573, .int .u32 961987163, .int .u32 1508970993, .int .u32 2453635748, .int .u32 2870763221, .int .u32 3624381080, .int .u32 310598401, .int .u32 607225278, .int .u32 1426881987, .int .u32 1925078388, .int .u32 2162078206, .int .u32 2614888103, .int .u32 3248222580, .int .u32 3835390401, .int .u32 4022224774, .int .u32 264347078, .int .u32 604807628, .int .u32 770255983, .int .u32 1249150122, .int .u32 1555081692, .int .u32 1996064986, .int .u32 2554220882, .int .u32 2821834349, .int .u32 2952996808, .int .u32 3210313671, .int .u32 3336571891, .int .u32 3584528711, .int .u32 113926993, .int .u32 338241895, .int .u32 666307205, .int .u32 773529912, .int .u32 1294757372, .int .u32 1396182291, .int .u32 1695183700, .int .u32 1986661051, .int .u32 2177026350, .int .u32 2456956037, .int .u32 2730485921, .int .u32 2820302411, .int .u32 3259730800, .int .u32 3345764771, .int .u32 3516065817, .int .u32 3600352804, .int .u32 4094571909, .int .u32 275423344, .int .u32 430227734, .int .u32 506948616, .int .u32 659060556, .int .u32 883997877, .int .u32 958139571, .int .u32 1322822218, .int .u32 1537002063, .int .u32 1747873779, .int .u32 1955562222, .int .u32 2024104815, .int .u32 2227730452, .int .u32 2361852424, .int .u32 2428436474, .int .u32 2756734187, .int .u32 3204031479, .int .u32 3329325298]) #[.int .i64 65, .int .i64 90, .int .i64 97, .int .i64 122, .int .i64 192, .int .i64 214, .int .i64 216, .int .i64 246, .int .i64 248, .int .i64 255, .int .i64 913, .int .i64 929, .int .i64 931, .int .i64 937, .int .i64 945, .int .i64 969, .int .i64 1024, .int .i64 1119]) #[.int .i64 65, .int .i64 90, .int .i64 32, .int .i64 192, .int .i64 214, .int .i64 32, .int .i64 216, .int .i64 222, .int .i64 32, .int .i64 913, .int .i64 929, .int .i64 32, .int .i64 931, .int .i64 937, .int .i64 32, .int .i64 1024, .int .i64 1039, .int .i64 80, .int .i64 1040, .int .i64 1071, .int .i64 32]
theorem ays:Valid Tryz.prog Go.J.G0 9 (au Go.J.az5 fun _=>(True, .bool true,[])):=Go.J.aAJ
theorem avw(os:Os):laidMet Tryz.prog Rows.headApartRow.laid ((wB os).forCall (fun _ _=>0) ⟨#[], #[.agg #[.int .i64 0, .string ⟨#[]⟩, .slice none 0 0], .agg #[.int .i64 0, .string ⟨#[]⟩, .slice none 0 0]],[]⟩).memory:=
 laidMet_of_run' 8 (by kernel_rfl) (by kernel_rfl)
theorem ayt(os:Os) {H:Type}(enc:TypeId×Value→H):∃places,DataW.whole enc Tryz.prog ((wB os).forCall (fun _ _=>0) ⟨#[], #[.agg #[.int .i64 0, .string ⟨#[]⟩, .slice none 0 0], .agg #[.int .i64 0, .string ⟨#[]⟩, .slice none 0 0]],[]⟩).memory Tryz.f9.params.toList Rows.headApartSpec.vars false (#[.agg #[.int .i64 0, .string ⟨#[]⟩, .slice none 0 0], .agg #[.int .i64 0, .string ⟨#[]⟩, .slice none 0 0]]:Array Value).toList 8=some ([.agg [.lit (.int .i64 0), .lit (.string []), .nil], .agg [.lit (.int .i64 0), .lit (.string []), .nil]],[],places):=
 ⟨[],by kernel_rfl⟩
set_option maxRecDepth 100000 in
theorem ayr(os:Os)(started:os.Started)(H:Type)(enc:TypeId×Value→H)(F:Stop.Interp):
  ReturnsInHanded {} Tryz.checked os 9 .any ((OpenSpec.ofChange Rows.headApartSpec).preRow enc Tryz.prog Tryz.f9 Rows.headApartRow.domain false Rows.headApartRow.laid) (((OpenSpec.ofChange Rows.headApartSpec).at F).post enc Tryz.prog Tryz.f9 false true false false):=by
 obtain⟨places,hx⟩:=ayt os enc
 refine returnsInHanded_of_row (C:=Tryz.checked) (s:=OpenSpec.ofChange Rows.headApartSpec) own started (by kernel_rfl) Tryz.func9
  (witness_row_at (enc:=enc) (C:=Tryz.checked) false (wB os) #[.agg #[.int .i64 0, .string ⟨#[]⟩, .slice none 0 0], .agg #[.int .i64 0, .string ⟨#[]⟩, .slice none 0 0]] rfl (by kernel_rfl) (by kernel_rfl) (by kernel_rfl)
    (OpenSpec.preRow_of_cond 8 hx (by kernel_rfl) (fun k hk=>by cases hk) (by kernel_rfl) (avw os))) ?_
 intro W base args ds gs before Bk hW _ _ _ hL _ _
 refine Es (s:=Rows.headApartSpec) (bw.of Nt) laidOut ays (show PS.Q5 fU Tryz.f9.params.toList=_ by kernel_rfl) (by kernel_rfl) (show Tryz.f9.resultTypes= #[4] by kernel_rfl) Tryz.underlying4 rfl ?_ (amR hL) Bk hW
 intro H ds z7
 have hn:Tryz.f9.params.toList.length=2:=by kernel_rfl
 rw [hn] at z7
 match ds,z7 with
 | [d0,d1],_=>rfl
theorem ayv:Rows.HeadApartSaid:=
 OpenClaim.holds_of_cond 9 Tryz.f9 rfl rfl rfl rfl rfl rfl rfl ⟨rfl,rfl,rfl,rfl,rfl⟩ rfl rfl rfl rfl rfl (by kernel_rfl) Tryz.func9 (by kernel_rfl)
  (of_decide_eq_true (by kernel_rfl)) (by unfold Func.isWrapper;first|(rw [if_pos (by decide+kernel)];kernel_rfl)|(rw [if_neg (by decide+kernel)];exact⟨rfl,rfl⟩))
  (fun os started H enc _ F=>by rw [OpenClaim.pre_eq_preRow];exact ayr os started H enc F)
theorem ayu(f:FuncId)(fn:Func)(hf:Tryz.pinned.checked.prog.funcNamed "rubrick/rubricklaw15.HeadApart"=some f)(Lk:Tryz.pinned.checked.prog.funcs[f]? =some fn):
  false=Tryz.pinned.checked.prog.looks []∧∀(j:Nat) t,fn.params[j]? =some t→Tryz.pinned.checked.prog.wantsStandIn t=false :=by
 obtain rfl :f=9:=Option.some.inj ((show Tryz.prog.funcNamed "rubrick/rubricklaw15.HeadApart"=some 9 by kernel_rfl).symm.trans hf) |>.symm
 obtain rfl :fn=Tryz.f9:=(Option.some.inj (Tryz.func9.symm.trans Lk)).symm
 refine⟨by kernel_rfl,fun j t ht=> ?_⟩
 have h1:(Tryz.f9.params.toList.all fun t=> !Tryz.prog.wantsStandIn t)=true :=by kernel_rfl
 have h2:=List.all_eq_true.1 h1 t (by simpa using Array.mem_of_getElem? ht)
 have h3:Tryz.prog.wantsStandIn t=false :=by simpa using h2
 exact h3
theorem headApart_card:Rows.HeadApartCardSaid:=
 Claim7.holds_tied_plain_at .later [] _ _ _ _ ayv (fun _ h=>by cases h) (by kernel_rfl) (fun _ h=>by cases h) headApart_row_tie rfl ⟨rfl,rfl⟩ (by kernel_rfl) rfl ayu (by kernel_rfl)
#print axioms headApart_card
end Go.Proofs.YtcmmooohmnjklaaGreatDoor

end
