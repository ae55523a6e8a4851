/- HeadGrows: for every input the given Go function returns true and leaves its arguments as they were. Conditions: none. -/
import Derived.Test.YtcmmooohmnjklaaGreatDoorPartH
import Derived.Test.YtcmmooohmnjklaaGreatDoorCards
import Derived.Test.YtcmmooohmnjklaaGreatDoorTie
import Derived.Deep.DeepHandedRow
import Derived.ProofKit
import Derived.OpenShut
set_option linter.unusedVariables false
set_option linter.unusedSimpArgs false
section
set_option linter.unusedVariables false
set_option maxHeartbeats 0
set_option maxRecDepth 100000
namespace Go.J
open Go.Proofs
open Go Vg
theorem DH:ak Tryz.prog Pn:=ak.cons DG adn (aB.of Tryz.func90 (c:=body Tryz.f90) (by kernel_rfl) (by kernel_rfl))
theorem ado:Valid Tryz.prog G0 125 Pq:=ah DH mixed Po abJ Tryz.func125 (c:=body Tryz.f125) (by kernel_rfl) (by
 rintro⟨s1,s2⟩ hp hf
 have h:=aaB s1 s2 hp hf
 with_reducible refine Eq.mp ?_ h
 kernel_rfl)
theorem DJ:ak Tryz.prog Pr:=ak.cons DH ado (aB.of Tryz.func125 (c:=body Tryz.f125) (by kernel_rfl) (by kernel_rfl))
theorem adp:Valid Tryz.prog G0 88 Pt:=ah DJ mixed aqC abL Tryz.func88 (c:=body Tryz.f88) (by kernel_rfl) (by
 rintro l hp hf
 have h:=aaC l hp hf
 with_reducible refine Eq.mp ?_ h
 kernel_rfl)
theorem DK:ak Tryz.prog Pu:=ak.cons DJ adp (aB.of Tryz.func88 (c:=body Tryz.f88) (by kernel_rfl) (by kernel_rfl))
theorem adq:Valid Tryz.prog G0 89 Pw:=ah DK mixed Pv abN Tryz.func89 (c:=body Tryz.f89) (by kernel_rfl) (by
 rintro l hp hf
 have h:=aaD l hp hf
 with_reducible refine Eq.mp ?_ h
 kernel_rfl)
theorem DL:ak Tryz.prog Px:=ak.cons DK adq (aB.of Tryz.func89 (c:=body Tryz.f89) (by kernel_rfl) (by kernel_rfl))
theorem adr:Valid Tryz.prog G0 84 Pz:=ah DL mixed Py abP Tryz.func84 (c:=body Tryz.f84) (by kernel_rfl) (by
 rintro l hp hf
 have h:=aaE l hp hf
 with_reducible refine Eq.mp ?_ h
 kernel_rfl)
theorem DN:ak Tryz.prog PA:=ak.cons DL adr (aB.of Tryz.func84 (c:=body Tryz.f84) (by kernel_rfl) (by kernel_rfl))
theorem ads:Valid Tryz.prog G0 122 PC:=ah DN mixed PB abR Tryz.func122 (c:=body Tryz.f122) (by kernel_rfl) (by
 rintro l hp hf
 have h:=aaF l hp hf
 with_reducible refine Eq.mp ?_ h
 kernel_rfl)
theorem DO:ak Tryz.prog PD:=ak.cons DN ads (aB.of Tryz.func122 (c:=body Tryz.f122) (by kernel_rfl) (by kernel_rfl))
theorem adt:Valid Tryz.prog G0 99 PF:=ah DO mixed PE abT Tryz.func99 (c:=body Tryz.f99) (by kernel_rfl) (by
 rintro⟨a,b⟩ hp hf
 have h:=aaG a b hp hf
 with_reducible refine Eq.mp ?_ h
 kernel_rfl)
theorem DP:ak Tryz.prog PG:=ak.cons DO adt (aB.of Tryz.func99 (c:=body Tryz.f99) (by kernel_rfl) (by kernel_rfl))
theorem adu:Valid Tryz.prog G0 98 PI:=ah DP mixed PH abV Tryz.func98 (c:=body Tryz.f98) (by kernel_rfl) (by
 rintro⟨a1,a2,b1,b2⟩ hp hf
 have h:=aaH a1 a2 b1 b2 hp hf
 with_reducible refine Eq.mp ?_ h
 kernel_rfl)
theorem DQ:ak Tryz.prog PJ:=ak.cons DP adu (aB.of Tryz.func98 (c:=body Tryz.f98) (by kernel_rfl) (by kernel_rfl))
theorem adv:ca Tryz.prog G0 97 PM:=dF DQ mixed PK PL abX Tryz.func97 (c:=body Tryz.f97) (by kernel_rfl) (by
 rintro⟨a,b⟩ ⟨⟩ hp hf hg
 have h:=aaI a b hp hf hg
 with_reducible refine Eq.mp ?_ h
 kernel_rfl)
theorem č:ca Tryz.prog G0 97 PN:=adv
theorem DR:ak Tryz.prog PO:=ak.eP DQ č (aB.of Tryz.func97 (c:=body Tryz.f97) (by kernel_rfl) (by kernel_rfl))
theorem adw:Valid Tryz.prog G0 56 PR:=ah DR mixed PQ abZ Tryz.func56 (c:=body Tryz.f56) (by kernel_rfl) (by
 rintro⟨a,b⟩ hp hf
 have h:=aaJ a b hp hf
 with_reducible refine Eq.mp ?_ h
 kernel_rfl)
theorem DS:ak Tryz.prog PT:=ak.cons DR adw (aB.of Tryz.func56 (c:=body Tryz.f56) (by kernel_rfl) (by kernel_rfl))
theorem adx:Valid Tryz.prog G0 19 PV:=ah DS mixed PU ab2 Tryz.func19 (c:=body Tryz.f19) (by kernel_rfl) (by
 rintro⟨y1,y2⟩ hp hf
 have h:=aaK y1 y2 hp hf
 with_reducible refine Eq.mp ?_ h
 kernel_rfl)
theorem DT:ak Tryz.prog PW:=ak.cons DS adx (aB.of Tryz.func19 (c:=body Tryz.f19) (by kernel_rfl) (by kernel_rfl))
theorem ady:Valid Tryz.prog G0 50 PY:=ah DT mixed PX ab4 Tryz.func50 (c:=body Tryz.f50) (by kernel_rfl) (by
 rintro⟨y1,y2⟩ hp hf
 have h:=aaL y1 y2 hp hf
 with_reducible refine Eq.mp ?_ h
 kernel_rfl)
theorem DU:ak Tryz.prog PZ:=ak.cons DT ady (aB.of Tryz.func50 (c:=body Tryz.f50) (by kernel_rfl) (by kernel_rfl))
theorem adz:Valid Tryz.prog G0 61 P1:=ah DU mixed P0 ab6 Tryz.func61 (c:=body Tryz.f61) (by kernel_rfl) (by
 rintro⟨y1,y2⟩ hp hf
 have h:=aaM y1 y2 hp hf
 with_reducible refine Eq.mp ?_ h
 kernel_rfl)
theorem rJ:ak Tryz.prog Iu:=ak.cons DU adz (aB.of Tryz.func61 (c:=body Tryz.f61) (by kernel_rfl) (by kernel_rfl))
theorem adA:Valid Tryz.prog G0 83 P3:=ah (E:=ab9) {fU:=rJ.fU,sig:=rJ.sig,pX:=rJ.pX} mixed P2 ab8 Tryz.func83 (c:=body Tryz.f83) (by kernel_rfl) (by
 rintro⟨y1,y2⟩ hp hf
 have h:=aaN y1 y2 hp hf
 with_reducible refine Eq.mp ?_ h
 kernel_rfl)
theorem DV:ak Tryz.prog P4:=ak.cons rJ adA (aB.of Tryz.func83 (c:=body Tryz.f83) (by kernel_rfl) (by kernel_rfl))
theorem adB:Valid Tryz.prog G0 91 P6:=ah DV mixed P5 acb Tryz.func91 (c:=body Tryz.f91) (by kernel_rfl) (by
 rintro⟨l,i,m,s1,s2,s3⟩ hp hf
 have h:=aaO l i m s1 s2 s3 hp hf
 with_reducible refine Eq.mp ?_ h
 kernel_rfl)
theorem DW:ak Tryz.prog P7:=ak.cons DV adB (aB.of Tryz.func91 (c:=body Tryz.f91) (by kernel_rfl) (by kernel_rfl))
theorem adC:Valid Tryz.prog G0 21 P9:=ah DW mixed P8 ace Tryz.func21 (c:=body Tryz.f21) (by kernel_rfl) (by
 rintro⟨y1,y2⟩ hp hf
 have h:=aaP y1 y2 hp hf
 with_reducible refine Eq.mp ?_ h
 kernel_rfl)
theorem DX:ak Tryz.prog Qa:=ak.cons DW adC (aB.of Tryz.func21 (c:=body Tryz.f21) (by kernel_rfl) (by kernel_rfl))
theorem adD:Valid Tryz.prog G0 44 Qc:=ah DX mixed Qb acg Tryz.func44 (c:=body Tryz.f44) (by kernel_rfl) (by
 rintro⟨y1,y2,d⟩ hp hf
 have h:=aaQ y1 y2 d hp hf
 with_reducible refine Eq.mp ?_ h
 kernel_rfl)
theorem DY:ak Tryz.prog Qd:=ak.cons DX adD (aB.of Tryz.func44 (c:=body Tryz.f44) (by kernel_rfl) (by kernel_rfl))
theorem adE:Valid Tryz.prog G0 43 Qf:=ah DY mixed Qe aci Tryz.func43 (c:=body Tryz.f43) (by kernel_rfl) (by
 rintro⟨y1,y2⟩ hp hf
 have h:=aaR y1 y2 hp hf
 with_reducible refine Eq.mp ?_ h
 kernel_rfl)
theorem DZ:ak Tryz.prog Qg:=ak.cons DY adE (aB.of Tryz.func43 (c:=body Tryz.f43) (by kernel_rfl) (by kernel_rfl))
theorem atA:Valid Tryz.prog G0 62 aqR:=ah DZ mixed aqQ as5 Tryz.func62 (c:=body Tryz.f62) (by kernel_rfl) (by
 rintro⟨y1,y2,i,m⟩ hp hf
 have h:=asJ y1 y2 i m hp hf
 with_reducible refine Eq.mp ?_ h
 kernel_rfl)
theorem anm:ak Tryz.prog aqS:=ak.cons DZ atA (aB.of Tryz.func62 (c:=body Tryz.f62) (by kernel_rfl) (by kernel_rfl))
theorem adF:Valid Tryz.prog G0 49 Qi:=ah anm mixed Qh ack Tryz.func49 (c:=body Tryz.f49) (by kernel_rfl) (by
 rintro⟨y1,y2⟩ hp hf
 have h:=aaS y1 y2 hp hf
 with_reducible refine Eq.mp ?_ h
 kernel_rfl)
theorem D1:ak Tryz.prog Qj:=ak.cons anm adF (aB.of Tryz.func49 (c:=body Tryz.f49) (by kernel_rfl) (by kernel_rfl))
theorem adG:Valid Tryz.prog G0 16 Ql:=ah D1 mixed Qk acn Tryz.func16 (c:=body Tryz.f16) (by kernel_rfl) (by
 rintro⟨y1,y2⟩ hp hf
 have h:=aaT y1 y2 hp hf
 with_reducible refine Eq.mp ?_ h
 kernel_rfl)
theorem D3:ak Tryz.prog Qm:=ak.cons D1 adG (aB.of Tryz.func16 (c:=body Tryz.f16) (by kernel_rfl) (by kernel_rfl))
theorem atI:Valid Tryz.prog G0 24 arx:=ah D3 mixed arh atl Tryz.func24 (c:=body Tryz.f24) (by kernel_rfl) (by
 rintro⟨y1,y2,a1,a2,a3,a4⟩ hp hf
 have h:=asR y1 y2 a1 a2 a3 a4 hp hf
 with_reducible refine Eq.mp ?_ h
 kernel_rfl)
theorem anz:ak Tryz.prog ary:=ak.cons D3 atI (aB.of Tryz.func24 (c:=body Tryz.f24) (by kernel_rfl) (by kernel_rfl))
theorem aus:Valid Tryz.prog G0 27 atU:=ah anz mixed atT auj Tryz.func27 (c:=body Tryz.f27) (by kernel_rfl) (by
 rintro l hp hf
 have h:=aug l hp hf
 with_reducible refine Eq.mp ?_ h
 kernel_rfl)
theorem ats:ak Tryz.prog auk:=ak.cons anz aus (aB.of Tryz.func27 (c:=body Tryz.f27) (by kernel_rfl) (by kernel_rfl))
theorem azK:Valid Tryz.prog G0 35 awp:=ah ats mixed awo ay7 Tryz.func35 (c:=body Tryz.f35) (by kernel_rfl) (by
 rintro⟨y1,y2,y3⟩ hp hf
 have h:=ayB y1 y2 y3 hp hf
 with_reducible refine Eq.mp ?_ h
 kernel_rfl)
theorem auE:ak Tryz.prog awq:=ak.cons ats azK (aB.of Tryz.func35 (c:=body Tryz.f35) (by kernel_rfl) (by kernel_rfl))
theorem azL:Valid Tryz.prog G0 30 aws:=ah auE mixed awr ay9 Tryz.func30 (c:=body Tryz.f30) (by kernel_rfl) (by
 rintro⟨y1,y2⟩ hp hf
 have h:=ayC y1 y2 hp hf
 with_reducible refine Eq.mp ?_ h
 kernel_rfl)
theorem agz:ak Tryz.prog avJ:=ak.cons auE azL (aB.of Tryz.func30 (c:=body Tryz.f30) (by kernel_rfl) (by kernel_rfl))
theorem azM:ca Tryz.prog G0 70 awv:=dF (E:=azc) {fU:=agz.fU,sig:=agz.sig,pX:=agz.pX} mixed awt awu azb Tryz.func70 (c:=body Tryz.f70) (by kernel_rfl) (by
 rintro v ⟨q,⟨⟨⟩,⟨⟩⟩⟩ hp hf hg
 have h:=ayD v q hp hf hg
 with_reducible refine Eq.mp ?_ h
 kernel_rfl)
theorem avO:ca Tryz.prog G0 70 avL:=azM
theorem agY:ak Tryz.prog avM:=ak.eP agz avO (aB.of Tryz.func70 (c:=body Tryz.f70) (by kernel_rfl) (by kernel_rfl))
theorem azN:ca Tryz.prog G0 70 awS:=dF (E:=azf) {fU:=agY.fU,sig:=agY.sig,pX:=agY.pX} mixed awQ awR aze Tryz.func70 (c:=body Tryz.f70) (by kernel_rfl) (by
 rintro v ⟨q,⟨⟨⟩,⟨l,⟨⟩⟩⟩⟩ hp hf hg
 have h:=ayE v q l hp hf hg
 with_reducible refine Eq.mp ?_ h
 kernel_rfl)
theorem aym:ca Tryz.prog G0 70 awT:=ca.or azN avO
theorem auG:ak Tryz.prog awU:=ak.eP agY aym (aB.of Tryz.func70 (c:=body Tryz.f70) (by kernel_rfl) (by kernel_rfl))
theorem azO:ca Tryz.prog G0 72 awX:=dF auG mixed awV awW azh Tryz.func72 (c:=body Tryz.f72) (by kernel_rfl) (by
 rintro d ⟨⟨⟩,⟨l,⟨⟩⟩⟩ hp hf hg
 have h:=ayF d l hp hf hg
 with_reducible refine Eq.mp ?_ h
 kernel_rfl)
theorem ayn:ca Tryz.prog G0 72 awY:=azO
theorem auM:ak Tryz.prog awZ:=ak.eP auG ayn (aB.of Tryz.func72 (c:=body Tryz.f72) (by kernel_rfl) (by kernel_rfl))
theorem azP:Valid Tryz.prog G0 37 aw1:=ah auM mixed aw0 azj Tryz.func37 (c:=body Tryz.f37) (by kernel_rfl) (by
 rintro⟨y1,y2,y3⟩ hp hf
 have h:=ayG y1 y2 y3 hp hf
 with_reducible refine Eq.mp ?_ h
 kernel_rfl)
theorem auN:ak Tryz.prog aw2:=ak.cons auM azP (aB.of Tryz.func37 (c:=body Tryz.f37) (by kernel_rfl) (by kernel_rfl))
theorem azQ:ca Tryz.prog G0 73 aw5:=dF auN mixed aw3 aw4 azl Tryz.func73 (c:=body Tryz.f73) (by kernel_rfl) (by
 rintro⟨⟩ ⟨⟨r1,r2,r3⟩,⟨⟩⟩ hp hf hg
 have h:=ayH r1 r2 r3 hp hf hg
 with_reducible refine Eq.mp ?_ h
 kernel_rfl)
theorem ayo:ca Tryz.prog G0 73 aw6:=azQ
theorem auO:ak Tryz.prog aw7:=ak.eP auN ayo (aB.of Tryz.func73 (c:=body Tryz.f73) (by kernel_rfl) (by kernel_rfl))
theorem azR:ca Tryz.prog G0 75 axa:=dF auO mixed aw8 aw9 azn Tryz.func75 (c:=body Tryz.f75) (by kernel_rfl) (by
 rintro⟨⟩ ⟨⟨r1,r2,r3⟩,⟨⟩⟩ hp hf hg
 have h:=ayI r1 r2 r3 hp hf hg
 with_reducible refine Eq.mp ?_ h
 kernel_rfl)
theorem ayp:ca Tryz.prog G0 75 axb:=azR
theorem auR:ak Tryz.prog axc:=ak.eP auO ayp (aB.of Tryz.func75 (c:=body Tryz.f75) (by kernel_rfl) (by kernel_rfl))
theorem azS:ca Tryz.prog G0 77 axf:=dF auR mixed axd axe azp Tryz.func77 (c:=body Tryz.f77) (by kernel_rfl) (by
 rintro⟨⟩ ⟨a,⟨⟨⟩,⟨⟨⟩,⟨⟨r1,r2,r3⟩,⟨⟩⟩⟩⟩⟩ hp hf hg
 have h:=ayJ a r1 r2 r3 hp hf hg
 with_reducible refine Eq.mp ?_ h
 kernel_rfl)
theorem ayq:ca Tryz.prog G0 77 axg:=azS
theorem au2:ak Tryz.prog axh:=ak.eP auR ayq (aB.of Tryz.func77 (c:=body Tryz.f77) (by kernel_rfl) (by kernel_rfl))
theorem azT:Valid Tryz.prog G0 38 axj:=ah au2 mixed axi azr Tryz.func38 (c:=body Tryz.f38) (by kernel_rfl) (by
 rintro b hp hf
 have h:=ayZ b hp hf
 with_reducible refine Eq.mp ?_ h
 kernel_rfl)
theorem avq:ak Tryz.prog axk:=ak.cons au2 azT (aB.of Tryz.func38 (c:=body Tryz.f38) (by kernel_rfl) (by kernel_rfl))
theorem azX:Valid Tryz.prog G0 29 axD:=ah avq mixed axC azz Tryz.func29 (c:=body Tryz.f29) (by kernel_rfl) (by
 rintro⟨⟩ hp hf
 have h:=ay3 hp hf
 with_reducible refine Eq.mp ?_ h
 kernel_rfl)
theorem avv:ak Tryz.prog axE:=ak.cons avq azX (aB.of Tryz.func29 (c:=body Tryz.f29) (by kernel_rfl) (by kernel_rfl))
theorem aBa:Valid Tryz.prog G0 13 aA5:=ah avv mixed aAA aA4 Tryz.func13 (c:=body Tryz.f13) (by kernel_rfl) (by
 rintro⟨l,d⟩ hp hf
 have h:=aA2 l d hp hf
 with_reducible refine Eq.mp ?_ h
 kernel_rfl)
end Go.J

end
section
set_option linter.unusedVariables false
namespace Go.Proofs.YtcmmooohmnjklaaGreatDoor
open Go Go.Vg Go.ChangeShapes Go.WideShapes Go.ChangeAt Go.RowKit
theorem own:ownKnob Tryz.prog.godebug=none:=by kernel_rfl
theorem laidOut:laidOutB Tryz.prog=true :=by kernel_rfl
set_option maxRecDepth 100000 in
theorem amR {W:World}(h:laidMet Tryz.prog [("rubrick/sha.begin",Rows.laid_rubrick_sha_begin),("rubrick/sha.rounds",Rows.laid_rubrick_sha_rounds),("rubrick/utf.letters",Rows.laid_rubrick_utf_letters),("rubrick/utf.shifts",Rows.laid_rubrick_utf_shifts)] W):∀i d,Go.J.G0 i=some d→mH W (fun b=>b<W.heap.size) i d:=by
 intro i d hd
 match i,hd with
 |0,hd=>
  cases hd
  exact Da (k:= .u32) (zs:= [1779033703,3144134277,1013904242,2773480762,1359893119,2600822924,528734635,1541459225]) h (.head _) (by kernel_rfl) (by kernel_rfl) Tryz.underlying155 Tryz.underlying154 (by kernel_rfl) (by kernel_rfl) (by decide) (by simp [oI,jv,lo,hi,Row.hd,Row.tl,DI.toInt])
 |1,hd=>
  cases hd
  exact Da (k:= .u32) (zs:= [1116352408,1899447441,3049323471,3921009573,961987163,1508970993,2453635748,2870763221,3624381080,310598401,607225278,1426881987,1925078388,2162078206,2614888103,3248222580,3835390401,4022224774,264347078,604807628,770255983,1249150122,1555081692,1996064986,2554220882,2821834349,2952996808,3210313671,3336571891,3584528711,113926993,338241895,666307205,773529912,1294757372,1396182291,1695183700,1986661051,2177026350,2456956037,2730485921,2820302411,3259730800,3345764771,3516065817,3600352804,4094571909,275423344,430227734,506948616,659060556,883997877,958139571,1322822218,1537002063,1747873779,1955562222,2024104815,2227730452,2361852424,2428436474,2756734187,3204031479,3329325298]) h (.tail _ (.head _)) (by kernel_rfl) (by kernel_rfl) Tryz.underlying227 Tryz.underlying154 (by kernel_rfl) (by kernel_rfl) (by decide) (by simp [oI,jv,lo,hi,Row.hd,Row.tl,DI.toInt,S.rO])
 |2,hd=>
  cases hd
  exact C9 (k:= .i64) (zss:= [[65,90],[97,122],[192,214],[216,246],[248,255],[913,929],[931,937],[945,969],[1024,1119]]) h (.tail _ (.tail _ (.head _))) (by kernel_rfl) (by kernel_rfl) Tryz.underlying234 Tryz.underlying233 (by kernel_rfl) (by kernel_rfl) rfl (fun i f hf=>by
   match i,hf with
   |0,hf=>cases hf;exact⟨rfl,Tryz.underlying3,by kernel_rfl⟩
   |1,hf=>cases hf;exact⟨rfl,Tryz.underlying3,by kernel_rfl⟩
   |i+2,hf=>simp at hf) (by decide) (by decide) (by simp [oI,jv,lo,hi,Row.hd,Row.tl,DI.toInt])
 |3,hd=>
  cases hd
  exact C9 (k:= .i64) (zss:= [[65,90,32],[192,214,32],[216,222,32],[913,929,32],[931,937,32],[1024,1039,80],[1040,1071,32]]) h (.tail _ (.tail _ (.tail _ (.head _)))) (by kernel_rfl) (by kernel_rfl) Tryz.underlying253 Tryz.underlying252 (by kernel_rfl) (by kernel_rfl) rfl (fun i f hf=>by
   match i,hf with
   |0,hf=>cases hf;exact⟨rfl,Tryz.underlying3,by kernel_rfl⟩
   |1,hf=>cases hf;exact⟨rfl,Tryz.underlying3,by kernel_rfl⟩
   |2,hf=>cases hf;exact⟨rfl,Tryz.underlying3,by kernel_rfl⟩
   |i+3,hf=>simp at hf) (by decide) (by decide) (by simp [oI,jv,lo,hi,Row.hd,Row.tl,DI.toInt])
 |_+4,hd=>cases hd
def apq(w:World)(cs:Array Value):World:= {w with heap:=w.heap.modify 0 fun
    | .cells _ t frozen=> .cells cs t frozen
    |o=>o}
def apr(w:World)(cs:Array Value):World:= {w with heap:=w.heap.modify 1 fun
    | .cells _ t frozen=> .cells cs t frozen
    |o=>o}
def aps(w:World)(cs:Array Value):World:= {w with heap:=w.heap.modify 2 fun
    | .cells _ t frozen=> .cells cs t frozen
    |o=>o}
def apt(w:World)(cs:Array Value):World:= {w with heap:=w.heap.modify 3 fun
    | .cells _ t frozen=> .cells cs t frozen
    |o=>o}
noncomputable def wB (os:Os):World:=apt (aps (apr (apq (World.holding Tryz.prog os ⟨#[], #[],[]⟩) #[.int .u32 1779033703, .int .u32 3144134277, .int .u32 1013904242, .int .u32 2773480762, .int .u32 1359893119, .int .u32 2600822924, .int .u32 528734635, .int .u32 1541459225]) #[.int .u32 1116352408, .int .u32 1899447441, .int .u32 3049323471, .int .u32 3921009573, .int .u32 961987163, .int .u32 1508970993, .int .u32 2453635748, .int .u32 2870763221, .int .u32 3624381080, .int .u32 310598401, .int .u32 607225278, .int .u32 1426881987, .int .u32 1925078388, .int .u32 2162078206, .int .u32 2614888103, .int .u32 3248222580, .int .u32 3835390401, .int .u32 4022224774, .int .u32 264347078, .int .u32 604807628, .int .u32 770255983, .int .u32 1249150122, .int .u32 1555081692, .int .u32 1996064986, .int .u32 2554220882, .int .u32 2821834349, .int .u32 2952996808, .int .u32 3210313671, .int .u32 3336571891, .int .u32 3584528711, .int .u32 113926993, .int .u32 338241895, .int .u32 666307205, .int .u32 773529912, .int .u32 1294757372, .int .u32 1396182291, .int .u32 1695183700, .int .u32 1986661051, .int .u32 2177026350, .int .u32 2456956037, .int .u32 2730485921, .int .u32 2820302411, .int .u32 3259730800, .int .u32 3345764771, .int .u32 3516065817, .int .u32 3600352804, .int .u32 4094571909, .int .u32 275423344, .int .u32 430227734, .int .u32 506948616, .int .u32 659060556, .int .u32 883997877, .int .u32 958139571, .int .u32 1322822218, .int .u32 1537002063, .int .u32 1747873779, .int .u32 1955562222, .int .u32 2024104815, .int .u32 2227730452, .int .u32 2361852424, .int .u32 2428436474, .int .u32 2756734187, .int .u32 3204031479, .int .u32 3329325298]) #[.int .i64 65, .int .i64 90, .int .i64 97, .int .i64 122, .int .i64 192, .int .i64 214, .int .i64 216, .int .i64 246, .int .i64 248, .int .i64 255, .int .i64 913, .int .i64 929, .int .i64 931, .int .i64 937, .int .i64 945, .int .i64 969, .int .i64 1024, .int .i64 1119]) #[.int .i64 65, .int .i64 90, .int .i64 32, .int .i64 192, .int .i64 214, .int .i64 32, .int .i64 216, .int .i64 222, .int .i64 32, .int .i64 913, .int .i64 929, .int .i64 32, .int .i64 931, .int .i64 937, .int .i64 32, .int .i64 1024, .int .i64 1039, .int .i64 80, .int .i64 1040, .int .i64 1071, .int .i64 32]
theorem aAa:Valid Tryz.prog Go.J.G0 13 (au Go.J.aAA fun _=>(True, .bool true,[])):=Go.J.aBa
theorem az3(os:Os):laidMet Tryz.prog Rows.headGrowsRow.laid ((wB os).forCall (fun _ _=>0) ⟨#[], #[.slice none 0 0, .slice none 0 0],[]⟩).memory:=
 laidMet_of_run' 8 (by kernel_rfl) (by kernel_rfl)
theorem aAb(os:Os) {H:Type}(enc:TypeId×Value→H):∃places,DataW.whole enc Tryz.prog ((wB os).forCall (fun _ _=>0) ⟨#[], #[.slice none 0 0, .slice none 0 0],[]⟩).memory Tryz.f13.params.toList Rows.headGrowsSpec.vars false (#[.slice none 0 0, .slice none 0 0]:Array Value).toList 8=some ([.nil, .nil],[],places):=
 ⟨[],by kernel_rfl⟩
set_option maxRecDepth 100000 in
theorem az8(os:Os)(started:os.Started)(H:Type)(enc:TypeId×Value→H)(F:Stop.Interp):
  ReturnsInHanded {} Tryz.checked os 13 .any ((OpenSpec.ofChange Rows.headGrowsSpec).preRow enc Tryz.prog Tryz.f13 Rows.headGrowsRow.domain false Rows.headGrowsRow.laid) (((OpenSpec.ofChange Rows.headGrowsSpec).at F).post enc Tryz.prog Tryz.f13 false true false false):=by
 obtain⟨places,hx⟩:=aAb os enc
 refine returnsInHanded_of_row (C:=Tryz.checked) (s:=OpenSpec.ofChange Rows.headGrowsSpec) own started (by kernel_rfl) Tryz.func13
  (witness_row_at (enc:=enc) (C:=Tryz.checked) false (wB os) #[.slice none 0 0, .slice none 0 0] rfl (by kernel_rfl) (by kernel_rfl) (by kernel_rfl)
    (OpenSpec.preRow_of_cond 8 hx (by kernel_rfl) (fun k hk=>by cases hk) (by kernel_rfl) (az3 os))) ?_
 intro W base args ds gs before Bk hW _ _ _ hL _ _
 refine Es (s:=Rows.headGrowsSpec) (bw.of Nt) laidOut aAa (show PS.Q5 fU Tryz.f13.params.toList=_ by kernel_rfl) (by kernel_rfl) (show Tryz.f13.resultTypes= #[4] by kernel_rfl) Tryz.underlying4 rfl ?_ (amR hL) Bk hW
 intro H ds z7
 have hn:Tryz.f13.params.toList.length=2:=by kernel_rfl
 rw [hn] at z7
 match ds,z7 with
 | [d0,d1],_=>rfl
theorem aAd:Rows.HeadGrowsSaid:=
 OpenClaim.holds_of_cond 13 Tryz.f13 rfl rfl rfl rfl rfl rfl rfl ⟨rfl,rfl,rfl,rfl,rfl⟩ rfl rfl rfl rfl rfl (by kernel_rfl) Tryz.func13 (by kernel_rfl)
  (of_decide_eq_true (by kernel_rfl)) (by unfold Func.isWrapper;first|(rw [if_pos (by decide+kernel)];kernel_rfl)|(rw [if_neg (by decide+kernel)];exact⟨rfl,rfl⟩))
  (fun os started H enc _ F=>by rw [OpenClaim.pre_eq_preRow];exact az8 os started H enc F)
theorem aAc(f:FuncId)(fn:Func)(hf:Tryz.pinned.checked.prog.funcNamed "rubrick/rubricklaw15.HeadGrows"=some f)(Lk:Tryz.pinned.checked.prog.funcs[f]? =some fn):
  false=Tryz.pinned.checked.prog.looks []∧∀(j:Nat) t,fn.params[j]? =some t→Tryz.pinned.checked.prog.wantsStandIn t=false :=by
 obtain rfl :f=13:=Option.some.inj ((show Tryz.prog.funcNamed "rubrick/rubricklaw15.HeadGrows"=some 13 by kernel_rfl).symm.trans hf) |>.symm
 obtain rfl :fn=Tryz.f13:=(Option.some.inj (Tryz.func13.symm.trans Lk)).symm
 refine⟨by kernel_rfl,fun j t ht=> ?_⟩
 have h1:(Tryz.f13.params.toList.all fun t=> !Tryz.prog.wantsStandIn t)=true :=by kernel_rfl
 have h2:=List.all_eq_true.1 h1 t (by simpa using Array.mem_of_getElem? ht)
 have h3:Tryz.prog.wantsStandIn t=false :=by simpa using h2
 exact h3
theorem headGrows_card:Rows.HeadGrowsCardSaid:=
 Claim7.holds_tied_plain_at .later [] _ _ _ _ aAd (fun _ h=>by cases h) (by kernel_rfl) (fun _ h=>by cases h) headGrows_row_tie rfl ⟨rfl,rfl⟩ (by kernel_rfl) rfl aAc (by kernel_rfl)
#print axioms headGrows_card
end Go.Proofs.YtcmmooohmnjklaaGreatDoor

end
