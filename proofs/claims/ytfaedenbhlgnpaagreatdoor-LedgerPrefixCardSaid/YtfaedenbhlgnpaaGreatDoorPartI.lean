/- LedgerPrefix: for every input the given Go function returns true and leaves its arguments as they were. Conditions: none. -/
import Derived.Test.YtfaedenbhlgnpaaGreatDoorPartH
import Derived.Test.YtfaedenbhlgnpaaGreatDoorCards
import Derived.Test.YtfaedenbhlgnpaaGreatDoorTie
import Derived.Deep.DeepHandedRow
import Derived.ProofKit
import Derived.OpenShut
set_option linter.unusedVariables false
set_option linter.unusedSimpArgs false
section
set_option linter.unusedVariables false
set_option maxHeartbeats 0
set_option maxRecDepth 100000
namespace Go.J
open Go.Proofs
open Go Vg
theorem PD:ak Tryz.prog RH:=ak.cons FE adU (aN.of Tryz.func117 (c:=body Tryz.f117) (by kernel_rfl) (by kernel_rfl))
theorem adV:Valid Tryz.prog G0 56 RJ:=Tryz.GL (fun _ _=>rfl)
theorem FF:ak Tryz.prog RL:=ak.cons PD adV (aN.of Tryz.func56 (c:=body Tryz.f56) (by kernel_rfl) (by kernel_rfl))
theorem adW:Valid Tryz.prog G0 116 RN:=ai FF mixed RM acf Tryz.func116 (c:=body Tryz.f116) (by kernel_rfl) (by
 rintro b hp hf
 have h:=abd b hp hf
 with_reducible refine Eq.mp ?_ h
 kernel_rfl)
theorem FG:ak Tryz.prog RO:=ak.cons FF adW (aN.of Tryz.func116 (c:=body Tryz.f116) (by kernel_rfl) (by kernel_rfl))
theorem adX:Valid Tryz.prog G0 58 RQ:=ai FG mixed RP ach Tryz.func58 (c:=body Tryz.f58) (by kernel_rfl) (by
 rintro⟨m1,m2⟩ hp hf
 have h:=abe m1 m2 hp hf
 with_reducible refine Eq.mp ?_ h
 kernel_rfl)
theorem FH:ak Tryz.prog RR:=ak.cons FG adX (aN.of Tryz.func58 (c:=body Tryz.f58) (by kernel_rfl) (by kernel_rfl))
theorem adY:Valid Tryz.prog G0 87 RT:=ai FH mixed RS acj Tryz.func87 (c:=body Tryz.f87) (by kernel_rfl) (by
 rintro⟨b,m⟩ hp hf
 have h:=abf b m hp hf
 with_reducible refine Eq.mp ?_ h
 kernel_rfl)
theorem FI:ak Tryz.prog RU:=ak.cons FH adY (aN.of Tryz.func87 (c:=body Tryz.f87) (by kernel_rfl) (by kernel_rfl))
theorem adZ:Valid Tryz.prog G0 55 RW:=ai FI mixed RV acm Tryz.func55 (c:=body Tryz.f55) (by kernel_rfl) (by
 rintro⟨d1,d2⟩ hp hf
 have h:=abg d1 d2 hp hf
 with_reducible refine Eq.mp ?_ h
 kernel_rfl)
theorem FJ:ak Tryz.prog RX:=ak.cons FI adZ (aN.of Tryz.func55 (c:=body Tryz.f55) (by kernel_rfl) (by kernel_rfl))
theorem ad0:Valid Tryz.prog G0 52 RZ:=ai FJ mixed RY aco Tryz.func52 (c:=body Tryz.f52) (by kernel_rfl) (by
 rintro⟨d1,d2⟩ hp hf
 have h:=abh d1 d2 hp hf
 with_reducible refine Eq.mp ?_ h
 kernel_rfl)
theorem FK:ak Tryz.prog R0:=ak.cons FJ ad0 (aN.of Tryz.func52 (c:=body Tryz.f52) (by kernel_rfl) (by kernel_rfl))
theorem ad1:Valid Tryz.prog G0 53 R2:=ai FK mixed R1 acq Tryz.func53 (c:=body Tryz.f53) (by kernel_rfl) (by
 rintro⟨d1,d2,n⟩ hp hf
 have h:=abi d1 d2 n hp hf
 with_reducible refine Eq.mp ?_ h
 kernel_rfl)
theorem FL:ak Tryz.prog R3:=ak.cons FK ad1 (aN.of Tryz.func53 (c:=body Tryz.f53) (by kernel_rfl) (by kernel_rfl))
theorem ad2:Valid Tryz.prog G0 54 R5:=ai FL mixed R4 acs Tryz.func54 (c:=body Tryz.f54) (by kernel_rfl) (by
 rintro⟨r1,r2,r3⟩ hp hf
 have h:=abj r1 r2 r3 hp hf
 with_reducible refine Eq.mp ?_ h
 kernel_rfl)
theorem FM:ak Tryz.prog R6:=ak.cons FL ad2 (aN.of Tryz.func54 (c:=body Tryz.f54) (by kernel_rfl) (by kernel_rfl))
theorem ad3:Valid Tryz.prog G0 67 R8:=ai FM mixed R7 acv Tryz.func67 (c:=body Tryz.f67) (by kernel_rfl) (by
 rintro⟨y1,y2,e1,e2,e3,e4⟩ hp hf
 have h:=abk y1 y2 e1 e2 e3 e4 hp hf
 with_reducible refine Eq.mp ?_ h
 kernel_rfl)
theorem FN:ak Tryz.prog R9:=ak.cons FM ad3 (aN.of Tryz.func67 (c:=body Tryz.f67) (by kernel_rfl) (by kernel_rfl))
theorem ad4:Valid Tryz.prog G0 69 Sb:=ai FN mixed Sa acx Tryz.func69 (c:=body Tryz.f69) (by kernel_rfl) (by
 rintro⟨y1,y2,e1,e2,e3,e4⟩ hp hf
 have h:=abl y1 y2 e1 e2 e3 e4 hp hf
 with_reducible refine Eq.mp ?_ h
 kernel_rfl)
theorem FO:ak Tryz.prog Sc:=ak.cons FN ad4 (aN.of Tryz.func69 (c:=body Tryz.f69) (by kernel_rfl) (by kernel_rfl))
theorem ad5:Valid Tryz.prog G0 71 Se:=ai FO mixed Sd acz Tryz.func71 (c:=body Tryz.f71) (by kernel_rfl) (by
 rintro⟨y1,y2,e1,e2,e3,e4⟩ hp hf
 have h:=abn y1 y2 e1 e2 e3 e4 hp hf
 with_reducible refine Eq.mp ?_ h
 kernel_rfl)
theorem FP:ak Tryz.prog Sf:=ak.cons FO ad5 (aN.of Tryz.func71 (c:=body Tryz.f71) (by kernel_rfl) (by kernel_rfl))
theorem ad6:Valid Tryz.prog G0 73 Si:=ai FP mixed Sh acB Tryz.func73 (c:=body Tryz.f73) (by kernel_rfl) (by
 rintro⟨y1,y2,e1,e2,e3,e4⟩ hp hf
 have h:=abo y1 y2 e1 e2 e3 e4 hp hf
 with_reducible refine Eq.mp ?_ h
 kernel_rfl)
theorem FQ:ak Tryz.prog Sj:=ak.cons FP ad6 (aN.of Tryz.func73 (c:=body Tryz.f73) (by kernel_rfl) (by kernel_rfl))
theorem ad7:Valid Tryz.prog G0 36 Sl:=ai FQ mixed Sk acD Tryz.func36 (c:=body Tryz.f36) (by kernel_rfl) (by
 rintro⟨⟩ hp hf
 have h:=abp hp hf
 with_reducible refine Eq.mp ?_ h
 kernel_rfl)
theorem FR:ak Tryz.prog Sm:=ak.cons FQ ad7 (aN.of Tryz.func36 (c:=body Tryz.f36) (by kernel_rfl) (by kernel_rfl))
theorem ad8:Valid Tryz.prog G0 11 Sq:=ai FR mixed Sn acF Tryz.func11 (c:=body Tryz.f11) (by kernel_rfl) (by
 rintro⟨y1,y2,e1,e2,e3,e4⟩ hp hf
 have h:=abq y1 y2 e1 e2 e3 e4 hp hf
 with_reducible refine Eq.mp ?_ h
 kernel_rfl)
theorem sQ:ak Tryz.prog Kg:=ak.cons FR ad8 (aN.of Tryz.func11 (c:=body Tryz.f11) (by kernel_rfl) (by kernel_rfl))
theorem ad9:Valid Tryz.prog G0 15 Ss:=ai (E:=acI) {fB:=sQ.fB,sig:=sQ.sig,nV:=sQ.nV} mixed Sr acH Tryz.func15 (c:=body Tryz.f15) (by kernel_rfl) (by
 rintro⟨e1,e2,e3,e4⟩ hp hf
 have h:=abr e1 e2 e3 e4 hp hf
 with_reducible refine Eq.mp ?_ h
 kernel_rfl)
theorem FT:ak Tryz.prog Su:=ak.cons sQ ad9 (aN.of Tryz.func15 (c:=body Tryz.f15) (by kernel_rfl) (by kernel_rfl))
theorem aea:Valid Tryz.prog G0 20 Sw:=ai FT mixed Sv acK Tryz.func20 (c:=body Tryz.f20) (by kernel_rfl) (by
 rintro⟨d1,d2⟩ hp hf
 have h:=abt d1 d2 hp hf
 with_reducible refine Eq.mp ?_ h
 kernel_rfl)
theorem FU:ak Tryz.prog Sx:=ak.cons FT aea (aN.of Tryz.func20 (c:=body Tryz.f20) (by kernel_rfl) (by kernel_rfl))
theorem aeb:Valid Tryz.prog G0 57 Sz:=ai FU mixed Sy acM Tryz.func57 (c:=body Tryz.f57) (by kernel_rfl) (by
 rintro⟨d1,d2,a,b⟩ hp hf
 have h:=abu d1 d2 a b hp hf
 with_reducible refine Eq.mp ?_ h
 kernel_rfl)
theorem FV:ak Tryz.prog SA:=ak.cons FU aeb (aN.of Tryz.func57 (c:=body Tryz.f57) (by kernel_rfl) (by kernel_rfl))
theorem aec:Valid Tryz.prog G0 21 SC:=ai FV mixed SB acO Tryz.func21 (c:=body Tryz.f21) (by kernel_rfl) (by
 rintro⟨d1,d2,s1,s2,s3,s4,e1,e2,e3,e4⟩ hp hf
 have h:=abv d1 d2 s1 s2 s3 s4 e1 e2 e3 e4 hp hf
 with_reducible refine Eq.mp ?_ h
 kernel_rfl)
theorem FW:ak Tryz.prog SD:=ak.cons FV aec (aN.of Tryz.func21 (c:=body Tryz.f21) (by kernel_rfl) (by kernel_rfl))
theorem aed:Valid Tryz.prog G0 22 SF:=ai FW mixed SE acQ Tryz.func22 (c:=body Tryz.f22) (by kernel_rfl) (by
 rintro⟨d1,d2,l,f⟩ hp hf
 have h:=abw d1 d2 l f hp hf
 with_reducible refine Eq.mp ?_ h
 kernel_rfl)
theorem FX:ak Tryz.prog SG:=ak.cons FW aed (aN.of Tryz.func22 (c:=body Tryz.f22) (by kernel_rfl) (by kernel_rfl))
theorem aee:Valid Tryz.prog G0 9 SI:=ai FX mixed SH acS Tryz.func9 (c:=body Tryz.f9) (by kernel_rfl) (by
 rintro⟨e1,e2,e3,e4⟩ hp hf
 have h:=abx e1 e2 e3 e4 hp hf
 with_reducible refine Eq.mp ?_ h
 kernel_rfl)
theorem FY:ak Tryz.prog SJ:=ak.cons FX aee (aN.of Tryz.func9 (c:=body Tryz.f9) (by kernel_rfl) (by kernel_rfl))
theorem aef:Valid Tryz.prog G0 94 SL:=ai FY mixed SK acU Tryz.func94 (c:=body Tryz.f94) (by kernel_rfl) (by
 rintro l hp hf
 have h:=aby l hp hf
 with_reducible refine Eq.mp ?_ h
 kernel_rfl)
theorem FZ:ak Tryz.prog SM:=ak.cons FY aef (aN.of Tryz.func94 (c:=body Tryz.f94) (by kernel_rfl) (by kernel_rfl))
theorem aeg:Valid Tryz.prog G0 96 SO:=ai FZ mixed SN acW Tryz.func96 (c:=body Tryz.f96) (by kernel_rfl) (by
 rintro l hp hf
 have h:=abz l hp hf
 with_reducible refine Eq.mp ?_ h
 kernel_rfl)
theorem F0:ak Tryz.prog SP:=ak.cons FZ aeg (aN.of Tryz.func96 (c:=body Tryz.f96) (by kernel_rfl) (by kernel_rfl))
theorem aeh:Valid Tryz.prog G0 97 SR:=ai F0 mixed SQ acY Tryz.func97 (c:=body Tryz.f97) (by kernel_rfl) (by
 rintro l hp hf
 have h:=abA l hp hf
 with_reducible refine Eq.mp ?_ h
 kernel_rfl)
theorem F1:ak Tryz.prog SS:=ak.cons F0 aeh (aN.of Tryz.func97 (c:=body Tryz.f97) (by kernel_rfl) (by kernel_rfl))
theorem aei:bZ Tryz.prog G0 64 SX:=dN F1 mixed SU SV ac0 Tryz.func64 (c:=body Tryz.f64) (by kernel_rfl) (by
 rintro⟨l1,l2,l3,l4,l5,l6,l7,l8⟩ ⟨⟩ hp hf hg
 have h:=abB l1 l2 l3 l4 l5 l6 l7 l8 hp hf hg
 with_reducible refine Eq.mp ?_ h
 kernel_rfl)
theorem Ņ:bZ Tryz.prog G0 64 SY:=aei
theorem F2:ak Tryz.prog SZ:=ak.eQ F1 Ņ (aN.of Tryz.func64 (c:=body Tryz.f64) (by kernel_rfl) (by kernel_rfl))
theorem aej:bZ Tryz.prog G0 65 S2:=dN F2 mixed S0 S1 ac2 Tryz.func65 (c:=body Tryz.f65) (by kernel_rfl) (by
 rintro⟨⟩ ⟨⟨d1,d2,s1,s2,s3,s4,up,fu⟩,⟨⟩⟩ hp hf hg
 have h:=abC d1 d2 s1 s2 s3 s4 up fu hp hf hg
 with_reducible refine Eq.mp ?_ h
 kernel_rfl)
theorem ņ:bZ Tryz.prog G0 65 S3:=aej
theorem F3:ak Tryz.prog S4:=ak.eQ F2 ņ (aN.of Tryz.func65 (c:=body Tryz.f65) (by kernel_rfl) (by kernel_rfl))
theorem aek:bZ Tryz.prog G0 93 S7:=dN F3 mixed S5 S6 ac4 Tryz.func93 (c:=body Tryz.f93) (by kernel_rfl) (by
 rintro l ⟨⟨d1,d2,s1,s2,s3,s4,up,fu⟩,⟨⟩⟩ hp hf hg
 have h:=abD l d1 d2 s1 s2 s3 s4 up fu hp hf hg
 with_reducible refine Eq.mp ?_ h
 kernel_rfl)
theorem Ň:bZ Tryz.prog G0 93 S8:=aek
theorem F4:ak Tryz.prog S9:=ak.eQ F3 Ň (aN.of Tryz.func93 (c:=body Tryz.f93) (by kernel_rfl) (by kernel_rfl))
theorem ael:Valid Tryz.prog G0 27 Tb:=ai F4 mixed Ta ac6 Tryz.func27 (c:=body Tryz.f27) (by kernel_rfl) (by
 rintro n hp hf
 have h:=abE n hp hf
 with_reducible refine Eq.mp ?_ h
 kernel_rfl)
theorem F5:ak Tryz.prog Tc:=ak.cons F4 ael (aN.of Tryz.func27 (c:=body Tryz.f27) (by kernel_rfl) (by kernel_rfl))
theorem aem:Valid Tryz.prog G0 63 Te:=ai F5 mixed Td ac8 Tryz.func63 (c:=body Tryz.f63) (by kernel_rfl) (by
 rintro⟨l1,l2,l3,l4,l5,l6,l7,l8,e1,e2,e3,e4⟩ hp hf
 have h:=abF l1 l2 l3 l4 l5 l6 l7 l8 e1 e2 e3 e4 hp hf
 with_reducible refine Eq.mp ?_ h
 kernel_rfl)
theorem F6:ak Tryz.prog Tf:=ak.cons F5 aem (aN.of Tryz.func63 (c:=body Tryz.f63) (by kernel_rfl) (by kernel_rfl))
theorem aen:Valid Tryz.prog G0 31 Th:=ai F6 mixed Tg ada Tryz.func31 (c:=body Tryz.f31) (by kernel_rfl) (by
 rintro⟨l1,l2,l3,l4,l5,l6,l7,l8,f⟩ hp hf
 have h:=abG l1 l2 l3 l4 l5 l6 l7 l8 f hp hf
 with_reducible refine Eq.mp ?_ h
 kernel_rfl)
theorem F7:ak Tryz.prog Ti:=ak.cons F6 aen (aN.of Tryz.func31 (c:=body Tryz.f31) (by kernel_rfl) (by kernel_rfl))
theorem aeo:Valid Tryz.prog G0 30 Tk:=ai F7 mixed Tj ade Tryz.func30 (c:=body Tryz.f30) (by kernel_rfl) (by
 rintro⟨l1,l2,l3,l4,l5,l6,l7,l8⟩ hp hf
 have h:=abH l1 l2 l3 l4 l5 l6 l7 l8 hp hf
 with_reducible refine Eq.mp ?_ h
 kernel_rfl)
theorem F8:ak Tryz.prog Tl:=ak.cons F7 aeo (aN.of Tryz.func30 (c:=body Tryz.f30) (by kernel_rfl) (by kernel_rfl))
theorem aep:Valid Tryz.prog G0 26 Tn:=ai F8 mixed Tm adg Tryz.func26 (c:=body Tryz.f26) (by kernel_rfl) (by
 rintro⟨⟩ hp hf
 have h:=abI hp hf
 with_reducible refine Eq.mp ?_ h
 kernel_rfl)
theorem F9:ak Tryz.prog To:=ak.cons F8 aep (aN.of Tryz.func26 (c:=body Tryz.f26) (by kernel_rfl) (by kernel_rfl))
theorem aeq:Valid Tryz.prog G0 28 Tq:=ai F9 mixed Tp adi Tryz.func28 (c:=body Tryz.f28) (by kernel_rfl) (by
 rintro⟨a1,a2,a3,a4,a5,a6,a7⟩ hp hf
 have h:=abJ a1 a2 a3 a4 a5 a6 a7 hp hf
 with_reducible refine Eq.mp ?_ h
 kernel_rfl)
theorem Ga:ak Tryz.prog Tr:=ak.cons F9 aeq (aN.of Tryz.func28 (c:=body Tryz.f28) (by kernel_rfl) (by kernel_rfl))
theorem aer:Valid Tryz.prog G0 29 Tt:=ai Ga mixed Ts adk Tryz.func29 (c:=body Tryz.f29) (by kernel_rfl) (by
 rintro⟨y1,y2,y3,y4,y5,y6,y7,y8,a1,a2,a3,a4,a5,a6,a7⟩ hp hf
 have h:=abK y1 y2 y3 y4 y5 y6 y7 y8 a1 a2 a3 a4 a5 a6 a7 hp hf
 with_reducible refine Eq.mp ?_ h
 kernel_rfl)
theorem PE:ak Tryz.prog adl:=ak.cons Ga aer (aN.of Tryz.func29 (c:=body Tryz.f29) (by kernel_rfl) (by kernel_rfl))
theorem aes:Valid Tryz.prog G0 7 ado:=ai PE mixed Kh adn Tryz.func7 (c:=body Tryz.f7) (by kernel_rfl) (by
 rintro⟨n,l,f⟩ hp hf
 have h:=abL n l f hp hf
 with_reducible refine Eq.mp ?_ h
 kernel_rfl)
end Go.J

end
section
set_option linter.unusedVariables false
namespace Go.Proofs.YtfaedenbhlgnpaaGreatDoor
open Go Go.Vg Go.ChangeShapes Go.WideShapes Go.ChangeAt Go.RowKit
theorem own:ownKnob Tryz.prog.godebug=none:=by kernel_rfl
theorem laidOut:laidOutB Tryz.prog=true :=by kernel_rfl
set_option maxRecDepth 100000 in
theorem al9 {W:World}(h:laidMet Tryz.prog [("rubrick/utf.letters",Rows.laid_rubrick_utf_letters),("rubrick/utf.shifts",Rows.laid_rubrick_utf_shifts)] W):∀i d,Go.J.G0 i=some d→oM W (fun b=>b<W.heap.size) i d:=by
 intro i d hd
 match i,hd with
 |1,hd=>
  cases hd
  exact E6 (k:= .i64) (zss:= [[65,90],[97,122],[192,214],[216,246],[248,255],[913,929],[931,937],[945,969],[1024,1119]]) h (.head _) (by kernel_rfl) (by kernel_rfl) Tryz.underlying232 Tryz.underlying231 (by kernel_rfl) (by kernel_rfl) rfl (fun i f hf=>by
   match i,hf with
   |0,hf=>cases hf;exact⟨rfl,Tryz.underlying3,by kernel_rfl⟩
   |1,hf=>cases hf;exact⟨rfl,Tryz.underlying3,by kernel_rfl⟩
   |i+2,hf=>simp at hf) (by decide) (by decide) (by simp [u5,lT,lo,hi,Row.hd,Row.tl,DI.toInt])
 |2,hd=>
  cases hd
  exact E6 (k:= .i64) (zss:= [[65,90,32],[192,214,32],[216,222,32],[913,929,32],[931,937,32],[1024,1039,80],[1040,1071,32]]) h (.tail _ (.head _)) (by kernel_rfl) (by kernel_rfl) Tryz.underlying251 Tryz.underlying250 (by kernel_rfl) (by kernel_rfl) rfl (fun i f hf=>by
   match i,hf with
   |0,hf=>cases hf;exact⟨rfl,Tryz.underlying3,by kernel_rfl⟩
   |1,hf=>cases hf;exact⟨rfl,Tryz.underlying3,by kernel_rfl⟩
   |2,hf=>cases hf;exact⟨rfl,Tryz.underlying3,by kernel_rfl⟩
   |i+3,hf=>simp at hf) (by decide) (by decide) (by simp [u5,lT,lo,hi,Row.hd,Row.tl,DI.toInt])
 |0,hd=>cases hd
 |_+3,hd=>cases hd
def aoO(w:World)(cs:Array Value):World:= {w with heap:=w.heap.modify 1 fun
    | .cells _ t frozen=> .cells cs t frozen
    |o=>o}
def aoP(w:World)(cs:Array Value):World:= {w with heap:=w.heap.modify 2 fun
    | .cells _ t frozen=> .cells cs t frozen
    |o=>o}
noncomputable def xQ (os:Os):World:=aoP (aoO (World.holding Tryz.prog os ⟨#[], #[],[]⟩) #[.int .i64 65, .int .i64 90, .int .i64 97, .int .i64 122, .int .i64 192, .int .i64 214, .int .i64 216, .int .i64 246, .int .i64 248, .int .i64 255, .int .i64 913, .int .i64 929, .int .i64 931, .int .i64 937, .int .i64 945, .int .i64 969, .int .i64 1024, .int .i64 1119]) #[.int .i64 65, .int .i64 90, .int .i64 32, .int .i64 192, .int .i64 214, .int .i64 32, .int .i64 216, .int .i64 222, .int .i64 32, .int .i64 913, .int .i64 929, .int .i64 32, .int .i64 931, .int .i64 937, .int .i64 32, .int .i64 1024, .int .i64 1039, .int .i64 80, .int .i64 1040, .int .i64 1071, .int .i64 32]
theorem wo:Valid Tryz.prog Go.J.G0 7 (aC Go.J.Kh fun _=>(True, .bool true,[])):=Go.J.aes
theorem sR(os:Os):laidMet Tryz.prog Rows.ledgerPrefixRow.laid ((xQ os).forCall (fun _ _=>0) ⟨#[], #[.int .i64 0, .slice none 0 0, .slice none 0 0],[]⟩).memory:=
 laidMet_of_run' 8 (by kernel_rfl) (by kernel_rfl)
theorem wu(os:Os) {H:Type}(enc:TypeId×Value→H):∃places,DataW.whole enc Tryz.prog ((xQ os).forCall (fun _ _=>0) ⟨#[], #[.int .i64 0, .slice none 0 0, .slice none 0 0],[]⟩).memory Tryz.f7.params.toList Rows.ledgerPrefixSpec.vars false (#[.int .i64 0, .slice none 0 0, .slice none 0 0]:Array Value).toList 8=some ([.lit (.int .i64 0), .nil, .nil],[],places):=
 ⟨[],by kernel_rfl⟩
set_option maxRecDepth 100000 in
theorem vk(os:Os)(started:os.Started)(H:Type)(enc:TypeId×Value→H)(F:Stop.Interp):
  ReturnsInHanded {} Tryz.checked os 7 .any ((OpenSpec.ofChange Rows.ledgerPrefixSpec).preRow enc Tryz.prog Tryz.f7 Rows.ledgerPrefixRow.domain false Rows.ledgerPrefixRow.laid) (((OpenSpec.ofChange Rows.ledgerPrefixSpec).at F).post enc Tryz.prog Tryz.f7 false true false false):=by
 obtain⟨places,hx⟩:=wu os enc
 refine returnsInHanded_of_row (C:=Tryz.checked) (s:=OpenSpec.ofChange Rows.ledgerPrefixSpec) own started (by kernel_rfl) Tryz.func7
  (witness_row_at (enc:=enc) (C:=Tryz.checked) false (xQ os) #[.int .i64 0, .slice none 0 0, .slice none 0 0] rfl (by kernel_rfl) (by kernel_rfl) (by kernel_rfl)
    (OpenSpec.preRow_of_cond 8 hx (by kernel_rfl) (fun k hk=>by cases hk) (by kernel_rfl) (sR os))) ?_
 intro W base args ds gs before Dd hW _ _ _ hL _ _
 refine Gw (s:=Rows.ledgerPrefixSpec) (bt.of Ql) laidOut wo (show PS.T1 fB Tryz.f7.params.toList=_ by kernel_rfl) (by kernel_rfl) (show Tryz.f7.resultTypes= #[4] by kernel_rfl) Tryz.underlying4 rfl ?_ (al9 hL) Dd hW
 intro H ds BV
 have hn:Tryz.f7.params.toList.length=3:=by kernel_rfl
 rw [hn] at BV
 match ds,BV with
 | [d0,d1,d2],_=>rfl
theorem xR:Rows.LedgerPrefixSaid:=
 OpenClaim.holds_of_cond 7 Tryz.f7 rfl rfl rfl rfl rfl rfl rfl ⟨rfl,rfl,rfl,rfl,rfl⟩ rfl rfl rfl rfl rfl (by kernel_rfl) Tryz.func7 (by kernel_rfl)
  (of_decide_eq_true (by kernel_rfl)) (by unfold Func.isWrapper;first|(rw [if_pos (by decide+kernel)];kernel_rfl)|(rw [if_neg (by decide+kernel)];exact⟨rfl,rfl⟩))
  (fun os started H enc _ F=>by rw [OpenClaim.pre_eq_preRow];exact vk os started H enc F)
theorem wv(f:FuncId)(fn:Func)(hf:Tryz.pinned.checked.prog.funcNamed "rubrick/rubricklaw24.LedgerPrefix"=some f)(Ns:Tryz.pinned.checked.prog.funcs[f]? =some fn):
  false=Tryz.pinned.checked.prog.looks []∧∀(j:Nat) t,fn.params[j]? =some t→Tryz.pinned.checked.prog.wantsStandIn t=false :=by
 obtain rfl :f=7:=Option.some.inj ((show Tryz.prog.funcNamed "rubrick/rubricklaw24.LedgerPrefix"=some 7 by kernel_rfl).symm.trans hf) |>.symm
 obtain rfl :fn=Tryz.f7:=(Option.some.inj (Tryz.func7.symm.trans Ns)).symm
 refine⟨by kernel_rfl,fun j t ht=> ?_⟩
 have h1:(Tryz.f7.params.toList.all fun t=> !Tryz.prog.wantsStandIn t)=true :=by kernel_rfl
 have h2:=List.all_eq_true.1 h1 t (by simpa using Array.mem_of_getElem? ht)
 have h3:Tryz.prog.wantsStandIn t=false :=by simpa using h2
 exact h3
theorem ledgerPrefix_card:Rows.LedgerPrefixCardSaid:=
 Claim7.holds_tied_plain_at .later [] _ _ _ _ xR (fun _ h=>by cases h) (by kernel_rfl) (fun _ h=>by cases h) ledgerPrefix_row_tie rfl ⟨rfl,rfl⟩ (by kernel_rfl) rfl wv (by kernel_rfl)
#print axioms ledgerPrefix_card
end Go.Proofs.YtfaedenbhlgnpaaGreatDoor

end
