/- KeepTells: for every input the given Go function returns true and leaves its arguments as they were. Conditions: none. -/
import Derived.Test.YtfaedenbhlgnpaaGreatDoorPartH
import Derived.Test.YtfaedenbhlgnpaaGreatDoorCards
import Derived.Test.YtfaedenbhlgnpaaGreatDoorTie
import Derived.Deep.DeepHandedRow
import Derived.ProofKit
import Derived.OpenShut
set_option linter.unusedVariables false
set_option linter.unusedSimpArgs false
section
set_option linter.unusedVariables false
set_option maxHeartbeats 0
set_option maxRecDepth 100000
namespace Go.J
open Go.Proofs
open Go Vg
theorem abY:Valid Tryz.prog G0 66 Qq:=ah EY mixed Qp aar Tryz.func66 (c:=body Tryz.f66) (by kernel_rfl) (by
 rintro n hp hf
 have h:=ũ n hp hf
 with_reducible refine Eq.mp ?_ h
 kernel_rfl)
theorem EZ:ak Tryz.prog Qr:=ak.cons EY abY (aP.of Tryz.func66 (c:=body Tryz.f66) (by kernel_rfl) (by kernel_rfl))
theorem abZ:Valid Tryz.prog G0 62 Qt:=ah EZ mixed Qs aat Tryz.func62 (c:=body Tryz.f62) (by kernel_rfl) (by
 rintro⟨d1,d2⟩ hp hf
 have h:=Ū d1 d2 hp hf
 with_reducible refine Eq.mp ?_ h
 kernel_rfl)
theorem E1:ak Tryz.prog Qu:=ak.cons EZ abZ (aP.of Tryz.func62 (c:=body Tryz.f62) (by kernel_rfl) (by kernel_rfl))
theorem ab1:Valid Tryz.prog G0 50 Qw:=ah E1 mixed Qv aav Tryz.func50 (c:=body Tryz.f50) (by kernel_rfl) (by
 rintro⟨d1,d2⟩ hp hf
 have h:=ū d1 d2 hp hf
 with_reducible refine Eq.mp ?_ h
 kernel_rfl)
theorem E2:ak Tryz.prog Qx:=ak.cons E1 ab1 (aP.of Tryz.func50 (c:=body Tryz.f50) (by kernel_rfl) (by kernel_rfl))
theorem ab2:Valid Tryz.prog G0 61 Qz:=ah E2 mixed Qy aax Tryz.func61 (c:=body Tryz.f61) (by kernel_rfl) (by
 rintro⟨d1,d2⟩ hp hf
 have h:=Ŭ d1 d2 hp hf
 with_reducible refine Eq.mp ?_ h
 kernel_rfl)
theorem E3:ak Tryz.prog QA:=ak.cons E2 ab2 (aP.of Tryz.func61 (c:=body Tryz.f61) (by kernel_rfl) (by kernel_rfl))
theorem ab3:Valid Tryz.prog G0 51 QC:=ah E3 mixed QB aaz Tryz.func51 (c:=body Tryz.f51) (by kernel_rfl) (by
 rintro⟨d1,d2⟩ hp hf
 have h:=ŭ d1 d2 hp hf
 with_reducible refine Eq.mp ?_ h
 kernel_rfl)
theorem E4:ak Tryz.prog QD:=ak.cons E3 ab3 (aP.of Tryz.func51 (c:=body Tryz.f51) (by kernel_rfl) (by kernel_rfl))
theorem ab4:Valid Tryz.prog G0 35 QF:=ah E4 mixed QE aaB Tryz.func35 (c:=body Tryz.f35) (by kernel_rfl) (by
 rintro n hp hf
 have h:=Ů n hp hf
 with_reducible refine Eq.mp ?_ h
 kernel_rfl)
theorem E5:ak Tryz.prog QG:=ak.cons E4 ab4 (aP.of Tryz.func35 (c:=body Tryz.f35) (by kernel_rfl) (by kernel_rfl))
theorem ab5:Valid Tryz.prog G0 86 QI:=ah E5 mixed QH aaD Tryz.func86 (c:=body Tryz.f86) (by kernel_rfl) (by
 rintro⟨d1,d2,i⟩ hp hf
 have h:=ů d1 d2 i hp hf
 with_reducible refine Eq.mp ?_ h
 kernel_rfl)
theorem E6:ak Tryz.prog QJ:=ak.cons E5 ab5 (aP.of Tryz.func86 (c:=body Tryz.f86) (by kernel_rfl) (by kernel_rfl))
theorem ab6:Valid Tryz.prog G0 60 QL:=ah E6 mixed QK aaF Tryz.func60 (c:=body Tryz.f60) (by kernel_rfl) (by
 rintro⟨d1,d2,i,b⟩ hp hf
 have h:=Ű d1 d2 i b hp hf
 with_reducible refine Eq.mp ?_ h
 kernel_rfl)
theorem E7:ak Tryz.prog QM:=ak.cons E6 ab6 (aP.of Tryz.func60 (c:=body Tryz.f60) (by kernel_rfl) (by kernel_rfl))
theorem ab7:Valid Tryz.prog G0 59 QO:=ah E7 mixed QN aaH Tryz.func59 (c:=body Tryz.f59) (by kernel_rfl) (by
 rintro⟨d1,d2⟩ hp hf
 have h:=ű d1 d2 hp hf
 with_reducible refine Eq.mp ?_ h
 kernel_rfl)
theorem E8:ak Tryz.prog QP:=ak.cons E7 ab7 (aP.of Tryz.func59 (c:=body Tryz.f59) (by kernel_rfl) (by kernel_rfl))
theorem ab8:Valid Tryz.prog G0 23 QR:=ah E8 mixed QQ aaJ Tryz.func23 (c:=body Tryz.f23) (by kernel_rfl) (by
 rintro⟨d1,d2,keep⟩ hp hf
 have h:=Ų d1 d2 keep hp hf
 with_reducible refine Eq.mp ?_ h
 kernel_rfl)
theorem E9:ak Tryz.prog QS:=ak.cons E8 ab8 (aP.of Tryz.func23 (c:=body Tryz.f23) (by kernel_rfl) (by kernel_rfl))
theorem ab9:Valid Tryz.prog G0 117 QU:=ah E9 mixed QT aaL Tryz.func117 (c:=body Tryz.f117) (by kernel_rfl) (by
 rintro⟨a,b⟩ hp hf
 have h:=ų a b hp hf
 with_reducible refine Eq.mp ?_ h
 kernel_rfl)
theorem OO:ak Tryz.prog QV:=ak.cons E9 ab9 (aP.of Tryz.func117 (c:=body Tryz.f117) (by kernel_rfl) (by kernel_rfl))
theorem aca:Valid Tryz.prog G0 56 QW:=Tryz.F6 (fun _ _=>rfl)
theorem Fa:ak Tryz.prog QX:=ak.cons OO aca (aP.of Tryz.func56 (c:=body Tryz.f56) (by kernel_rfl) (by kernel_rfl))
theorem acb:Valid Tryz.prog G0 116 QZ:=ah Fa mixed QY aaP Tryz.func116 (c:=body Tryz.f116) (by kernel_rfl) (by
 rintro b hp hf
 have h:=Ŵ b hp hf
 with_reducible refine Eq.mp ?_ h
 kernel_rfl)
theorem Fb:ak Tryz.prog Q0:=ak.cons Fa acb (aP.of Tryz.func116 (c:=body Tryz.f116) (by kernel_rfl) (by kernel_rfl))
theorem acd:Valid Tryz.prog G0 58 Q2:=ah Fb mixed Q1 aaR Tryz.func58 (c:=body Tryz.f58) (by kernel_rfl) (by
 rintro⟨m1,m2⟩ hp hf
 have h:=ŵ m1 m2 hp hf
 with_reducible refine Eq.mp ?_ h
 kernel_rfl)
theorem Fc:ak Tryz.prog Q3:=ak.cons Fb acd (aP.of Tryz.func58 (c:=body Tryz.f58) (by kernel_rfl) (by kernel_rfl))
theorem ace:Valid Tryz.prog G0 87 Q5:=ah Fc mixed Q4 aaT Tryz.func87 (c:=body Tryz.f87) (by kernel_rfl) (by
 rintro⟨b,m⟩ hp hf
 have h:=Ŷ b m hp hf
 with_reducible refine Eq.mp ?_ h
 kernel_rfl)
theorem Fe:ak Tryz.prog Q6:=ak.cons Fc ace (aP.of Tryz.func87 (c:=body Tryz.f87) (by kernel_rfl) (by kernel_rfl))
theorem acf:Valid Tryz.prog G0 55 Q8:=ah Fe mixed Q7 aaV Tryz.func55 (c:=body Tryz.f55) (by kernel_rfl) (by
 rintro⟨d1,d2⟩ hp hf
 have h:=ŷ d1 d2 hp hf
 with_reducible refine Eq.mp ?_ h
 kernel_rfl)
theorem Ff:ak Tryz.prog Q9:=ak.cons Fe acf (aP.of Tryz.func55 (c:=body Tryz.f55) (by kernel_rfl) (by kernel_rfl))
theorem acg:Valid Tryz.prog G0 52 Rb:=ah Ff mixed Ra aaX Tryz.func52 (c:=body Tryz.f52) (by kernel_rfl) (by
 rintro⟨d1,d2⟩ hp hf
 have h:=Ÿ d1 d2 hp hf
 with_reducible refine Eq.mp ?_ h
 kernel_rfl)
theorem Fg:ak Tryz.prog Rc:=ak.cons Ff acg (aP.of Tryz.func52 (c:=body Tryz.f52) (by kernel_rfl) (by kernel_rfl))
theorem ach:Valid Tryz.prog G0 53 Rf:=ah Fg mixed Re aaZ Tryz.func53 (c:=body Tryz.f53) (by kernel_rfl) (by
 rintro⟨d1,d2,n⟩ hp hf
 have h:=Ź d1 d2 n hp hf
 with_reducible refine Eq.mp ?_ h
 kernel_rfl)
theorem Fh:ak Tryz.prog Rg:=ak.cons Fg ach (aP.of Tryz.func53 (c:=body Tryz.f53) (by kernel_rfl) (by kernel_rfl))
theorem aci:Valid Tryz.prog G0 54 Ri:=ah Fh mixed Rh aa1 Tryz.func54 (c:=body Tryz.f54) (by kernel_rfl) (by
 rintro⟨r1,r2,r3⟩ hp hf
 have h:=ź r1 r2 r3 hp hf
 with_reducible refine Eq.mp ?_ h
 kernel_rfl)
theorem Fi:ak Tryz.prog Rj:=ak.cons Fh aci (aP.of Tryz.func54 (c:=body Tryz.f54) (by kernel_rfl) (by kernel_rfl))
theorem acj:Valid Tryz.prog G0 67 Rl:=ah Fi mixed Rk aa3 Tryz.func67 (c:=body Tryz.f67) (by kernel_rfl) (by
 rintro⟨y1,y2,e1,e2,e3,e4⟩ hp hf
 have h:=Ż y1 y2 e1 e2 e3 e4 hp hf
 with_reducible refine Eq.mp ?_ h
 kernel_rfl)
theorem Fj:ak Tryz.prog Rm:=ak.cons Fi acj (aP.of Tryz.func67 (c:=body Tryz.f67) (by kernel_rfl) (by kernel_rfl))
theorem ack:Valid Tryz.prog G0 69 Ro:=ah Fj mixed Rn aa5 Tryz.func69 (c:=body Tryz.f69) (by kernel_rfl) (by
 rintro⟨y1,y2,e1,e2,e3,e4⟩ hp hf
 have h:=ż y1 y2 e1 e2 e3 e4 hp hf
 with_reducible refine Eq.mp ?_ h
 kernel_rfl)
theorem Fk:ak Tryz.prog Rp:=ak.cons Fj ack (aP.of Tryz.func69 (c:=body Tryz.f69) (by kernel_rfl) (by kernel_rfl))
theorem acm:Valid Tryz.prog G0 71 Rr:=ah Fk mixed Rq aa7 Tryz.func71 (c:=body Tryz.f71) (by kernel_rfl) (by
 rintro⟨y1,y2,e1,e2,e3,e4⟩ hp hf
 have h:=Ž y1 y2 e1 e2 e3 e4 hp hf
 with_reducible refine Eq.mp ?_ h
 kernel_rfl)
theorem Fl:ak Tryz.prog Rs:=ak.cons Fk acm (aP.of Tryz.func71 (c:=body Tryz.f71) (by kernel_rfl) (by kernel_rfl))
theorem acn:Valid Tryz.prog G0 73 Ru:=ah Fl mixed Rt aa9 Tryz.func73 (c:=body Tryz.f73) (by kernel_rfl) (by
 rintro⟨y1,y2,e1,e2,e3,e4⟩ hp hf
 have h:=ž y1 y2 e1 e2 e3 e4 hp hf
 with_reducible refine Eq.mp ?_ h
 kernel_rfl)
theorem Fm:ak Tryz.prog Rv:=ak.cons Fl acn (aP.of Tryz.func73 (c:=body Tryz.f73) (by kernel_rfl) (by kernel_rfl))
theorem aco:Valid Tryz.prog G0 36 Rx:=ah Fm mixed Rw abb Tryz.func36 (c:=body Tryz.f36) (by kernel_rfl) (by
 rintro⟨⟩ hp hf
 have h:=ſ hp hf
 with_reducible refine Eq.mp ?_ h
 kernel_rfl)
theorem Fo:ak Tryz.prog Ry:=ak.cons Fm aco (aP.of Tryz.func36 (c:=body Tryz.f36) (by kernel_rfl) (by kernel_rfl))
theorem acp:Valid Tryz.prog G0 11 RA:=ah Fo mixed Rz abd Tryz.func11 (c:=body Tryz.f11) (by kernel_rfl) (by
 rintro⟨y1,y2,e1,e2,e3,e4⟩ hp hf
 have h:=aaa y1 y2 e1 e2 e3 e4 hp hf
 with_reducible refine Eq.mp ?_ h
 kernel_rfl)
theorem sI:ak Tryz.prog JC:=ak.cons Fo acp (aP.of Tryz.func11 (c:=body Tryz.f11) (by kernel_rfl) (by kernel_rfl))
theorem acq:Valid Tryz.prog G0 15 RC:=ah (E:=abg) {fu:=sI.fu,sig:=sI.sig,nJ:=sI.nJ} mixed RB abf Tryz.func15 (c:=body Tryz.f15) (by kernel_rfl) (by
 rintro⟨e1,e2,e3,e4⟩ hp hf
 have h:=aab e1 e2 e3 e4 hp hf
 with_reducible refine Eq.mp ?_ h
 kernel_rfl)
theorem Fp:ak Tryz.prog RD:=ak.cons sI acq (aP.of Tryz.func15 (c:=body Tryz.f15) (by kernel_rfl) (by kernel_rfl))
theorem acr:Valid Tryz.prog G0 20 RF:=ah Fp mixed RE abi Tryz.func20 (c:=body Tryz.f20) (by kernel_rfl) (by
 rintro⟨d1,d2⟩ hp hf
 have h:=aac d1 d2 hp hf
 with_reducible refine Eq.mp ?_ h
 kernel_rfl)
theorem Fq:ak Tryz.prog RG:=ak.cons Fp acr (aP.of Tryz.func20 (c:=body Tryz.f20) (by kernel_rfl) (by kernel_rfl))
theorem acs:Valid Tryz.prog G0 57 RJ:=ah Fq mixed RH abk Tryz.func57 (c:=body Tryz.f57) (by kernel_rfl) (by
 rintro⟨d1,d2,a,b⟩ hp hf
 have h:=aad d1 d2 a b hp hf
 with_reducible refine Eq.mp ?_ h
 kernel_rfl)
theorem Fu:ak Tryz.prog RL:=ak.cons Fq acs (aP.of Tryz.func57 (c:=body Tryz.f57) (by kernel_rfl) (by kernel_rfl))
theorem acu:Valid Tryz.prog G0 21 RN:=ah Fu mixed RM abn Tryz.func21 (c:=body Tryz.f21) (by kernel_rfl) (by
 rintro⟨d1,d2,s1,s2,s3,s4,e1,e2,e3,e4⟩ hp hf
 have h:=aae d1 d2 s1 s2 s3 s4 e1 e2 e3 e4 hp hf
 with_reducible refine Eq.mp ?_ h
 kernel_rfl)
theorem Fv:ak Tryz.prog RO:=ak.cons Fu acu (aP.of Tryz.func21 (c:=body Tryz.f21) (by kernel_rfl) (by kernel_rfl))
theorem acv:Valid Tryz.prog G0 22 RQ:=ah Fv mixed RP abp Tryz.func22 (c:=body Tryz.f22) (by kernel_rfl) (by
 rintro⟨d1,d2,l,f⟩ hp hf
 have h:=aaf d1 d2 l f hp hf
 with_reducible refine Eq.mp ?_ h
 kernel_rfl)
theorem Fw:ak Tryz.prog RR:=ak.cons Fv acv (aP.of Tryz.func22 (c:=body Tryz.f22) (by kernel_rfl) (by kernel_rfl))
theorem acw:Valid Tryz.prog G0 10 RT:=ah Fw mixed RS abr Tryz.func10 (c:=body Tryz.f10) (by kernel_rfl) (by
 rintro⟨⟩ hp hf
 have h:=aag hp hf
 with_reducible refine Eq.mp ?_ h
 kernel_rfl)
theorem Fx:ak Tryz.prog RU:=ak.cons Fw acw (aP.of Tryz.func10 (c:=body Tryz.f10) (by kernel_rfl) (by kernel_rfl))
theorem acx:Valid Tryz.prog G0 9 RW:=ah Fx mixed RV abu Tryz.func9 (c:=body Tryz.f9) (by kernel_rfl) (by
 rintro⟨e1,e2,e3,e4⟩ hp hf
 have h:=aah e1 e2 e3 e4 hp hf
 with_reducible refine Eq.mp ?_ h
 kernel_rfl)
theorem Fy:ak Tryz.prog RX:=ak.cons Fx acx (aP.of Tryz.func9 (c:=body Tryz.f9) (by kernel_rfl) (by kernel_rfl))
theorem acy:Valid Tryz.prog G0 19 RZ:=ah Fy mixed RY abw Tryz.func19 (c:=body Tryz.f19) (by kernel_rfl) (by
 rintro⟨n,l⟩ hp hf
 have h:=aai n l hp hf
 with_reducible refine Eq.mp ?_ h
 kernel_rfl)
theorem OP:ak Tryz.prog abx:=ak.cons Fy acy (aP.of Tryz.func19 (c:=body Tryz.f19) (by kernel_rfl) (by kernel_rfl))
theorem acz:Valid Tryz.prog G0 6 abA:=ah OP mixed JD abz Tryz.func6 (c:=body Tryz.f6) (by kernel_rfl) (by
 rintro l hp hf
 have h:=aaj l hp hf
 with_reducible refine Eq.mp ?_ h
 kernel_rfl)
end Go.J

end
section
set_option linter.unusedVariables false
namespace Go.Proofs.YtfaedenbhlgnpaaGreatDoor
open Go Go.Vg Go.ChangeShapes Go.WideShapes Go.ChangeAt Go.RowKit
theorem own:ownKnob Tryz.prog.godebug=none:=by kernel_rfl
theorem laidOut:laidOutB Tryz.prog=true :=by kernel_rfl
set_option maxRecDepth 100000 in
theorem aj1 {W:World}(h:laidMet Tryz.prog [("rubrick/utf.letters",Rows.laid_rubrick_utf_letters),("rubrick/utf.shifts",Rows.laid_rubrick_utf_shifts)] W):∀i d,Go.J.G0 i=some d→oA W (fun b=>b<W.heap.size) i d:=by
 intro i d hd
 match i,hd with
 |1,hd=>
  cases hd
  exact EH (k:= .i64) (zss:= [[65,90],[97,122],[192,214],[216,246],[248,255],[913,929],[931,937],[945,969],[1024,1119]]) h (.head _) (by kernel_rfl) (by kernel_rfl) Tryz.underlying232 Tryz.underlying231 (by kernel_rfl) (by kernel_rfl) rfl (fun i f hf=>by
   match i,hf with
   |0,hf=>cases hf;exact⟨rfl,Tryz.underlying3,by kernel_rfl⟩
   |1,hf=>cases hf;exact⟨rfl,Tryz.underlying3,by kernel_rfl⟩
   |i+2,hf=>simp at hf) (by decide) (by decide) (by simp [uO,lO,lo,hi,Row.hd,Row.tl,DI.toInt])
 |2,hd=>
  cases hd
  exact EH (k:= .i64) (zss:= [[65,90,32],[192,214,32],[216,222,32],[913,929,32],[931,937,32],[1024,1039,80],[1040,1071,32]]) h (.tail _ (.head _)) (by kernel_rfl) (by kernel_rfl) Tryz.underlying251 Tryz.underlying250 (by kernel_rfl) (by kernel_rfl) rfl (fun i f hf=>by
   match i,hf with
   |0,hf=>cases hf;exact⟨rfl,Tryz.underlying3,by kernel_rfl⟩
   |1,hf=>cases hf;exact⟨rfl,Tryz.underlying3,by kernel_rfl⟩
   |2,hf=>cases hf;exact⟨rfl,Tryz.underlying3,by kernel_rfl⟩
   |i+3,hf=>simp at hf) (by decide) (by decide) (by simp [uO,lO,lo,hi,Row.hd,Row.tl,DI.toInt])
 |0,hd=>cases hd
 |_+3,hd=>cases hd
def amH(w:World)(cs:Array Value):World:= {w with heap:=w.heap.modify 1 fun
    | .cells _ t frozen=> .cells cs t frozen
    |o=>o}
def amI(w:World)(cs:Array Value):World:= {w with heap:=w.heap.modify 2 fun
    | .cells _ t frozen=> .cells cs t frozen
    |o=>o}
noncomputable def xz (os:Os):World:=amI (amH (World.holding Tryz.prog os ⟨#[], #[],[]⟩) #[.int .i64 65, .int .i64 90, .int .i64 97, .int .i64 122, .int .i64 192, .int .i64 214, .int .i64 216, .int .i64 246, .int .i64 248, .int .i64 255, .int .i64 913, .int .i64 929, .int .i64 931, .int .i64 937, .int .i64 945, .int .i64 969, .int .i64 1024, .int .i64 1119]) #[.int .i64 65, .int .i64 90, .int .i64 32, .int .i64 192, .int .i64 214, .int .i64 32, .int .i64 216, .int .i64 222, .int .i64 32, .int .i64 913, .int .i64 929, .int .i64 32, .int .i64 931, .int .i64 937, .int .i64 32, .int .i64 1024, .int .i64 1039, .int .i64 80, .int .i64 1040, .int .i64 1071, .int .i64 32]
theorem Am:Valid Tryz.prog Go.J.G0 6 (aC Go.J.JD fun _=>(True, .bool true,[])):=Go.J.acz
theorem vS(os:Os):laidMet Tryz.prog Rows.keepTellsRow.laid ((xz os).forCall (fun _ _=>0) ⟨#[], #[.slice none 0 0],[]⟩).memory:=
 laidMet_of_run' 8 (by kernel_rfl) (by kernel_rfl)
theorem Ao(os:Os) {H:Type}(enc:TypeId×Value→H):∃places,DataW.whole enc Tryz.prog ((xz os).forCall (fun _ _=>0) ⟨#[], #[.slice none 0 0],[]⟩).memory Tryz.f6.params.toList Rows.keepTellsSpec.vars false (#[.slice none 0 0]:Array Value).toList 8=some ([.nil],[],places):=
 ⟨[],by kernel_rfl⟩
set_option maxRecDepth 100000 in
theorem zd(os:Os)(started:os.Started)(H:Type)(enc:TypeId×Value→H)(F:Stop.Interp):
  ReturnsInHanded {} Tryz.checked os 6 .any ((OpenSpec.ofChange Rows.keepTellsSpec).preRow enc Tryz.prog Tryz.f6 Rows.keepTellsRow.domain false Rows.keepTellsRow.laid) (((OpenSpec.ofChange Rows.keepTellsSpec).at F).post enc Tryz.prog Tryz.f6 false true false false):=by
 obtain⟨places,hx⟩:=Ao os enc
 refine returnsInHanded_of_row (C:=Tryz.checked) (s:=OpenSpec.ofChange Rows.keepTellsSpec) own started (by kernel_rfl) Tryz.func6
  (witness_row_at (enc:=enc) (C:=Tryz.checked) false (xz os) #[.slice none 0 0] rfl (by kernel_rfl) (by kernel_rfl) (by kernel_rfl)
    (OpenSpec.preRow_of_cond 8 hx (by kernel_rfl) (fun k hk=>by cases hk) (by kernel_rfl) (vS os))) ?_
 intro W base args ds gs before CP hW _ _ _ hL _ _
 refine FT (s:=Rows.keepTellsSpec) (bw.of PA) laidOut Am (show PS.Sx fu Tryz.f6.params.toList=_ by kernel_rfl) (by kernel_rfl) (show Tryz.f6.resultTypes= #[4] by kernel_rfl) Tryz.underlying4 rfl ?_ (aj1 hL) CP hW
 intro H ds Bz
 have hn:Tryz.f6.params.toList.length=1:=by kernel_rfl
 rw [hn] at Bz
 match ds,Bz with
 | [d0],_=>rfl
theorem BP:Rows.KeepTellsSaid:=
 OpenClaim.holds_of_cond 6 Tryz.f6 rfl rfl rfl rfl rfl rfl rfl ⟨rfl,rfl,rfl,rfl,rfl⟩ rfl rfl rfl rfl rfl (by kernel_rfl) Tryz.func6 (by kernel_rfl)
  (of_decide_eq_true (by kernel_rfl)) (by unfold Func.isWrapper;first|(rw [if_pos (by decide+kernel)];kernel_rfl)|(rw [if_neg (by decide+kernel)];exact⟨rfl,rfl⟩))
  (fun os started H enc _ F=>by rw [OpenClaim.pre_eq_preRow];exact zd os started H enc F)
theorem Ap(f:FuncId)(fn:Func)(hf:Tryz.pinned.checked.prog.funcNamed "rubrick/rubricklaw23.KeepTells"=some f)(ME:Tryz.pinned.checked.prog.funcs[f]? =some fn):
  false=Tryz.pinned.checked.prog.looks []∧∀(j:Nat) t,fn.params[j]? =some t→Tryz.pinned.checked.prog.wantsStandIn t=false :=by
 obtain rfl :f=6:=Option.some.inj ((show Tryz.prog.funcNamed "rubrick/rubricklaw23.KeepTells"=some 6 by kernel_rfl).symm.trans hf) |>.symm
 obtain rfl :fn=Tryz.f6:=(Option.some.inj (Tryz.func6.symm.trans ME)).symm
 refine⟨by kernel_rfl,fun j t ht=> ?_⟩
 have h1:(Tryz.f6.params.toList.all fun t=> !Tryz.prog.wantsStandIn t)=true :=by kernel_rfl
 have h2:=List.all_eq_true.1 h1 t (by simpa using Array.mem_of_getElem? ht)
 have h3:Tryz.prog.wantsStandIn t=false :=by simpa using h2
 exact h3
theorem keepTells_card:Rows.KeepTellsCardSaid:=
 Claim7.holds_tied_plain_at .later [] _ _ _ _ BP (fun _ h=>by cases h) (by kernel_rfl) (fun _ h=>by cases h) keepTells_row_tie rfl ⟨rfl,rfl⟩ (by kernel_rfl) rfl Ap (by kernel_rfl)
#print axioms keepTells_card
end Go.Proofs.YtfaedenbhlgnpaaGreatDoor

end
