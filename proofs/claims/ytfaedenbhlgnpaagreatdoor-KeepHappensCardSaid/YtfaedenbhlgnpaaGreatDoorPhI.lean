/- KeepHappens: for every input the given Go function returns true and leaves its arguments as they were. Conditions: none. -/
import Derived.Test.YtfaedenbhlgnpaaGreatDoorPhH
import Derived.Test.YtfaedenbhlgnpaaGreatDoorCards
import Derived.Test.YtfaedenbhlgnpaaGreatDoorTie
import Derived.Deep.DeepHandedRow
import Derived.ProofKit
import Derived.OpenShut
set_option linter.unusedVariables false
set_option linter.unusedSimpArgs false
section
set_option linter.unusedVariables false
set_option maxHeartbeats 0
set_option maxRecDepth 100000
namespace Go.J
open Go.Proofs
open Go Vg
theorem aro:Valid Tryz.prog G0 79 ab2:=ag JA mixed ab1 apD Tryz.func79 (c:=body Tryz.f79) (by kernel_rfl) (by
 rintro⟨y1,y2⟩ hp hf;have h:=amG y1 y2 hp hf;with_reducible refine Eq.mp ?_ h
 kernel_rfl)
theorem JB:ai Tryz.prog ab3:=ai.cons JA aro (aD.of Tryz.func79 (c:=body Tryz.f79) (by kernel_rfl) (by kernel_rfl))
theorem arp:Valid Tryz.prog G0 78 ab5:=ag JB mixed ab4 apF Tryz.func78 (c:=body Tryz.f78) (by kernel_rfl) (by
 rintro⟨y1,y2,l⟩ hp hf;have h:=amH y1 y2 l hp hf;with_reducible refine Eq.mp ?_ h
 kernel_rfl)
theorem JC:ai Tryz.prog ab6:=ai.cons JB arp (aD.of Tryz.func78 (c:=body Tryz.f78) (by kernel_rfl) (by kernel_rfl))
theorem arq:Valid Tryz.prog G0 38 ab8:=ag JC mixed ab7 apH Tryz.func38 (c:=body Tryz.f38) (by kernel_rfl) (by
 rintro⟨y1,y2,d⟩ hp hf;have h:=amI y1 y2 d hp hf;with_reducible refine Eq.mp ?_ h
 kernel_rfl)
theorem JD:ai Tryz.prog ab9:=ai.cons JC arq (aD.of Tryz.func38 (c:=body Tryz.f38) (by kernel_rfl) (by kernel_rfl))
theorem ag3:Valid Tryz.prog G0 39 R7:=ag JD mixed R6 afd Tryz.func39 (c:=body Tryz.f39) (by kernel_rfl) (by
 rintro⟨y1,y2⟩ hp hf;have h:=aeu y1 y2 hp hf;with_reducible refine Eq.mp ?_ h
 kernel_rfl)
theorem FK:ai Tryz.prog R8:=ai.cons JD ag3 (aD.of Tryz.func39 (c:=body Tryz.f39) (by kernel_rfl) (by kernel_rfl))
theorem ag4:Valid Tryz.prog G0 40 Sa:=ag FK mixed R9 aff Tryz.func40 (c:=body Tryz.f40) (by kernel_rfl) (by
 rintro⟨y1,y2,i,m⟩ hp hf;have h:=aev y1 y2 i m hp hf;with_reducible refine Eq.mp ?_ h
 kernel_rfl)
theorem FL:ai Tryz.prog Sb:=ai.cons FK ag4 (aD.of Tryz.func40 (c:=body Tryz.f40) (by kernel_rfl) (by kernel_rfl))
theorem ag5:Valid Tryz.prog G0 41 Sd:=ag FL mixed Sc afh Tryz.func41 (c:=body Tryz.f41) (by kernel_rfl) (by
 rintro⟨y1,y2⟩ hp hf;have h:=aew y1 y2 hp hf;with_reducible refine Eq.mp ?_ h
 kernel_rfl)
theorem FM:ai Tryz.prog Se:=ai.cons FL ag5 (aD.of Tryz.func41 (c:=body Tryz.f41) (by kernel_rfl) (by kernel_rfl))
theorem ag6:Valid Tryz.prog G0 16 Sh:=ag FM mixed Sf afj Tryz.func16 (c:=body Tryz.f16) (by kernel_rfl) (by
 rintro⟨a1,a2,b1,b2⟩ hp hf;have h:=aex a1 a2 b1 b2 hp hf;with_reducible refine Eq.mp ?_ h
 kernel_rfl)
theorem FN:ai Tryz.prog Si:=ai.cons FM ag6 (aD.of Tryz.func16 (c:=body Tryz.f16) (by kernel_rfl) (by kernel_rfl))
theorem ag7:Valid Tryz.prog G0 13 Sk:=ag FN mixed Sj afl Tryz.func13 (c:=body Tryz.f13) (by kernel_rfl) (by
 rintro⟨y1,y2⟩ hp hf;have h:=aey y1 y2 hp hf;with_reducible refine Eq.mp ?_ h
 kernel_rfl)
theorem FO:ai Tryz.prog Sl:=ai.cons FN ag7 (aD.of Tryz.func13 (c:=body Tryz.f13) (by kernel_rfl) (by kernel_rfl))
theorem ag8:Valid Tryz.prog G0 8 Sn:=ag FO mixed Sm afn Tryz.func8 (c:=body Tryz.f8) (by kernel_rfl) (by
 rintro⟨y1,y2⟩ hp hf;have h:=aez y1 y2 hp hf;with_reducible refine Eq.mp ?_ h
 kernel_rfl)
theorem FP:ai Tryz.prog Sq:=ai.cons FO ag8 (aD.of Tryz.func8 (c:=body Tryz.f8) (by kernel_rfl) (by kernel_rfl))
theorem ag9:Valid Tryz.prog G0 92 Ss:=ag FP mixed Sr afp Tryz.func92 (c:=body Tryz.f92) (by kernel_rfl) (by
 rintro b hp hf;have h:=aeA b hp hf;with_reducible refine Eq.mp ?_ h
 kernel_rfl)
theorem FQ:ai Tryz.prog Su:=ai.cons FP ag9 (aD.of Tryz.func92 (c:=body Tryz.f92) (by kernel_rfl) (by kernel_rfl))
theorem aha:Valid Tryz.prog G0 66 Sw:=ag FQ mixed Sv afr Tryz.func66 (c:=body Tryz.f66) (by kernel_rfl) (by
 rintro n hp hf;have h:=aeB n hp hf;with_reducible refine Eq.mp ?_ h
 kernel_rfl)
theorem FR:ai Tryz.prog Sx:=ai.cons FQ aha (aD.of Tryz.func66 (c:=body Tryz.f66) (by kernel_rfl) (by kernel_rfl))
theorem ahb:Valid Tryz.prog G0 62 Sz:=ag FR mixed Sy aft Tryz.func62 (c:=body Tryz.f62) (by kernel_rfl) (by
 rintro⟨d1,d2⟩ hp hf;have h:=aeC d1 d2 hp hf;with_reducible refine Eq.mp ?_ h
 kernel_rfl)
theorem FT:ai Tryz.prog SA:=ai.cons FR ahb (aD.of Tryz.func62 (c:=body Tryz.f62) (by kernel_rfl) (by kernel_rfl))
theorem ahc:Valid Tryz.prog G0 50 SC:=ag FT mixed SB afv Tryz.func50 (c:=body Tryz.f50) (by kernel_rfl) (by
 rintro⟨d1,d2⟩ hp hf;have h:=aeD d1 d2 hp hf;with_reducible refine Eq.mp ?_ h
 kernel_rfl)
theorem FU:ai Tryz.prog SD:=ai.cons FT ahc (aD.of Tryz.func50 (c:=body Tryz.f50) (by kernel_rfl) (by kernel_rfl))
theorem ahd:Valid Tryz.prog G0 61 SF:=ag FU mixed SE afx Tryz.func61 (c:=body Tryz.f61) (by kernel_rfl) (by
 rintro⟨d1,d2⟩ hp hf;have h:=aeE d1 d2 hp hf;with_reducible refine Eq.mp ?_ h
 kernel_rfl)
theorem FV:ai Tryz.prog SG:=ai.cons FU ahd (aD.of Tryz.func61 (c:=body Tryz.f61) (by kernel_rfl) (by kernel_rfl))
theorem ahe:Valid Tryz.prog G0 51 SI:=ag FV mixed SH afz Tryz.func51 (c:=body Tryz.f51) (by kernel_rfl) (by
 rintro⟨d1,d2⟩ hp hf;have h:=aeF d1 d2 hp hf;with_reducible refine Eq.mp ?_ h
 kernel_rfl)
theorem FW:ai Tryz.prog SJ:=ai.cons FV ahe (aD.of Tryz.func51 (c:=body Tryz.f51) (by kernel_rfl) (by kernel_rfl))
theorem ahf:Valid Tryz.prog G0 35 SL:=ag FW mixed SK afB Tryz.func35 (c:=body Tryz.f35) (by kernel_rfl) (by
 rintro n hp hf;have h:=aeG n hp hf;with_reducible refine Eq.mp ?_ h
 kernel_rfl)
theorem FX:ai Tryz.prog SM:=ai.cons FW ahf (aD.of Tryz.func35 (c:=body Tryz.f35) (by kernel_rfl) (by kernel_rfl))
theorem ahg:Valid Tryz.prog G0 86 SO:=ag FX mixed SN afD Tryz.func86 (c:=body Tryz.f86) (by kernel_rfl) (by
 rintro⟨d1,d2,i⟩ hp hf;have h:=aeH d1 d2 i hp hf;with_reducible refine Eq.mp ?_ h
 kernel_rfl)
theorem FY:ai Tryz.prog SP:=ai.cons FX ahg (aD.of Tryz.func86 (c:=body Tryz.f86) (by kernel_rfl) (by kernel_rfl))
theorem ahh:Valid Tryz.prog G0 60 SR:=ag FY mixed SQ afF Tryz.func60 (c:=body Tryz.f60) (by kernel_rfl) (by
 rintro⟨d1,d2,i,b⟩ hp hf;have h:=aeI d1 d2 i b hp hf;with_reducible refine Eq.mp ?_ h
 kernel_rfl)
theorem FZ:ai Tryz.prog SS:=ai.cons FY ahh (aD.of Tryz.func60 (c:=body Tryz.f60) (by kernel_rfl) (by kernel_rfl))
theorem ahi:Valid Tryz.prog G0 59 SV:=ag FZ mixed SU afH Tryz.func59 (c:=body Tryz.f59) (by kernel_rfl) (by
 rintro⟨d1,d2⟩ hp hf;have h:=aeJ d1 d2 hp hf;with_reducible refine Eq.mp ?_ h
 kernel_rfl)
theorem F0:ai Tryz.prog SX:=ai.cons FZ ahi (aD.of Tryz.func59 (c:=body Tryz.f59) (by kernel_rfl) (by kernel_rfl))
theorem ahj:Valid Tryz.prog G0 23 SZ:=ag F0 mixed SY afJ Tryz.func23 (c:=body Tryz.f23) (by kernel_rfl) (by
 rintro⟨d1,d2,keep⟩ hp hf;have h:=aeK d1 d2 keep hp hf;with_reducible refine Eq.mp ?_ h
 kernel_rfl)
theorem F1:ai Tryz.prog S0:=ai.cons F0 ahj (aD.of Tryz.func23 (c:=body Tryz.f23) (by kernel_rfl) (by kernel_rfl))
theorem ahk:Valid Tryz.prog G0 117 S2:=ag F1 mixed S1 afL Tryz.func117 (c:=body Tryz.f117) (by kernel_rfl) (by
 rintro⟨a,b⟩ hp hf;have h:=aeL a b hp hf;with_reducible refine Eq.mp ?_ h
 kernel_rfl)
theorem Qj:ai Tryz.prog S3:=ai.cons F1 ahk (aD.of Tryz.func117 (c:=body Tryz.f117) (by kernel_rfl) (by kernel_rfl))
theorem ahl:Valid Tryz.prog G0 56 S4:=Tryz.G1 (fun _ _=>rfl)
theorem F2:ai Tryz.prog S5:=ai.cons Qj ahl (aD.of Tryz.func56 (c:=body Tryz.f56) (by kernel_rfl) (by kernel_rfl))
theorem ahm:Valid Tryz.prog G0 116 S7:=ag F2 mixed S6 afP Tryz.func116 (c:=body Tryz.f116) (by kernel_rfl) (by
 rintro b hp hf;have h:=aeM b hp hf;with_reducible refine Eq.mp ?_ h
 kernel_rfl)
theorem F3:ai Tryz.prog S8:=ai.cons F2 ahm (aD.of Tryz.func116 (c:=body Tryz.f116) (by kernel_rfl) (by kernel_rfl))
theorem ahn:Valid Tryz.prog G0 58 Ta:=ag F3 mixed S9 afR Tryz.func58 (c:=body Tryz.f58) (by kernel_rfl) (by
 rintro⟨m1,m2⟩ hp hf;have h:=aeN m1 m2 hp hf;with_reducible refine Eq.mp ?_ h
 kernel_rfl)
theorem F4:ai Tryz.prog Tb:=ai.cons F3 ahn (aD.of Tryz.func58 (c:=body Tryz.f58) (by kernel_rfl) (by kernel_rfl))
theorem aho:Valid Tryz.prog G0 87 Td:=ag F4 mixed Tc afT Tryz.func87 (c:=body Tryz.f87) (by kernel_rfl) (by
 rintro⟨b,m⟩ hp hf;have h:=aeO b m hp hf;with_reducible refine Eq.mp ?_ h
 kernel_rfl)
theorem F5:ai Tryz.prog Te:=ai.cons F4 aho (aD.of Tryz.func87 (c:=body Tryz.f87) (by kernel_rfl) (by kernel_rfl))
theorem ahp:Valid Tryz.prog G0 55 Tg:=ag F5 mixed Tf afV Tryz.func55 (c:=body Tryz.f55) (by kernel_rfl) (by
 rintro⟨d1,d2⟩ hp hf;have h:=aeP d1 d2 hp hf;with_reducible refine Eq.mp ?_ h
 kernel_rfl)
theorem F6:ai Tryz.prog Th:=ai.cons F5 ahp (aD.of Tryz.func55 (c:=body Tryz.f55) (by kernel_rfl) (by kernel_rfl))
theorem ahq:Valid Tryz.prog G0 52 Tj:=ag F6 mixed Ti afX Tryz.func52 (c:=body Tryz.f52) (by kernel_rfl) (by
 rintro⟨d1,d2⟩ hp hf;have h:=aeQ d1 d2 hp hf;with_reducible refine Eq.mp ?_ h
 kernel_rfl)
theorem F7:ai Tryz.prog Tk:=ai.cons F6 ahq (aD.of Tryz.func52 (c:=body Tryz.f52) (by kernel_rfl) (by kernel_rfl))
theorem ahr:Valid Tryz.prog G0 53 Tm:=ag F7 mixed Tl afZ Tryz.func53 (c:=body Tryz.f53) (by kernel_rfl) (by
 rintro⟨d1,d2,n⟩ hp hf;have h:=aeR d1 d2 n hp hf;with_reducible refine Eq.mp ?_ h
 kernel_rfl)
theorem F8:ai Tryz.prog Tn:=ai.cons F7 ahr (aD.of Tryz.func53 (c:=body Tryz.f53) (by kernel_rfl) (by kernel_rfl))
theorem ahs:Valid Tryz.prog G0 54 Tp:=ag F8 mixed To af1 Tryz.func54 (c:=body Tryz.f54) (by kernel_rfl) (by
 rintro⟨r1,r2,r3⟩ hp hf;have h:=aeS r1 r2 r3 hp hf;with_reducible refine Eq.mp ?_ h
 kernel_rfl)
theorem F9:ai Tryz.prog Tq:=ai.cons F8 ahs (aD.of Tryz.func54 (c:=body Tryz.f54) (by kernel_rfl) (by kernel_rfl))
theorem aht:Valid Tryz.prog G0 67 Ts:=ag F9 mixed Tr af3 Tryz.func67 (c:=body Tryz.f67) (by kernel_rfl) (by
 rintro⟨y1,y2,e1,e2,e3,e4⟩ hp hf;have h:=aeT y1 y2 e1 e2 e3 e4 hp hf;with_reducible refine Eq.mp ?_ h
 kernel_rfl)
theorem Ga:ai Tryz.prog Tt:=ai.cons F9 aht (aD.of Tryz.func67 (c:=body Tryz.f67) (by kernel_rfl) (by kernel_rfl))
theorem ahu:Valid Tryz.prog G0 69 Tv:=ag Ga mixed Tu af5 Tryz.func69 (c:=body Tryz.f69) (by kernel_rfl) (by
 rintro⟨y1,y2,e1,e2,e3,e4⟩ hp hf;have h:=aeU y1 y2 e1 e2 e3 e4 hp hf;with_reducible refine Eq.mp ?_ h
 kernel_rfl)
theorem Gb:ai Tryz.prog Tw:=ai.cons Ga ahu (aD.of Tryz.func69 (c:=body Tryz.f69) (by kernel_rfl) (by kernel_rfl))
theorem ahv:Valid Tryz.prog G0 71 Tz:=ag Gb mixed Tx af7 Tryz.func71 (c:=body Tryz.f71) (by kernel_rfl) (by
 rintro⟨y1,y2,e1,e2,e3,e4⟩ hp hf;have h:=aeV y1 y2 e1 e2 e3 e4 hp hf;with_reducible refine Eq.mp ?_ h
 kernel_rfl)
theorem Gc:ai Tryz.prog TC:=ai.cons Gb ahv (aD.of Tryz.func71 (c:=body Tryz.f71) (by kernel_rfl) (by kernel_rfl))
theorem ahw:Valid Tryz.prog G0 73 TF:=ag Gc mixed TD af9 Tryz.func73 (c:=body Tryz.f73) (by kernel_rfl) (by
 rintro⟨y1,y2,e1,e2,e3,e4⟩ hp hf;have h:=aeW y1 y2 e1 e2 e3 e4 hp hf;with_reducible refine Eq.mp ?_ h
 kernel_rfl)
theorem Gd:ai Tryz.prog TG:=ai.cons Gc ahw (aD.of Tryz.func73 (c:=body Tryz.f73) (by kernel_rfl) (by kernel_rfl))
theorem ahx:Valid Tryz.prog G0 36 TI:=ag Gd mixed TH agb Tryz.func36 (c:=body Tryz.f36) (by kernel_rfl) (by
 rintro⟨⟩ hp hf;have h:=aeX hp hf;with_reducible refine Eq.mp ?_ h
 kernel_rfl)
theorem Ge:ai Tryz.prog TJ:=ai.cons Gd ahx (aD.of Tryz.func36 (c:=body Tryz.f36) (by kernel_rfl) (by kernel_rfl))
theorem ahy:Valid Tryz.prog G0 11 TL:=ag Ge mixed TK agd Tryz.func11 (c:=body Tryz.f11) (by kernel_rfl) (by
 rintro⟨y1,y2,e1,e2,e3,e4⟩ hp hf;have h:=aeY y1 y2 e1 e2 e3 e4 hp hf;with_reducible refine Eq.mp ?_ h
 kernel_rfl)
theorem tc:ai Tryz.prog K2:=ai.cons Ge ahy (aD.of Tryz.func11 (c:=body Tryz.f11) (by kernel_rfl) (by kernel_rfl))
theorem ahz:Valid Tryz.prog G0 15 TN:=ag (E:=agh) {fK:=tc.fK,sig:=tc.sig,oh:=tc.oh} mixed TM agf Tryz.func15 (c:=body Tryz.f15) (by kernel_rfl) (by
 rintro⟨e1,e2,e3,e4⟩ hp hf;have h:=aeZ e1 e2 e3 e4 hp hf;with_reducible refine Eq.mp ?_ h
 kernel_rfl)
theorem Gf:ai Tryz.prog TO:=ai.cons tc ahz (aD.of Tryz.func15 (c:=body Tryz.f15) (by kernel_rfl) (by kernel_rfl))
theorem ahA:Valid Tryz.prog G0 20 TQ:=ag Gf mixed TP agj Tryz.func20 (c:=body Tryz.f20) (by kernel_rfl) (by
 rintro⟨d1,d2⟩ hp hf;have h:=ae0 d1 d2 hp hf;with_reducible refine Eq.mp ?_ h
 kernel_rfl)
theorem Gg:ai Tryz.prog TR:=ai.cons Gf ahA (aD.of Tryz.func20 (c:=body Tryz.f20) (by kernel_rfl) (by kernel_rfl))
theorem ahB:Valid Tryz.prog G0 57 TT:=ag Gg mixed TS agl Tryz.func57 (c:=body Tryz.f57) (by kernel_rfl) (by
 rintro⟨d1,d2,a,b⟩ hp hf;have h:=ae1 d1 d2 a b hp hf;with_reducible refine Eq.mp ?_ h
 kernel_rfl)
theorem Gh:ai Tryz.prog TU:=ai.cons Gg ahB (aD.of Tryz.func57 (c:=body Tryz.f57) (by kernel_rfl) (by kernel_rfl))
theorem ahC:Valid Tryz.prog G0 21 TW:=ag Gh mixed TV agn Tryz.func21 (c:=body Tryz.f21) (by kernel_rfl) (by
 rintro⟨d1,d2,s1,s2,s3,s4,e1,e2,e3,e4⟩ hp hf;have h:=ae2 d1 d2 s1 s2 s3 s4 e1 e2 e3 e4 hp hf;with_reducible refine Eq.mp ?_ h
 kernel_rfl)
theorem Gi:ai Tryz.prog TX:=ai.cons Gh ahC (aD.of Tryz.func21 (c:=body Tryz.f21) (by kernel_rfl) (by kernel_rfl))
theorem ahD:Valid Tryz.prog G0 22 TZ:=ag Gi mixed TY agp Tryz.func22 (c:=body Tryz.f22) (by kernel_rfl) (by
 rintro⟨d1,d2,l,f⟩ hp hf;have h:=ae3 d1 d2 l f hp hf;with_reducible refine Eq.mp ?_ h
 kernel_rfl)
theorem Gj:ai Tryz.prog T0:=ai.cons Gi ahD (aD.of Tryz.func22 (c:=body Tryz.f22) (by kernel_rfl) (by kernel_rfl))
theorem ahE:Valid Tryz.prog G0 12 T2:=ag Gj mixed T1 agr Tryz.func12 (c:=body Tryz.f12) (by kernel_rfl) (by
 rintro⟨y1,y2,e1,e2,e3,e4⟩ hp hf;have h:=ae4 y1 y2 e1 e2 e3 e4 hp hf;with_reducible refine Eq.mp ?_ h
 kernel_rfl)
theorem Gk:ai Tryz.prog T3:=ai.cons Gj ahE (aD.of Tryz.func12 (c:=body Tryz.f12) (by kernel_rfl) (by kernel_rfl))
theorem ahF:Valid Tryz.prog G0 47 T5:=ag Gk mixed T4 agt Tryz.func47 (c:=body Tryz.f47) (by kernel_rfl) (by
 rintro n hp hf;have h:=ae5 n hp hf;with_reducible refine Eq.mp ?_ h
 kernel_rfl)
theorem Gl:ai Tryz.prog T6:=ai.cons Gk ahF (aD.of Tryz.func47 (c:=body Tryz.f47) (by kernel_rfl) (by kernel_rfl))
theorem ahG:Valid Tryz.prog G0 17 T8:=ag Gl mixed T7 agv Tryz.func17 (c:=body Tryz.f17) (by kernel_rfl) (by
 rintro⟨e1,e2,e3,e4⟩ hp hf;have h:=ae6 e1 e2 e3 e4 hp hf;with_reducible refine Eq.mp ?_ h
 kernel_rfl)
theorem Gm:ai Tryz.prog T9:=ai.cons Gl ahG (aD.of Tryz.func17 (c:=body Tryz.f17) (by kernel_rfl) (by kernel_rfl))
theorem ahH:Valid Tryz.prog G0 18 Ub:=ag Gm mixed Ua agx Tryz.func18 (c:=body Tryz.f18) (by kernel_rfl) (by
 rintro⟨e1,e2,e3,e4⟩ hp hf;have h:=ae7 e1 e2 e3 e4 hp hf;with_reducible refine Eq.mp ?_ h
 kernel_rfl)
theorem Gn:ai Tryz.prog Uc:=ai.cons Gm ahH (aD.of Tryz.func18 (c:=body Tryz.f18) (by kernel_rfl) (by kernel_rfl))
theorem ahI:Valid Tryz.prog G0 10 Ue:=ag Gn mixed Ud agz Tryz.func10 (c:=body Tryz.f10) (by kernel_rfl) (by
 rintro⟨⟩ hp hf;have h:=ae8 hp hf;with_reducible refine Eq.mp ?_ h
 kernel_rfl)
theorem Gp:ai Tryz.prog Uf:=ai.cons Gn ahI (aD.of Tryz.func10 (c:=body Tryz.f10) (by kernel_rfl) (by kernel_rfl))
theorem ahJ:Valid Tryz.prog G0 14 Uh:=ag Gp mixed Ug agB Tryz.func14 (c:=body Tryz.f14) (by kernel_rfl) (by
 rintro⟨e1,e2,e3,e4⟩ hp hf;have h:=ae9 e1 e2 e3 e4 hp hf;with_reducible refine Eq.mp ?_ h
 kernel_rfl)
theorem Gq:ai Tryz.prog Ui:=ai.cons Gp ahJ (aD.of Tryz.func14 (c:=body Tryz.f14) (by kernel_rfl) (by kernel_rfl))
theorem ahK:Valid Tryz.prog G0 9 Uk:=ag Gq mixed Uj agD Tryz.func9 (c:=body Tryz.f9) (by kernel_rfl) (by
 rintro⟨e1,e2,e3,e4⟩ hp hf;have h:=afa e1 e2 e3 e4 hp hf;with_reducible refine Eq.mp ?_ h
 kernel_rfl)
theorem Qk:ai Tryz.prog agE:=ai.cons Gq ahK (aD.of Tryz.func9 (c:=body Tryz.f9) (by kernel_rfl) (by kernel_rfl))
theorem ahL:Valid Tryz.prog G0 3 agH:=ag Qk mixed K3 agG Tryz.func3 (c:=body Tryz.f3) (by kernel_rfl) (by
 rintro⟨y1,y2,e1,e2,e3,e4⟩ hp hf;have h:=afb y1 y2 e1 e2 e3 e4 hp hf;with_reducible refine Eq.mp ?_ h
 kernel_rfl)
end Go.J

end
section
set_option linter.unusedVariables false
namespace Go.Proofs.YtfaedenbhlgnpaaGreatDoor
open Go Go.Vg Go.ChangeShapes Go.WideShapes Go.ChangeAt Go.RowKit
theorem own:ownKnob Tryz.prog.godebug=none:=by kernel_rfl
theorem laidOut:laidOutB Tryz.prog=true :=by kernel_rfl
set_option maxRecDepth 100000 in
theorem ars {W:World}(h:laidMet Tryz.prog [("rubrick/utf.letters",Rows.laid_rubrick_utf_letters),("rubrick/utf.shifts",Rows.laid_rubrick_utf_shifts)] W):∀i d,Go.J.G0 i=some d→o0 W (fun b=>b<W.heap.size) i d:=by
 intro i d hd;match i,hd with
 |1,hd=>
  cases hd
  exact Fy (k:= .i64) (zss:= [[65,90],[97,122],[192,214],[216,246],[248,255],[913,929],[931,937],[945,969],[1024,1119]]) h (.head _) (by kernel_rfl) (by kernel_rfl) Tryz.underlying232 Tryz.underlying231 (by kernel_rfl) (by kernel_rfl) rfl (fun i f hf=>by
   match i,hf with
   |0,hf=>cases hf;exact⟨rfl,Tryz.underlying3,by kernel_rfl⟩
   |1,hf=>cases hf;exact⟨rfl,Tryz.underlying3,by kernel_rfl⟩
   |i+2,hf=>simp at hf) (by decide) (by decide) (by simp [vw,mc,lo,hi,Row.hd,Row.tl,DI.toInt])
 |2,hd=>
  cases hd
  exact Fy (k:= .i64) (zss:= [[65,90,32],[192,214,32],[216,222,32],[913,929,32],[931,937,32],[1024,1039,80],[1040,1071,32]]) h (.tail _ (.head _)) (by kernel_rfl) (by kernel_rfl) Tryz.underlying251 Tryz.underlying250 (by kernel_rfl) (by kernel_rfl) rfl (fun i f hf=>by
   match i,hf with
   |0,hf=>cases hf;exact⟨rfl,Tryz.underlying3,by kernel_rfl⟩
   |1,hf=>cases hf;exact⟨rfl,Tryz.underlying3,by kernel_rfl⟩
   |2,hf=>cases hf;exact⟨rfl,Tryz.underlying3,by kernel_rfl⟩
   |i+3,hf=>simp at hf) (by decide) (by decide) (by simp [vw,mc,lo,hi,Row.hd,Row.tl,DI.toInt])
 |0,hd=>cases hd
 |_+3,hd=>cases hd
def aup(w:World)(cs:Array Value):World:= {w with heap:=w.heap.modify 1 fun
    | .cells _ t frozen=> .cells cs t frozen
    |o=>o}
def auq(w:World)(cs:Array Value):World:= {w with heap:=w.heap.modify 2 fun
    | .cells _ t frozen=> .cells cs t frozen
    |o=>o}
noncomputable def yc (os:Os):World:=auq (aup (World.holding Tryz.prog os ⟨#[], #[],[]⟩) #[.int .i64 65, .int .i64 90, .int .i64 97, .int .i64 122, .int .i64 192, .int .i64 214, .int .i64 216, .int .i64 246, .int .i64 248, .int .i64 255, .int .i64 913, .int .i64 929, .int .i64 931, .int .i64 937, .int .i64 945, .int .i64 969, .int .i64 1024, .int .i64 1119]) #[.int .i64 65, .int .i64 90, .int .i64 32, .int .i64 192, .int .i64 214, .int .i64 32, .int .i64 216, .int .i64 222, .int .i64 32, .int .i64 913, .int .i64 929, .int .i64 32, .int .i64 931, .int .i64 937, .int .i64 32, .int .i64 1024, .int .i64 1039, .int .i64 80, .int .i64 1040, .int .i64 1071, .int .i64 32]
theorem yd:Valid Tryz.prog Go.J.G0 3 (ar Go.J.K3 fun _=>(True, .bool true,[])):=Go.J.ahL
theorem tB(os:Os):laidMet Tryz.prog Rows.keepHappensRow.laid ((yc os).forCall (fun _ _=>0) ⟨#[], #[.agg #[.slice none 0 0, .slice none 0 0], .agg #[.int .i64 0, .int .i64 0, .int .i64 0, .slice none 0 0]],[]⟩).memory:=
 laidMet_of_run' 8 (by kernel_rfl) (by kernel_rfl)
theorem ye(os:Os) {H:Type}(enc:TypeId×Value→H):∃places,DataW.whole enc Tryz.prog ((yc os).forCall (fun _ _=>0) ⟨#[], #[.agg #[.slice none 0 0, .slice none 0 0], .agg #[.int .i64 0, .int .i64 0, .int .i64 0, .slice none 0 0]],[]⟩).memory Tryz.f3.params.toList Rows.keepHappensSpec.vars false (#[.agg #[.slice none 0 0, .slice none 0 0], .agg #[.int .i64 0, .int .i64 0, .int .i64 0, .slice none 0 0]]:Array Value).toList 8=some ([.agg [.nil, .nil], .agg [.lit (.int .i64 0), .lit (.int .i64 0), .lit (.int .i64 0), .nil]],[],places):=
 ⟨[],by kernel_rfl⟩
set_option maxRecDepth 100000 in
theorem wE(os:Os)(started:os.Started)(H:Type)(enc:TypeId×Value→H)(F:Stop.Interp):
  ReturnsInHanded {} Tryz.checked os 3 .any ((OpenSpec.ofChange Rows.keepHappensSpec).preRow enc Tryz.prog Tryz.f3 Rows.keepHappensRow.domain false Rows.keepHappensRow.laid) (((OpenSpec.ofChange Rows.keepHappensSpec).at F).post enc Tryz.prog Tryz.f3 false true false false):=by
 obtain⟨places,hx⟩:=ye os enc
 refine returnsInHanded_of_row (C:=Tryz.checked) (s:=OpenSpec.ofChange Rows.keepHappensSpec) own started (by kernel_rfl) Tryz.func3
  (witness_row_at (enc:=enc) (C:=Tryz.checked) false (yc os) #[.agg #[.slice none 0 0, .slice none 0 0], .agg #[.int .i64 0, .int .i64 0, .int .i64 0, .slice none 0 0]] rfl (by kernel_rfl) (by kernel_rfl) (by kernel_rfl)
    (OpenSpec.preRow_of_cond 8 hx (by kernel_rfl) (fun k hk=>by cases hk) (by kernel_rfl) (tB os))) ?_
 intro W base args ds gs before Dq hW _ _ _ hL _ _;refine GM (s:=Rows.keepHappensSpec) (bx.of Q9) laidOut yd (show PS.UO fK Tryz.f3.params.toList=_ by kernel_rfl) (by kernel_rfl) (show Tryz.f3.resultTypes= #[4] by kernel_rfl) Tryz.underlying4 rfl ?_ (ars hL) Dq hW;intro H ds Cf;have hn:Tryz.f3.params.toList.length=2:=by kernel_rfl
 rw [hn] at Cf;match ds,Cf with
 | [d0,d1],_=>rfl
theorem zV:Rows.KeepHappensSaid:=
 OpenClaim.holds_of_cond 3 Tryz.f3 rfl rfl rfl rfl rfl rfl rfl ⟨rfl,rfl,rfl,rfl,rfl⟩ rfl rfl rfl rfl rfl (by kernel_rfl) Tryz.func3 (by kernel_rfl)
  (of_decide_eq_true (by kernel_rfl)) (by unfold Func.isWrapper;first|(rw [if_pos (by decide+kernel)];kernel_rfl)|(rw [if_neg (by decide+kernel)];exact⟨rfl,rfl⟩))
  (fun os started H enc _ F=>by rw [OpenClaim.pre_eq_preRow];exact wE os started H enc F)
theorem yf(f:FuncId)(fn:Func)(hf:Tryz.pinned.checked.prog.funcNamed "rubrick/rubricklaw23.KeepHappens"=some f)(Oa:Tryz.pinned.checked.prog.funcs[f]? =some fn):
  false=Tryz.pinned.checked.prog.looks []∧∀(j:Nat) t,fn.params[j]? =some t→Tryz.pinned.checked.prog.wantsStandIn t=false :=by
 obtain rfl :f=3:=Option.some.inj ((show Tryz.prog.funcNamed "rubrick/rubricklaw23.KeepHappens"=some 3 by kernel_rfl).symm.trans hf) |>.symm
 obtain rfl :fn=Tryz.f3:=(Option.some.inj (Tryz.func3.symm.trans Oa)).symm;refine⟨by kernel_rfl,fun j t ht=> ?_⟩;have h1:(Tryz.f3.params.toList.all fun t=> !Tryz.prog.wantsStandIn t)=true :=by kernel_rfl
 have h2:=List.all_eq_true.1 h1 t (by simpa using Array.mem_of_getElem? ht);have h3:Tryz.prog.wantsStandIn t=false :=by simpa using h2
 exact h3
theorem keepHappens_card:Rows.KeepHappensCardSaid:=
 Claim7.holds_tied_plain_at .later [] _ _ _ _ zV (fun _ h=>by cases h) (by kernel_rfl) (fun _ h=>by cases h) keepHappens_row_tie rfl ⟨rfl,rfl⟩ (by kernel_rfl) rfl yf (by kernel_rfl)
#print axioms keepHappens_card
end Go.Proofs.YtfaedenbhlgnpaaGreatDoor

end
