import Derived.Test.YtfaedenbhlgnpaaGreatDoorPartF
set_option linter.unusedVariables false
set_option linter.unusedSimpArgs false
section
set_option linter.unusedVariables false
set_option maxHeartbeats 0
set_option maxRecDepth 100000
namespace Go.J
open Go.Proofs
open Go Vg
theorem mixed:Tryz.prog.follows .mixedOrders=true :=by kernel_rfl
theorem ø:ak Tryz.prog E0:=ak.none G0 (bw.of PA)
theorem amz:Valid Tryz.prog G0 83 adq:=ah ø mixed adp alX Tryz.func83 (c:=body Tryz.f83) (by kernel_rfl) (by
 rintro b hp hf
 have h:=alI b hp hf
 with_reducible refine Eq.mp ?_ h
 kernel_rfl)
theorem L6:ak Tryz.prog adr:=ak.cons ø amz (aP.of Tryz.func83 (c:=body Tryz.f83) (by kernel_rfl) (by kernel_rfl))
theorem amA:cS Tryz.prog G0 82 adu:=fI L6 mixed ads adt alZ Tryz.func82 (c:=body Tryz.f82) (by kernel_rfl) (by
 rintro v ⟨l,⟨⟩⟩ hp hf hg
 have h:=alJ v l hp hf hg
 with_reducible refine Eq.mp ?_ h
 kernel_rfl)
theorem ai4:cS Tryz.prog G0 82 adv:=amA
theorem L7:ak Tryz.prog adw:=ak.gE L6 ai4 (aP.of Tryz.func82 (c:=body Tryz.f82) (by kernel_rfl) (by kernel_rfl))
theorem amB:cS Tryz.prog G0 84 adz:=fI L7 mixed adx ady al1 Tryz.func84 (c:=body Tryz.f84) (by kernel_rfl) (by
 rintro s ⟨l,⟨⟩⟩ hp hf hg
 have h:=alL s l hp hf hg
 with_reducible refine Eq.mp ?_ h
 kernel_rfl)
theorem ai5:cS Tryz.prog G0 84 adA:=amB
theorem L8:ak Tryz.prog adB:=ak.gE L7 ai5 (aP.of Tryz.func84 (c:=body Tryz.f84) (by kernel_rfl) (by kernel_rfl))
theorem amC:Valid Tryz.prog G0 44 adD:=ah L8 mixed adC al3 Tryz.func44 (c:=body Tryz.f44) (by kernel_rfl) (by
 rintro⟨b,v⟩ hp hf
 have h:=alM b v hp hf
 with_reducible refine Eq.mp ?_ h
 kernel_rfl)
theorem L9:ak Tryz.prog adE:=ak.cons L8 amC (aP.of Tryz.func44 (c:=body Tryz.f44) (by kernel_rfl) (by kernel_rfl))
theorem amD:Valid Tryz.prog G0 45 adG:=ah L9 mixed adF al5 Tryz.func45 (c:=body Tryz.f45) (by kernel_rfl) (by
 rintro⟨b,s⟩ hp hf
 have h:=alN b s hp hf
 with_reducible refine Eq.mp ?_ h
 kernel_rfl)
theorem Ma:ak Tryz.prog adH:=ak.cons L9 amD (aP.of Tryz.func45 (c:=body Tryz.f45) (by kernel_rfl) (by kernel_rfl))
theorem amE:Valid Tryz.prog G0 131 adJ:=ah Ma mixed adI al7 Tryz.func131 (c:=body Tryz.f131) (by kernel_rfl) (by
 rintro⟨r1,r2,r3⟩ hp hf
 have h:=alO r1 r2 r3 hp hf
 with_reducible refine Eq.mp ?_ h
 kernel_rfl)
theorem Mb:ak Tryz.prog adK:=ak.cons Ma amE (aP.of Tryz.func131 (c:=body Tryz.f131) (by kernel_rfl) (by kernel_rfl))
theorem amF:Valid Tryz.prog G0 118 adM:=ah Mb mixed adL al9 Tryz.func118 (c:=body Tryz.f118) (by kernel_rfl) (by
 rintro⟨r1,r2,r3⟩ hp hf
 have h:=alP r1 r2 r3 hp hf
 with_reducible refine Eq.mp ?_ h
 kernel_rfl)
theorem Mc:ak Tryz.prog adN:=ak.cons Mb amF (aP.of Tryz.func118 (c:=body Tryz.f118) (by kernel_rfl) (by kernel_rfl))
theorem amG:Valid Tryz.prog G0 119 adP:=ah Mc mixed adO amb Tryz.func119 (c:=body Tryz.f119) (by kernel_rfl) (by
 rintro⟨b,p⟩ hp hf
 have h:=alQ b p hp hf
 with_reducible refine Eq.mp ?_ h
 kernel_rfl)
theorem Md:ak Tryz.prog adQ:=ak.cons Mc amG (aP.of Tryz.func119 (c:=body Tryz.f119) (by kernel_rfl) (by kernel_rfl))
theorem ai6:Valid Tryz.prog G0 120 XO:=ah Md mixed XN agW Tryz.func120 (c:=body Tryz.f120) (by kernel_rfl) (by
 rintro⟨b,p,b9⟩ hp hf
 have h:=afV b p b9 hp hf
 with_reducible refine Eq.mp ?_ h
 kernel_rfl)
theorem Ha:ak Tryz.prog XP:=ak.cons Md ai6 (aP.of Tryz.func120 (c:=body Tryz.f120) (by kernel_rfl) (by kernel_rfl))
theorem ai7:Valid Tryz.prog G0 89 XR:=ah Ha mixed XQ agY Tryz.func89 (c:=body Tryz.f89) (by kernel_rfl) (by
 rintro⟨r1,r2,r3,b9⟩ hp hf
 have h:=afW r1 r2 r3 b9 hp hf
 with_reducible refine Eq.mp ?_ h
 kernel_rfl)
theorem Hb:ak Tryz.prog XS:=ak.cons Ha ai7 (aP.of Tryz.func89 (c:=body Tryz.f89) (by kernel_rfl) (by kernel_rfl))
theorem ai8:Valid Tryz.prog G0 88 XU:=ah Hb mixed XT ag0 Tryz.func88 (c:=body Tryz.f88) (by kernel_rfl) (by
 rintro⟨r1,r2,r3⟩ hp hf
 have h:=afX r1 r2 r3 hp hf
 with_reducible refine Eq.mp ?_ h
 kernel_rfl)
theorem Hc:ak Tryz.prog XV:=ak.cons Hb ai8 (aP.of Tryz.func88 (c:=body Tryz.f88) (by kernel_rfl) (by kernel_rfl))
theorem ai9:Valid Tryz.prog G0 190 XX:=ah Hc mixed XW ag2 Tryz.func190 (c:=body Tryz.f190) (by kernel_rfl) (by
 rintro c hp hf
 have h:=afY c hp hf
 with_reducible refine Eq.mp ?_ h
 kernel_rfl)
theorem He:ak Tryz.prog XY:=ak.cons Hc ai9 (aP.of Tryz.func190 (c:=body Tryz.f190) (by kernel_rfl) (by kernel_rfl))
theorem aja:Valid Tryz.prog G0 191 X0:=ah He mixed XZ ag4 Tryz.func191 (c:=body Tryz.f191) (by kernel_rfl) (by
 rintro c hp hf
 have h:=afZ c hp hf
 with_reducible refine Eq.mp ?_ h
 kernel_rfl)
theorem Hf:ak Tryz.prog X1:=ak.cons He aja (aP.of Tryz.func191 (c:=body Tryz.f191) (by kernel_rfl) (by kernel_rfl))
theorem ajb:Valid Tryz.prog G0 192 X3:=ah Hf mixed X2 ag6 Tryz.func192 (c:=body Tryz.f192) (by kernel_rfl) (by
 rintro c hp hf
 have h:=af0 c hp hf
 with_reducible refine Eq.mp ?_ h
 kernel_rfl)
theorem Hg:ak Tryz.prog X4:=ak.cons Hf ajb (aP.of Tryz.func192 (c:=body Tryz.f192) (by kernel_rfl) (by kernel_rfl))
theorem ajc:Valid Tryz.prog G0 166 X6:=ah Hg mixed X5 ag8 Tryz.func166 (c:=body Tryz.f166) (by kernel_rfl) (by
 rintro c hp hf
 have h:=af1 c hp hf
 with_reducible refine Eq.mp ?_ h
 kernel_rfl)
theorem Hh:ak Tryz.prog X7:=ak.cons Hg ajc (aP.of Tryz.func166 (c:=body Tryz.f166) (by kernel_rfl) (by kernel_rfl))
theorem ajd:Valid Tryz.prog G0 165 X9:=ah Hh mixed X8 aha Tryz.func165 (c:=body Tryz.f165) (by kernel_rfl) (by
 rintro b hp hf
 have h:=af2 b hp hf
 with_reducible refine Eq.mp ?_ h
 kernel_rfl)
theorem Hi:ak Tryz.prog Ya:=ak.cons Hh ajd (aP.of Tryz.func165 (c:=body Tryz.f165) (by kernel_rfl) (by kernel_rfl))
theorem aje:Valid Tryz.prog G0 153 Yc:=ah Hi mixed Yb ahc Tryz.func153 (c:=body Tryz.f153) (by kernel_rfl) (by
 rintro b hp hf
 have h:=aga b hp hf
 with_reducible refine Eq.mp ?_ h
 kernel_rfl)
theorem Hj:ak Tryz.prog Yd:=ak.cons Hi aje (aP.of Tryz.func153 (c:=body Tryz.f153) (by kernel_rfl) (by kernel_rfl))
theorem ajf:Valid Tryz.prog G0 154 Yf:=ah Hj mixed Ye ahe Tryz.func154 (c:=body Tryz.f154) (by kernel_rfl) (by
 rintro c hp hf
 have h:=agb c hp hf
 with_reducible refine Eq.mp ?_ h
 kernel_rfl)
theorem Hk:ak Tryz.prog Yg:=ak.cons Hj ajf (aP.of Tryz.func154 (c:=body Tryz.f154) (by kernel_rfl) (by kernel_rfl))
theorem ajg:Valid Tryz.prog G0 155 Yi:=ah Hk mixed Yh ahg Tryz.func155 (c:=body Tryz.f155) (by kernel_rfl) (by
 rintro c hp hf
 have h:=agc c hp hf
 with_reducible refine Eq.mp ?_ h
 kernel_rfl)
theorem Hl:ak Tryz.prog Yj:=ak.cons Hk ajg (aP.of Tryz.func155 (c:=body Tryz.f155) (by kernel_rfl) (by kernel_rfl))
theorem ajh:Valid Tryz.prog G0 167 Yl:=ah Hl mixed Yk ahi Tryz.func167 (c:=body Tryz.f167) (by kernel_rfl) (by
 rintro c hp hf
 have h:=agd c hp hf
 with_reducible refine Eq.mp ?_ h
 kernel_rfl)
theorem Hm:ak Tryz.prog Ym:=ak.cons Hl ajh (aP.of Tryz.func167 (c:=body Tryz.f167) (by kernel_rfl) (by kernel_rfl))
theorem aji:Valid Tryz.prog G0 156 Yo:=ah Hm mixed Yn ahk Tryz.func156 (c:=body Tryz.f156) (by kernel_rfl) (by
 rintro u hp hf
 have h:=age u hp hf
 with_reducible refine Eq.mp ?_ h
 kernel_rfl)
theorem Hn:ak Tryz.prog Yp:=ak.cons Hm aji (aP.of Tryz.func156 (c:=body Tryz.f156) (by kernel_rfl) (by kernel_rfl))
theorem ajj:Valid Tryz.prog G0 136 Yr:=ah Hn mixed Yq ahm Tryz.func136 (c:=body Tryz.f136) (by kernel_rfl) (by
 rintro b hp hf
 have h:=agf b hp hf
 with_reducible refine Eq.mp ?_ h
 kernel_rfl)
theorem Ho:ak Tryz.prog Ys:=ak.cons Hn ajj (aP.of Tryz.func136 (c:=body Tryz.f136) (by kernel_rfl) (by kernel_rfl))
theorem ajk:Valid Tryz.prog G0 146 Yu:=ah Ho mixed Yt aho Tryz.func146 (c:=body Tryz.f146) (by kernel_rfl) (by
 rintro s hp hf
 have h:=agh s hp hf
 with_reducible refine Eq.mp ?_ h
 kernel_rfl)
theorem Hp:ak Tryz.prog Yv:=ak.cons Ho ajk (aP.of Tryz.func146 (c:=body Tryz.f146) (by kernel_rfl) (by kernel_rfl))
theorem ajl:Valid Tryz.prog G0 157 Yx:=ah Hp mixed Yw ahq Tryz.func157 (c:=body Tryz.f157) (by kernel_rfl) (by
 rintro s hp hf
 have h:=agi s hp hf
 with_reducible refine Eq.mp ?_ h
 kernel_rfl)
theorem Hq:ak Tryz.prog Yy:=ak.cons Hp ajl (aP.of Tryz.func157 (c:=body Tryz.f157) (by kernel_rfl) (by kernel_rfl))
theorem ajm:Valid Tryz.prog G0 137 YA:=ah Hq mixed Yz ahs Tryz.func137 (c:=body Tryz.f137) (by kernel_rfl) (by
 rintro⟨a,b⟩ hp hf
 have h:=agj a b hp hf
 with_reducible refine Eq.mp ?_ h
 kernel_rfl)
theorem Hr:ak Tryz.prog YB:=ak.cons Hq ajm (aP.of Tryz.func137 (c:=body Tryz.f137) (by kernel_rfl) (by kernel_rfl))
theorem ajn:cS Tryz.prog G0 152 YE:=fI Hr mixed YC YD ahu Tryz.func152 (c:=body Tryz.f152) (by kernel_rfl) (by
 rintro⟨a,b⟩ ⟨⟨⟩,⟨⟩⟩ hp hf hg
 have h:=agk a b hp hf hg
 with_reducible refine Eq.mp ?_ h
 kernel_rfl)
theorem abO:cS Tryz.prog G0 152 YF:=ajn
theorem Ht:ak Tryz.prog YG:=ak.gE Hr abO (aP.of Tryz.func152 (c:=body Tryz.f152) (by kernel_rfl) (by kernel_rfl))
theorem ajo:cS Tryz.prog G0 151 YJ:=fI Ht mixed YH YI ahw Tryz.func151 (c:=body Tryz.f151) (by kernel_rfl) (by
 rintro⟨⟩ ⟨l,⟨⟨⟩,⟨⟩⟩⟩ hp hf hg
 have h:=agl l hp hf hg
 with_reducible refine Eq.mp ?_ h
 kernel_rfl)
theorem abP:cS Tryz.prog G0 151 YK:=ajo
theorem TP:ak Tryz.prog YL:=ak.gE Ht abP (aP.of Tryz.func151 (c:=body Tryz.f151) (by kernel_rfl) (by kernel_rfl))
theorem ajp:Valid Tryz.prog G0 149 YM:=Vg.Ai Tryz.OB (fun _=>rfl)
theorem TQ:ak Tryz.prog YN:=ak.cons TP ajp (aP.of Tryz.func149 (c:=body Tryz.f149) (by kernel_rfl) (by kernel_rfl))
theorem ajq:Valid Tryz.prog G0 99 YO:=Vg.Aj Tryz.OC (fun _=>rfl)
theorem TR:ak Tryz.prog YP:=ak.cons TQ ajq (aP.of Tryz.func99 (c:=body Tryz.f99) (by kernel_rfl) (by kernel_rfl))
theorem ajr:cS Tryz.prog G0 150 YQ:=Tryz.abF (fun _=>rfl)
theorem abQ:cS Tryz.prog G0 150 YR:=ajr
theorem Hu:ak Tryz.prog YS:=ak.gE TR abQ (aP.of Tryz.func150 (c:=body Tryz.f150) (by kernel_rfl) (by kernel_rfl))
theorem ajs:cS Tryz.prog G0 135 YV:=fI Hu mixed YT YU ahF Tryz.func135 (c:=body Tryz.f135) (by kernel_rfl) (by
 rintro l ⟨⟩ hp hf hg
 have h:=agm l hp hf hg
 with_reducible refine Eq.mp ?_ h
 kernel_rfl)
theorem abR:cS Tryz.prog G0 135 YW:=ajs
theorem Hv:ak Tryz.prog YX:=ak.gE Hu abR (aP.of Tryz.func135 (c:=body Tryz.f135) (by kernel_rfl) (by kernel_rfl))
theorem ù:Valid Tryz.prog G0 126 YZ:=ah Hv mixed YY ahH Tryz.func126 (c:=body Tryz.f126) (by kernel_rfl) (by
 rintro b hp hf
 have h:=agn b hp hf
 with_reducible refine Eq.mp ?_ h
 kernel_rfl)
theorem Hw:ak Tryz.prog Y0:=ak.cons Hv ù (aP.of Tryz.func126 (c:=body Tryz.f126) (by kernel_rfl) (by kernel_rfl))
theorem ajt:Valid Tryz.prog G0 145 Y2:=ah Hw mixed Y1 ahJ Tryz.func145 (c:=body Tryz.f145) (by kernel_rfl) (by
 rintro l hp hf
 have h:=ago l hp hf
 with_reducible refine Eq.mp ?_ h
 kernel_rfl)
theorem Hx:ak Tryz.prog Y3:=ak.cons Hw ajt (aP.of Tryz.func145 (c:=body Tryz.f145) (by kernel_rfl) (by kernel_rfl))
theorem aju:cS Tryz.prog G0 148 Y6:=fI Hx mixed Y4 Y5 ahL Tryz.func148 (c:=body Tryz.f148) (by kernel_rfl) (by
 rintro⟨n,p,q⟩ ⟨⟨s1,s2⟩,⟨⟩⟩ hp hf hg
 have h:=agp n p q s1 s2 hp hf hg
 with_reducible refine Eq.mp ?_ h
 kernel_rfl)
theorem abS:cS Tryz.prog G0 148 Y7:=aju
theorem Hy:ak Tryz.prog Y8:=ak.gE Hx abS (aP.of Tryz.func148 (c:=body Tryz.f148) (by kernel_rfl) (by kernel_rfl))
theorem ajv:cS Tryz.prog G0 147 Zb:=fI Hy mixed Y9 Za ahN Tryz.func147 (c:=body Tryz.f147) (by kernel_rfl) (by
 rintro⟨a,b⟩ ⟨⟨s1,s2⟩,⟨⟩⟩ hp hf hg
 have h:=agq a b s1 s2 hp hf hg
 with_reducible refine Eq.mp ?_ h
 kernel_rfl)
end Go.J

end
