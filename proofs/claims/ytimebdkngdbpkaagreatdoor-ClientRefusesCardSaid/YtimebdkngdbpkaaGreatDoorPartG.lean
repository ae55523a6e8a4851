import Derived.Test.YtimebdkngdbpkaaGreatDoorPartF
set_option linter.unusedVariables false
set_option linter.unusedSimpArgs false
set_option linter.unusedSectionVars false
section
set_option linter.unusedVariables false
set_option maxHeartbeats 0
set_option maxRecDepth 100000
namespace Go.J
open Go.Proofs
open Go Vg
theorem mixed:Tryz.prog.follows .mixedOrders=true :=by kernel_rfl
abbrev Ok(E:Env):Prop :=aU Tryz.prog E
theorem azL:Ok E0:=aU.none G0 (bx.of ī)
theorem qG0:∀i d,G0 i=some d->dJ d.row=true :=by
 intro i d h;unfold G0 at h;split at h<;>first|(cases h;done)|(cases h;decide)
theorem akH:Ok atX:=kS mixed azL nL Tryz.func317 y! fun⟨x,k⟩ h1 h2=>⟨_,aCb x k h1 h2,y!⟩
theorem akI:Ok atY:=kS mixed akH nL Tryz.func236 y! fun _ h1 h2=>⟨_,aCd h1 h2,y!⟩
theorem akJ:Ok atZ:=kS mixed akI nL Tryz.func291 y! fun⟨s1,s2,s3,s4,s5,s6,s7,s8,s9,cD⟩ h1 h2=>⟨_,aCe s1 s2 s3 s4 s5 s6 s7 s8 s9 cD h1 h2,y!⟩
theorem akK:Ok at0:=kS mixed akJ aCp Tryz.func313 y! fun⟨u1,u2,u3,u4,u5,u6,u7,u8,p⟩ h1 h2=>⟨_,aCf u1 u2 u3 u4 u5 u6 u7 u8 p h1 h2,y!⟩
theorem adJ:Ok ajh:=kS mixed akK ax9 Tryz.func292 y! fun⟨u1,u2,u3,u4,u5,u6,u7,u8,b⟩ h1 h2=>⟨_,awP u1 u2 u3 u4 u5 u6 u7 u8 b h1 h2,y!⟩
theorem adK:Ok aji:=kS mixed adJ nL Tryz.func235 y! fun⟨s1,s2,s3,s4,s5,s6,s7,s8,s9,cD,b⟩ h1 h2=>⟨_,awQ s1 s2 s3 s4 s5 s6 s7 s8 s9 cD b h1 h2,y!⟩
theorem adL:Ok ajj:=kS mixed adK ayc Tryz.func234 y! fun⟨s1,s2,s3,s4,s5,s6,s7,s8,s9,cD⟩ h1 h2=>⟨_,awR s1 s2 s3 s4 s5 s6 s7 s8 s9 cD h1 h2,y!⟩
theorem adM:Ok ajk:=kS mixed adL nL Tryz.func153 y! fun b h1 h2=>⟨_,awS b h1 h2,y!⟩
theorem adN:Ok ajl:=kS mixed adM nL Tryz.func268 y! fun b h1 h2=>⟨_,awT b h1 h2,y!⟩
theorem adO:Ok ajm:=kH mixed adN ayg Tryz.func289 y! fun v ⟨l,⟨⟩⟩ h1 h2 h3=>⟨_,awU v l h1 h2 h3,y!⟩
theorem adP:Ok ajn:=kH mixed adO lb Tryz.func267 y! fun s ⟨l,⟨⟩⟩ h1 h2 h3=>⟨_,awV s l h1 h2 h3,y!⟩
theorem adQ:Ok ajo:=kS mixed adP nL Tryz.func225 y! fun⟨b,v⟩ h1 h2=>⟨_,awW b v h1 h2,y!⟩
theorem adR:Ok ajp:=kS mixed adQ nL Tryz.func186 y! fun⟨b,s⟩ h1 h2=>⟨_,awX b s h1 h2,y!⟩
theorem adS:Ok ajq:=kS mixed adR nL Tryz.func166 y! fun⟨r1,r2,r3⟩ h1 h2=>⟨_,awY r1 r2 r3 h1 h2,y!⟩
theorem adT:Ok ajr:=kS mixed adS nL Tryz.func246 y! fun⟨r1,r2,r3⟩ h1 h2=>⟨_,awZ r1 r2 r3 h1 h2,y!⟩
theorem adU:Ok ajs:=kS mixed adT ayn Tryz.func247 y! fun⟨b,p⟩ h1 h2=>⟨_,aw0 b p h1 h2,y!⟩
theorem adV:Ok ajt:=kS mixed adU nL Tryz.func248 y! fun⟨b,p,dg⟩ h1 h2=>⟨_,aw1 b p dg h1 h2,y!⟩
theorem adW:Ok aju:=kS mixed adV nL Tryz.func168 y! fun⟨r1,r2,r3,dg⟩ h1 h2=>⟨_,aw2 r1 r2 r3 dg h1 h2,y!⟩
theorem adX:Ok ajv:=kS mixed adW nL Tryz.func167 y! fun⟨r1,r2,r3⟩ h1 h2=>⟨_,aw3 r1 r2 r3 h1 h2,y!⟩
theorem adY:Ok ajw:=kS mixed adX nL Tryz.func169 y! fun⟨r1,r2,r3⟩ h1 h2=>⟨_,aw4 r1 r2 r3 h1 h2,y!⟩
theorem adZ:Ok ajx:=kS mixed adY nL Tryz.func83 y! fun⟨r1,r2,r3⟩ h1 h2=>⟨_,aw5 r1 r2 r3 h1 h2,y!⟩
theorem ad0:Ok ajy:=kS mixed adZ ayu Tryz.func237 y! fun⟨kind,parts⟩ h1 h2=>⟨_,aw6 kind parts h1 h2,y!⟩
theorem ad1:Ok ajz:=kS mixed ad0 nL Tryz.func154 y! fun b h1 h2=>⟨_,aw7 b h1 h2,y!⟩
theorem ad3:Ok ajA:=kS mixed ad1 nL Tryz.func290 y! fun⟨l,r⟩ h1 h2=>⟨_,aw8 l r h1 h2,y!⟩
theorem ad4:Ok ajB:=kS mixed ad3 nL Tryz.func269 y! fun b h1 h2=>⟨_,aw9 b h1 h2,y!⟩
theorem ad5:Ok ajC:=kS mixed ad4 nL Tryz.func227 y! fun b h1 h2=>⟨_,axa b h1 h2,y!⟩
theorem ad6:Ok ajD:=kS mixed ad5 nL Tryz.func69 y! fun b h1 h2=>⟨_,axb b h1 h2,y!⟩
theorem ad7:Ok ajE:=kS mixed ad6 nL Tryz.func233 y! fun⟨l,r⟩ h1 h2=>⟨_,axc l r h1 h2,y!⟩
theorem ad8:Ok ajF:=kS mixed ad7 nL Tryz.func189 y! fun b h1 h2=>⟨_,axd b h1 h2,y!⟩
theorem ad9:Ok ajG:=kS mixed ad8 nL Tryz.func133 y! fun b h1 h2=>⟨_,axe b h1 h2,y!⟩
theorem aea:Ok ajH:=kS mixed ad9 nL Tryz.func252 y! fun c h1 h2=>⟨_,axf c h1 h2,y!⟩
theorem aeb:Ok ajI:=kS mixed aea nL Tryz.func253 y! fun c h1 h2=>⟨_,axg c h1 h2,y!⟩
theorem aec:Ok ajJ:=kS mixed aeb nL Tryz.func254 y! fun c h1 h2=>⟨_,axh c h1 h2,y!⟩
theorem aed:Ok ajK:=kS mixed aec nL Tryz.func181 y! fun c h1 h2=>⟨_,axi c h1 h2,y!⟩
theorem aee:Ok ajL:=kS mixed aed ayI Tryz.func251 y! fun b h1 h2=>⟨_,axj b h1 h2,y!⟩
theorem aef:Ok ajM:=kS mixed aee ayK Tryz.func178 y! fun b h1 h2=>⟨_,axu b h1 h2,y!⟩
theorem aeg:Ok ajN:=kS mixed aef ayM Tryz.func179 y! fun c h1 h2=>⟨_,axv c h1 h2,y!⟩
theorem aeh:Ok ajO:=kS mixed aeg nL Tryz.func180 y! fun c h1 h2=>⟨_,axw c h1 h2,y!⟩
theorem aei:Ok ajP:=kS mixed aeh ayP Tryz.func297 y! fun c h1 h2=>⟨_,axx c h1 h2,y!⟩
theorem aej:Ok ajQ:=kS mixed aei ayR Tryz.func256 y! fun u h1 h2=>⟨_,axy u h1 h2,y!⟩
theorem aek:Ok ajR:=kS mixed aej ayT Tryz.func183 y! fun b h1 h2=>⟨_,axz b h1 h2,y!⟩
theorem ael:Ok ajS:=kS mixed aek nL Tryz.func96 y! fun s h1 h2=>⟨_,axA s h1 h2,y!⟩
theorem aem:Ok ajT:=kS mixed ael nL Tryz.func270 y! fun s h1 h2=>⟨_,axB s h1 h2,y!⟩
theorem aen:Ok ajU:=kS mixed aem nL Tryz.func282 y! fun⟨a,b⟩ h1 h2=>⟨_,axC a b h1 h2,y!⟩
theorem aeo:Ok ajV:=kH mixed aen lb Tryz.func309 y! fun⟨a,b⟩ ⟨⟨⟩,⟨⟩⟩ h1 h2 h3=>⟨_,axD a b h1 h2 h3,y!⟩
theorem aep:Ok ajW:=kH mixed aeo ayZ Tryz.func308 y! fun⟨⟩ ⟨l,⟨⟨⟩,⟨⟩⟩⟩ h1 h2 h3=>⟨_,axE l h1 h2 h3,y!⟩
theorem aeq:Ok ajX:=kX aep Tryz.func306 y! (Vg.Ht Tryz.YJ (fun _=>rfl))
theorem aer:Ok ajY:=kX aeq Tryz.func105 y! (Vg.Hu Tryz.YK (fun _=>rfl))
theorem aes:Ok ajZ:=kXH aer Tryz.func307 y! (Tryz.ar4 (fun _=>rfl))
theorem aet:Ok aj0:=kH mixed aes lb Tryz.func281 y! fun l ⟨⟩ h1 h2 h3=>⟨_,axF l h1 h2 h3,y!⟩
theorem Qw:Ok aj2:=kS mixed aet nL Tryz.func216 y! fun b h1 h2=>⟨_,axG b h1 h2,y!⟩
theorem azM:Valid Tryz.prog G0 216 (eM fv aj1):=kV Qw y!
theorem aeu:Ok aj3:=kS mixed Qw ay5 Tryz.func151 y! fun l h1 h2=>⟨_,axH l h1 h2,y!⟩
theorem aev:Ok aj4:=kS mixed aeu nL Tryz.func152 y! fun⟨a,b⟩ h1 h2=>⟨_,axI a b h1 h2,y!⟩
theorem aew:Ok aj5:=kH mixed aev lb Tryz.func250 y! fun⟨⟩ ⟨s,⟨⟩⟩ h1 h2 h3=>⟨_,axJ s h1 h2 h3,y!⟩
theorem aex:Ok aj6:=kS mixed aew ay9 Tryz.func89 y! fun l h1 h2=>⟨_,axK l h1 h2,y!⟩
theorem aey:Ok aj7:=kS mixed aex azb Tryz.func173 y! fun l h1 h2=>⟨_,axL l h1 h2,y!⟩
theorem aez:Ok aj8:=kS mixed aey nL Tryz.func130 y! fun l h1 h2=>⟨_,axM l h1 h2,y!⟩
theorem aeA:Ok aj9:=kS mixed aez aze Tryz.func172 y! fun n h1 h2=>⟨_,axN n h1 h2,y!⟩
theorem aeB:Ok aka:=kXH aeA Tryz.func174 y! (Tryz.azy (fun _=>rfl))
theorem aeC:Ok akb:=kS mixed aeB azh Tryz.func91 y! fun⟨l,i⟩ h1 h2=>⟨_,axO l i h1 h2,y!⟩
theorem aeD:Ok akc:=kS mixed aeC azj Tryz.func102 y! fun l h1 h2=>⟨_,axP l h1 h2,y!⟩
theorem aeE:Ok akd:=kS mixed aeD azl Tryz.func137 y! fun l h1 h2=>⟨_,axQ l h1 h2,y!⟩
theorem aeF:Ok ake:=kS mixed aeE nL Tryz.func229 y! fun l h1 h2=>⟨_,axR l h1 h2,y!⟩
theorem Qx:Ok akf:=kH mixed aeF lb Tryz.func311 y! fun⟨n,p,q⟩ ⟨⟨s1,s2⟩,⟨⟩⟩ h1 h2 h3=>⟨_,axS n p q s1 s2 h1 h2 h3,y!⟩
theorem azN:ay Tryz.prog G0 196 akg:=vH Qx mixed aiw q5q azp Tryz.func196 y! fun⟨a,b⟩ ⟨⟨s1,s2⟩,⟨⟩⟩ h1 h2 h3=>⟨_,axT a b s1 s2 h1 h2 h3,y!⟩
theorem abA:ay Tryz.prog G0 196 YG:=azN
theorem aeG:Ok akh:=aU.bE Qx abA (cO.k Tryz.func196 y!)
theorem aeH:Ok aki:=kS mixed aeG nL Tryz.func286 y! fun⟨l,s1,s2⟩ h1 h2=>⟨_,axU l s1 s2 h1 h2,y!⟩
theorem aeI:Ok akj:=kS mixed aeH azs Tryz.func16 y! fun⟨a,b⟩ h1 h2=>⟨_,axV a b h1 h2,y!⟩
theorem aeJ:Ok akk:=kS mixed aeI azu Tryz.func228 y! fun d h1 h2=>⟨_,axW d h1 h2,y!⟩
theorem YW:Ok ļ:=kS mixed aeJ nL Tryz.func100 y! fun⟨l1,l2,l3⟩ h1 h2=>⟨_,ann l1 l2 l3 h1 h2,y!⟩
theorem YX:Ok Ľ:=kS mixed YW nL Tryz.func136 y! fun b h1 h2=>⟨_,ano b h1 h2,y!⟩
theorem YY:Ok ľ:=kS mixed YX apl Tryz.func134 y! fun d h1 h2=>⟨_,anp d h1 h2,y!⟩
theorem YZ:Ok Ŀ:=kS mixed YY nL Tryz.func287 y! fun d h1 h2=>⟨_,anq d h1 h2,y!⟩
theorem Y0:Ok ŀ:=kS mixed YZ apo Tryz.func135 y! fun⟨d,t⟩ h1 h2=>⟨_,anr d t h1 h2,y!⟩
theorem Y1:Ok Ł:=kS mixed Y0 nL Tryz.func138 y! fun⟨d,t⟩ h1 h2=>⟨_,ans d t h1 h2,y!⟩
theorem Y2:Ok ł:=kX Y1 Tryz.func123 y! (Go.DM.V8 azM (fun _=>rfl) (fun _ _ _=>rfl))
theorem Y3:Ok Ń:=kS mixed Y2 nL Tryz.func285 y! fun⟨s1,s2⟩ h1 h2=>⟨_,ant s1 s2 h1 h2,y!⟩
theorem Y4:Ok ń:=kS mixed Y3 apu Tryz.func219 y! fun⟨s1,s2,s3⟩ h1 h2=>⟨_,anu s1 s2 s3 h1 h2,y!⟩
theorem Y5:Ok Ņ:=kS mixed Y4 nL Tryz.func222 y! fun⟨s1,s2,s3⟩ h1 h2=>⟨_,anv s1 s2 s3 h1 h2,y!⟩
theorem Y6:Ok ņ:=kS mixed Y5 nL Tryz.func312 y! fun⟨s1,s2,s3,s4⟩ h1 h2=>⟨_,anw s1 s2 s3 s4 h1 h2,y!⟩
theorem Y7:Ok Ň:=kS mixed Y6 nL Tryz.func53 y! fun⟨docs,s1,s2⟩ h1 h2=>⟨_,anx docs s1 s2 h1 h2,y!⟩
theorem Y8:Ok ň:=kS mixed Y7 apz Tryz.func288 y! fun⟨l,n⟩ h1 h2=>⟨_,anz l n h1 h2,y!⟩
theorem Y9:Ok ŉ:=kS mixed Y8 nL Tryz.func55 y! fun l h1 h2=>⟨_,anA l h1 h2,y!⟩
theorem Za:Ok Ŋ:=kS mixed Y9 nL Tryz.func124 y! fun l h1 h2=>⟨_,anB l h1 h2,y!⟩
theorem Zb:Ok ŋ:=kS mixed Za apD Tryz.func280 y! fun⟨a,b⟩ h1 h2=>⟨_,anC a b h1 h2,y!⟩
end Go.J

end
