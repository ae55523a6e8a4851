import Derived.Test.YtimebdkngdbpkaaGreatDoorPartF
set_option linter.unusedVariables false
set_option linter.unusedSimpArgs false
set_option linter.unusedSectionVars false
set_option linter.defProp false
section
set_option maxHeartbeats 0
set_option maxRecDepth 100000
namespace Go.J
open Go.Proofs
open Go Vg
def mixed:Tryz.prog.follows .mixedOrders=true:=by kernel_rfl
abbrev Ok(E:Env):Prop:=aU Tryz.prog E
def azL:Ok E0:=aU.none G0 (bx.of ī)
def qG0:∀i d,G0 i=some d->dJ d.row=true:=by
 intro i d h;unfold G0 at h;split at h<;>first|(cases h;done)|(cases h;decide)
def akH:Ok atX:=kS mixed azL nL Tryz.func317 y! λ⟨x,k⟩ h1 h2=>⟨_,aCb x k h1,y!⟩
def akI:Ok atY:=kS mixed akH nL Tryz.func236 y! λ_ h1 h2=>⟨_,aCd,y!⟩
def akJ:Ok atZ:=kS mixed akI nL Tryz.func291 y! λ⟨s1,s2,s3,s4,s5,s6,s7,s8,s9,cD⟩ h1 h2=>⟨_,aCe s1 s2 s3 s4 s5 s6 s7 s8 s9 cD,y!⟩
def akK:Ok at0:=kS mixed akJ aCp Tryz.func313 y! λ⟨u1,u2,u3,u4,u5,u6,u7,u8,p⟩ h1 h2=>⟨_,aCf u1 u2 u3 u4 u5 u6 u7 u8 p h1 h2,y!⟩
def adJ:Ok ajh:=kS mixed akK ax9 Tryz.func292 y! λ⟨u1,u2,u3,u4,u5,u6,u7,u8,b⟩ h1 h2=>⟨_,awP u1 u2 u3 u4 u5 u6 u7 u8 b h1,y!⟩
def adK:Ok aji:=kS mixed adJ nL Tryz.func235 y! λ⟨s1,s2,s3,s4,s5,s6,s7,s8,s9,cD,b⟩ h1 h2=>⟨_,awQ s1 s2 s3 s4 s5 s6 s7 s8 s9 cD b h1,y!⟩
def adL:Ok ajj:=kS mixed adK ayc Tryz.func234 y! λ⟨s1,s2,s3,s4,s5,s6,s7,s8,s9,cD⟩ h1 h2=>⟨_,awR s1 s2 s3 s4 s5 s6 s7 s8 s9 cD h1,y!⟩
def adM:Ok ajk:=kS mixed adL nL Tryz.func153 y! λb h1 h2=>⟨_,awS b h1,y!⟩
def adN:Ok ajl:=kS mixed adM nL Tryz.func268 y! λb h1 h2=>⟨_,awT b h1,y!⟩
def adO:Ok ajm:=kH mixed adN ayg Tryz.func289 y! λv ⟨l,⟨⟩⟩ h1 h2 h3=>⟨_,awU v l h1 h2,y!⟩
def adP:Ok ajn:=kH mixed adO lb Tryz.func267 y! λs ⟨l,⟨⟩⟩ h1 h2 h3=>⟨_,awV s l h1,y!⟩
def adQ:Ok ajo:=kS mixed adP nL Tryz.func225 y! λ⟨b,v⟩ h1 h2=>⟨_,awW b v h1,y!⟩
def adR:Ok ajp:=kS mixed adQ nL Tryz.func186 y! λ⟨b,s⟩ h1 h2=>⟨_,awX b s h1,y!⟩
def adS:Ok ajq:=kS mixed adR nL Tryz.func166 y! λ⟨r1,r2,r3⟩ h1 h2=>⟨_,awY r1 r2 r3,y!⟩
def adT:Ok ajr:=kS mixed adS nL Tryz.func246 y! λ⟨r1,r2,r3⟩ h1 h2=>⟨_,awZ r1 r2 r3 h1,y!⟩
def adU:Ok ajs:=kS mixed adT ayn Tryz.func247 y! λ⟨b,p⟩ h1 h2=>⟨_,aw0 b p h1 h2,y!⟩
def adV:Ok ajt:=kS mixed adU nL Tryz.func248 y! λ⟨b,p,dg⟩ h1 h2=>⟨_,aw1 b p dg h1 h2,y!⟩
def adW:Ok aju:=kS mixed adV nL Tryz.func168 y! λ⟨r1,r2,r3,dg⟩ h1 h2=>⟨_,aw2 r1 r2 r3 dg h1,y!⟩
def adX:Ok ajv:=kS mixed adW nL Tryz.func167 y! λ⟨r1,r2,r3⟩ h1 h2=>⟨_,aw3 r1 r2 r3 h1,y!⟩
def adY:Ok ajw:=kS mixed adX nL Tryz.func169 y! λ⟨r1,r2,r3⟩ h1 h2=>⟨_,aw4 r1 r2 r3 h1 h2,y!⟩
def adZ:Ok ajx:=kS mixed adY nL Tryz.func83 y! λ⟨r1,r2,r3⟩ h1 h2=>⟨_,aw5 r1 r2 r3,y!⟩
def ad0:Ok ajy:=kS mixed adZ ayu Tryz.func237 y! λ⟨kind,parts⟩ h1 h2=>⟨_,aw6 kind parts h1 h2,y!⟩
def ad1:Ok ajz:=kS mixed ad0 nL Tryz.func154 y! λb h1 h2=>⟨_,aw7 b h1,y!⟩
def ad3:Ok ajA:=kS mixed ad1 nL Tryz.func290 y! λ⟨l,r⟩ h1 h2=>⟨_,aw8 l r h1,y!⟩
def ad4:Ok ajB:=kS mixed ad3 nL Tryz.func269 y! λb h1 h2=>⟨_,aw9 b h1,y!⟩
def ad5:Ok ajC:=kS mixed ad4 nL Tryz.func227 y! λb h1 h2=>⟨_,axa b h1,y!⟩
def ad6:Ok ajD:=kS mixed ad5 nL Tryz.func69 y! λb h1 h2=>⟨_,axb b h1,y!⟩
def ad7:Ok ajE:=kS mixed ad6 nL Tryz.func233 y! λ⟨l,r⟩ h1 h2=>⟨_,axc l r,y!⟩
def ad8:Ok ajF:=kS mixed ad7 nL Tryz.func189 y! λb h1 h2=>⟨_,axd b h1,y!⟩
def ad9:Ok ajG:=kS mixed ad8 nL Tryz.func133 y! λb h1 h2=>⟨_,axe b h1,y!⟩
def aea:Ok ajH:=kS mixed ad9 nL Tryz.func252 y! λc h1 h2=>⟨_,axf c,y!⟩
def aeb:Ok ajI:=kS mixed aea nL Tryz.func253 y! λc h1 h2=>⟨_,axg c,y!⟩
def aec:Ok ajJ:=kS mixed aeb nL Tryz.func254 y! λc h1 h2=>⟨_,axh c h1,y!⟩
def aed:Ok ajK:=kS mixed aec nL Tryz.func181 y! λc h1 h2=>⟨_,axi c,y!⟩
def aee:Ok ajL:=kS mixed aed ayI Tryz.func251 y! λb h1 h2=>⟨_,axj b h1 h2,y!⟩
def aef:Ok ajM:=kS mixed aee ayK Tryz.func178 y! λb h1 h2=>⟨_,axu b h1,y!⟩
def aeg:Ok ajN:=kS mixed aef ayM Tryz.func179 y! λc h1 h2=>⟨_,axv c,y!⟩
def aeh:Ok ajO:=kS mixed aeg nL Tryz.func180 y! λc h1 h2=>⟨_,axw c,y!⟩
def aei:Ok ajP:=kS mixed aeh ayP Tryz.func297 y! λc h1 h2=>⟨_,axx c,y!⟩
def aI2:Ok aKv:=kS mixed aei nL Tryz.func214 y! λ⟨c,a,b⟩ h1 h2=>⟨_,aNw c a b,y!⟩
def aI3:Ok aKw:=kS mixed aI2 nL Tryz.func210 y! λc h1 h2=>⟨_,aNx c,y!⟩
def aI4:Ok aKx:=kS mixed aI3 nL Tryz.func211 y! λc h1 h2=>⟨_,aNy c h1,y!⟩
def aI5:Ok aKy:=kS mixed aI4 nL Tryz.func212 y! λ⟨a,b⟩ h1 h2=>⟨_,aNz a b,y!⟩
def aI6:Ok aKz:=kS mixed aI5 nL Tryz.func213 y! λc h1 h2=>⟨_,aNA c,y!⟩
def aI7:Ok aKA:=kS mixed aI6 nL Tryz.func121 y! λc h1 h2=>⟨_,aNB c,y!⟩
def aI8:Ok aKB:=kS mixed aI7 aNN Tryz.func209 y! λ⟨b,n⟩ h1 h2=>⟨_,aNC b n h1 h2,y!⟩
def aI9:Ok aKC:=kS mixed aI8 aNP Tryz.func119 y! λb h1 h2=>⟨_,aND b h1,y!⟩
def aej:Ok ajQ:=kS mixed aI9 ayR Tryz.func256 y! λu h1 h2=>⟨_,axy u h1,y!⟩
def aek:Ok ajR:=kS mixed aej ayT Tryz.func183 y! λb h1 h2=>⟨_,axz b h1,y!⟩
def ael:Ok ajS:=kS mixed aek nL Tryz.func96 y! λs h1 h2=>⟨_,axA s h1,y!⟩
def aJa:Ok aKD:=kS mixed ael nL Tryz.func120 y! λc h1 h2=>⟨_,aNE c,y!⟩
def aJb:Ok aKE:=kS mixed aJa aNS Tryz.func50 y! λs h1 h2=>⟨_,aNF s h1 h2,y!⟩
def aem:Ok ajT:=kS mixed aJb nL Tryz.func270 y! λs h1 h2=>⟨_,axB s,y!⟩
def aen:Ok ajU:=kS mixed aem nL Tryz.func282 y! λ⟨a,b⟩ h1 h2=>⟨_,axC a b,y!⟩
def aeo:Ok ajV:=kH mixed aen lb Tryz.func309 y! λ⟨a,b⟩ ⟨⟨⟩,⟨⟩⟩ h1 h2 h3=>⟨_,axD a b,y!⟩
def aep:Ok ajW:=kH mixed aeo ayZ Tryz.func308 y! λ⟨⟩ ⟨l,⟨⟨⟩,⟨⟩⟩⟩ h1 h2 h3=>⟨_,axE l h1,y!⟩
def aeq:Ok ajX:=kX aep Tryz.func306 y! (Vg.Ht Tryz.YJ (λ_=>rfl))
def aer:Ok ajY:=kX aeq Tryz.func105 y! (Vg.Hu Tryz.YK (λ_=>rfl))
def aes:Ok ajZ:=kXH aer Tryz.func307 y! (Tryz.ar4 (λ_=>rfl))
def aet:Ok aj0:=kH mixed aes lb Tryz.func281 y! λl ⟨⟩ h1 h2 h3=>⟨_,axF l h1,y!⟩
def Qw:Ok aj2:=kS mixed aet nL Tryz.func216 y! λb h1 h2=>⟨_,axG b h1,y!⟩
def azM:Valid Tryz.prog G0 216 (eM fv aj1):=kV Qw y!
def aeu:Ok aj3:=kS mixed Qw ay5 Tryz.func151 y! λl h1 h2=>⟨_,axH l h2,y!⟩
def aev:Ok aj4:=kS mixed aeu nL Tryz.func152 y! λ⟨a,b⟩ h1 h2=>⟨_,axI a b,y!⟩
def aew:Ok aj5:=kH mixed aev lb Tryz.func250 y! λ⟨⟩ ⟨s,⟨⟩⟩ h1 h2 h3=>⟨_,axJ s h1,y!⟩
def aex:Ok aj6:=kS mixed aew ay9 Tryz.func89 y! λl h1 h2=>⟨_,axK l h1 h2,y!⟩
def aey:Ok aj7:=kS mixed aex azb Tryz.func173 y! λl h1 h2=>⟨_,axL l h1,y!⟩
def aez:Ok aj8:=kS mixed aey nL Tryz.func130 y! λl h1 h2=>⟨_,axM l h1,y!⟩
def aeA:Ok aj9:=kS mixed aez aze Tryz.func172 y! λn h1 h2=>⟨_,axN n,y!⟩
def aeB:Ok aka:=kXH aeA Tryz.func174 y! (Tryz.azy (λ_=>rfl))
def aeC:Ok akb:=kS mixed aeB azh Tryz.func91 y! λ⟨l,i⟩ h1 h2=>⟨_,axO l i h1,y!⟩
def aeD:Ok akc:=kS mixed aeC azj Tryz.func102 y! λl h1 h2=>⟨_,axP l h2,y!⟩
def aeE:Ok akd:=kS mixed aeD azl Tryz.func137 y! λl h1 h2=>⟨_,axQ l h2,y!⟩
def aeF:Ok ake:=kS mixed aeE nL Tryz.func229 y! λl h1 h2=>⟨_,axR l,y!⟩
def Qx:Ok akf:=kH mixed aeF lb Tryz.func311 y! λ⟨n,p,q⟩ ⟨⟨s1,s2⟩,⟨⟩⟩ h1 h2 h3=>⟨_,axS n p q s1 s2,y!⟩
def azN:ay Tryz.prog G0 196 akg:=vH Qx mixed Ch q5q azp Tryz.func196 y! λ⟨a,b⟩ ⟨⟨s1,s2⟩,⟨⟩⟩ h1 h2 h3=>⟨_,axT a b s1 s2 h1,y!⟩
def abA:ay Tryz.prog G0 196 YG:=azN
def aeG:Ok akh:=aU.bE Qx abA (cO.k Tryz.func196 y!)
def aeH:Ok aki:=kS mixed aeG nL Tryz.func286 y! λ⟨l,s1,s2⟩ h1 h2=>⟨_,axU l s1 s2,y!⟩
def aeI:Ok akj:=kS mixed aeH azs Tryz.func16 y! λ⟨a,b⟩ h1 h2=>⟨_,axV a b h2,y!⟩
def aeJ:Ok akk:=kS mixed aeI azu Tryz.func228 y! λd h1 h2=>⟨_,axW d h1,y!⟩
def YW:Ok ļ:=kS mixed aeJ nL Tryz.func100 y! λ⟨l1,l2,l3⟩ h1 h2=>⟨_,ann l1 l2 l3,y!⟩
def YX:Ok Ľ:=kS mixed YW nL Tryz.func136 y! λb h1 h2=>⟨_,ano b h1,y!⟩
def YY:Ok ľ:=kS mixed YX apl Tryz.func134 y! λd h1 h2=>⟨_,anp d h1,y!⟩
def YZ:Ok Ŀ:=kS mixed YY nL Tryz.func287 y! λd h1 h2=>⟨_,anq d h1,y!⟩
end Go.J

end
