import Derived.Test.YtfbolhlbmbfhbaaGreatDoorPartF
set_option linter.unusedVariables false
set_option linter.unusedSimpArgs false
set_option linter.unusedSectionVars false
set_option linter.defProp false
set_option linter.unusedVariables false
set_option maxHeartbeats 0
set_option maxRecDepth 100000
namespace Go.J
open Go.Proofs
open Go Vg
def mixed:Tryz.prog.follows .mixedOrders=true:=by kernel_rfl
abbrev Ok(E:Env):Prop:=aW Tryz.prog E
def aJy:Ok E0:=aW.none G0 (bz.of aeJ)
def arG:Ok aCQ:=kS mixed aJy nL Tryz.func371 y! λ_ h1 h2=>⟨_,aMt,y!⟩
def arH:Ok aCR:=kS mixed arG nL Tryz.func372 y! λ⟨x,n⟩ h1 h2=>⟨_,aMu x n h1 h2,y!⟩
def arI:Ok aCS:=kS mixed arH aMN Tryz.func370 y! λb h1 h2=>⟨_,aMw b h1 h2,y!⟩
def arJ:Ok aCT:=kS mixed arI aMP Tryz.func337 y! λ⟨l,p⟩ h1 h2=>⟨_,aMx l p h1,y!⟩
def arK:Ok aCU:=kS mixed arJ aMR Tryz.func336 y! λb h1 h2=>⟨_,aMy b h1,y!⟩
def arL:Ok aCV:=kS mixed arK aMT Tryz.func246 y! λb h1 h2=>⟨_,aMz b h1,y!⟩
def arM:Ok aCW:=kS mixed arL nL Tryz.func373 y! λ⟨x,k⟩ h1 h2=>⟨_,aMA x k h1,y!⟩
def arN:Ok aCX:=kS mixed arM nL Tryz.func149 y! λ_ h1 h2=>⟨_,aMB,y!⟩
def arO:Ok aCY:=kS mixed arN nL Tryz.func261 y! λ⟨s1,s2,s3,s4,s5,s6,s7,s8,s9,fC⟩ h1 h2=>⟨_,aMC s1 s2 s3 s4 s5 s6 s7 s8 s9 fC,y!⟩
def arP:Ok aCZ:=kS mixed arO aMY Tryz.func340 y! λ⟨u1,u2,u3,u4,u5,u6,u7,u8,p⟩ h1 h2=>⟨_,aMD u1 u2 u3 u4 u5 u6 u7 u8 p h1 h2,y!⟩
def akg:Ok apU:=kS mixed arP aHt Tryz.func262 y! λ⟨u1,u2,u3,u4,u5,u6,u7,u8,b⟩ h1 h2=>⟨_,aFV u1 u2 u3 u4 u5 u6 u7 u8 b h1,y!⟩
def akh:Ok apV:=kS mixed akg nL Tryz.func148 y! λ⟨s1,s2,s3,s4,s5,s6,s7,s8,s9,fC,b⟩ h1 h2=>⟨_,aFW s1 s2 s3 s4 s5 s6 s7 s8 s9 fC b h1,y!⟩
def aki:Ok apW:=kS mixed akh aHw Tryz.func147 y! λ⟨s1,s2,s3,s4,s5,s6,s7,s8,s9,fC⟩ h1 h2=>⟨_,aFX s1 s2 s3 s4 s5 s6 s7 s8 s9 fC h1,y!⟩
def akj:Ok apX:=kS mixed aki nL Tryz.func61 y! λb h1 h2=>⟨_,aFY b h1,y!⟩
def akk:Ok apY:=kR mixed akj aHz nL Tryz.func247 y! λm v h1 h2 h3=>⟨_,aFZ m v h1 h2 h3,y!⟩
def akl:Ok apZ:=kS mixed akk nL Tryz.func284 y! λs h1 h2=>⟨_,aF0 s h1,y!⟩
def akm:Ok ap0:=kS mixed akl nL Tryz.func333 y! λb h1 h2=>⟨_,aF1 b h1,y!⟩
def akn:Ok ap1:=kH mixed akm aHD Tryz.func354 y! λv ⟨l,⟨⟩⟩ h1 h2 h3=>⟨_,aF2 v l h1 h2,y!⟩
def ako:Ok ap2:=kH mixed akn mG Tryz.func332 y! λs ⟨l,⟨⟩⟩ h1 h2 h3=>⟨_,aF3 s l h1,y!⟩
def akp:Ok ap3:=kS mixed ako nL Tryz.func297 y! λ⟨b,v⟩ h1 h2=>⟨_,aF4 b v h1,y!⟩
def akq:Ok ap4:=kS mixed akp nL Tryz.func232 y! λ⟨b,s⟩ h1 h2=>⟨_,aF5 b s h1,y!⟩
def akr:Ok ap5:=kS mixed akq nL Tryz.func229 y! λ⟨r1,r2,r3⟩ h1 h2=>⟨_,aF6 r1 r2 r3,y!⟩
def aks:Ok ap6:=kS mixed akr nL Tryz.func341 y! λ⟨r1,r2,r3⟩ h1 h2=>⟨_,aF7 r1 r2 r3 h1,y!⟩
def akt:Ok ap7:=kS mixed aks aHK Tryz.func342 y! λ⟨b,p⟩ h1 h2=>⟨_,aF8 b p h1 h2,y!⟩
def aku:Ok ap8:=kS mixed akt nL Tryz.func343 y! λ⟨b,p,gi⟩ h1 h2=>⟨_,aF9 b p gi h1 h2,y!⟩
def akv:Ok ap9:=kS mixed aku nL Tryz.func264 y! λ⟨r1,r2,r3,gi⟩ h1 h2=>⟨_,aGa r1 r2 r3 gi h1,y!⟩
def akw:Ok aqa:=kS mixed akv nL Tryz.func263 y! λ⟨r1,r2,r3⟩ h1 h2=>⟨_,aGb r1 r2 r3 h1,y!⟩
def akx:Ok aqb:=kS mixed akw nL Tryz.func265 y! λ⟨r1,r2,r3⟩ h1 h2=>⟨_,aGc r1 r2 r3 h1 h2,y!⟩
def aky:Ok aqc:=kS mixed akx nL Tryz.func119 y! λ⟨r1,r2,r3⟩ h1 h2=>⟨_,aGd r1 r2 r3,y!⟩
def akz:Ok aqd:=kS mixed aky aHR Tryz.func166 y! λ⟨kind,b⟩ h1 h2=>⟨_,aGe kind b h1 h2,y!⟩
def akA:Ok aqe:=kS mixed akz nL Tryz.func133 y! λ⟨kind,b⟩ h1 h2=>⟨_,aGf kind b h1,y!⟩
def akB:Ok aqf:=kS mixed akA nL Tryz.func177 y! λb h1 h2=>⟨_,aGg b h1,y!⟩
def akC:Ok aqg:=kS mixed akB nL Tryz.func248 y! λ⟨l,r⟩ h1 h2=>⟨_,aGh l r h1,y!⟩
def akD:Ok aqh:=kS mixed akC aHW Tryz.func267 y! λ⟨kind,parts⟩ h1 h2=>⟨_,aGi kind parts h1 h2,y!⟩
def akE:Ok aqi:=kS mixed akD nL Tryz.func156 y! λb h1 h2=>⟨_,aGj b h1,y!⟩
def akF:Ok aqj:=kS mixed akE nL Tryz.func270 y! λ⟨l,r⟩ h1 h2=>⟨_,aGk l r h1,y!⟩
def akG:Ok aqk:=kS mixed akF nL Tryz.func334 y! λb h1 h2=>⟨_,aGl b h1,y!⟩
def akH:Ok aql:=kS mixed akG nL Tryz.func258 y! λb h1 h2=>⟨_,aGm b h1,y!⟩
def akI:Ok aqm:=kS mixed akH nL Tryz.func66 y! λb h1 h2=>⟨_,aGn b h1,y!⟩
def akJ:Ok aqn:=kS mixed akI nL Tryz.func266 y! λ⟨l,r⟩ h1 h2=>⟨_,aGo l r,y!⟩
def akK:Ok aqo:=kS mixed akJ nL Tryz.func235 y! λb h1 h2=>⟨_,aGp b h1,y!⟩
def akL:Ok aqp:=kS mixed akK nL Tryz.func191 y! λb h1 h2=>⟨_,aGq b h1,y!⟩
def akM:Ok aqq:=kS mixed akL nL Tryz.func314 y! λc h1 h2=>⟨_,aGr c,y!⟩
def akN:Ok aqr:=kS mixed akM nL Tryz.func315 y! λc h1 h2=>⟨_,aGs c,y!⟩
def akO:Ok aqs:=kS mixed akN nL Tryz.func316 y! λc h1 h2=>⟨_,aGt c h1,y!⟩
def akP:Ok aqt:=kS mixed akO nL Tryz.func224 y! λc h1 h2=>⟨_,aGu c,y!⟩
def akQ:Ok aqu:=kS mixed akP aIa Tryz.func313 y! λb h1 h2=>⟨_,aGv b h1 h2,y!⟩
def akR:Ok aqv:=kS mixed akQ aIc Tryz.func221 y! λb h1 h2=>⟨_,aGB b h1,y!⟩
def akS:Ok aqw:=kS mixed akR aIe Tryz.func222 y! λc h1 h2=>⟨_,aGC c,y!⟩
def akT:Ok aqx:=kS mixed akS nL Tryz.func223 y! λc h1 h2=>⟨_,aGD c,y!⟩
def akU:Ok aqy:=kS mixed akT aIh Tryz.func364 y! λc h1 h2=>⟨_,aGE c,y!⟩
def akV:Ok aqz:=kS mixed akU nL Tryz.func255 y! λ⟨c,a,b⟩ h1 h2=>⟨_,aGF c a b,y!⟩
def akW:Ok aqA:=kS mixed akV nL Tryz.func251 y! λc h1 h2=>⟨_,aGG c,y!⟩
def akX:Ok aqB:=kS mixed akW nL Tryz.func252 y! λc h1 h2=>⟨_,aGH c h1,y!⟩
def akY:Ok aqC:=kS mixed akX nL Tryz.func253 y! λ⟨a,b⟩ h1 h2=>⟨_,aGI a b,y!⟩
def akZ:Ok aqD:=kS mixed akY nL Tryz.func254 y! λc h1 h2=>⟨_,aGJ c,y!⟩
def ak0:Ok aqE:=kS mixed akZ nL Tryz.func140 y! λc h1 h2=>⟨_,aGK c,y!⟩
def ak1:Ok aqF:=kS mixed ak0 aIp Tryz.func250 y! λ⟨b,n⟩ h1 h2=>⟨_,aGL b n h1 h2,y!⟩
def ak2:Ok aqG:=kS mixed ak1 aIr Tryz.func138 y! λb h1 h2=>⟨_,aGM b h1,y!⟩
def ak3:Ok aqH:=kS mixed ak2 aIt Tryz.func318 y! λu h1 h2=>⟨_,aGN u h1,y!⟩
def ak4:Ok aqI:=kS mixed ak3 aIv Tryz.func226 y! λb h1 h2=>⟨_,aGO b h1,y!⟩
def ak5:Ok aqJ:=kS mixed ak4 nL Tryz.func114 y! λs h1 h2=>⟨_,aGP s h1,y!⟩
def ak6:Ok aqK:=kS mixed ak5 nL Tryz.func139 y! λc h1 h2=>⟨_,aGQ c,y!⟩
def ak7:Ok aqL:=kS mixed ak6 aIz Tryz.func338 y! λu h1 h2=>⟨_,aGR u h1,y!⟩
def ak8:Ok aqM:=kS mixed ak7 aIB Tryz.func256 y! λb h1 h2=>⟨_,aGS b h1,y!⟩
def ak9:Ok aqN:=kS mixed ak8 aID Tryz.func278 y! λl h1 h2=>⟨_,aGT l h2,y!⟩
def ala:Ok aqO:=kH mixed ak9 aIF Tryz.func167 y! λ⟨⟩ ⟨l,⟨⟩⟩ h1 h2 h3=>⟨_,aGU l h1,y!⟩
def alb:Ok aqP:=kS mixed ala nL Tryz.func311 y! λb h1 h2=>⟨_,aGV b h1,y!⟩
def alc:Ok aqQ:=kS mixed alb aII Tryz.func141 y! λ⟨b,t⟩ h1 h2=>⟨_,aGW b t h1,y!⟩
def ald:Ok aqR:=kS mixed alc nL Tryz.func335 y! λs h1 h2=>⟨_,aGX s,y!⟩
def ale:Ok aqS:=kS mixed ald nL Tryz.func359 y! λ⟨a,b⟩ h1 h2=>⟨_,aGY a b,y!⟩
def alf:Ok aqT:=kH mixed ale mG Tryz.func382 y! λ⟨a,b⟩ ⟨⟨⟩,⟨⟩⟩ h1 h2 h3=>⟨_,aGZ a b,y!⟩
def alg:Ok aqU:=kH mixed alf aIN Tryz.func381 y! λ⟨⟩ ⟨l,⟨⟨⟩,⟨⟩⟩⟩ h1 h2 h3=>⟨_,aG0 l h1,y!⟩
def alh:Ok aqV:=kX alg Tryz.func379 y! (Vg.KD Tryz.aao (λ_=>rfl))
def ali:Ok aqW:=kX alh Tryz.func128 y! (Vg.KE Tryz.aap (λ_=>rfl))
def alj:Ok aqX:=kXH ali Tryz.func380 y! (Tryz.aBg (λ_=>rfl))
def alk:Ok aqY:=kH mixed alj mG Tryz.func358 y! λl ⟨⟩ h1 h2 h3=>⟨_,aG1 l h1,y!⟩
def T8:Ok aq0:=kS mixed alk nL Tryz.func300 y! λb h1 h2=>⟨_,aG2 b h1,y!⟩
def aJz:Valid Tryz.prog G0 300 (fg lz aqZ):=kV T8 y!
def alm:Ok aq1:=kS mixed T8 aIT Tryz.func154 y! λl h1 h2=>⟨_,aG3 l h2,y!⟩
def aln:Ok aq2:=kS mixed alm nL Tryz.func155 y! λ⟨a,b⟩ h1 h2=>⟨_,aG4 a b,y!⟩
def alo:Ok aq3:=kH mixed aln mG Tryz.func309 y! λ⟨⟩ ⟨s,⟨⟩⟩ h1 h2 h3=>⟨_,aG5 s h1,y!⟩
def alp:Ok aq4:=kS mixed alo aIX Tryz.func99 y! λl h1 h2=>⟨_,aG6 l h1 h2,y!⟩
def alq:Ok aq5:=kS mixed alp aIZ Tryz.func212 y! λl h1 h2=>⟨_,aG7 l h1,y!⟩
def alr:Ok aq6:=kS mixed alq nL Tryz.func200 y! λl h1 h2=>⟨_,aG8 l h1,y!⟩
def als:Ok aq7:=kS mixed alr aI2 Tryz.func181 y! λn h1 h2=>⟨_,aG9 n,y!⟩
def alu:Ok aq8:=kR mixed als aI4 nL Tryz.func135 y! λm l h1 h2 h3=>⟨_,aHa m l h1 h2 h3,y!⟩
def alv:Ok aq9:=kS mixed alu aI6 Tryz.func136 y! λl h1 h2=>⟨_,aHb l h1,y!⟩
def alw:Ok ara:=kS mixed alv aI8 Tryz.func211 y! λn h1 h2=>⟨_,aHc n,y!⟩
def alx:Ok arb:=kXH alw Tryz.func213 y! (Tryz.aJl (λ_=>rfl))
def aly:Ok arc:=kS mixed alx aJb Tryz.func98 y! λ⟨l,i⟩ h1 h2=>⟨_,aHd l i h1,y!⟩
def alz:Ok ard:=kS mixed aly aJd Tryz.func125 y! λl h1 h2=>⟨_,aHe l h2,y!⟩
def alA:Ok are:=kS mixed alz aJf Tryz.func205 y! λl h1 h2=>⟨_,aHf l h2,y!⟩
def alB:Ok arf:=kS mixed alA nL Tryz.func308 y! λl h1 h2=>⟨_,aHg l,y!⟩
def T9:Ok arh:=kH mixed alB mG Tryz.func384 y! λ⟨n,p,q⟩ ⟨⟨s1,s2⟩,⟨⟩⟩ h1 h2 h3=>⟨_,aHh n p q s1 s2,y!⟩
def aBm:aI Tryz.prog G0 242 aeS:=vH T9 mixed aCn q5q axB Tryz.func242 y! λ⟨a,b⟩ ⟨⟨s1,s2⟩,⟨⟩⟩ h1 h2 h3=>⟨_,auP a b s1 s2 h1,y!⟩
def Ñ:aI Tryz.prog G0 242 WE:=aBm
def aaB:Ok aeT:=aW.bS T9 Ñ (du.kq Tryz.func242 y!)
def aaC:Ok aeU:=kS mixed aaB nL Tryz.func363 y! λ⟨l,s1,s2⟩ h1 h2=>⟨_,auQ l s1 s2,y!⟩
def aaD:Ok aeV:=kS mixed aaC axE Tryz.func173 y! λl h1 h2=>⟨_,auR l h1 h2,y!⟩
def aaE:Ok aeW:=kS mixed aaD nL Tryz.func280 y! λl h1 h2=>⟨_,auS l h1,y!⟩
def aaF:Ok aeX:=kS mixed aaE axH Tryz.func17 y! λ⟨a,b⟩ h1 h2=>⟨_,auT a b h2,y!⟩
def aaG:Ok aeY:=kS mixed aaF axJ Tryz.func307 y! λd h1 h2=>⟨_,auU d h1,y!⟩
def aaH:Ok aeZ:=kS mixed aaG nL Tryz.func123 y! λ⟨l1,l2,l3⟩ h1 h2=>⟨_,auV l1 l2 l3,y!⟩
def aaI:Ok ae0:=kS mixed aaH nL Tryz.func204 y! λb h1 h2=>⟨_,auW b h1,y!⟩
def aaJ:Ok ae1:=kS mixed aaI axN Tryz.func202 y! λd h1 h2=>⟨_,auX d h1,y!⟩
def aaK:Ok ae2:=kS mixed aaJ nL Tryz.func259 y! λd h1 h2=>⟨_,auY d h1,y!⟩
def aaL:Ok ae3:=kS mixed aaK axQ Tryz.func203 y! λ⟨d,t⟩ h1 h2=>⟨_,auZ d t h1,y!⟩
def aaM:Ok ae4:=kS mixed aaL nL Tryz.func206 y! λ⟨d,t⟩ h1 h2=>⟨_,au0 d t h1,y!⟩
def aaN:Ok ae5:=kX aaM Tryz.func193 y! (Go.DM.Í aJz (λ_=>rfl) (λ_ _ _=>rfl))
end Go.J
