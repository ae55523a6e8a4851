import Derived.Test.YtimebdkngdbpkaaGreatDoorPartF
set_option linter.unusedVariables false
set_option linter.unusedSimpArgs false
set_option linter.unusedSectionVars false
set_option linter.defProp false
set_option linter.unusedVariables false
set_option maxHeartbeats 0
set_option maxRecDepth 100000
namespace Go.J
open Go.Proofs
open Go Vg
def mixed:Tryz.prog.follows .mixedOrders=true:=by kernel_rfl
abbrev Ok(E:Env):Prop:=aV Tryz.prog E
def aFv:Ok E0:=aV.none G0 (bA.of acv)
def qG0:∀i d,G0 i=some d->ez d.row=true:=by
 intro i d h;unfold G0 at h;split at h<;>first|(cases h;done)|(cases h;decide)
def ao2:Ok azt:=kS mixed aFv nL Tryz.func295 y! λ_ h1 h2=>⟨_,aIp,y!⟩
def ao3:Ok azu:=kS mixed ao2 nL Tryz.func296 y! λ⟨x,n⟩ h1 h2=>⟨_,aIq x n h1 h2,y!⟩
def ao4:Ok azv:=kS mixed ao3 aIG Tryz.func294 y! λb h1 h2=>⟨_,aIr b h1 h2,y!⟩
def ao5:Ok azw:=kS mixed ao4 aII Tryz.func242 y! λ⟨l,p⟩ h1 h2=>⟨_,aIs l p h1,y!⟩
def ao6:Ok azx:=kS mixed ao5 aIK Tryz.func241 y! λb h1 h2=>⟨_,aIt b h1,y!⟩
def ao7:Ok azy:=kS mixed ao6 aIM Tryz.func162 y! λb h1 h2=>⟨_,aIu b h1,y!⟩
def ao8:Ok azz:=kS mixed ao7 nL Tryz.func317 y! λ⟨x,k⟩ h1 h2=>⟨_,aIv x k h1,y!⟩
def ao9:Ok azA:=kS mixed ao8 nL Tryz.func236 y! λ_ h1 h2=>⟨_,aIw,y!⟩
def apa:Ok azB:=kS mixed ao9 nL Tryz.func291 y! λ⟨s1,s2,s3,s4,s5,s6,s7,s8,s9,dm⟩ h1 h2=>⟨_,aIx s1 s2 s3 s4 s5 s6 s7 s8 s9 dm,y!⟩
def apb:Ok azC:=kS mixed apa aIR Tryz.func313 y! λ⟨u1,u2,u3,u4,u5,u6,u7,u8,p⟩ h1 h2=>⟨_,aIy u1 u2 u3 u4 u5 u6 u7 u8 p h1 h2,y!⟩
def ahX:Ok ant:=kS mixed apb aDH Tryz.func292 y! λ⟨u1,u2,u3,u4,u5,u6,u7,u8,b⟩ h1 h2=>⟨_,aCs u1 u2 u3 u4 u5 u6 u7 u8 b h1,y!⟩
def ahY:Ok anu:=kS mixed ahX nL Tryz.func235 y! λ⟨s1,s2,s3,s4,s5,s6,s7,s8,s9,dm,b⟩ h1 h2=>⟨_,aCt s1 s2 s3 s4 s5 s6 s7 s8 s9 dm b h1,y!⟩
def ahZ:Ok anv:=kS mixed ahY aDK Tryz.func234 y! λ⟨s1,s2,s3,s4,s5,s6,s7,s8,s9,dm⟩ h1 h2=>⟨_,aCu s1 s2 s3 s4 s5 s6 s7 s8 s9 dm h1,y!⟩
def ah0:Ok anw:=kS mixed ahZ nL Tryz.func153 y! λb h1 h2=>⟨_,aCv b h1,y!⟩
def ah1:Ok anx:=kR mixed ah0 aDN nL Tryz.func203 y! λm v h1 h2 h3=>⟨_,aCw m v h1 h2 h3,y!⟩
def aUm:Ok aVh:=kS mixed ah1 nL Tryz.func304 y! λs h1 h2=>⟨_,aXY s h1,y!⟩
def ah2:Ok anz:=kS mixed aUm aDP Tryz.func238 y! λb h1 h2=>⟨_,aCx b h2,y!⟩
def ah3:Ok anA:=kS mixed ah2 nL Tryz.func239 y! λ⟨b,cd⟩ h1 h2=>⟨_,aCz b cd h2,y!⟩
def ah4:Ok anB:=kS mixed ah3 nL Tryz.func268 y! λb h1 h2=>⟨_,aCA b h1,y!⟩
def ah5:Ok anC:=kH mixed ah4 aDT Tryz.func289 y! λv ⟨l,⟨⟩⟩ h1 h2 h3=>⟨_,aCB v l h1 h2,y!⟩
def ah6:Ok anD:=kH mixed ah5 lY Tryz.func267 y! λs ⟨l,⟨⟩⟩ h1 h2 h3=>⟨_,aCC s l h1,y!⟩
def ah7:Ok anE:=kS mixed ah6 nL Tryz.func225 y! λ⟨b,v⟩ h1 h2=>⟨_,aCD b v h1,y!⟩
def ah8:Ok anF:=kS mixed ah7 nL Tryz.func186 y! λ⟨b,s⟩ h1 h2=>⟨_,aCE b s h1,y!⟩
def ah9:Ok anG:=kS mixed ah8 nL Tryz.func166 y! λ⟨r1,r2,r3⟩ h1 h2=>⟨_,aCF r1 r2 r3,y!⟩
def aia:Ok anH:=kS mixed ah9 nL Tryz.func246 y! λ⟨r1,r2,r3⟩ h1 h2=>⟨_,aCG r1 r2 r3 h1,y!⟩
def aib:Ok anI:=kS mixed aia aD0 Tryz.func247 y! λ⟨b,p⟩ h1 h2=>⟨_,aCH b p h1 h2,y!⟩
def aic:Ok anJ:=kS mixed aib nL Tryz.func248 y! λ⟨b,p,cd⟩ h1 h2=>⟨_,aCI b p cd h1 h2,y!⟩
def aid:Ok anK:=kS mixed aic nL Tryz.func168 y! λ⟨r1,r2,r3,cd⟩ h1 h2=>⟨_,aCJ r1 r2 r3 cd h1,y!⟩
def aie:Ok anL:=kS mixed aid nL Tryz.func167 y! λ⟨r1,r2,r3⟩ h1 h2=>⟨_,aCK r1 r2 r3 h1,y!⟩
def aif:Ok anM:=kS mixed aie nL Tryz.func169 y! λ⟨r1,r2,r3⟩ h1 h2=>⟨_,aCL r1 r2 r3 h1 h2,y!⟩
def aih:Ok anN:=kS mixed aif nL Tryz.func83 y! λ⟨r1,r2,r3⟩ h1 h2=>⟨_,aCM r1 r2 r3,y!⟩
def aii:Ok anO:=kS mixed aih aD7 Tryz.func202 y! λ⟨kind,b⟩ h1 h2=>⟨_,aCN kind b h1 h2,y!⟩
def aij:Ok anP:=kS mixed aii nL Tryz.func115 y! λ⟨kind,b⟩ h1 h2=>⟨_,aCO kind b h1,y!⟩
def aik:Ok anQ:=kS mixed aij nL Tryz.func73 y! λb h1 h2=>⟨_,aCP b h1,y!⟩
def ail:Ok anR:=kS mixed aik nL Tryz.func159 y! λ⟨l,r⟩ h1 h2=>⟨_,aCQ l r h1,y!⟩
def aim:Ok anS:=kS mixed ail aEc Tryz.func237 y! λ⟨kind,parts⟩ h1 h2=>⟨_,aCR kind parts h1 h2,y!⟩
def ain:Ok anT:=kS mixed aim nL Tryz.func154 y! λb h1 h2=>⟨_,aCS b h1,y!⟩
def aio:Ok anU:=kS mixed ain nL Tryz.func290 y! λ⟨l,r⟩ h1 h2=>⟨_,aCT l r h1,y!⟩
def aip:Ok anV:=kS mixed aio nL Tryz.func269 y! λb h1 h2=>⟨_,aCU b h1,y!⟩
def aiq:Ok anW:=kS mixed aip nL Tryz.func227 y! λb h1 h2=>⟨_,aCV b h1,y!⟩
def air:Ok anX:=kS mixed aiq nL Tryz.func69 y! λb h1 h2=>⟨_,aCW b h1,y!⟩
def ais:Ok anY:=kS mixed air nL Tryz.func233 y! λ⟨l,r⟩ h1 h2=>⟨_,aCX l r,y!⟩
def ait:Ok anZ:=kS mixed ais nL Tryz.func189 y! λb h1 h2=>⟨_,aCY b h1,y!⟩
def aiu:Ok an0:=kS mixed ait nL Tryz.func133 y! λb h1 h2=>⟨_,aCZ b h1,y!⟩
def aiv:Ok an1:=kS mixed aiu nL Tryz.func252 y! λc h1 h2=>⟨_,aC0 c,y!⟩
def aiw:Ok an2:=kS mixed aiv nL Tryz.func253 y! λc h1 h2=>⟨_,aC1 c,y!⟩
def aix:Ok an3:=kS mixed aiw nL Tryz.func254 y! λc h1 h2=>⟨_,aC2 c h1,y!⟩
def aiy:Ok an4:=kS mixed aix nL Tryz.func181 y! λc h1 h2=>⟨_,aC3 c,y!⟩
def aiz:Ok an5:=kS mixed aiy aEq Tryz.func251 y! λb h1 h2=>⟨_,aC4 b h1 h2,y!⟩
def aiA:Ok an6:=kS mixed aiz aEs Tryz.func178 y! λb h1 h2=>⟨_,aDa b h1,y!⟩
def aiB:Ok an7:=kS mixed aiA aEu Tryz.func179 y! λc h1 h2=>⟨_,aDb c,y!⟩
def aiC:Ok an8:=kS mixed aiB nL Tryz.func180 y! λc h1 h2=>⟨_,aDc c,y!⟩
def aiD:Ok an9:=kS mixed aiC aEx Tryz.func297 y! λc h1 h2=>⟨_,aDd c,y!⟩
def aMJ:Ok aN1:=kS mixed aiD nL Tryz.func214 y! λ⟨c,a,b⟩ h1 h2=>⟨_,aQ4 c a b,y!⟩
def aMK:Ok aN2:=kS mixed aMJ nL Tryz.func210 y! λc h1 h2=>⟨_,aQ5 c,y!⟩
def aML:Ok aN3:=kS mixed aMK nL Tryz.func211 y! λc h1 h2=>⟨_,aQ6 c h1,y!⟩
def aMM:Ok aN4:=kS mixed aML nL Tryz.func212 y! λ⟨a,b⟩ h1 h2=>⟨_,aQ7 a b,y!⟩
def aMN:Ok aN5:=kS mixed aMM nL Tryz.func213 y! λc h1 h2=>⟨_,aQ8 c,y!⟩
def aMO:Ok aN6:=kS mixed aMN nL Tryz.func121 y! λc h1 h2=>⟨_,aQ9 c,y!⟩
def aMP:Ok aN7:=kS mixed aMO aRn Tryz.func209 y! λ⟨b,n⟩ h1 h2=>⟨_,aRa b n h1 h2,y!⟩
def aMQ:Ok aN8:=kS mixed aMP aRp Tryz.func119 y! λb h1 h2=>⟨_,aRb b h1,y!⟩
def aiE:Ok aoa:=kS mixed aMQ aEz Tryz.func256 y! λu h1 h2=>⟨_,aDe u h1,y!⟩
def aiF:Ok aob:=kS mixed aiE aEB Tryz.func183 y! λb h1 h2=>⟨_,aDf b h1,y!⟩
def aiG:Ok aoc:=kS mixed aiF nL Tryz.func96 y! λs h1 h2=>⟨_,aDg s h1,y!⟩
def aMR:Ok aN9:=kS mixed aiG nL Tryz.func120 y! λc h1 h2=>⟨_,aRc c,y!⟩
def aMS:Ok aOa:=kS mixed aMR aRs Tryz.func143 y! λl h1 h2=>⟨_,aRd l h2,y!⟩
def aMT:Ok aOb:=kH mixed aMS aRu Tryz.func64 y! λ⟨⟩ ⟨l,⟨⟩⟩ h1 h2 h3=>⟨_,aRe l h1,y!⟩
def aMU:Ok aOc:=kS mixed aMT aRw Tryz.func50 y! λs h1 h2=>⟨_,aRf s h1,y!⟩
def aiH:Ok aod:=kS mixed aMU nL Tryz.func270 y! λs h1 h2=>⟨_,aDh s,y!⟩
def aiI:Ok aoe:=kS mixed aiH nL Tryz.func282 y! λ⟨a,b⟩ h1 h2=>⟨_,aDi a b,y!⟩
def aiJ:Ok aof:=kH mixed aiI lY Tryz.func309 y! λ⟨a,b⟩ ⟨⟨⟩,⟨⟩⟩ h1 h2 h3=>⟨_,aDj a b,y!⟩
def aiK:Ok aog:=kH mixed aiJ aEH Tryz.func308 y! λ⟨⟩ ⟨l,⟨⟨⟩,⟨⟩⟩⟩ h1 h2 h3=>⟨_,aDk l h1,y!⟩
def aiL:Ok aoh:=kX aiK Tryz.func306 y! (Vg.JE Tryz.ģ (λ_=>rfl))
def aiM:Ok aoi:=kX aiL Tryz.func105 y! (Vg.JF Tryz.Ĥ (λ_=>rfl))
def aiN:Ok aoj:=kXH aiM Tryz.func307 y! (Tryz.axN (λ_=>rfl))
def aiO:Ok aok:=kH mixed aiN lY Tryz.func281 y! λl ⟨⟩ h1 h2 h3=>⟨_,aDl l h1,y!⟩
def S5:Ok aom:=kS mixed aiO nL Tryz.func216 y! λb h1 h2=>⟨_,aDm b h1,y!⟩
def aFw:Valid Tryz.prog G0 216 (eD jd aol):=kV S5 y!
def aiP:Ok aon:=kS mixed S5 aEN Tryz.func151 y! λl h1 h2=>⟨_,aDn l h2,y!⟩
def aiQ:Ok aoo:=kS mixed aiP nL Tryz.func152 y! λ⟨a,b⟩ h1 h2=>⟨_,aDo a b,y!⟩
def aiR:Ok aop:=kH mixed aiQ lY Tryz.func250 y! λ⟨⟩ ⟨s,⟨⟩⟩ h1 h2 h3=>⟨_,aDp s h1,y!⟩
def aiS:Ok aoq:=kS mixed aiR aER Tryz.func89 y! λl h1 h2=>⟨_,aDq l h1 h2,y!⟩
def aiT:Ok aor:=kS mixed aiS aET Tryz.func173 y! λl h1 h2=>⟨_,aDr l h1,y!⟩
def aiU:Ok aos:=kS mixed aiT nL Tryz.func130 y! λl h1 h2=>⟨_,aDs l h1,y!⟩
def aiV:Ok aot:=kS mixed aiU aEW Tryz.func158 y! λn h1 h2=>⟨_,aDt n,y!⟩
def aiW:Ok aou:=kS mixed aiV aEY Tryz.func172 y! λn h1 h2=>⟨_,aDu n,y!⟩
def aiX:Ok aov:=kXH aiW Tryz.func174 y! (Tryz.aFi (λ_=>rfl))
def aiY:Ok aow:=kS mixed aiX aE1 Tryz.func91 y! λ⟨l,i⟩ h1 h2=>⟨_,aDv l i h1,y!⟩
def aiZ:Ok aox:=kS mixed aiY aE3 Tryz.func102 y! λl h1 h2=>⟨_,aDw l h2,y!⟩
def ai0:Ok aoy:=kS mixed aiZ aE5 Tryz.func137 y! λl h1 h2=>⟨_,aDx l h2,y!⟩
def ai1:Ok aoz:=kS mixed ai0 nL Tryz.func229 y! λl h1 h2=>⟨_,aDy l,y!⟩
def S6:Ok aoA:=kH mixed ai1 lY Tryz.func311 y! λ⟨n,p,q⟩ ⟨⟨s1,s2⟩,⟨⟩⟩ h1 h2 h3=>⟨_,aDz n p q s1 s2,y!⟩
def aFx:aF Tryz.prog G0 196 aoB:=vH S6 mixed Pt q5q aE9 Tryz.func196 y! λ⟨a,b⟩ ⟨⟨s1,s2⟩,⟨⟩⟩ h1 h2 h3=>⟨_,aDA a b s1 s2 h1,y!⟩
def afL:aF Tryz.prog G0 196 Ġ:=aFx
def ai2:Ok aoC:=aV.bD S6 afL (cV.k Tryz.func196 y!)
def ai3:Ok aoD:=kS mixed ai2 nL Tryz.func286 y! λ⟨l,s1,s2⟩ h1 h2=>⟨_,aDB l s1 s2,y!⟩
def aUn:Ok aVi:=kS mixed ai3 aYf Tryz.func305 y! λl h1 h2=>⟨_,aX4 l h2,y!⟩
def ai4:Ok aoE:=kS mixed aUn aFc Tryz.func16 y! λ⟨a,b⟩ h1 h2=>⟨_,aDC a b h2,y!⟩
def aUo:Ok aVj:=kS mixed ai4 aYh Tryz.func277 y! λ⟨l,n⟩ h1 h2=>⟨_,aX5 l n h2,y!⟩
def ai5:Ok aoF:=kS mixed aUo aFe Tryz.func228 y! λd h1 h2=>⟨_,aDD d h1,y!⟩
def İ:Ok acL:=kS mixed ai5 nL Tryz.func100 y! λ⟨l1,l2,l3⟩ h1 h2=>⟨_,arS l1 l2 l3,y!⟩
end Go.J
