import Derived.Test.YtfbolhlbmbfhbaaGreatDoorPartH
set_option linter.unusedVariables false
set_option linter.unusedSimpArgs false
set_option linter.unusedSectionVars false
set_option linter.defProp false
set_option linter.unusedVariables false
set_option maxHeartbeats 0
set_option maxRecDepth 100000
namespace Go.J
open Go.Proofs
open Go Vg
def ab5:Ok agA:=kX Gx Tryz.func62 y! (Vg.Valid.cases aBt aBu (λx h=>(Classical.em (S.iW x 2=0)).elim (λq=>.inl ⟨⟨h,q⟩,rfl⟩) (λq=>.inr ⟨q,rfl⟩)))
def ab6:Ok agB:=kS mixed ab5 azR Tryz.func134 y! λ⟨y1,y2,y3⟩ h1 h2=>⟨_,aws y1 y2 y3 h1 h2,y!⟩
def ab7:Ok agC:=kS mixed ab6 nL Tryz.func53 y! λ⟨y1,y2,y3⟩ h1 h2=>⟨_,awt y1 y2 y3 h1,y!⟩
def ab8:Ok agD:=kS mixed ab7 nL Tryz.func85 y! λ⟨y1,y2,y3⟩ h1 h2=>⟨_,awu y1 y2 y3,y!⟩
def ab9:Ok agE:=kS mixed ab8 nL Tryz.func60 y! λ⟨a,b⟩ h1 h2=>⟨_,awv a b,y!⟩
def Ra:Ok agF:=kS mixed ab9 nL Tryz.func41 y! λ⟨y1,y2⟩ h1 h2=>⟨_,aww y1 y2,y!⟩
def aBv:aI Tryz.prog G0 95 agG:=vH Ra mixed aeN aCs mG Tryz.func95 y! λt ⟨dd,⟨er,⟨⟨⟩,⟨⟩⟩⟩⟩ h1 h2 h3=>⟨_,awx t dd er h1,y!⟩
def Õ:aI Tryz.prog G0 95 WL:=aBv
def Rb:Ok agH:=aW.bS Ra Õ (du.kq Tryz.func95 y!)
def aBw:aI Tryz.prog G0 95 agI:=vH Rb mixed aeN aCt mG Tryz.func95 y! λt ⟨dd,⟨er,⟨⟨⟩,⟨l,⟨⟩⟩⟩⟩⟩ h1 h2 h3=>⟨_,awy t dd er l h1,y!⟩
def arT:aI Tryz.prog G0 95 agJ:=aI.or aBw Õ
def aca:Ok agK:=aW.bS Rb arT (du.kq Tryz.func95 y!)
def acb:Ok agL:=kH mixed aca azZ Tryz.func94 y! λd ⟨er,⟨ts,⟨⟩⟩⟩ h1 h2 h3=>⟨_,awz d er ts h1 h2 h3,y!⟩
def acd:Ok agM:=kS mixed acb az1 Tryz.func33 y! λ⟨y1,y2,l⟩ h1 h2=>⟨_,awA y1 y2 l h1 h2,y!⟩
def ace:Ok agN:=kS mixed acd nL Tryz.func34 y! λ⟨y1,y2,i⟩ h1 h2=>⟨_,awB y1 y2 i,y!⟩
def acf:Ok agO:=kS mixed ace nL Tryz.func14 y! λ⟨y1,y2⟩ h1 h2=>⟨_,awC y1 y2 h1 h2,y!⟩
def acg:Ok agP:=kS mixed acf az5 Tryz.func153 y! λ⟨i,n⟩ h1 h2=>⟨_,awD i n h1,y!⟩
def ach:Ok agQ:=kS mixed acg az7 Tryz.func65 y! λ⟨d,i,n,p⟩ h1 h2=>⟨_,awE d i n p h1 h2,y!⟩
def aci:Ok agR:=kS mixed ach az9 Tryz.func233 y! λb h1 h2=>⟨_,awF b h1,y!⟩
def acj:Ok agS:=kS mixed aci nL Tryz.func243 y! λ⟨n,p,q⟩ h1 h2=>⟨_,awG n p q,y!⟩
def ack:Ok agT:=kS mixed acj nL Tryz.func244 y! λ⟨n,p,q⟩ h1 h2=>⟨_,awH n p q,y!⟩
def Rc:Ok agU:=kS mixed ack nL Tryz.func245 y! λ⟨n,p,q⟩ h1 h2=>⟨_,awI n p q,y!⟩
def aBx:aI Tryz.prog G0 242 agV:=vH Rc mixed aCy A7 aAe Tryz.func242 y! λ⟨a,b⟩ ⟨⟩ h1 h2 h3=>⟨_,awJ a b,y!⟩
def Ö:aI Tryz.prog G0 242 WM:=aI.or aBx Ñ
def Re:Ok agW:=aW.bS Rc Ö (du.kq Tryz.func242 y!)
def aBy:aI Tryz.prog G0 242 agX:=vH Re mixed aCz A7 aAg Tryz.func242 y! λ⟨a,b⟩ ⟨⟩ h1 h2 h3=>⟨_,awK a b,y!⟩
def Ø:aI Tryz.prog G0 242 WN:=aI.or aBy Ö
def Rf:Ok agY:=aW.bS Re Ø (du.kq Tryz.func242 y!)
def aBz:aI Tryz.prog G0 242 agZ:=vH Rf mixed aCA A7 aAi Tryz.func242 y! λ⟨a,b⟩ ⟨⟩ h1 h2 h3=>⟨_,awL a b,y!⟩
def arU:aI Tryz.prog G0 242 ag0:=aI.or aBz Ø
def acm:Ok ag1:=aW.bS Rf arU (du.kq Tryz.func242 y!)
def acn:Ok ag2:=kS mixed acm nL Tryz.func130 y! λ⟨a,b⟩ h1 h2=>⟨_,awM a b,y!⟩
def aco:Ok ag3:=kS mixed acn nL Tryz.func131 y! λ⟨a,b⟩ h1 h2=>⟨_,awN a b,y!⟩
def acp:Ok ag4:=kS mixed aco nL Tryz.func132 y! λ⟨a,b⟩ h1 h2=>⟨_,awO a b,y!⟩
def acq:Ok ag5:=kS mixed acp nL Tryz.func238 y! λs h1 h2=>⟨_,awP s,y!⟩
def acr:Ok ag6:=kS mixed acq nL Tryz.func237 y! λ⟨a,b⟩ h1 h2=>⟨_,awQ a b,y!⟩
def acs:Ok ag7:=kS mixed acr aAp Tryz.func127 y! λ⟨x,t⟩ h1 h2=>⟨_,awR x t h1,y!⟩
def Rg:Ok ag8:=kS mixed acs nL Tryz.func126 y! λ⟨s,t,f⟩ h1 h2=>⟨_,awS s t f h1,y!⟩
def aBA:aI Tryz.prog G0 240 ag9:=vH Rg mixed Qm aCB mG Tryz.func240 y! λs ⟨⟨⟩,⟨⟨⟩,⟨l,⟨⟩⟩⟩⟩ h1 h2 h3=>⟨_,awT s l h1,y!⟩
def Ù:aI Tryz.prog G0 240 WO:=aBA
def Rh:Ok aha:=aW.bS Rg Ù (du.kq Tryz.func240 y!)
def aBB:aI Tryz.prog G0 240 ahb:=vH Rh mixed Qm aCC mG Tryz.func240 y! λs ⟨⟨⟩,⟨⟨⟩,⟨l,⟨⟩⟩⟩⟩ h1 h2 h3=>⟨_,awU s l h1,y!⟩
def Ú:aI Tryz.prog G0 240 WQ:=aI.or aBB Ù
def Ri:Ok ahc:=aW.bS Rh Ú (du.kq Tryz.func240 y!)
def aBC:aI Tryz.prog G0 240 ahd:=vH Ri mixed Qm aCD mG Tryz.func240 y! λs ⟨⟨⟩,⟨⟨⟩,⟨l,⟨⟩⟩⟩⟩ h1 h2 h3=>⟨_,awV s l h1,y!⟩
def arV:aI Tryz.prog G0 240 ahe:=aI.or aBC Ú
def acu:Ok ahf:=aW.bS Ri arV (du.kq Tryz.func240 y!)
def acv:Ok ahg:=kH mixed acu mG Tryz.func241 y! λs ⟨⟨⟩,⟨⟨t,f⟩,⟨l,⟨⟩⟩⟩⟩ h1 h2 h3=>⟨_,awW s t f l h1,y!⟩
def acw:Ok ahh:=kH mixed acv aAw Tryz.func129 y! λ⟨l,t,f⟩ ⟨⟩ h1 h2 h3=>⟨_,awX l t f h1 h2,y!⟩
def acx:Ok ahi:=kS3 mixed acw (λ_=>false) (λ_=>none) (λ_=>false) (λd=>bif Nat.beq d 30 then some [some 103,some 105] else none) aAy Tryz.func52 y! λ⟨l,f⟩ h1 h2=>⟨_,awY l f h1 h2,y!⟩
def acy:Ok ahj:=kS mixed acx nL Tryz.func234 y! λ⟨p1,p2,p3,p4,p5,p6,t,e⟩ h1 h2=>⟨_,awZ p1 p2 p3 p4 p5 p6 t e h1,y!⟩
def acz:Ok ahk:=kS mixed acy nL Tryz.func236 y! λ⟨p1,p2,p3,p4,p5,p6,t⟩ h1 h2=>⟨_,aw0 p1 p2 p3 p4 p5 p6 t,y!⟩
def acA:Ok ahl:=kH3 mixed acz (λ_=>false) (λ_=>none) (λ_=>false) (λd=>bif Nat.beq d 16 then some [none] else bif Nat.beq d 13 then some [some 9,some 37] else none) mG Tryz.func124 y! λ⟨t,p1,p2,p3,p4,p5,p6⟩ ⟨⟩ h1 h2 h3=>⟨_,aw1 t p1 p2 p3 p4 p5 p6 h1,y!⟩
def acB:Ok ahm:=kS2 mixed acA (λ_=>false) (λ_=>none) (λd=>Nat.beq d 63) aAD Tryz.func49 y! λ⟨root,n,t,p1,p2,p3,p4,p5,p6⟩ h1 h2=>⟨_,aw2 root n t p1 p2 p3 p4 p5 p6 h1,y!⟩
def acC:Ok ahn:=kS mixed acB nL Tryz.func122 y! λ⟨j1,j2,j3,root⟩ h1 h2=>⟨_,aw4 j1 j2 j3 root,y!⟩
def acD:Ok aho:=kS3 mixed acC (λ_=>false) (λ_=>none) (λ_=>false) (λd=>bif Nat.beq d 5 then some [some 97,some 9] else none) nL Tryz.func46 y! λ⟨j1,j2,j3,root⟩ h1 h2=>⟨_,aw5 j1 j2 j3 root,y!⟩
def acE:Ok ahp:=kS mixed acD nL Tryz.func47 y! λ⟨a1,a2,a3,a4,i,t⟩ h1 h2=>⟨_,aw6 a1 a2 a3 a4 i t h1,y!⟩
def acF:Ok ahq:=kS mixed acE nL Tryz.func63 y! λ⟨p1,p2,p3,p4,p5,p6,i⟩ h1 h2=>⟨_,aw7 p1 p2 p3 p4 p5 p6 i,y!⟩
def acG:Ok ahr:=kS mixed acF aAJ Tryz.func50 y! λ⟨l,s1,s2⟩ h1 h2=>⟨_,aw8 l s1 s2 h2,y!⟩
def acH:Ok ahs:=kS mixed acG nL Tryz.func64 y! λ⟨p1,p2,p3,p4,p5,p6,i⟩ h1 h2=>⟨_,aw9 p1 p2 p3 p4 p5 p6 i h1,y!⟩
def acI:Ok aht:=aW.bS acH Tryz.aaA (du.kq Tryz.func51 y!)
def Rj:Ok ahu:=kS3 mixed acI (λ_=>false) (λ_=>none) (λ_=>false) (λd=>bif Nat.beq d 26 then some [none,none] else bif Nat.beq d 25 then some [some 136,some 3] else none) nL Tryz.func21 y! λ⟨root,i,b⟩ h1 h2=>⟨_,axa root i b h1,y!⟩
def ah7:aI Tryz.prog G0 48 WS:=vH Rj mixed ZZ Z0 mG Tryz.func48 y! λ⟨g1,g2,g3,g4,w,a1,a2,a3,a4,i,j⟩ ⟨⟨⟩,⟨⟨xs,q⟩,⟨l,⟨⟩⟩⟩⟩ h1 h2 h3=>⟨_,axb g1 g2 g3 g4 w a1 a2 a3 a4 i j xs q l h1,y!⟩
def Û:aI Tryz.prog G0 48 WT:=ah7
def Rk:Ok ahv:=aW.bS Rj Û (du.kq Tryz.func48 y!)
def ah8:aI Tryz.prog G0 48 WV:=vH Rk mixed ZZ Z0 mG Tryz.func48 y! λ⟨g1,g2,g3,g4,w,a1,a2,a3,a4,i,j⟩ ⟨⟨⟩,⟨⟨xs,q⟩,⟨l,⟨⟩⟩⟩⟩ h1 h2 h3=>⟨_,axc g1 g2 g3 g4 w a1 a2 a3 a4 i j xs q l h1,y!⟩
def arW:aI Tryz.prog G0 48 ahw:=aI.or ah8 Û
def acJ:Ok ahx:=aW.bS Rk arW (du.kq Tryz.func48 y!)
def acK:Ok ahz:=aW.Jq acJ (Go.J.arF ah7 ah8)
def acL:Ok ahA:=kS3 mixed acK (λ_=>false) (λ_=>none) (λ_=>false) (λd=>bif Nat.beq d 65 then some [none,some 9,none,none,some 3,none] else bif Nat.beq d 100014 then some [some 109] else bif Nat.beq d 54 then some [none,some 3,none] else bif Nat.beq d 40 then some [some 100] else bif Nat.beq d 38 then some [] else bif Nat.beq d 36 then some [some 103] else none) aAN Tryz.func13 y! λ⟨root,l,b⟩ h1 h2=>⟨_,axd root l b h1,y!⟩
def acM:Ok ahB:=kS mixed acL nL Tryz.func20 y! λ⟨c1,c2⟩ h1 h2=>⟨_,axe c1 c2 h1,y!⟩
def acN:Ok ahC:=kS mixed acM nL Tryz.func339 y! λb h1 h2=>⟨_,axf b h1,y!⟩
def acO:Ok ahD:=kS mixed acN nL Tryz.func257 y! λ⟨a,b⟩ h1 h2=>⟨_,axg a b h1,y!⟩
def acP:Ok ahE:=kS mixed acO nL Tryz.func288 y! λl h1 h2=>⟨_,axh l h1,y!⟩
def acQ:Ok ahF:=kS mixed acP nL Tryz.func271 y! λ⟨a,b⟩ h1 h2=>⟨_,axi a b,y!⟩
def acR:Ok ahG:=kS mixed acQ nL Tryz.func268 y! λl h1 h2=>⟨_,axj l h1,y!⟩
def acS:Ok ahH:=kS mixed acR nL Tryz.func260 y! λ⟨a,b⟩ h1 h2=>⟨_,axk a b h1,y!⟩
def acT:Ok ahI:=kS mixed acS nL Tryz.func143 y! λ⟨a,b⟩ h1 h2=>⟨_,axl a b h1,y!⟩
def acU:Ok ahJ:=kS mixed acT nL Tryz.func344 y! λ⟨a,b⟩ h1 h2=>⟨_,axm a b h1,y!⟩
def acV:Ok ahK:=kS3 mixed acU (λ_=>false) (λ_=>none) (λ_=>false) (λd=>bif Nat.beq d 5 then some [some 27,some 27] else none) nL Tryz.func269 y! λ⟨a,b⟩ h1 h2=>⟨_,axn a b,y!⟩
def acW:Ok ahL:=aW.bS acV Tryz.Xb (du.kq Tryz.func272 y!)
def acX:Ok ahM:=kS3 mixed acW (λ_=>false) (λ_=>none) (λ_=>false) (λd=>bif Nat.beq d 82 then some [] else none) aAZ Tryz.func157 y! λ⟨l,i,f,p⟩ h1 h2=>⟨_,axo l i f p h1 h2,y!⟩
def acY:Ok ahN:=kS mixed acX nL Tryz.func146 y! λ⟨d,t,p1,p2,p3,p4,p5,p6⟩ h1 h2=>⟨_,axp d t p1 p2 p3 p4 p5 p6 h1,y!⟩
def acZ:Ok ahO:=aW.bS acY Tryz.Ð (du.kq Tryz.func57 y!)
def ac0:Ok ahP:=kS mixed acZ nL Tryz.func144 y! λ⟨p1,p2,p3,p4,p5⟩ h1 h2=>⟨_,axq p1 p2 p3 p4 p5,y!⟩
def ac1:Ok ahQ:=kS mixed ac0 nL Tryz.func145 y! λ⟨p1,p2,p3,p4,p5⟩ h1 h2=>⟨_,axr p1 p2 p3 p4 p5,y!⟩
def ac2:Ok ahR:=kS mixed ac1 nL Tryz.func58 y! λ⟨p1,p2,p3,p4,p5⟩ h1 h2=>⟨_,axs p1 p2 p3 p4 p5,y!⟩
def ac3:Ok ahS:=kS mixed ac2 aA5 Tryz.func59 y! λ⟨a1,a2,a3,a4,a5,a6,a7⟩ h1 h2=>⟨_,axt a1 a2 a3 a4 a5 a6 a7 h1 h2,y!⟩
def ac4:Ok ahT:=kS mixed ac3 nL Tryz.func67 y! λ⟨a1,a2,a3,a4,a5,a6,a7,a8⟩ h1 h2=>⟨_,axu a1 a2 a3 a4 a5 a6 a7 a8 h1,y!⟩
def ac5:Ok ahU:=kS mixed ac4 nL Tryz.func19 y! λ⟨y1,y2,l,b⟩ h1 h2=>⟨_,axv y1 y2 l b h1,y!⟩
def ac6:Ok ahV:=kS mixed ac5 nL Tryz.func22 y! λ⟨y1,y2,i,b⟩ h1 h2=>⟨_,axw y1 y2 i b h1,y!⟩
def ac7:Ok ahW:=kS mixed ac6 nL Tryz.func8 y! λ⟨y1,y2,b⟩ h1 h2=>⟨_,axx y1 y2 b h2,y!⟩
def ac8:Ok ahX:=kS mixed ac7 nL Tryz.func12 y! λ_ h1 h2=>⟨_,axy,y!⟩
def ac9:Ok aBb:=kS mixed ac8 nL Tryz.func4 y! λ⟨y1,y2,i,b⟩ h1 h2=>⟨_,axz y1 y2 i b h2,y!⟩
def aBD:Valid Tryz.prog G0 4 (fg TQ ahY):=kV ac9 y!
end Go.J
