import Derived.Test.YtimebdkngdbpkaaGreatDoorPartG
set_option linter.unusedVariables false
set_option linter.unusedSimpArgs false
set_option linter.unusedSectionVars false
section
set_option linter.unusedVariables false
set_option maxHeartbeats 0
set_option maxRecDepth 100000
namespace Go.J
open Go.Proofs
open Go Vg
theorem Zc:Ok Ō:=kS mixed Zb nL Tryz.func279 y! fun⟨a1,a2,b1,b2⟩ h1 h2=>⟨_,anD a1 a2 b1 b2 h1 h2,y!⟩
theorem Zd:Ok ō:=kH mixed Zc apG Tryz.func278 y! fun⟨a,b⟩ ⟨⟩ h1 h2 h3=>⟨_,anE a b h1 h2 h3,y!⟩
theorem Ze:Ok Ŏ:=kS mixed Zd nL Tryz.func215 y! fun⟨a,b⟩ h1 h2=>⟨_,anF a b h1 h2,y!⟩
theorem Zf:Ok ŏ:=kS mixed Ze apJ Tryz.func122 y! fun⟨y1,y2⟩ h1 h2=>⟨_,anG y1 y2 h1 h2,y!⟩
theorem Zg:Ok Ő:=kS mixed Zf nL Tryz.func51 y! fun⟨y1,y2⟩ h1 h2=>⟨_,anH y1 y2 h1 h2,y!⟩
theorem Zh:Ok ő:=kS mixed Zg nL Tryz.func52 y! fun⟨y1,y2⟩ h1 h2=>⟨_,anI y1 y2 h1 h2,y!⟩
theorem Zi:Ok Œ:=kS2 mixed Zh (fun t=>Nat.beq t 128) (fun d=>bif Nat.beq d 73 then some 17 else none) (fun _=>false) apN Tryz.func54 y! fun⟨y1,y2⟩ h1 h2=>⟨_,anJ y1 y2 h1 h2,y!⟩
theorem Zj:Ok œ:=kS mixed Zi nL Tryz.func129 y! fun⟨y1,y2⟩ h1 h2=>⟨_,anK y1 y2 h1 h2,y!⟩
theorem Zk:Ok Ŕ:=kS mixed Zj nL Tryz.func20 y! fun⟨y1,y2,d⟩ h1 h2=>⟨_,anL y1 y2 d h1 h2,y!⟩
theorem Zl:Ok ŕ:=kS mixed Zk nL Tryz.func19 y! fun⟨y1,y2⟩ h1 h2=>⟨_,anM y1 y2 h1 h2,y!⟩
theorem Zm:Ok Ŗ:=kS mixed Zl apS Tryz.func131 y! fun⟨y1,y2⟩ h1 h2=>⟨_,anN y1 y2 h1 h2,y!⟩
theorem Zn:Ok ŗ:=kS mixed Zm nL Tryz.func223 y! fun⟨y1,y2,y3⟩ h1 h2=>⟨_,anO y1 y2 y3 h1 h2,y!⟩
theorem Ng:Ok Ř:=kS mixed Zn nL Tryz.func58 y! fun⟨y1,y2⟩ h1 h2=>⟨_,anP y1 y2 h1 h2,y!⟩
theorem asa:ay Tryz.prog G0 224 ř:=vH2 Ng (fun _=>false) (fun _=>none) (fun d=>Nat.beq d 5) mixed Qe q6q lb Tryz.func224 y! fun v ⟨q,⟨⟨⟩,⟨⟩⟩⟩ h1 h2 h3=>⟨_,anQ v q h1 h2 h3,y!⟩
theorem V9:ay Tryz.prog G0 224 SN:=asa
theorem Nh:Ok Ś:=aU.bE Ng V9 (cO.k Tryz.func224 y!)
theorem asb:ay Tryz.prog G0 224 ś:=vH2 Nh (fun _=>false) (fun _=>none) (fun d=>Nat.beq d 5) mixed Qe q7q lb Tryz.func224 y! fun v ⟨q,⟨⟨⟩,⟨l,⟨⟩⟩⟩⟩ h1 h2 h3=>⟨_,anR v q l h1 h2 h3,y!⟩
theorem akL:ay Tryz.prog G0 224 Ŝ:=ay.or asb V9
theorem Zo:Ok ŝ:=aU.bE Nh akL (cO.k Tryz.func224 y!)
theorem Zp:Ok Ş:=kH mixed Zo lb Tryz.func226 y! fun d ⟨⟨⟩,⟨l,⟨⟩⟩⟩ h1 h2 h3=>⟨_,anS d l h1 h2 h3,y!⟩
theorem Zq:Ok ş:=kS mixed Zp apZ Tryz.func132 y! fun⟨y1,y2,y3⟩ h1 h2=>⟨_,anT y1 y2 y3 h1 h2,y!⟩
theorem Zr:Ok Š:=kH mixed Zq lb Tryz.func243 y! fun⟨⟩ ⟨⟨r1,r2,r3⟩,⟨⟩⟩ h1 h2 h3=>⟨_,anU r1 r2 r3 h1 h2 h3,y!⟩
theorem Zs:Ok š:=kH mixed Zr lb Tryz.func244 y! fun⟨⟩ ⟨⟨r1,r2,r3⟩,⟨⟩⟩ h1 h2 h3=>⟨_,anV r1 r2 r3 h1 h2 h3,y!⟩
theorem Zt:Ok Ţ:=kH mixed Zs lb Tryz.func245 y! fun⟨⟩ ⟨a,⟨⟨⟩,⟨⟨⟩,⟨⟨r1,r2,r3⟩,⟨⟩⟩⟩⟩⟩ h1 h2 h3=>⟨_,anW a r1 r2 r3 h1 h2 h3,y!⟩
theorem Zu:Ok ţ:=kS mixed Zt ap4 Tryz.func164 y! fun b h1 h2=>⟨_,anX b h1 h2,y!⟩
theorem Zv:Ok Ť:=kS2 mixed Zu (fun _=>false) (fun _=>none) (fun d=>Nat.beq d 52) nL Tryz.func62 y! fun⟨d,t⟩ h1 h2=>⟨_,anY d t h1 h2,y!⟩
theorem Zw:Ok ť:=kXH Zv Tryz.func97 y! (Tryz.akp (fun _=>rfl))
theorem Zx:Ok Ŧ:=kH mixed Zw ap8 Tryz.func98 y! fun⟨⟩ ⟨l,⟨⟩⟩ h1 h2 h3=>⟨_,anZ l h1 h2 h3,y!⟩
theorem Zy:Ok ŧ:=kS mixed Zx aqa Tryz.func37 y! fun l h1 h2=>⟨_,an0 l h1 h2,y!⟩
theorem Zz:Ok Ũ:=kS mixed Zy aqc Tryz.func38 y! fun l h1 h2=>⟨_,an1 l h1 h2,y!⟩
theorem ZA:Ok ũ:=kS mixed Zz nL Tryz.func177 y! fun b h1 h2=>⟨_,an2 b h1 h2,y!⟩
theorem ZB:Ok Ū:=kH2 mixed ZA (fun _=>false) (fun _=>none) (fun d=>Nat.beq d 5) lb Tryz.func176 y! fun⟨⟩ ⟨st,⟨⟨⟩,⟨bb,⟨at_,⟨⟩⟩⟩⟩⟩ h1 h2 h3=>⟨_,an3 st bb at_ h1 h2 h3,y!⟩
theorem Ni:Ok ū:=kS mixed ZB aqg Tryz.func93 y! fun b h1 h2=>⟨_,an4 b h1 h2,y!⟩
theorem asc:ay Tryz.prog G0 95 Ŭ:=vH Ni mixed lr FC lb Tryz.func95 y! fun⟨⟩ ⟨⟨e,n,w⟩,⟨⟩⟩ h1 h2 h3=>⟨_,an5 e n w h1 h2 h3,y!⟩
theorem Wa:ay Tryz.prog G0 95 SO:=asc
theorem Nj:Ok ŭ:=aU.bE Ni Wa (cO.k Tryz.func95 y!)
theorem asd:ay Tryz.prog G0 95 Ů:=vH Nj mixed lr atz lb Tryz.func95 y! fun⟨⟩ ⟨⟨e,n,w⟩,⟨l,⟨⟩⟩⟩ h1 h2 h3=>⟨_,an6 e n w l h1 h2 h3,y!⟩
theorem akM:ay Tryz.prog G0 95 ů:=ay.or asd Wa
theorem ZC:Ok Ű:=aU.bE Nj akM (cO.k Tryz.func95 y!)
theorem ZD:Ok ű:=kH mixed ZC lb Tryz.func255 y! fun d ⟨⟨e,n,w⟩,⟨⟩⟩ h1 h2 h3=>⟨_,an7 d e n w h1 h2 h3,y!⟩
theorem ZE:Ok Ų:=kH mixed ZD aql Tryz.func182 y! fun d ⟨⟨e,n,w⟩,⟨⟩⟩ h1 h2 h3=>⟨_,an8 d e n w h1 h2 h3,y!⟩
theorem ZF:Ok ų:=kH mixed ZE aqn Tryz.func94 y! fun d ⟨⟨e,n,w⟩,⟨⟩⟩ h1 h2 h3=>⟨_,an9 d e n w h1 h2 h3,y!⟩
theorem ZG:Ok Ŵ:=kS mixed ZF nL Tryz.func36 y! fun b h1 h2=>⟨_,aoa b h1 h2,y!⟩
theorem ZH:Ok ŵ:=kS mixed ZG aqq Tryz.func11 y! fun l h1 h2=>⟨_,aob l h1 h2,y!⟩
theorem ZI:Ok Ŷ:=kH mixed ZH lb Tryz.func140 y! fun v ⟨d,⟨l,⟨⟩⟩⟩ h1 h2 h3=>⟨_,aoc v d l h1 h2 h3,y!⟩
theorem ZJ:Ok ŷ:=kH mixed ZI lb Tryz.func175 y! fun⟨b,m⟩ ⟨d,⟨l,⟨⟩⟩⟩ h1 h2 h3=>⟨_,aod b m d l h1 h2 h3,y!⟩
theorem ZK:Ok Ÿ:=kH mixed ZJ lb Tryz.func139 y! fun⟨y1,y2,y3⟩ ⟨d,⟨l,⟨⟩⟩⟩ h1 h2 h3=>⟨_,aoe y1 y2 y3 d l h1 h2 h3,y!⟩
theorem ZL:Ok Ź:=kH mixed ZK aqv Tryz.func171 y! fun p ⟨d,⟨l,⟨⟩⟩⟩ h1 h2 h3=>⟨_,aof p d l h1 h2 h3,y!⟩
theorem Nk:Ok ź:=kH mixed ZL lb Tryz.func141 y! fun⟨p1,p2,p3,p4,p5,p6⟩ ⟨d,⟨l,⟨⟩⟩⟩ h1 h2 h3=>⟨_,aog p1 p2 p3 p4 p5 p6 d l h1 h2 h3,y!⟩
theorem ase:ay Tryz.prog G0 142 Ż:=vH Nk mixed lr tq lb Tryz.func142 y! fun⟨⟩ ⟨d,⟨l,⟨⟩⟩⟩ h1 h2 h3=>⟨_,aoh d l h1 h2 h3,y!⟩
theorem Wb:ay Tryz.prog G0 142 SP:=ase
theorem ZM:Ok ż:=aU.bE Nk Wb (cO.k Tryz.func142 y!)
theorem Nl:Ok Ž:=kS mixed ZM aqz Tryz.func63 y! fun⟨a1,a2,a3,a4⟩ h1 h2=>⟨_,aoi a1 a2 a3 a4 h1 h2,y!⟩
theorem JT:ay Tryz.prog G0 79 ž:=vH Nl mixed yj ql lb Tryz.func79 y! fun⟨b,c⟩ ⟨⟩ h1 h2 h3=>⟨_,aoj b c h1 h2 h3,y!⟩
theorem Wc:ay Tryz.prog G0 79 SQ:=JT
theorem Nn:Ok ſ:=aU.bE Nl Wc (cO.k Tryz.func79 y!)
theorem JU:ay Tryz.prog G0 79 aaa:=vH Nn mixed yj ql lb Tryz.func79 y! fun⟨b,c⟩ ⟨⟩ h1 h2 h3=>⟨_,aok b c h1 h2 h3,y!⟩
theorem akN:ay Tryz.prog G0 79 aab:=ay.or JU Wc
theorem ZN:Ok aac:=aU.bE Nn akN (cO.k Tryz.func79 y!)
theorem ZO:Ok aad:=kH mixed ZN lb Tryz.func84 y! fun⟨⟩ ⟨⟨r1,r2,r3⟩,⟨⟩⟩ h1 h2 h3=>⟨_,aol r1 r2 r3 h1 h2 h3,y!⟩
theorem ZP:Ok aae:=kH mixed ZO lb Tryz.func85 y! fun m ⟨⟨r1,r2,r3⟩,⟨⟩⟩ h1 h2 h3=>⟨_,aom m r1 r2 r3 h1 h2 h3,y!⟩
theorem ZQ:Ok aaf:=kH mixed ZP lb Tryz.func81 y! fun m ⟨⟨r1,r2,r3⟩,⟨⟩⟩ h1 h2 h3=>⟨_,aon m r1 r2 r3 h1 h2 h3,y!⟩
theorem ZS:Ok aag:=kH mixed ZQ lb Tryz.func80 y! fun⟨⟩ ⟨⟨r1,r2,r3⟩,⟨⟩⟩ h1 h2 h3=>⟨_,aoo r1 r2 r3 h1 h2 h3,y!⟩
theorem ZT:Ok aah:=kH mixed ZS lb Tryz.func165 y! fun⟨⟩ ⟨⟨r1,r2,r3⟩,⟨⟩⟩ h1 h2 h3=>⟨_,aop r1 r2 r3 h1 h2 h3,y!⟩
theorem ZU:Ok aai:=kH mixed ZT aqG Tryz.func86 y! fun⟨⟩ ⟨⟨r1,r2,r3⟩,⟨⟩⟩ h1 h2 h3=>⟨_,aoq r1 r2 r3 h1 h2 h3,y!⟩
theorem DF:Ok JO:=kH mixed ZU lb Tryz.func82 y! fun⟨⟩ ⟨⟨r1,r2,r3⟩,⟨⟩⟩ h1 h2 h3=>⟨_,aor r1 r2 r3 h1 h2 h3,y!⟩
theorem asf:Valid Tryz.prog G0 31 (eM fv aqI):=vS (E:=aqK) (aU.bE DF JT (cO.k Tryz.func79 y!)) mixed fv aqJ Tryz.func31 y! fun b h1 h2=>⟨_,aos b h1 h2,y!⟩
theorem asg:Valid Tryz.prog G0 31 (eM fv aqL):=vS (E:=aqM) (aU.bE DF JU (cO.k Tryz.func79 y!)) mixed fv nL Tryz.func31 y! fun b h1 h2=>⟨_,aot b h1 h2,y!⟩
theorem DG:Ok JP:=kX DF Tryz.func31 y! (Vg.Valid.cases asf asg (fun x h=>(Classical.em (S.eZ x 1=0)).elim (fun q=> .inl ⟨⟨h,q⟩,rfl⟩) (fun q=> .inr ⟨q,rfl⟩)))
theorem ash:Valid Tryz.prog G0 32 (eM fv aqO):=vS (E:=aqP) (aU.bE DG JT (cO.k Tryz.func79 y!)) mixed fv nL Tryz.func32 y! fun b h1 h2=>⟨_,aou b h1 h2,y!⟩
theorem asi:Valid Tryz.prog G0 32 (eM fv aqQ):=vS (E:=aqR) (aU.bE DG JU (cO.k Tryz.func79 y!)) mixed fv nL Tryz.func32 y! fun b h1 h2=>⟨_,aov b h1 h2,y!⟩
theorem DH:Ok JQ:=kX DG Tryz.func32 y! (Vg.Valid.cases ash asi (fun x h=>(Classical.em (S.eZ x 2=0)).elim (fun q=> .inl ⟨⟨h,q⟩,rfl⟩) (fun q=> .inr ⟨q,rfl⟩)))
theorem asj:Valid Tryz.prog G0 33 (eM fv aqT):=vS (E:=aqU) (aU.bE DH JT (cO.k Tryz.func79 y!)) mixed fv nL Tryz.func33 y! fun b h1 h2=>⟨_,aow b h1 h2,y!⟩
theorem asl:Valid Tryz.prog G0 33 (eM fv aqV):=vS (E:=aqW) (aU.bE DH JU (cO.k Tryz.func79 y!)) mixed fv nL Tryz.func33 y! fun b h1 h2=>⟨_,aox b h1 h2,y!⟩
theorem ZV:Ok aaj:=kX DH Tryz.func33 y! (Vg.Valid.cases asj asl (fun x h=>(Classical.em (S.eZ x 3=0)).elim (fun q=> .inl ⟨⟨h,q⟩,rfl⟩) (fun q=> .inr ⟨q,rfl⟩)))
theorem ZW:Ok aak:=kS mixed ZV nL Tryz.func59 y! fun⟨y1,y2,y3⟩ h1 h2=>⟨_,aoy y1 y2 y3 h1 h2,y!⟩
theorem Np:Ok aal:=kS mixed ZW nL Tryz.func22 y! fun⟨y1,y2⟩ h1 h2=>⟨_,aoz y1 y2 h1 h2,y!⟩
theorem asm:ay Tryz.prog G0 61 aam:=vH Np mixed Qg aiH lb Tryz.func61 y! fun t ⟨dd,⟨er,⟨⟨⟩,⟨⟩⟩⟩⟩ h1 h2 h3=>⟨_,aoA t dd er h1 h2 h3,y!⟩
theorem Wd:ay Tryz.prog G0 61 SR:=asm
theorem Nq:Ok aan:=aU.bE Np Wd (cO.k Tryz.func61 y!)
theorem asn:ay Tryz.prog G0 61 aao:=vH Nq mixed Qg atE lb Tryz.func61 y! fun t ⟨dd,⟨er,⟨⟨⟩,⟨l,⟨⟩⟩⟩⟩⟩ h1 h2 h3=>⟨_,aoB t dd er l h1 h2 h3,y!⟩
end Go.J

end
