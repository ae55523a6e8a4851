/- ProvePages: for every input the given Go function returns true and leaves its arguments as they were. Conditions: none. -/
import Derived.Test.YtmonnkdlphjngaaGreatDoorPartI
import Derived.Test.YtmonnkdlphjngaaGreatDoorCards
import Derived.Test.YtmonnkdlphjngaaGreatDoorTie
import Derived.Deep.DeepHandedRow
import Derived.ProofKit
import Derived.OpenShut
set_option linter.unusedVariables false
set_option linter.unusedSimpArgs false
section
set_option linter.unusedVariables false
set_option maxHeartbeats 0
set_option maxRecDepth 100000
namespace Go.J
open Go.Proofs
open Go Vg
theorem awO:az Tryz.prog G0 179 î:=vH2 vc (fun _=>false) (fun _=>none) (fun d=>Nat.beq d 5) mixed aih q6q y4 Tryz.func179 (by kernel_rfl) fun v ⟨q,⟨⟨⟩,⟨⟩⟩⟩ h1 h2 h3=>⟨_,aqE v q h1 h2 h3,by kernel_rfl⟩
theorem Sc:az Tryz.prog G0 179 O3:=awO
theorem ve:Ok O4:=af.aR vc Sc (ar.k Tryz.func179 (by kernel_rfl))
theorem awP:az Tryz.prog G0 179 ñ:=vH2 ve (fun _=>false) (fun _=>none) (fun d=>Nat.beq d 5) mixed aih q7q y4 Tryz.func179 (by kernel_rfl) fun v ⟨q,⟨⟨⟩,⟨l,⟨⟩⟩⟩⟩ h1 h2 h3=>⟨_,aqF v q l h1 h2 h3,by kernel_rfl⟩
theorem amU:az Tryz.prog G0 179 ò:=az.or awP Sc
theorem Jb:Ok ó:=af.aR ve amU (ar.k Tryz.func179 (by kernel_rfl))
theorem Jc:Ok ù:=kH mixed Jb y4 Tryz.func180 (by kernel_rfl) fun d ⟨⟨⟩,⟨l,⟨⟩⟩⟩ h1 h2 h3=>⟨_,aqG d l h1 h2 h3,by kernel_rfl⟩
theorem Jd:Ok ü:=kS mixed Jc atC Tryz.func126 (by kernel_rfl) fun⟨y1,y2,y3⟩ h1 h2=>⟨_,aqH y1 y2 y3 h1 h2,by kernel_rfl⟩
theorem Je:Ok ā:=kH mixed Jd y4 Tryz.func199 (by kernel_rfl) fun⟨⟩ ⟨⟨r1,r2,r3⟩,⟨⟩⟩ h1 h2 h3=>⟨_,aqI r1 r2 r3 h1 h2 h3,by kernel_rfl⟩
theorem Jf:Ok Ć:=kH mixed Je y4 Tryz.func200 (by kernel_rfl) fun⟨⟩ ⟨⟨r1,r2,r3⟩,⟨⟩⟩ h1 h2 h3=>⟨_,aqJ r1 r2 r3 h1 h2 h3,by kernel_rfl⟩
theorem Jg:Ok ċ:=kH mixed Jf y4 Tryz.func201 (by kernel_rfl) fun⟨⟩ ⟨a,⟨⟨⟩,⟨⟨⟩,⟨⟨r1,r2,r3⟩,⟨⟩⟩⟩⟩⟩ h1 h2 h3=>⟨_,aqK a r1 r2 r3 h1 h2 h3,by kernel_rfl⟩
theorem Jh:Ok Ď:=kS mixed Jg atK Tryz.func146 (by kernel_rfl) fun b h1 h2=>⟨_,aqL b h1 h2,by kernel_rfl⟩
theorem Ji:Ok đ:=kS mixed Jh nL Tryz.func12 (by kernel_rfl) fun⟨y1,y2⟩ h1 h2=>⟨_,aqM y1 y2 h1 h2,by kernel_rfl⟩
theorem vf:Ok O5:=kS mixed Ji nL Tryz.func32 (by kernel_rfl) fun⟨y1,y2⟩ h1 h2=>⟨_,aqN y1 y2 h1 h2,by kernel_rfl⟩
theorem UM:Ok Ė:=kS2 mixed vf (fun _=>false) (fun _=>none) (fun d=>Nat.beq d 52) nL Tryz.func58 (by kernel_rfl) fun⟨d,t⟩ h1 h2=>⟨_,aqO d t h1 h2,by kernel_rfl⟩
theorem Jj:Ok ę:=kXH UM Tryz.func118 (by kernel_rfl) (Tryz.amB (fun _=>rfl))
theorem Jk:Ok Ğ:=kH mixed Jj atX Tryz.func119 (by kernel_rfl) fun⟨⟩ ⟨l,⟨⟩⟩ h1 h2 h3=>⟨_,aqP l h1 h2 h3,by kernel_rfl⟩
theorem Jl:Ok ġ:=kS mixed Jk atZ Tryz.func54 (by kernel_rfl) fun l h1 h2=>⟨_,aqQ l h1 h2,by kernel_rfl⟩
theorem Jm:Ok Ĥ:=kS mixed Jl at1 Tryz.func55 (by kernel_rfl) fun l h1 h2=>⟨_,aqR l h1 h2,by kernel_rfl⟩
theorem vg:Ok O6:=kS mixed Jm nL Tryz.func156 (by kernel_rfl) fun b h1 h2=>⟨_,aqS b h1 h2,by kernel_rfl⟩
theorem Jn:Ok ī:=kH2 mixed vg (fun _=>false) (fun _=>none) (fun d=>Nat.beq d 5) y4 Tryz.func155 (by kernel_rfl) fun⟨⟩ ⟨st,⟨⟨⟩,⟨bb,⟨at_,⟨⟩⟩⟩⟩⟩ h1 h2 h3=>⟨_,aqT st bb at_ h1 h2 h3,by kernel_rfl⟩
theorem Jo:Ok Į:=kS mixed Jn aua Tryz.func92 (by kernel_rfl) fun b h1 h2=>⟨_,aqU b h1 h2,by kernel_rfl⟩
theorem aw6:az Tryz.prog G0 94 ı:=vH Jo mixed ac3 ad1 y4 Tryz.func94 (by kernel_rfl) fun⟨⟩ ⟨⟨e,n,w⟩,⟨⟩⟩ h1 h2 h3=>⟨_,aqV e n w h1 h2 h3,by kernel_rfl⟩
theorem Sd:az Tryz.prog G0 94 O7:=aw6
theorem Jp:Ok Ĳ:=af.aR Jo Sd (ar.k Tryz.func94 (by kernel_rfl))
theorem aw7:az Tryz.prog G0 94 ĵ:=vH Jp mixed ac3 azF y4 Tryz.func94 (by kernel_rfl) fun⟨⟩ ⟨⟨e,n,w⟩,⟨l,⟨⟩⟩⟩ h1 h2 h3=>⟨_,aqW e n w l h1 h2 h3,by kernel_rfl⟩
theorem am2:az Tryz.prog G0 94 Ķ:=az.or aw7 Sd
theorem Jq:Ok ķ:=af.aR Jp am2 (ar.k Tryz.func94 (by kernel_rfl))
theorem Jr:Ok ļ:=kH mixed Jq y4 Tryz.func212 (by kernel_rfl) fun d ⟨⟨e,n,w⟩,⟨⟩⟩ h1 h2 h3=>⟨_,aqX d e n w h1 h2 h3,by kernel_rfl⟩
theorem Js:Ok Ł:=kH mixed Jr aui Tryz.func161 (by kernel_rfl) fun d ⟨⟨e,n,w⟩,⟨⟩⟩ h1 h2 h3=>⟨_,aqY d e n w h1 h2 h3,by kernel_rfl⟩
theorem Jt:Ok ņ:=kH mixed Js auk Tryz.func93 (by kernel_rfl) fun d ⟨⟨e,n,w⟩,⟨⟩⟩ h1 h2 h3=>⟨_,aqZ d e n w h1 h2 h3,by kernel_rfl⟩
theorem Ju:Ok ŉ:=kS mixed Jt nL Tryz.func40 (by kernel_rfl) fun b h1 h2=>⟨_,aq0 b h1 h2,by kernel_rfl⟩
theorem Jv:Ok Ŏ:=kH mixed Ju y4 Tryz.func105 (by kernel_rfl) fun v ⟨d,⟨l,⟨⟩⟩⟩ h1 h2 h3=>⟨_,aq1 v d l h1 h2 h3,by kernel_rfl⟩
theorem Jw:Ok œ:=kH mixed Jv y4 Tryz.func106 (by kernel_rfl) fun⟨b,m⟩ ⟨d,⟨l,⟨⟩⟩⟩ h1 h2 h3=>⟨_,aq2 b m d l h1 h2 h3,by kernel_rfl⟩
theorem Jx:Ok Ř:=kH mixed Jw y4 Tryz.func104 (by kernel_rfl) fun⟨y1,y2,y3⟩ ⟨d,⟨l,⟨⟩⟩⟩ h1 h2 h3=>⟨_,aq3 y1 y2 y3 d l h1 h2 h3,by kernel_rfl⟩
theorem Jy:Ok ŝ:=kH mixed Jx auu Tryz.func107 (by kernel_rfl) fun p ⟨d,⟨l,⟨⟩⟩⟩ h1 h2 h3=>⟨_,aq4 p d l h1 h2 h3,by kernel_rfl⟩
theorem Jz:Ok Ţ:=kH mixed Jy y4 Tryz.func125 (by kernel_rfl) fun⟨p1,p2,p3,p4,p5,p6⟩ ⟨d,⟨l,⟨⟩⟩⟩ h1 h2 h3=>⟨_,aq5 p1 p2 p3 p4 p5 p6 d l h1 h2 h3,by kernel_rfl⟩
theorem JA:Ok ŧ:=kH mixed Jz y4 Tryz.func108 (by kernel_rfl) fun⟨⟩ ⟨d,⟨l,⟨⟩⟩⟩ h1 h2 h3=>⟨_,aq6 d l h1 h2 h3,by kernel_rfl⟩
theorem JB:Ok Ū:=kS mixed JA auB Tryz.func59 (by kernel_rfl) fun⟨a1,a2,a3,a4⟩ h1 h2=>⟨_,aq7 a1 a2 a3 a4 h1 h2,by kernel_rfl⟩
theorem JC:Ok ŭ:=kS mixed JB nL Tryz.func44 (by kernel_rfl) fun⟨p1,p2,p3,p4,p5,p6⟩ h1 h2=>⟨_,aq8 p1 p2 p3 p4 p5 p6 h1 h2,by kernel_rfl⟩
theorem abi:az Tryz.prog G0 79 O8:=vH JC mixed age q4q y4 Tryz.func79 (by kernel_rfl) fun⟨b,c⟩ ⟨⟩ h1 h2 h3=>⟨_,aq9 b c h1 h2 h3,by kernel_rfl⟩
theorem Se:az Tryz.prog G0 79 O9:=abi
theorem JD:Ok Ű:=af.aR JC Se (ar.k Tryz.func79 (by kernel_rfl))
theorem abj:az Tryz.prog G0 79 Pa:=vH JD mixed age q4q y4 Tryz.func79 (by kernel_rfl) fun⟨b,c⟩ ⟨⟩ h1 h2 h3=>⟨_,ara b c h1 h2 h3,by kernel_rfl⟩
theorem anc:az Tryz.prog G0 79 ų:=az.or abj Se
theorem JE:Ok Ŵ:=af.aR JD anc (ar.k Tryz.func79 (by kernel_rfl))
theorem JF:Ok Ź:=kH mixed JE y4 Tryz.func89 (by kernel_rfl) fun⟨⟩ ⟨⟨r1,r2,r3⟩,⟨⟩⟩ h1 h2 h3=>⟨_,arb r1 r2 r3 h1 h2 h3,by kernel_rfl⟩
theorem JG:Ok ž:=kH mixed JF y4 Tryz.func90 (by kernel_rfl) fun m ⟨⟨r1,r2,r3⟩,⟨⟩⟩ h1 h2 h3=>⟨_,arc m r1 r2 r3 h1 h2 h3,by kernel_rfl⟩
theorem JH:Ok aad:=kH mixed JG y4 Tryz.func86 (by kernel_rfl) fun m ⟨⟨r1,r2,r3⟩,⟨⟩⟩ h1 h2 h3=>⟨_,ard m r1 r2 r3 h1 h2 h3,by kernel_rfl⟩
theorem JI:Ok aai:=kH mixed JH y4 Tryz.func80 (by kernel_rfl) fun⟨⟩ ⟨⟨r1,r2,r3⟩,⟨⟩⟩ h1 h2 h3=>⟨_,are r1 r2 r3 h1 h2 h3,by kernel_rfl⟩
theorem JJ:Ok aan:=kH mixed JI y4 Tryz.func152 (by kernel_rfl) fun⟨⟩ ⟨⟨r1,r2,r3⟩,⟨⟩⟩ h1 h2 h3=>⟨_,arf r1 r2 r3 h1 h2 h3,by kernel_rfl⟩
theorem JK:Ok aas:=kH mixed JJ auT Tryz.func81 (by kernel_rfl) fun⟨⟩ ⟨⟨r1,r2,r3⟩,⟨⟩⟩ h1 h2 h3=>⟨_,arh r1 r2 r3 h1 h2 h3,by kernel_rfl⟩
theorem Ar:Ok agi:=kH mixed JK y4 Tryz.func87 (by kernel_rfl) fun⟨⟩ ⟨⟨r1,r2,r3⟩,⟨⟩⟩ h1 h2 h3=>⟨_,ari r1 r2 r3 h1 h2 h3,by kernel_rfl⟩
theorem axr:Valid Tryz.prog G0 33 (ao n4 auW):=vS (E:=auZ) (af.aR Ar abi (ar.k Tryz.func79 (by kernel_rfl))) mixed n4 auX Tryz.func33 (by kernel_rfl) fun b h1 h2=>⟨_,arj b h1 h2,by kernel_rfl⟩
theorem axs:Valid Tryz.prog G0 33 (ao n4 au0):=vS (E:=au3) (af.aR Ar abj (ar.k Tryz.func79 (by kernel_rfl))) mixed n4 nL Tryz.func33 (by kernel_rfl) fun b h1 h2=>⟨_,ark b h1 h2,by kernel_rfl⟩
theorem JL:Ok aaA:=kX Ar Tryz.func33 (by kernel_rfl) (Vg.Valid.cases axr axs (fun x h=>(Classical.em (S.jm x 1=0)).elim (fun q=> .inl ⟨⟨h,q⟩,rfl⟩) (fun q=> .inr ⟨q,rfl⟩)))
theorem JM:Ok aaD:=kS mixed JL au7 Tryz.func114 (by kernel_rfl) fun⟨y1,y2,y3⟩ h1 h2=>⟨_,arl y1 y2 y3 h1 h2,by kernel_rfl⟩
theorem JN:Ok aaG:=kS mixed JM au9 Tryz.func51 (by kernel_rfl) fun p h1 h2=>⟨_,arn p h1 h2,by kernel_rfl⟩
theorem JO:Ok aaJ:=kS mixed JN nL Tryz.func48 (by kernel_rfl) fun⟨y1,y2,y3⟩ h1 h2=>⟨_,aro y1 y2 y3 h1 h2,by kernel_rfl⟩
theorem JP:Ok aaM:=kS mixed JO nL Tryz.func13 (by kernel_rfl) fun⟨p1,p2,p3,p4,p5,p6⟩ h1 h2=>⟨_,arp p1 p2 p3 p4 p5 p6 h1 h2,by kernel_rfl⟩
theorem axy:az Tryz.prog G0 57 aaP:=vH JP mixed amy azO y4 Tryz.func57 (by kernel_rfl) fun t ⟨dd,⟨er,⟨⟨⟩,⟨⟩⟩⟩⟩ h1 h2 h3=>⟨_,arq t dd er h1 h2 h3,by kernel_rfl⟩
theorem Sf:az Tryz.prog G0 57 Pb:=axy
theorem JQ:Ok aaQ:=af.aR JP Sf (ar.k Tryz.func57 (by kernel_rfl))
theorem axz:az Tryz.prog G0 57 aaT:=vH JQ mixed amy azP y4 Tryz.func57 (by kernel_rfl) fun t ⟨dd,⟨er,⟨⟨⟩,⟨l,⟨⟩⟩⟩⟩⟩ h1 h2 h3=>⟨_,ars t dd er l h1 h2 h3,by kernel_rfl⟩
theorem anl:az Tryz.prog G0 57 aaU:=az.or axz Sf
theorem JR:Ok aaV:=af.aR JQ anl (ar.k Tryz.func57 (by kernel_rfl))
theorem JS:Ok aa0:=kH mixed JR avj Tryz.func56 (by kernel_rfl) fun d ⟨er,⟨ts,⟨⟩⟩⟩ h1 h2 h3=>⟨_,art d er ts h1 h2 h3,by kernel_rfl⟩
theorem JT:Ok aa3:=kS mixed JS avl Tryz.func16 (by kernel_rfl) fun⟨y1,y2,l⟩ h1 h2=>⟨_,aru y1 y2 l h1 h2,by kernel_rfl⟩
theorem JU:Ok aa6:=kS mixed JT nL Tryz.func10 (by kernel_rfl) fun⟨y1,y2,i⟩ h1 h2=>⟨_,arv y1 y2 i h1 h2,by kernel_rfl⟩
theorem JV:Ok aa9:=kS mixed JU nL Tryz.func14 (by kernel_rfl) fun⟨y1,y2,i⟩ h1 h2=>⟨_,arw y1 y2 i h1 h2,by kernel_rfl⟩
theorem UN:Ok avu:=kS mixed JV nL Tryz.func9 (by kernel_rfl) fun _ h1 h2=>⟨_,arx h1 h2,by kernel_rfl⟩
theorem anC:Ok aHp:=kS mixed UN nL Tryz.func3 (by kernel_rfl) fun⟨y1,y2,i⟩ h1 h2=>⟨_,ary y1 y2 i h1 h2,by kernel_rfl⟩
theorem axF:Valid Tryz.prog G0 3 (ao agf avv):=kV anC (by kernel_rfl)
end Go.J

end
section
set_option linter.unusedVariables false
namespace Go.Proofs.YtmonnkdlphjngaaGreatDoor
open Go Go.Vg Go.ChangeShapes Go.WideShapes Go.ChangeAt Go.RowKit
theorem own:ownKnob Tryz.prog.godebug=none:=by kernel_rfl
theorem laidOut:laidOutB Tryz.prog=true :=by kernel_rfl
set_option maxRecDepth 100000 in
theorem aGG {W:World}(h:laidMet Tryz.prog [("rubrick/sha.begin",Rows.laid_rubrick_sha_begin),("rubrick/sha.rounds",Rows.laid_rubrick_sha_rounds),("rubrick/utf.letters",Rows.laid_rubrick_utf_letters),("rubrick/utf.shifts",Rows.laid_rubrick_utf_shifts)] W):∀i d,Go.J.G0 i=some d->pe W (fun b=>b<W.heap.size) i d:=by
 intro i d hd;match i,hd with
 |0,hd=>
  cases hd
  exact HR (k:= .i64) (zss:= [[65,90],[97,122],[192,214],[216,246],[248,255],[913,929],[931,937],[945,969],[1024,1119]]) h (.tail _ (.tail _ (.head _))) (by kernel_rfl) (by kernel_rfl) Tryz.underlying287 Tryz.underlying286 (by kernel_rfl) (by kernel_rfl) rfl (fun i f hf=>by
   match i,hf with
   |0,hf=>cases hf;exact⟨rfl,Tryz.underlying3,by kernel_rfl⟩
   |1,hf=>cases hf;exact⟨rfl,Tryz.underlying3,by kernel_rfl⟩
   |i+2,hf=>simp at hf) (by decide) (by decide) (by simp [rk,lk,lo,hi,Row.hd,Row.tl,DI.toInt])
 |1,hd=>
  cases hd;exact HS (k:= .u32) (zs:= [1779033703,3144134277,1013904242,2773480762,1359893119,2600822924,528734635,1541459225]) h (.head _) (by kernel_rfl) (by kernel_rfl) Tryz.underlying294 Tryz.underlying275 (by kernel_rfl) (by kernel_rfl) (by decide) (by simp [rk,lk,lo,hi,Row.hd,Row.tl,DI.toInt])
 |2,hd=>
  cases hd
  exact HR (k:= .i64) (zss:= [[65,90,32],[192,214,32],[216,222,32],[913,929,32],[931,937,32],[1024,1039,80],[1040,1071,32]]) h (.tail _ (.tail _ (.tail _ (.head _)))) (by kernel_rfl) (by kernel_rfl) Tryz.underlying342 Tryz.underlying341 (by kernel_rfl) (by kernel_rfl) rfl (fun i f hf=>by
   match i,hf with
   |0,hf=>cases hf;exact⟨rfl,Tryz.underlying3,by kernel_rfl⟩
   |1,hf=>cases hf;exact⟨rfl,Tryz.underlying3,by kernel_rfl⟩
   |2,hf=>cases hf;exact⟨rfl,Tryz.underlying3,by kernel_rfl⟩
   |i+3,hf=>simp at hf) (by decide) (by decide) (by simp [rk,lk,lo,hi,Row.hd,Row.tl,DI.toInt])
 |3,hd=>
  cases hd;exact HS (k:= .u32) (zs:= [1116352408,1899447441,3049323471,3921009573,961987163,1508970993,2453635748,2870763221,3624381080,310598401,607225278,1426881987,1925078388,2162078206,2614888103,3248222580,3835390401,4022224774,264347078,604807628,770255983,1249150122,1555081692,1996064986,2554220882,2821834349,2952996808,3210313671,3336571891,3584528711,113926993,338241895,666307205,773529912,1294757372,1396182291,1695183700,1986661051,2177026350,2456956037,2730485921,2820302411,3259730800,3345764771,3516065817,3600352804,4094571909,275423344,430227734,506948616,659060556,883997877,958139571,1322822218,1537002063,1747873779,1955562222,2024104815,2227730452,2361852424,2428436474,2756734187,3204031479,3329325298]) h (.tail _ (.head _)) (by kernel_rfl) (by kernel_rfl) Tryz.underlying346 Tryz.underlying275 (by kernel_rfl) (by kernel_rfl) (by decide) (by simp [rk,lk,lo,hi,Row.hd,Row.tl,DI.toInt,S.vq])
 |_+4,hd=>cases hd
def aJl(w:World)(cs:Array Value):World:= {w with heap:=w.heap.modify 0 fun
    | .cells _ t frozen=> .cells cs t frozen
    |o=>o}
def aJm(w:World)(cs:Array Value):World:= {w with heap:=w.heap.modify 1 fun
    | .cells _ t frozen=> .cells cs t frozen
    |o=>o}
def aJn(w:World)(cs:Array Value):World:= {w with heap:=w.heap.modify 2 fun
    | .cells _ t frozen=> .cells cs t frozen
    |o=>o}
def aJo(w:World)(cs:Array Value):World:= {w with heap:=w.heap.modify 3 fun
    | .cells _ t frozen=> .cells cs t frozen
    |o=>o}
noncomputable def As (os:Os):World:=aJo (aJn (aJm (aJl (World.holding Tryz.prog os ⟨#[], #[],[]⟩) #[.int .i64 65, .int .i64 90, .int .i64 97, .int .i64 122, .int .i64 192, .int .i64 214, .int .i64 216, .int .i64 246, .int .i64 248, .int .i64 255, .int .i64 913, .int .i64 929, .int .i64 931, .int .i64 937, .int .i64 945, .int .i64 969, .int .i64 1024, .int .i64 1119]) #[.int .u32 1779033703, .int .u32 3144134277, .int .u32 1013904242, .int .u32 2773480762, .int .u32 1359893119, .int .u32 2600822924, .int .u32 528734635, .int .u32 1541459225]) #[.int .i64 65, .int .i64 90, .int .i64 32, .int .i64 192, .int .i64 214, .int .i64 32, .int .i64 216, .int .i64 222, .int .i64 32, .int .i64 913, .int .i64 929, .int .i64 32, .int .i64 931, .int .i64 937, .int .i64 32, .int .i64 1024, .int .i64 1039, .int .i64 80, .int .i64 1040, .int .i64 1071, .int .i64 32]) #[.int .u32 1116352408, .int .u32 1899447441, .int .u32 3049323471, .int .u32 3921009573, .int .u32 961987163, .int .u32 1508970993, .int .u32 2453635748, .int .u32 2870763221, .int .u32 3624381080, .int .u32 310598401, .int .u32 607225278, .int .u32 1426881987, .int .u32 1925078388, .int .u32 2162078206, .int .u32 2614888103, .int .u32 3248222580, .int .u32 3835390401, .int .u32 4022224774, .int .u32 264347078, .int .u32 604807628, .int .u32 770255983, .int .u32 1249150122, .int .u32 1555081692, .int .u32 1996064986, .int .u32 2554220882, .int .u32 2821834349, .int .u32 2952996808, .int .u32 3210313671, .int .u32 3336571891, .int .u32 3584528711, .int .u32 113926993, .int .u32 338241895, .int .u32 666307205, .int .u32 773529912, .int .u32 1294757372, .int .u32 1396182291, .int .u32 1695183700, .int .u32 1986661051, .int .u32 2177026350, .int .u32 2456956037, .int .u32 2730485921, .int .u32 2820302411, .int .u32 3259730800, .int .u32 3345764771, .int .u32 3516065817, .int .u32 3600352804, .int .u32 4094571909, .int .u32 275423344, .int .u32 430227734, .int .u32 506948616, .int .u32 659060556, .int .u32 883997877, .int .u32 958139571, .int .u32 1322822218, .int .u32 1537002063, .int .u32 1747873779, .int .u32 1955562222, .int .u32 2024104815, .int .u32 2227730452, .int .u32 2361852424, .int .u32 2428436474, .int .u32 2756734187, .int .u32 3204031479, .int .u32 3329325298]
theorem Cb:Valid Tryz.prog Go.J.G0 3 (ao Go.J.agf fun _=>(True, .bool true,[])):=Go.J.axF
theorem xF(os:Os):laidMet Tryz.prog Rows.provePagesRow.laid ((As os).forCall (fun _ _=>0) ⟨#[], #[.agg #[.slice none 0 0, .slice none 0 0], .int .i64 0],[]⟩).memory:=
 laidMet_of_run' 8 (by kernel_rfl) (by kernel_rfl)
theorem Cc(os:Os) {H:Type}(enc:TypeId×Value->H):∃places,DataW.whole enc Tryz.prog ((As os).forCall (fun _ _=>0) ⟨#[], #[.agg #[.slice none 0 0, .slice none 0 0], .int .i64 0],[]⟩).memory Tryz.f3.params.toList Rows.provePagesSpec.vars false (#[.agg #[.slice none 0 0, .slice none 0 0], .int .i64 0]:Array Value).toList 8=some ([.agg [.nil, .nil], .lit (.int .i64 0)],[],places):=
 ⟨[],by kernel_rfl⟩
set_option maxRecDepth 100000 in
theorem Au(os:Os)(started:os.Started)(H:Type)(enc:TypeId×Value->H)(F:Stop.Interp):
  ReturnsInHanded {} Tryz.checked os 3 .any ((OpenSpec.ofChange Rows.provePagesSpec).preRow enc Tryz.prog Tryz.f3 Rows.provePagesRow.domain false Rows.provePagesRow.laid) (((OpenSpec.ofChange Rows.provePagesSpec).at F).post enc Tryz.prog Tryz.f3 false true false false):=by
 obtain⟨places,hx⟩:=Cc os enc
 refine returnsInHanded_of_row (C:=Tryz.checked) (s:=OpenSpec.ofChange Rows.provePagesSpec) own started (by kernel_rfl) Tryz.func3
  (witness_row_at (enc:=enc) (C:=Tryz.checked) false (As os) #[.agg #[.slice none 0 0, .slice none 0 0], .int .i64 0] rfl (by kernel_rfl) (by kernel_rfl) (by kernel_rfl)
    (OpenSpec.preRow_of_cond 8 hx (by kernel_rfl) (fun k hk=>by cases hk) (by kernel_rfl) (xF os))) ?_
 intro W base args ds gs before FI hW _ _ _ hL _ _;refine Kh (s:=Rows.provePagesSpec) (bO.of VU) laidOut Cb (show PS.ofs fE Tryz.f3.params.toList=_ by kernel_rfl) (by kernel_rfl) (show Tryz.f3.resultTypes= #[4] by kernel_rfl) Tryz.underlying4 rfl ?_ (aGG hL) FI hW;intro H ds Em;have hn:Tryz.f3.params.toList.length=2:=by kernel_rfl
 rw [hn] at Em;match ds,Em with
 | [d0,d1],_=>rfl
theorem De:Rows.ProvePagesSaid:=
 OpenClaim.holds_of_cond 3 Tryz.f3 rfl rfl rfl rfl rfl rfl rfl ⟨rfl,rfl,rfl,rfl,rfl⟩ rfl rfl rfl rfl rfl (by kernel_rfl) Tryz.func3 (by kernel_rfl)
  (of_decide_eq_true (by kernel_rfl)) (by unfold Func.isWrapper;first|(rw [if_pos (by decide+kernel)];kernel_rfl)|(rw [if_neg (by decide+kernel)];exact⟨rfl,rfl⟩))
  (fun os started H enc _ F=>by rw [OpenClaim.pre_eq_preRow];exact Au os started H enc F)
theorem Cd(f:FuncId)(fn:Func)(hf:Tryz.pinned.checked.prog.funcNamed "rubrick/rubricklaw19.ProvePages"=some f)(SJ:Tryz.pinned.checked.prog.funcs[f]? =some fn):
  false=Tryz.pinned.checked.prog.looks []/\∀(j:Nat) t,fn.params[j]? =some t->Tryz.pinned.checked.prog.wantsStandIn t=false :=by
 obtain rfl :f=3:=u? ((show Tryz.prog.funcNamed "rubrick/rubricklaw19.ProvePages"=some 3 by kernel_rfl).symm.trans hf) |>.symm
 obtain rfl :fn=Tryz.f3:=(u? (Tryz.func3.symm.trans SJ)).symm;refine⟨by kernel_rfl,fun j t ht=> ?_⟩;have h1:(Tryz.f3.params.toList.all fun t=> !Tryz.prog.wantsStandIn t)=true :=by kernel_rfl
 have h2:=E?.1 h1 t (by simpa using Array.mem_of_getElem? ht);have h3:Tryz.prog.wantsStandIn t=false :=by simpa using h2
 exact h3
theorem provePages_card:Rows.ProvePagesCardSaid:=
 Claim7.holds_tied_plain_at .later [] _ _ _ _ De (fun _ h=>by cases h) (by kernel_rfl) (fun _ h=>by cases h) provePages_row_tie rfl ⟨rfl,rfl⟩ (by kernel_rfl) rfl Cd (by kernel_rfl)
#print axioms provePages_card
end Go.Proofs.YtmonnkdlphjngaaGreatDoor

end
