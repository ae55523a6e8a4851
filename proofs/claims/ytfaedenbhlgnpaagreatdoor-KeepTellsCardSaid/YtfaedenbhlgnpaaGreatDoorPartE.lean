import Derived.Test.YtfaedenbhlgnpaaGreatDoorPartD
import Derived.Lib.LaidTab
import Derived.Test.YtfaedenbhlgnpaaGreatDoorProg
set_option linter.unusedVariables false
set_option linter.unusedSimpArgs false
section
namespace Go.Vg
open Go
theorem LQ {P:Program} {W:World}:∀ {laid:List (String×DataW Unit)} {ps:List MemPlace} {name:String} {d:DataW Unit},DataW.LaidVars P W laid ps→(name,d)∈laid→
  ∃(g:Nat) (t:TypeId) (cs:Array Value) (fuel:Nat) (p:List MemPlace),P.globalNamed name=some g∧(P.globals[g]?).map (·.type)=some t∧W.var? P name=some cs∧DataW.trod (fun _=>()) P W 0 (fun _=>true) false fuel t cs.toList=some (d,p)
 | [],_,_,_,_,hm=>by cases hm
 |x::rest,ps,name,d,h,hm=>by
  obtain⟨g',t',cs,fuel,p,q,vL,ht',alD,hd,hr,Ĉ⟩:=h
  rcases List.mem_cons.1 hm with rfl|hm
  · exact⟨g',t',cs,fuel,p,vL,ht',alD,hd⟩
  · exact LQ hr hm
theorem EF {H:Type} {enc:TypeId×Value→H} {P:Program} {w:World} {base:Nat} {sp:Nat→Bool} {held:Bool} {fuel:Nat} {t e:TypeId} {n m:Nat} {k:IntKind} {cs:List Value} {zss:List (List Int)} {p:List MemPlace} {fs:Array Field}
  (ht:P.underlying t=some (.array n e)) (he:P.underlying e=some (.struct fs)) (M4:P.cellsOf e=m) (hct:P.cellsOf t=n*m) (hfs:fs.size=m) (hf:∀(i:Nat) (f:Field),fs[i]? =some f→f.offset=i∧P.underlying f.type=some (.int k)∧P.cellsOf f.type=1)
  (hz:∀r∈zss,r.length=m) (h:DataW.trod enc P w base sp held fuel t cs=some (.agg (zss.map fun r=> .agg (r.map fun z=> .lit (.int k z))),p)):cs.length=n*m∧zss.length=n∧
    ∀i j,i<n→j<m→cs[i*m+j]? =some (.int k ((zss.getD i []).getD j 0)):=by
 cases fuel with
 |zero=>simp [DataW.trod] at h
 |succ fuel=>
  simp only [DataW.trod,ht,M4,hct] at h
  split at h
  · rename_i hl
    obtain⟨xs,hm,hx⟩:=Option.map_eq_some_iff.1 h
    have Vx:xs.map (·.1)=zss.map fun r=>(DataW.agg (r.map fun z=> .lit (.int k z)):DataW H):=by
     have :=congrArg Prod.fst hx
     simpa using this
    have Kw:xs.length=n:=by simpa using Lib.mapM_length hm
    have Mz:zss.length=n:=by
     have :=congrArg List.length Vx
     simp at this
     omega
    refine⟨hl,Mz,fun i j hi hj=> ?_⟩
    obtain⟨b,hb,hfb⟩:=Lib.mapM_at hm i i (by simp [hi])
    have fK:b.1=DataW.agg ((zss.getD i []).map fun z=> .lit (.int k z)):=by
     have h2:(xs.map (·.1))[i]? =some b.1:=by simp [hb]
     rw [Vx] at h2
     rw [List.getElem?_map,List.getElem?_eq_getElem (by omega)] at h2
     simp only [Option.map_some,Option.some.injEq] at h2
     rw [←h2,List.getD_eq_getElem?_getD,List.getElem?_eq_getElem (by omega)]
     rfl
    obtain⟨ys,n',_,hy,_,hyl,hyf⟩:=DataW.trod_struct he hfb
    have Uk:ys.map (·.1)=(zss.getD i []).map fun z=>(DataW.lit (.int k z):DataW H):=by
     rw [hy] at fK
     simpa using fK
    have hrl:(zss.getD i []).length=m:=hz _ (by rw [List.getD_eq_getElem?_getD,List.getElem?_eq_getElem (by omega)];exact List.getElem_mem _)
    have hjf:j<fs.size:=by omega
    have hfj:=hyf j fs[j] (Array.getElem?_eq_getElem hjf)
    obtain⟨f1,f2,f3⟩:=hf j fs[j] (Array.getElem?_eq_getElem hjf)
    rw [f1,f3] at hfj
    have hyj:j<ys.length:=by omega
    rw [List.getElem?_eq_getElem hyj] at hfj
    obtain⟨z,hc,hzv,_⟩:=DataW.trod_int f2 hfj
    have h1:cs[i*m+j]? =some (.int k z):=by
     have :=congrArg (·[0]?) hc
     simp only [List.getElem?_take,List.getElem?_drop] at this
     simpa [hj,Nat.add_comm] using this
    have h3:(ys.map (·.1))[j]? =some (DataW.lit (.int k z)):=by rw [List.getElem?_map,List.getElem?_eq_getElem hyj,hzv];rfl
    rw [Uk,List.getElem?_map,List.getElem?_eq_getElem (by omega)] at h3
    simp only [Option.map_some,Option.some.injEq,DataW.lit.injEq,Lit.int.injEq,true_and] at h3
    rw [h1,List.getD_eq_getElem?_getD,List.getElem?_eq_getElem (by omega)]
    simp only [Option.getD_some,h3]
  · cases h
theorem ř {P:Program} {W:World} {name:String} {g:Nat} {cs:Array Value}(hg:P.globalNamed name=some g)(h:W.var? P name=some cs)(hn:0<cs.size):g<W.heap.size:=by
 have h1:=World.var?_cell hg h 0
 rw [Array.getElem?_eq_getElem hn] at h1
 unfold World.cell? at h1
 split at h1
 · rename_i h2
   exact(Array.getElem?_eq_some_iff.1 h2).1
 · cases h1
def lO(k:IntKind):(ts:List Ty)→List Int→Row ts→Prop
 | [],[],_=>True
 | .int k'::ts,z::zs,x=>k'=k∧DI.toInt k' (Row.hd (t:= .int k') (ts:=ts) x)=z∧lo k≤z∧z≤hi k∧lO k ts zs (Row.tl x)
 |_,_,_=>False
theorem EG {w:World} {A:Nat→Prop} {k:IntKind}:∀(ts:List Ty) (zs:List Int) (x:Row ts),lO k ts zs x→bh w A ts (zs.map (Value.int k)) x
 | [],[],x,_=>by simp [bh]
 | .int k'::ts,z::zs,x,h=>by
   simp only [lO] at h
   obtain⟨rfl,h2,h3,h4,h5⟩:=h
   simp only [bh,List.map_cons]
   refine⟨_,_,rfl,?_,EG ts zs _ h5⟩
   simp only [Rd]
   rw [h2]
   exact⟨rfl,h3,h4⟩
 | .bool::_,_,_,h=>by simp [lO] at h
 | .str::_,_,_,h=>by simp [lO] at h
 | .slice _::_,_,_,h=>by simp [lO] at h
 | [],_::_,_,h=>by simp [lO] at h
 | .int _::_,[],_,h=>by simp [lO] at h
def uO(k:IntKind)(ts:List Ty):List (List Int)→List (Row ts)→Prop
 | [],[]=>True
 |zs::r,x::l=>lO k ts zs x∧uO k ts r l
 |_,_=>False
theorem G3 {w:World} {A:Nat→Prop} {k:IntKind} {ts:List Ty}:∀(zss:List (List Int)) (l:List (Row ts)),uO k ts zss l→bZ (bh w A ts) (zss.flatten.map (Value.int k)) l
 | [],[],_=>by simp [bZ]
 |zs::r,x::l,h=>by
  simp only [uO] at h
  exact⟨zs.map (Value.int k),r.flatten.map (Value.int k),by simp,EG ts zs x h.1,G3 r l h.2⟩
 | [],_::_,h=>by simp [uO] at h
 |_::_,[],h=>by simp [uO] at h
theorem Bn {m:Nat}:∀(zss:List (List Int)),(∀r∈zss,r.length=m)→∀q (z:Int),zss.flatten[q]? =some z→∃i j,i<zss.length∧j<m∧q=i*m+j∧(zss.getD i []).getD j 0=z
 | [],_,q,z,h=>by simp at h
 |r::rs,hz,q,z,h=>by
  have hr:r.length=m:=hz r (by simp)
  by_cases hq:q<m
  · refine⟨0,q,by simp,hq,by simp,?_⟩
    rw [List.flatten_cons,List.getElem?_append_left (by omega)] at h
    simp [List.getD,h]
  · rw [List.flatten_cons,List.getElem?_append_right (by omega),hr] at h
    obtain⟨i,j,h1,h2,h3,h4⟩:=Bn rs (fun r k9=>hz r (by simp [k9])) (q-m) z h
    refine⟨i+1,j,by simp;omega,h2,?_,by simpa using h4⟩
    rw [Nat.add_mul];omega
theorem EH {P:Program} {W:World} {name:String} {g:Nat} {t e:TypeId} {n m:Nat} {k:IntKind} {fs:Array Field} {zss:List (List Int)} {row:List Ty} {l:List (Row row)} {laid:List (String×DataW Unit)}
  (hm:laidMet P laid W) (aE:(name,DataW.agg (zss.map fun r=> .agg (r.map fun z=> .lit (.int k z))))∈laid) (hg:P.globalNamed name=some g) (hgt:(P.globals[g]?).map (·.type)=some t)
  (ht:P.underlying t=some (.array n e)) (he:P.underlying e=some (.struct fs)) (M4:P.cellsOf e=m) (hct:P.cellsOf t=n*m) (hfs:fs.size=m) (hf:∀(i:Nat) (f:Field),fs[i]? =some f→f.offset=i∧P.underlying f.type=some (.int k)∧P.cellsOf f.type=1)
  (hz:∀r∈zss,r.length=m) (im:0<n*m) (hl:uO k row zss l):oA W (fun b=>b<W.heap.size) g ⟨row,l⟩:=by
 obtain⟨ps,Kc,_⟩:=hm
 obtain⟨g',t',cs,fuel,p,h1,h2,h3,h4⟩:=LQ Kc aE
 obtain rfl :=Option.some.inj (hg.symm.trans h1)
 obtain rfl :=Option.some.inj (hgt.symm.trans h2)
 obtain⟨q1,q2,q3⟩:=EF ht he M4 hct hfs hf hz h4
 have alH:cs.size=n*m:=by simpa using q1
 refine⟨ř hg h3 (by rw [alH];exact im),zss.flatten.map (Value.int k),fun q v hq=> ?_,G3 zss l hl⟩
 rw [List.getElem?_map] at hq
 obtain⟨z,ý,rfl⟩:=Option.map_eq_some_iff.1 hq
 obtain⟨i,j,hi,hj,rfl,hv⟩:=Bn zss hz q z ý
 rw [Nat.zero_add,World.var?_cell hg h3,←Array.getElem?_toList,q3 i j (by omega) hj,hv]
end Go.Vg

end
section
namespace Go.Vg
open Go.Proofs
open Go
def fu:Vg.bW:=(.node (.node (.node (.node (.node (.node .leaf 3 ⟨.int .i64,1,8, .int .i64 (0)⟩ .leaf) 4 ⟨.bool,1,1, .bool false⟩ (.node .leaf 5 ⟨.int .u8,1,1, .int .u8 (0)⟩ .leaf)) 9 ⟨.string,1,16, .string ⟨#[]⟩⟩ (.node (.node .leaf 22 ⟨.slice 26,1,24, .slice none 0 0⟩ .leaf) 23 ⟨.slice 91,1,24, .slice none 0 0⟩ .leaf)) 25 ⟨.struct #[⟨ "Docs",22,0,false,"","",0⟩,⟨ "Segs",23,1,false,"","",24⟩],2,48, .agg #[.slice none 0 0, .slice none 0 0]⟩ (.node (.node (.node .leaf 26 ⟨.slice 5,1,24, .slice none 0 0⟩ .leaf) 28 ⟨.struct #[⟨ "Kind",3,0,false,"","",0⟩,⟨ "I",3,1,false,"","",8⟩,⟨ "Many",3,2,false,"","",16⟩,⟨ "Doc",26,3,false,"","",24⟩],4,48, .agg #[.int .i64 (0), .int .i64 (0), .int .i64 (0), .slice none 0 0]⟩ (.node .leaf 32 ⟨.int .i64,1,8, .int .i64 (0)⟩ .leaf)) 34 ⟨.func #[25,28] #[25,32] false,1,8, .nilFunc⟩ (.node (.node .leaf 35 ⟨.slice 104,1,24, .slice none 0 0⟩ .leaf) 37 ⟨.struct #[⟨ "Docs",22,0,false,"","",0⟩,⟨ "Segs",35,1,false,"","",24⟩],2,48, .agg #[.slice none 0 0, .slice none 0 0]⟩ .leaf))) 41 ⟨.struct #[⟨ "Kind",3,0,false,"","",0⟩,⟨ "I",3,1,false,"","",8⟩,⟨ "Many",3,2,false,"","",16⟩,⟨ "Doc",26,3,false,"","",24⟩],4,48, .agg #[.int .i64 (0), .int .i64 (0), .int .i64 (0), .slice none 0 0]⟩ (.node (.node (.node (.node .leaf 49 ⟨.slice 28,1,24, .slice none 0 0⟩ .leaf) 50 ⟨.slice 3,1,24, .slice none 0 0⟩ (.node .leaf 51 ⟨.slice 129,1,24, .slice none 0 0⟩ .leaf)) 53 ⟨.struct #[⟨ "Blocks",22,0,false,"","",0⟩,⟨ "Waits",51,1,false,"","",24⟩],2,48, .agg #[.slice none 0 0, .slice none 0 0]⟩ (.node (.node .leaf 57 ⟨.struct #[⟨ "Seq",3,0,false,"","",0⟩,⟨ "Len",3,1,false,"","",8⟩,⟨ "X",25,2,false,"","",16⟩],4,64, .agg #[.int .i64 (0), .int .i64 (0), .slice none 0 0, .slice none 0 0]⟩ .leaf) 60 ⟨.slice 96,1,24, .slice none 0 0⟩ .leaf)) 68 ⟨.struct #[⟨ "Seq",3,0,false,"","",0⟩,⟨ "Len",3,1,false,"","",8⟩,⟨ "X",37,2,false,"","",16⟩],4,64, .agg #[.int .i64 (0), .int .i64 (0), .slice none 0 0, .slice none 0 0]⟩ (.node (.node (.node .leaf 73 ⟨.slice 80,1,24, .slice none 0 0⟩ .leaf) 75 ⟨.struct #[⟨ "D",53,0,false,"","",0⟩,⟨ "S",57,2,false,"","",48⟩,⟨ "Up",4,6,false,"","",112⟩,⟨ "Fuse",3,7,false,"","",120⟩],8,128, .agg #[.slice none 0 0, .slice none 0 0, .int .i64 (0), .int .i64 (0), .slice none 0 0, .slice none 0 0, .bool false, .int .i64 (0)]⟩ (.node .leaf 80 ⟨.struct #[⟨ "Kind",3,0,false,"","",0⟩,⟨ "N",3,1,false,"","",8⟩,⟨ "E",28,2,false,"","",16⟩,⟨ "Some",50,6,false,"","",64⟩],7,88, .agg #[.int .i64 (0), .int .i64 (0), .int .i64 (0), .int .i64 (0), .int .i64 (0), .slice none 0 0, .slice none 0 0]⟩ .leaf)) 88 ⟨.struct #[⟨ "From",3,0,false,"","",0⟩,⟨ "To",3,1,false,"","",8⟩],2,16, .agg #[.int .i64 (0), .int .i64 (0)]⟩ (.node (.node .leaf 89 ⟨.slice 136,1,24, .slice none 0 0⟩ .leaf) 91 ⟨.struct #[⟨ "Span",88,0,false,"","",0⟩,⟨ "Dict",89,2,false,"","",16⟩],3,40, .agg #[.int .i64 (0), .int .i64 (0), .slice none 0 0]⟩ .leaf)))) 96 ⟨.struct #[⟨ "Sync",4,0,false,"","",0⟩,⟨ "At",3,1,false,"","",8⟩,⟨ "B",26,2,false,"","",16⟩],3,40, .agg #[.bool false, .int .i64 (0), .slice none 0 0]⟩ (.node (.node (.node (.node (.node .leaf 98 ⟨.map 3 34,1,8, .map none⟩ .leaf) 104 ⟨.struct #[⟨ "Span",88,0,false,"","",0⟩,⟨ "Dict",89,2,false,"","",16⟩],3,40, .agg #[.int .i64 (0), .int .i64 (0), .slice none 0 0]⟩ (.node .leaf 115 ⟨.struct #[⟨ "seq",3,0,false,"","rubrick/keep",0⟩,⟨ "used",3,1,false,"","rubrick/keep",8⟩],2,16, .agg #[.int .i64 (0), .int .i64 (0)]⟩ .leaf)) 120 ⟨.struct #[⟨ "B",26,0,false,"","",0⟩,⟨ "At",3,1,false,"","",24⟩,⟨ "E",32,2,false,"","",32⟩],3,40, .agg #[.slice none 0 0, .int .i64 (0), .int .i64 (0)]⟩ (.node (.node .leaf 129 ⟨.struct #[⟨ "At",3,0,false,"","",0⟩,⟨ "B",26,1,false,"","",8⟩],2,32, .agg #[.int .i64 (0), .slice none 0 0]⟩ .leaf) 131 ⟨.pointer 134,1,8, .pointer none⟩ .leaf)) 134 ⟨.struct #[⟨ "Ledger",75,0,true,"","",0⟩],8,128, .agg #[.slice none 0 0, .slice none 0 0, .int .i64 (0), .int .i64 (0), .slice none 0 0, .slice none 0 0, .bool false, .int .i64 (0)]⟩ (.node (.node (.node .leaf 136 ⟨.struct #[⟨ "Term",9,0,false,"","",0⟩,⟨ "Docs",50,1,false,"","",16⟩],2,40, .agg #[.string ⟨#[]⟩, .slice none 0 0]⟩ .leaf) 147 ⟨.slice 88,1,24, .slice none 0 0⟩ (.node .leaf 158 ⟨.int .u64,1,8, .int .u64 (0)⟩ .leaf)) 161 ⟨.int .u64,1,8, .int .u64 (0)⟩ (.node (.node .leaf 178 ⟨.func #[136,136] #[4] false,1,8, .nilFunc⟩ .leaf) 188 ⟨.int .u32,1,4, .int .u32 (0)⟩ .leaf))) 196 ⟨.map 9 50,1,8, .map none⟩ (.node (.node (.node (.node .leaf 197 ⟨.slice 9,1,24, .slice none 0 0⟩ .leaf) 201 ⟨.func #[210] #[] false,1,8, .nilFunc⟩ (.node .leaf 208 ⟨.func #[9,9] #[3] false,1,8, .nilFunc⟩ .leaf)) 216 ⟨.func #[3,4,4] #[4] false,1,8, .nilFunc⟩ (.node (.node .leaf 219 ⟨.func #[9,9] #[4] false,1,8, .nilFunc⟩ .leaf) 231 ⟨.struct #[⟨ "from",3,0,false,"","rubrick/utf",0⟩,⟨ "to",3,1,false,"","rubrick/utf",8⟩],2,16, .agg #[.int .i64 (0), .int .i64 (0)]⟩ .leaf)) 232 ⟨.array 9 231,18,144, .agg #[.int .i64 (0), .int .i64 (0), .int .i64 (0), .int .i64 (0), .int .i64 (0), .int .i64 (0), .int .i64 (0), .int .i64 (0), .int .i64 (0), .int .i64 (0), .int .i64 (0), .int .i64 (0), .int .i64 (0), .int .i64 (0), .int .i64 (0), .int .i64 (0), .int .i64 (0), .int .i64 (0)]⟩ (.node (.node (.node .leaf 235 ⟨.int .i64,1,8, .int .i64 (0)⟩ .leaf) 250 ⟨.struct #[⟨ "from",3,0,false,"","rubrick/utf",0⟩,⟨ "to",3,1,false,"","rubrick/utf",8⟩,⟨ "add",3,2,false,"","rubrick/utf",16⟩],3,24, .agg #[.int .i64 (0), .int .i64 (0), .int .i64 (0)]⟩ .leaf) 251 ⟨.array 7 250,21,168, .agg #[.int .i64 (0), .int .i64 (0), .int .i64 (0), .int .i64 (0), .int .i64 (0), .int .i64 (0), .int .i64 (0), .int .i64 (0), .int .i64 (0), .int .i64 (0), .int .i64 (0), .int .i64 (0), .int .i64 (0), .int .i64 (0), .int .i64 (0), .int .i64 (0), .int .i64 (0), .int .i64 (0), .int .i64 (0), .int .i64 (0), .int .i64 (0)]⟩ (.node (.node .leaf 252 ⟨.int .u64,1,8, .int .u64 (0)⟩ .leaf) 256 ⟨.pointer 3,1,8, .pointer none⟩ .leaf)))))
set_option maxRecDepth 100000 in
theorem PA:fu.Ok Tryz.prog:=⟨⟨⟨⟨⟨⟨trivial,trivial,Tryz.underlying3,trivial,Tryz.t3,rfl,rfl,rfl,rfl⟩,⟨trivial,trivial,Tryz.underlying5,trivial,Tryz.t5,rfl,rfl,rfl,rfl⟩,Tryz.underlying4,trivial,Tryz.t4,rfl,rfl,rfl,rfl⟩,⟨⟨trivial,trivial,Tryz.underlying22,trivial,Tryz.t22,rfl,rfl,rfl,rfl⟩,trivial,Tryz.underlying23,trivial,Tryz.t23,rfl,rfl,rfl,rfl⟩,Tryz.underlying9,trivial,Tryz.t9,rfl,rfl,rfl,rfl⟩,⟨⟨⟨trivial,trivial,Tryz.underlying26,trivial,Tryz.t26,rfl,rfl,rfl,rfl⟩,⟨trivial,trivial,Tryz.underlying32,trivial,Tryz.t32,rfl,rfl,rfl,rfl⟩,Tryz.underlying28,⟨by kernel_rfl,by kernel_rfl,by kernel_rfl⟩,Tryz.t28,rfl,rfl,rfl,rfl⟩,⟨⟨trivial,trivial,Tryz.underlying35,trivial,Tryz.t35,rfl,rfl,rfl,rfl⟩,trivial,Tryz.underlying37,⟨by kernel_rfl,by kernel_rfl,by kernel_rfl⟩,Tryz.t37,rfl,rfl,rfl,rfl⟩,Tryz.underlying34,trivial,Tryz.t34,rfl,rfl,rfl,rfl⟩,Tryz.underlying25,⟨by kernel_rfl,by kernel_rfl,by kernel_rfl⟩,Tryz.t25,rfl,rfl,rfl,rfl⟩,⟨⟨⟨⟨trivial,trivial,Tryz.underlying49,trivial,Tryz.t49,rfl,rfl,rfl,rfl⟩,⟨trivial,trivial,Tryz.underlying51,trivial,Tryz.t51,rfl,rfl,rfl,rfl⟩,Tryz.underlying50,trivial,Tryz.t50,rfl,rfl,rfl,rfl⟩,⟨⟨trivial,trivial,Tryz.underlying57,⟨by kernel_rfl,by kernel_rfl,by kernel_rfl⟩,Tryz.t57,rfl,rfl,rfl,rfl⟩,trivial,Tryz.underlying60,trivial,Tryz.t60,rfl,rfl,rfl,rfl⟩,Tryz.underlying53,⟨by kernel_rfl,by kernel_rfl,by kernel_rfl⟩,Tryz.t53,rfl,rfl,rfl,rfl⟩,⟨⟨⟨trivial,trivial,Tryz.underlying73,trivial,Tryz.t73,rfl,rfl,rfl,rfl⟩,⟨trivial,trivial,Tryz.underlying80,⟨by kernel_rfl,by kernel_rfl,by kernel_rfl⟩,Tryz.t80,rfl,rfl,rfl,rfl⟩,Tryz.underlying75,⟨by kernel_rfl,by kernel_rfl,by kernel_rfl⟩,Tryz.t75,rfl,rfl,rfl,rfl⟩,⟨⟨trivial,trivial,Tryz.underlying89,trivial,Tryz.t89,rfl,rfl,rfl,rfl⟩,trivial,Tryz.underlying91,⟨by kernel_rfl,by kernel_rfl,by kernel_rfl⟩,Tryz.t91,rfl,rfl,rfl,rfl⟩,Tryz.underlying88,⟨by kernel_rfl,by kernel_rfl,by kernel_rfl⟩,Tryz.t88,rfl,rfl,rfl,rfl⟩,Tryz.underlying68,⟨by kernel_rfl,by kernel_rfl,by kernel_rfl⟩,Tryz.t68,rfl,rfl,rfl,rfl⟩,Tryz.underlying41,⟨by kernel_rfl,by kernel_rfl,by kernel_rfl⟩,Tryz.t41,rfl,rfl,rfl,rfl⟩,⟨⟨⟨⟨⟨trivial,trivial,Tryz.underlying98,trivial,Tryz.t98,rfl,rfl,rfl,rfl⟩,⟨trivial,trivial,Tryz.underlying115,⟨by kernel_rfl,by kernel_rfl,by kernel_rfl⟩,Tryz.t115,rfl,rfl,rfl,rfl⟩,Tryz.underlying104,⟨by kernel_rfl,by kernel_rfl,by kernel_rfl⟩,Tryz.t104,rfl,rfl,rfl,rfl⟩,⟨⟨trivial,trivial,Tryz.underlying129,⟨by kernel_rfl,by kernel_rfl,by kernel_rfl⟩,Tryz.t129,rfl,rfl,rfl,rfl⟩,trivial,Tryz.underlying131,trivial,Tryz.t131,rfl,rfl,rfl,rfl⟩,Tryz.underlying120,⟨by kernel_rfl,by kernel_rfl,by kernel_rfl⟩,Tryz.t120,rfl,rfl,rfl,rfl⟩,⟨⟨⟨trivial,trivial,Tryz.underlying136,⟨by kernel_rfl,by kernel_rfl,by kernel_rfl⟩,Tryz.t136,rfl,rfl,rfl,rfl⟩,⟨trivial,trivial,Tryz.underlying158,trivial,Tryz.t158,rfl,rfl,rfl,rfl⟩,Tryz.underlying147,trivial,Tryz.t147,rfl,rfl,rfl,rfl⟩,⟨⟨trivial,trivial,Tryz.underlying178,trivial,Tryz.t178,rfl,rfl,rfl,rfl⟩,trivial,Tryz.underlying188,trivial,Tryz.t188,rfl,rfl,rfl,rfl⟩,Tryz.underlying161,trivial,Tryz.t161,rfl,rfl,rfl,rfl⟩,Tryz.underlying134,⟨by kernel_rfl,by kernel_rfl,by kernel_rfl⟩,Tryz.t134,rfl,rfl,rfl,rfl⟩,⟨⟨⟨⟨trivial,trivial,Tryz.underlying197,trivial,Tryz.t197,rfl,rfl,rfl,rfl⟩,⟨trivial,trivial,Tryz.underlying208,trivial,Tryz.t208,rfl,rfl,rfl,rfl⟩,Tryz.underlying201,trivial,Tryz.t201,rfl,rfl,rfl,rfl⟩,⟨⟨trivial,trivial,Tryz.underlying219,trivial,Tryz.t219,rfl,rfl,rfl,rfl⟩,trivial,Tryz.underlying231,⟨by kernel_rfl,by kernel_rfl,by kernel_rfl⟩,Tryz.t231,rfl,rfl,rfl,rfl⟩,Tryz.underlying216,trivial,Tryz.t216,rfl,rfl,rfl,rfl⟩,⟨⟨⟨trivial,trivial,Tryz.underlying235,trivial,Tryz.t235,rfl,rfl,rfl,rfl⟩,trivial,Tryz.underlying250,⟨by kernel_rfl,by kernel_rfl,by kernel_rfl⟩,Tryz.t250,rfl,rfl,rfl,rfl⟩,⟨⟨trivial,trivial,Tryz.underlying252,trivial,Tryz.t252,rfl,rfl,rfl,rfl⟩,trivial,Tryz.underlying256,trivial,Tryz.t256,rfl,rfl,rfl,rfl⟩,Tryz.underlying251,trivial,Tryz.t251,rfl,rfl,rfl,rfl⟩,Tryz.underlying232,trivial,Tryz.t232,rfl,rfl,rfl,rfl⟩,Tryz.underlying196,trivial,Tryz.t196,rfl,rfl,rfl,rfl⟩,Tryz.underlying96,⟨by kernel_rfl,by kernel_rfl,by kernel_rfl⟩,Tryz.t96,rfl,rfl,rfl,rfl⟩
end Go.Vg
namespace Go.J
open Go.Proofs
def G0:Nat→Option Go.Vg.GD:=fun i=>match i with
 |1=>some ⟨[.int .i64, .int .i64],[(65,90),(97,122),(192,214),(216,246),(248,255),(913,929),(931,937),(945,969),(1024,1119)]⟩
 |2=>some ⟨[.int .i64, .int .i64, .int .i64],[(65,90,32),(192,214,32),(216,222,32),(913,929,32),(931,937,32),(1024,1039,80),(1040,1071,32)]⟩
 |_=>none
end Go.J

end
section
set_option linter.unusedVariables false
namespace Go
def aT(x:Int):Prop :=(-9223372036854775808:Int)≤x∧x≤(9223372036854775807:Int)
def lR:Nat:=140737488355328
def BL:Int:=140737488355328
def z0:Int:=0
def z1:Int:=1
def aq {α:Type}(x:List α):Int:=(x.length:Int)
def adf(b:List UInt8):Prop :=
 b.length≤lR∧b=b
def q0(x:List UInt8×Int):=UInt8.ofNat (Int.toNat (Vg.cF (Vg.bf x.2 (127:Int)%(256:Int)) (128:Int)))
def adg(v:Int)(l:List UInt8):Prop :=
 (∃(x:List UInt8×Int),(v=x.2∧l=x.1)∧S.nX l v x.1 x.2)∧∀(x:List UInt8×Int),S.nX l v x.1 x.2→(decide ((127:Int)<x.2)=true→z0≤x.2∧z0≤(127:Int)∧List.length x.1+List.length [q0 x]≤lR∧(z0≤(7:Int)∧(7:Int)≤(64:Int))∧∃(ag:List UInt8×Int),(x.2/(2:Int)^(7:Int).toNat=ag.2∧x.1++ [q0 x]=ag.1)∧S.nX l v ag.1 ag.2∧Int.toNat ag.2<Int.toNat x.2)∧(decide ((127:Int)<x.2)=false→List.length x.1+List.length [UInt8.ofNat (Int.toNat (x.2%(256:Int)))]≤lR∧x.1++ [UInt8.ofNat (Int.toNat (x.2%(256:Int)))]=l++S.num v)
def adh(s:List UInt8)(l:List UInt8):Prop :=
 S.yB l (aq s)∧List.length (l++S.num (aq s))+s.length≤lR∧l++S.num (aq s)++s=l++S.text s
def q1(v:Int):=bif decide (v<z0) then true else decide ((4611686018427387904:Int)<v)
def adi(b:List UInt8)(v:Int):Prop :=
 ((q1 v)=true→z1=S.hU v∧ []=S.iK b v)∧((q1 v)=false→b.length≤lR∧S.yB b v∧z0=S.hU v∧b++S.num v=S.iK b v)
def adj(b:List UInt8)(s:List UInt8):Prop :=
 b.length≤lR∧S.lB b s∧b++S.text s=b++S.text s
def adk(r1:List UInt8)(r2:Int)(r3:Int):Prop :=
 (bif decide (z0≤r2) then decide (r2≤(aq r1)) else false)=S.inside r1 r2
def adl(r1:List UInt8)(r2:Int)(r3:Int):Prop :=
 r1.length≤lR∧((decide (r3=z0)=true→True)∧(decide (r3=z0)=false→True))∧r1=r1∧(bif bif decide (r3=z0) then !S.inside r1 r2 else false then r2 else r2)=r2∧(bif bif decide (r3=z0) then !S.inside r1 r2 else false then z1 else r3)=S.cU r1 r2 r3
def q2(b:List UInt8)(p:Int)(x:Nat):=Vg.bf (↑(UInt8.toNat (List.getD b (Int.toNat (p+(x:Int))) (0:UInt8))):Int) (127:Int)*(2:Int)^Int.toNat ((7:Int)*(x:Int))
def q3(x:Nat)(b:List UInt8)(p:Int):=bif decide (z1<(x:Int)+z1) then bif decide ((↑(UInt8.toNat (List.getD b (Int.toNat (p+((x:Int)+z1)-z1)) (0:UInt8))):Int)=z0) then true else decide ((4611686018427387904:Int)<Vg.cF (S.eu b p x) (q2 b p x)) else decide ((4611686018427387904:Int)<Vg.cF (S.eu b p x) (q2 b p x))
def q4(b:List UInt8)(p:Int)(x:Nat):=UInt8.toNat (List.getD b (Int.toNat (p+(x:Int))) (0:UInt8))
def adm(b:List UInt8)(p:Int):Prop :=
 (∃(x:Nat),(z0=S.eu b p x∧z0=(x:Int))∧S.gv b p x)∧∀(x:Nat),S.gv b p x→(decide ((x:Int)=(9:Int))=true→z0=(S.aJ b p).1∧z0=((S.aJ b p).2).1∧(2:Int)=((S.aJ b p).2).2)∧(decide ((x:Int)=(9:Int))=false→(aT ((aq b)-p))∧(decide ((x:Int)=(aq b)-p)=true→z0=(S.aJ b p).1∧z0=((S.aJ b p).2).1∧(4:Int)=((S.aJ b p).2).2)∧(decide ((x:Int)=(aq b)-p)=false→(aT (p+(x:Int)))∧(z0≤p+(x:Int)∧p+(x:Int)<(aq b))∧(aT ((7:Int)*(x:Int)))∧(z0≤(7:Int)*(x:Int)∧(7:Int)*(x:Int)≤(64:Int))∧(aT (q2 b p x))∧z0≤S.eu b p x∧z0≤Vg.bf (↑(q4 b p x):Int) (127:Int)*(2:Int)^Int.toNat ((7:Int)*(x:Int))∧(aT ((x:Int)+z1))∧(decide ((↑(q4 b p x):Int)<(128:Int))=true→((decide (z1<(x:Int)+z1)=true→(aT (p+((x:Int)+z1)))∧(aT (p+((x:Int)+z1)-z1))∧z0≤p+((x:Int)+z1)-z1∧p+((x:Int)+z1)-z1<(aq b))∧(decide (z1<(x:Int)+z1)=false→True))∧((q3 x b p)=true→z0=(S.aJ b p).1∧z0=((S.aJ b p).2).1∧(2:Int)=((S.aJ b p).2).2)∧((q3 x b p)=false→(aT (p+((x:Int)+z1)))∧Vg.cF (S.eu b p x) (q2 b p x)=(S.aJ b p).1∧p+((x:Int)+z1)=((S.aJ b p).2).1∧z0=((S.aJ b p).2).2))∧(decide ((↑(q4 b p x):Int)<(128:Int))=false→∃(ag:Nat),(Vg.cF (S.eu b p x) (q2 b p x)=S.eu b p ag∧(x:Int)+z1=(ag:Int))∧S.gv b p ag∧S.ai (9:Nat) ag<S.ai (9:Nat) x)))
def q5(b:List UInt8)(p:Int):=(S.aJ b p).2
def Wu(b:List UInt8)(p:Int)(b9:Int):Prop :=
 S.dA b p∧((!decide ((q5 b p).2=z0))=true→ []=(S.bV b p b9).1∧z0=((S.bV b p b9).2).1∧(q5 b p).2=((S.bV b p b9).2).2)∧((!decide ((q5 b p).2=z0))=false→(decide (b9<(S.aJ b p).1)=true→ []=(S.bV b p b9).1∧z0=((S.bV b p b9).2).1∧(2:Int)=((S.bV b p b9).2).2)∧(decide (b9<(S.aJ b p).1)=false→(aT ((aq b)-(q5 b p).1))∧(decide ((aq b)-(q5 b p).1<(S.aJ b p).1)=true→ []=(S.bV b p b9).1∧z0=((S.bV b p b9).2).1∧(4:Int)=((S.bV b p b9).2).2)∧(decide ((aq b)-(q5 b p).1<(S.aJ b p).1)=false→(aT ((q5 b p).1+(S.aJ b p).1))∧(z0≤(q5 b p).1∧(q5 b p).1≤(q5 b p).1+(S.aJ b p).1∧(q5 b p).1+(S.aJ b p).1≤(aq b))∧(aT ((q5 b p).1+(S.aJ b p).1))∧List.drop (Int.toNat ((q5 b p).1)) (List.take (Int.toNat ((q5 b p).1+(S.aJ b p).1)) b)=(S.bV b p b9).1∧(q5 b p).1+(S.aJ b p).1=((S.bV b p b9).2).1∧z0=((S.bV b p b9).2).2)))
def Wv(r1:List UInt8)(r2:Int)(r3:Int)(b9:Int):Prop :=
 r1.length≤lR∧((!decide (S.cU r1 r2 r3=z0))=true→r1=((S.bj r1 r2 r3 b9).1).1∧r2=(((S.bj r1 r2 r3 b9).1).2).1∧S.cU r1 r2 r3=(((S.bj r1 r2 r3 b9).1).2).2∧ []=(S.bj r1 r2 r3 b9).2)∧((!decide (S.cU r1 r2 r3=z0))=false→S.dA r1 r2∧((!decide (((S.bV r1 r2 b9).2).2=z0))=true→r1=((S.bj r1 r2 r3 b9).1).1∧r2=(((S.bj r1 r2 r3 b9).1).2).1∧((S.bV r1 r2 b9).2).2=(((S.bj r1 r2 r3 b9).1).2).2∧ []=(S.bj r1 r2 r3 b9).2)∧((!decide (((S.bV r1 r2 b9).2).2=z0))=false→r1=((S.bj r1 r2 r3 b9).1).1∧((S.bV r1 r2 b9).2).1=(((S.bj r1 r2 r3 b9).1).2).1∧S.cU r1 r2 r3=(((S.bj r1 r2 r3 b9).1).2).2∧(S.bV r1 r2 b9).1=(S.bj r1 r2 r3 b9).2))
def Ww(r1:List UInt8)(r2:Int)(r3:Int):Prop :=
 r1.length≤lR∧((!decide (S.cU r1 r2 r3=z0))=true→r1=((S.af r1 r2 r3).1).1∧r2=(((S.af r1 r2 r3).1).2).1∧S.cU r1 r2 r3=(((S.af r1 r2 r3).1).2).2∧z0=(S.af r1 r2 r3).2)∧((!decide (S.cU r1 r2 r3=z0))=false→S.dA r1 r2∧((!decide (((S.aJ r1 r2).2).2=z0))=true→r1=((S.af r1 r2 r3).1).1∧r2=(((S.af r1 r2 r3).1).2).1∧((S.aJ r1 r2).2).2=(((S.af r1 r2 r3).1).2).2∧z0=(S.af r1 r2 r3).2)∧((!decide (((S.aJ r1 r2).2).2=z0))=false→r1=((S.af r1 r2 r3).1).1∧((S.aJ r1 r2).2).1=(((S.af r1 r2 r3).1).2).1∧S.cU r1 r2 r3=(((S.af r1 r2 r3).1).2).2∧(S.aJ r1 r2).1=(S.af r1 r2 r3).2))
def Wx(c:Int):Prop :=
 (bif decide (z0≤c) then bif decide (c≤(1114111:Int)) then bif decide (c<(55296:Int)) then true else decide ((57343:Int)<c) else false else false)=S.bn c
def Wy(c:Int):Prop :=
 (decide (c<(128:Int))=true→z1=S.cY c)∧(decide (c<(128:Int))=false→(decide (c<(2048:Int))=true→(2:Int)=S.cY c)∧(decide (c<(2048:Int))=false→(decide (c<(65536:Int))=true→(3:Int)=S.cY c)∧(decide (c<(65536:Int))=false→(4:Int)=S.cY c)))
def Wz(c:Int):Prop :=
 z0≤c∧z0≤(63:Int)∧Vg.cF (128:Int) (Vg.bf c (63:Int)%(256:Int))=(↑(UInt8.toNat (S.more c)):Int)
def q6(c:Int):=UInt8.ofNat (Int.toNat (↑(UInt8.toNat (S.more c)):Int))
def q7:=z0≤(6:Int)∧(6:Int)≤(64:Int)
def q8(c:Int):=UInt8.ofNat (Int.toNat (↑(UInt8.toNat (S.more (c/(2:Int)^(6:Int).toNat))):Int))
def q9:=z0≤(12:Int)∧(12:Int)≤(64:Int)
def WA(c:Int):Prop :=
 True∧((!S.bn c)=true→z1=S.sO c∧ []=S.fb c)∧((!S.bn c)=false→True∧(decide (S.cY c=z1)=true→z0=S.sO c∧ [UInt8.ofNat (Int.toNat (c%(256:Int)))]=S.fb c)∧(decide (S.cY c=z1)=false→(decide (S.cY c=(2:Int))=true→q7∧z0≤c∧z0=S.sO c∧ [UInt8.ofNat (Int.toNat (Vg.cF (192:Int) (c/(2:Int)^(6:Int).toNat%(256:Int)))),q6 c]=S.fb c)∧(decide (S.cY c=(2:Int))=false→(decide (S.cY c=(3:Int))=true→q9∧q7∧z0≤c/(2:Int)^(6:Int).toNat∧z0≤c∧z0=S.sO c∧ [UInt8.ofNat (Int.toNat (Vg.cF (224:Int) (c/(2:Int)^(12:Int).toNat%(256:Int)))),q8 c,q6 c]=S.fb c)∧(decide (S.cY c=(3:Int))=false→(z0≤(18:Int)∧(18:Int)≤(64:Int))∧q9∧z0≤c/(2:Int)^(12:Int).toNat∧q7∧z0≤c/(2:Int)^(6:Int).toNat∧z0≤c∧z0=S.sO c∧ [UInt8.ofNat (Int.toNat (Vg.cF (240:Int) (c/(2:Int)^(18:Int).toNat%(256:Int)))),UInt8.ofNat (Int.toNat (↑(UInt8.toNat (S.more (c/(2:Int)^(12:Int).toNat))):Int)),q8 c,q6 c]=S.fb c))))
def vO(b:List UInt8):=UInt8.toNat (List.getD b (z0.toNat) (0:UInt8))
def WB(b:List UInt8)(x:Nat):=UInt8.toNat (List.getD (List.drop (z1.toNat) (List.take ((2:Int).toNat) b)) ((x:Int).toNat) (0:UInt8))
def WC(b:List UInt8)(x:Nat):=UInt8.toNat (List.getD (List.drop (z1.toNat) (List.take ((3:Int).toNat) b)) ((x:Int).toNat) (0:UInt8))
def WD(b:List UInt8)(x:Nat):=UInt8.toNat (List.getD (List.drop (z1.toNat) (List.take ((4:Int).toNat) b)) ((x:Int).toNat) (0:UInt8))
def Ś(b:List UInt8)(x:Nat):=((!S.bn (S.bB b x))=true→True)∧((!S.bn (S.bB b x))=false→True)
def On(b:List UInt8)(x:Nat):=S.bB b x*(2:Int)^(6:Int).toNat
def ś(b:List UInt8):=List.length (List.drop (z1.toNat) (List.take ((2:Int).toNat) b))
def Ŝ(b:List UInt8):=List.length (List.drop (z1.toNat) (List.take ((3:Int).toNat) b))
def ŝ(b:List UInt8):=List.length (List.drop (z1.toNat) (List.take ((4:Int).toNat) b))
def Ş:=z0≤(6:Int)∧(6:Int)≤(64:Int)
def ş:=z0≤(6:Int)∧(6:Int)≤(8:Int)
def q21(b:List UInt8)(x:Nat):=bif !S.bn (S.bB b x) then true else !decide (S.cY (S.bB b x)=(2:Int))
def q22(b:List UInt8)(x:Nat):=bif !S.bn (S.bB b x) then true else !decide (S.cY (S.bB b x)=(3:Int))
def q23(b:List UInt8)(x:Nat):=bif !S.bn (S.bB b x) then true else !decide (S.cY (S.bB b x)=(4:Int))
def WE(b:List UInt8):Prop :=
 (z0≤z0∧z0<(aq b))∧(decide ((↑(vO b):Int)<(128:Int))=true→(↑(vO b):Int)=(S.aM b).1∧z1=(S.aM b).2)∧(decide ((↑(vO b):Int)<(128:Int))=false→(z0≤(5:Int)∧(5:Int)≤(64:Int))∧(decide ((↑(vO b):Int)/(2:Int)^(5:Int).toNat=(6:Int))=true→z0≤(↑(vO b):Int)∧z0≤(31:Int)∧(decide ((aq b)<(2:Int))=true→(65533:Int)=(S.aM b).1∧z1=(S.aM b).2)∧(decide ((aq b)<(2:Int))=false→(z0≤z1∧z1≤(2:Int)∧(2:Int)≤(aq b))∧(∃(x:Nat),(z0=(x:Int)∧Vg.bf (↑(vO b):Int) (31:Int)=S.bB b x)∧S.kY b x)∧∀(x:Nat),S.kY b x→(decide ((x:Int)<(↑(ś b):Int))=true→(z0≤(x:Int)∧(x:Int)<(↑(ś b):Int))∧ş∧((!decide ((↑(WB b x):Int)/(2:Int)^(6:Int).toNat=(2:Int)))=true→(65533:Int)=(S.aM b).1∧z1=(S.aM b).2)∧((!decide ((↑(WB b x):Int)/(2:Int)^(6:Int).toNat=(2:Int)))=false→Ş∧(aT (On b x))∧z0≤S.bB b x*(2:Int)^(6:Int).toNat∧z0≤Vg.bf (↑(WB b x):Int) (63:Int)∧(aT ((x:Int)+z1))∧∃(ag:Nat),((x:Int)+z1=(ag:Int)∧Vg.cF (On b x) (Vg.bf (↑(WB b x):Int) (63:Int))=S.bB b ag)∧S.kY b ag∧S.ai (4:Nat) ag<S.ai (4:Nat) x))∧(decide ((x:Int)<(↑(ś b):Int))=false→True∧(Ś b x)∧((q21 b x)=true→(65533:Int)=(S.aM b).1∧z1=(S.aM b).2)∧((q21 b x)=false→S.bB b x=(S.aM b).1∧(2:Int)=(S.aM b).2))))∧(decide ((↑(vO b):Int)/(2:Int)^(5:Int).toNat=(6:Int))=false→(z0≤(4:Int)∧(4:Int)≤(64:Int))∧(decide ((↑(vO b):Int)/(2:Int)^(4:Int).toNat=(14:Int))=true→z0≤(↑(vO b):Int)∧z0≤(15:Int)∧(decide ((aq b)<(3:Int))=true→(65533:Int)=(S.aM b).1∧z1=(S.aM b).2)∧(decide ((aq b)<(3:Int))=false→(z0≤z1∧z1≤(3:Int)∧(3:Int)≤(aq b))∧(∃(x:Nat),(z0=(x:Int)∧Vg.bf (↑(vO b):Int) (15:Int)=S.bB b x)∧S.kY b x)∧∀(x:Nat),S.kY b x→(decide ((x:Int)<(↑(Ŝ b):Int))=true→(z0≤(x:Int)∧(x:Int)<(↑(Ŝ b):Int))∧ş∧((!decide ((↑(WC b x):Int)/(2:Int)^(6:Int).toNat=(2:Int)))=true→(65533:Int)=(S.aM b).1∧z1=(S.aM b).2)∧((!decide ((↑(WC b x):Int)/(2:Int)^(6:Int).toNat=(2:Int)))=false→Ş∧(aT (On b x))∧z0≤S.bB b x*(2:Int)^(6:Int).toNat∧z0≤Vg.bf (↑(WC b x):Int) (63:Int)∧(aT ((x:Int)+z1))∧∃(ag:Nat),((x:Int)+z1=(ag:Int)∧Vg.cF (On b x) (Vg.bf (↑(WC b x):Int) (63:Int))=S.bB b ag)∧S.kY b ag∧S.ai (4:Nat) ag<S.ai (4:Nat) x))∧(decide ((x:Int)<(↑(Ŝ b):Int))=false→True∧(Ś b x)∧((q22 b x)=true→(65533:Int)=(S.aM b).1∧z1=(S.aM b).2)∧((q22 b x)=false→S.bB b x=(S.aM b).1∧(3:Int)=(S.aM b).2))))∧(decide ((↑(vO b):Int)/(2:Int)^(4:Int).toNat=(14:Int))=false→(z0≤(3:Int)∧(3:Int)≤(64:Int))∧(decide ((↑(vO b):Int)/(2:Int)^(3:Int).toNat=(30:Int))=true→z0≤(↑(vO b):Int)∧z0≤(7:Int)∧(decide ((aq b)<(4:Int))=true→(65533:Int)=(S.aM b).1∧z1=(S.aM b).2)∧(decide ((aq b)<(4:Int))=false→(z0≤z1∧z1≤(4:Int)∧(4:Int)≤(aq b))∧(∃(x:Nat),(z0=(x:Int)∧Vg.bf (↑(vO b):Int) (7:Int)=S.bB b x)∧S.kY b x)∧∀(x:Nat),S.kY b x→(decide ((x:Int)<(↑(ŝ b):Int))=true→(z0≤(x:Int)∧(x:Int)<(↑(ŝ b):Int))∧ş∧((!decide ((↑(WD b x):Int)/(2:Int)^(6:Int).toNat=(2:Int)))=true→(65533:Int)=(S.aM b).1∧z1=(S.aM b).2)∧((!decide ((↑(WD b x):Int)/(2:Int)^(6:Int).toNat=(2:Int)))=false→Ş∧(aT (On b x))∧z0≤S.bB b x*(2:Int)^(6:Int).toNat∧z0≤Vg.bf (↑(WD b x):Int) (63:Int)∧(aT ((x:Int)+z1))∧∃(ag:Nat),((x:Int)+z1=(ag:Int)∧Vg.cF (On b x) (Vg.bf (↑(WD b x):Int) (63:Int))=S.bB b ag)∧S.kY b ag∧S.ai (4:Nat) ag<S.ai (4:Nat) x))∧(decide ((x:Int)<(↑(ŝ b):Int))=false→True∧(Ś b x)∧((q23 b x)=true→(65533:Int)=(S.aM b).1∧z1=(S.aM b).2)∧((q23 b x)=false→S.bB b x=(S.aM b).1∧(4:Int)=(S.aM b).2))))∧(decide ((↑(vO b):Int)/(2:Int)^(3:Int).toNat=(30:Int))=false→(65533:Int)=(S.aM b).1∧z1=(S.aM b).2))))
def WG(b:List UInt8):Prop :=
 (∃(x:List UInt8×List Int),(b=x.1∧ []=x.2)∧S.nY b x.1 x.2)∧∀(x:List UInt8×List Int),S.nY b x.1 x.2→(decide (z0<(↑(List.length x.1):Int))=true→(0:Nat)<List.length x.1∧List.length x.2+List.length [(S.aM x.1).1]≤(17592186044416:Nat)∧(z0≤(S.aM x.1).2∧(S.aM x.1).2≤(↑(List.length x.1):Int))∧∃(ag:List UInt8×List Int),(List.drop (Int.toNat ((S.aM x.1).2)) x.1=ag.1∧x.2++ [(S.aM x.1).1]=ag.2)∧S.nY b ag.1 ag.2∧S.len ag.1<S.len x.1)∧(decide (z0<(↑(List.length x.1):Int))=false→x.2=S.decode b)
def q24(x:Nat)(c:Int):=bif decide (List.getD [(65:Int),(97:Int),(192:Int),(216:Int),(248:Int),(913:Int),(931:Int),(945:Int),(1024:Int)] ((x:Int).toNat) z0≤c) then decide (c≤List.getD [(90:Int),(122:Int),(214:Int),(246:Int),(255:Int),(929:Int),(937:Int),(969:Int),(1119:Int)] ((x:Int).toNat) z0) else false
def WH(c:Int):Prop :=
 (∃(x:Nat),z0=(x:Int)∧S.kX c x)∧∀(x:Nat),S.kX c x→(decide ((x:Int)<(9:Int))=true→(z0≤(x:Int)∧(x:Int)<(↑(9:Nat):Int))∧((q24 x c)=true→true=S.letter c)∧((q24 x c)=false→(aT ((x:Int)+z1))∧∃(ag:Nat),(x:Int)+z1=(ag:Int)∧S.kX c ag∧S.ai (9:Nat) ag<S.ai (9:Nat) x))∧(decide ((x:Int)<(9:Int))=false→false=S.letter c)
def WI(c:Int):Prop :=
 (bif decide ((48:Int)≤c) then decide (c≤(57:Int)) else false)=S.digit c
def q25(x:Nat)(c:Int):=bif decide (List.getD [(65:Int),(192:Int),(216:Int),(913:Int),(931:Int),(1024:Int),(1040:Int)] ((x:Int).toNat) z0≤c) then decide (c≤List.getD [(90:Int),(214:Int),(222:Int),(929:Int),(937:Int),(1039:Int),(1071:Int)] ((x:Int).toNat) z0) else false
def WJ(c:Int):Prop :=
 (∃(x:Nat),z0=(x:Int)∧S.lC c x)∧∀(x:Nat),S.lC c x→(decide ((x:Int)<(7:Int))=true→(z0≤(x:Int)∧(x:Int)<(↑(7:Nat):Int))∧((q25 x c)=true→(aT (c+List.getD [(32:Int),(32:Int),(32:Int),(32:Int),(32:Int),(80:Int),(32:Int)] ((x:Int).toNat) z0))∧c+List.getD [(32:Int),(32:Int),(32:Int),(32:Int),(32:Int),(80:Int),(32:Int)] ((x:Int).toNat) z0=S.br c)∧((q25 x c)=false→(aT ((x:Int)+z1))∧∃(ag:Nat),(x:Int)+z1=(ag:Int)∧S.lC c ag∧S.ai (7:Nat) ag<S.ai (7:Nat) x))∧(decide ((x:Int)<(7:Int))=false→c=S.br c)
def TG(u:List Int)(x:Nat×List UInt8):=S.br (List.getD u ((x.1:Int).toNat) z0)
def WK(u:List Int):Prop :=
 (∃(x:Nat×List UInt8),(z0=(x.1:Int)∧ []=x.2)∧S.lD u x.1 x.2)∧∀(x:Nat×List UInt8),S.lD u x.1 x.2→(decide ((x.1:Int)<(aq u))=true→(z0≤(x.1:Int)∧(x.1:Int)<(aq u))∧True∧True∧(aT ((↑(List.length x.2):Int)+(↑(List.length (S.fb (TG u x))):Int)))∧(decide ((64:Int)<(↑(List.length x.2):Int)+(↑(List.length (S.fb (TG u x))):Int))=true→x.2=S.fX u)∧(decide ((64:Int)<(↑(List.length x.2):Int)+(↑(List.length (S.fb (TG u x))):Int))=false→List.length x.2+List.length (S.fb (TG u x))≤lR∧(aT ((x.1:Int)+z1))∧∃(ag:Nat×List UInt8),((x.1:Int)+z1=(ag.1:Int)∧x.2++S.fb (TG u x)=ag.2)∧S.lD u ag.1 ag.2∧S.ai (S.len u) ag.1<S.ai (S.len u) x.1))∧(decide ((x.1:Int)<(aq u))=false→x.2=S.fX u)
def Js(b:List UInt8)(x:Nat×List (List UInt8)×List Int):=List.getD (S.decode b) ((x.1:Int).toNat) z0
def Oo(b:List UInt8):=S.len (S.decode b)
def WL(b:List UInt8):Prop :=
 S.small b∧(∃(x:Nat×List (List UInt8)×List Int),(z0=(x.1:Int)∧ []=x.2.1∧ []=x.2.2)∧S.gO (S.decode b) x.1 x.2.1 x.2.2)∧∀(x:Nat×List (List UInt8)×List Int),S.gO (S.decode b) x.1 x.2.1 x.2.2→(decide ((x.1:Int)<(aq (S.decode b)))=true→(z0≤(x.1:Int)∧(x.1:Int)<(aq (S.decode b)))∧(x.1:Int).toNat<List.length (S.decode b)∧True∧((S.letter (Js b x)=true→True)∧(S.letter (Js b x)=false→True))∧((bif S.letter (Js b x) then true else S.digit (Js b x))=true→List.length x.2.2+List.length [Js b x]≤(17592186044416:Nat)∧(aT ((x.1:Int)+z1))∧∃(ag:Nat×List (List UInt8)×List Int),((x.1:Int)+z1=(ag.1:Int)∧x.2.1=ag.2.1∧x.2.2++ [Js b x]=ag.2.2)∧S.gO (S.decode b) ag.1 ag.2.1 ag.2.2∧S.ai (Oo b) ag.1<S.ai (Oo b) x.1)∧((bif S.letter (Js b x) then true else S.digit (Js b x))=false→(decide (z0<(↑(List.length x.2.2):Int))=true→S.U4 x.2.2∧List.length x.2.1+List.length [S.fX x.2.2]≤(8796093022208:Nat)∧(aT ((x.1:Int)+z1))∧∃(ag:Nat×List (List UInt8)×List Int),((x.1:Int)+z1=(ag.1:Int)∧x.2.1++ [S.fX x.2.2]=ag.2.1∧ []=ag.2.2)∧S.gO (S.decode b) ag.1 ag.2.1 ag.2.2∧S.ai (Oo b) ag.1<S.ai (Oo b) x.1)∧(decide (z0<(↑(List.length x.2.2):Int))=false→(aT ((x.1:Int)+z1))∧∃(ag:Nat×List (List UInt8)×List Int),((x.1:Int)+z1=(ag.1:Int)∧x.2.1=ag.2.1∧x.2.2=ag.2.2)∧S.gO (S.decode b) ag.1 ag.2.1 ag.2.2∧S.ai (Oo b) ag.1<S.ai (Oo b) x.1)))∧(decide ((x.1:Int)<(aq (S.decode b)))=false→(decide (z0<(↑(List.length x.2.2):Int))=true→S.U4 x.2.2∧List.length x.2.1+List.length [S.fX x.2.2]≤(8796093022208:Nat)∧x.2.1++ [S.fX x.2.2]=S.bJ b)∧(decide (z0<(↑(List.length x.2.2):Int))=false→x.2.1=S.bJ b))
def WM(s:List UInt8):Prop :=
 S.small s∧((decide ((aq (S.bJ s))=z1)=true→(z0≤z0∧z0<(aq (S.bJ s)))∧z0.toNat<List.length (S.bJ s))∧(decide ((aq (S.bJ s))=z1)=false→True))∧(bif decide ((aq (S.bJ s))=z1) then decide (List.getD (S.bJ s) (z0.toNat) []=s) else false)=S.isTerm s
def WN(s:List UInt8):Prop :=
 (!decide (s=s))=false
def WO(a:List UInt8)(b:List UInt8):Prop :=
 True∧True∧(false=true→(false=true→z0=S.fU a b)∧(false=false→(-1:Int)=S.fU a b))∧(false=false→(false=true→z1=S.fU a b)∧(false=false→(Op.bytesLess a b=true→(-1:Int)=S.fU a b)∧(Op.bytesLess a b=false→((!(Op.bytesLess a b || decide (a=b)))=true→z1=S.fU a b)∧((!(Op.bytesLess a b || decide (a=b)))=false→z0=S.fU a b))))
def WQ(a:List UInt8)(b:List UInt8):Prop :=
 True∧decide (S.fU a b=z0)=decide (a=b)
def WR(l:List (List UInt8)):Prop :=
 (decide ((aq l)<(2:Int))=true→l=S.bN l)∧(decide ((aq l)<(2:Int))=false→(∃(x:Nat),z1=(x:Int)∧S.n3 l x)∧∀(x:Nat),S.n3 l x→(decide ((x:Int)<(aq l))=true→(z0≤(x:Int)∧(x:Int)<(aq l))∧(x:Int).toNat<l.length∧(aT ((x:Int)-z1))∧(z0≤(x:Int)-z1∧(x:Int)-z1<(aq l))∧Int.toNat ((x:Int)-z1)<l.length∧True∧(decide (List.getD l ((x:Int).toNat) []=List.getD l (Int.toNat ((x:Int)-z1)) [])=true→(z0≤(x:Int)∧(x:Int)≤(aq l))∧(∃(ag:Nat×Nat×List (List UInt8)×Nat),((x:Int)=(ag.1:Int)∧z1=(ag.2.1:Int)∧l=ag.2.2.1)∧S.jq l ag.2.2.2 ag.1 ag.2.1 ag.2.2.1∧(x:Int)=(ag.2.2.2:Int))∧∀(ag:Nat×Nat×List (List UInt8)×Nat),S.jq l ag.2.2.2 ag.1 ag.2.1 ag.2.2.1∧(x:Int)=(ag.2.2.2:Int)→(decide ((ag.2.1:Int)<(↑(l.length-(x:Int).toNat):Int))=true→(z0≤(ag.2.1:Int)∧(ag.2.1:Int)<(↑(l.length-(x:Int).toNat):Int))∧(x:Int).toNat+(ag.2.1:Int).toNat<List.length ag.2.2.1∧(aT ((ag.2.1:Int)-z1))∧(z0≤(ag.2.1:Int)-z1∧(ag.2.1:Int)-z1<(↑(l.length-(x:Int).toNat):Int))∧(x:Int).toNat+Int.toNat ((ag.2.1:Int)-z1)<List.length ag.2.2.1∧True∧(((!decide (List.getD ag.2.2.1 ((x:Int).toNat+(ag.2.1:Int).toNat) []=List.getD ag.2.2.1 ((x:Int).toNat+Int.toNat ((ag.2.1:Int)-z1)) []))=true→(z0≤(ag.2.1:Int)∧(ag.2.1:Int)<(↑(l.length-(x:Int).toNat):Int))∧(x:Int).toNat+(ag.2.1:Int).toNat<List.length ag.2.2.1∧(z0≤(ag.1:Int)∧(ag.1:Int)<(↑(List.length ag.2.2.1):Int))∧(ag.1:Int).toNat<List.length ag.2.2.1∧aT ((ag.1:Int)+z1))∧((!decide (List.getD ag.2.2.1 ((x:Int).toNat+(ag.2.1:Int).toNat) []=List.getD ag.2.2.1 ((x:Int).toNat+Int.toNat ((ag.2.1:Int)-z1)) []))=false→True))∧(aT ((ag.2.1:Int)+z1))∧∃(aW:Nat×Nat×List (List UInt8)×Nat),((bif !decide (List.getD ag.2.2.1 ((x:Int).toNat+(ag.2.1:Int).toNat) []=List.getD ag.2.2.1 ((x:Int).toNat+Int.toNat ((ag.2.1:Int)-z1)) []) then(ag.1:Int)+z1 else(ag.1:Int))=(aW.1:Int)∧(ag.2.1:Int)+z1=(aW.2.1:Int)∧(bif !decide (List.getD ag.2.2.1 ((x:Int).toNat+(ag.2.1:Int).toNat) []=List.getD ag.2.2.1 ((x:Int).toNat+Int.toNat ((ag.2.1:Int)-z1)) []) then List.set ag.2.2.1 ((ag.1:Int).toNat) (List.getD ag.2.2.1 ((x:Int).toNat+(ag.2.1:Int).toNat) []) else ag.2.2.1)=aW.2.2.1)∧(S.jq l aW.2.2.2 aW.1 aW.2.1 aW.2.2.1∧(x:Int)=(aW.2.2.2:Int))∧S.ai (S.len l) aW.2.1<S.ai (S.len l) ag.2.1)∧(decide ((ag.2.1:Int)<(↑(l.length-(x:Int).toNat):Int))=false→(z0≤(ag.1:Int)∧(ag.1:Int)≤(↑(List.length ag.2.2.1):Int))∧(((ag.1:Int).toNat)+(List.length ag.2.2.1-(ag.1:Int).toNat))≤List.length ag.2.2.1∧(z0≤(ag.1:Int)∧(ag.1:Int)≤(↑(List.length (List.take ((ag.1:Int).toNat) ag.2.2.1++List.replicate (List.length ag.2.2.1-(ag.1:Int).toNat) (Vg.iU UInt8)++List.drop ((((ag.1:Int).toNat)+(List.length ag.2.2.1-(ag.1:Int).toNat))) ag.2.2.1)):Int))∧List.take ((ag.1:Int).toNat) (List.take ((ag.1:Int).toNat) ag.2.2.1++List.replicate (List.length ag.2.2.1-(ag.1:Int).toNat) (Vg.iU UInt8)++List.drop ((((ag.1:Int).toNat)+(List.length ag.2.2.1-(ag.1:Int).toNat))) ag.2.2.1)=S.bN l))∧(decide (List.getD l ((x:Int).toNat) []=List.getD l (Int.toNat ((x:Int)-z1)) [])=false→(aT ((x:Int)+z1))∧∃(ag:Nat),(x:Int)+z1=(ag:Int)∧S.n3 l ag∧S.ai (S.len l) ag<S.ai (S.len l) x))∧(decide ((x:Int)<(aq l))=false→l=S.bN l))
def WS(l:List (List UInt8)):Prop :=
 S.small l∧S.small l∧S.small (S.fV l)∧S.bN (S.fV l)=S.bN (S.fV l)
def WT(b:List UInt8):Prop :=
 S.small b∧S.small (S.bJ b)∧S.bN (S.fV (S.bJ b))=S.sorted (S.bJ b)
def q29(l:List Int)(x:Nat):=bif decide (List.getD l ((x:Int).toNat) z0≤S.mh l x) then true else decide ((1000:Int)≤List.getD l ((x:Int).toNat) z0)
def WU(l:List Int):Prop :=
 (∃(x:Nat),(z0=(x:Int)∧(-1:Int)=S.mh l x)∧S.kv l x)∧∀(x:Nat),S.kv l x→(decide ((x:Int)<(aq l))=true→(z0≤(x:Int)∧(x:Int)<(aq l))∧((q29 l x)=true→false=S.fx l)∧((q29 l x)=false→(aT ((x:Int)+z1))∧∃(ag:Nat),((x:Int)+z1=(ag:Int)∧List.getD l ((x:Int).toNat) z0=S.mh l ag)∧S.kv l ag∧S.ai (S.len l) ag<S.ai (S.len l) x))∧(decide ((x:Int)<(aq l))=false→true=S.fx l)
def WV(n:Int)(p:Bool)(q:Bool)(s1:Int)(s2:Int):Prop :=
 (bif decide (s1≤n) then decide (n<s2) else false)=S.ph n s1 s2∧s1=s1∧s2=s2
def WW(x:List Int×List Int):=bif bif decide (z0<(↑(List.length S.fy):Int)) then bif decide ((↑(List.length x.1):Int)=z0) then true else decide (List.getD S.fy (z0.toNat) z0≤List.getD x.1 (z0.toNat) z0) else false then List.getD S.fy (z0.toNat) z0 else bif bif decide (z0<(↑(List.length x.1):Int)) then bif decide ((↑(List.length S.fy):Int)=z0) then true else decide (List.getD x.1 (z0.toNat) z0≤List.getD S.fy (z0.toNat) z0) else false then List.getD x.1 (z0.toNat) z0 else z0
def y7:=List.length S.fy
def q32(x:List Int×List Int):=bif bif decide (z0<(y7:Int)) then bif decide ((↑(List.length x.1):Int)=z0) then true else decide (List.getD S.fy (z0.toNat) z0≤List.getD x.1 (z0.toNat) z0) else false then List.drop (z1.toNat) S.fy else S.fy
def q33(x:List Int×List Int):=bif bif decide (z0<(↑(List.length x.1):Int)) then bif decide ((y7:Int)=z0) then true else decide (List.getD x.1 (z0.toNat) z0≤List.getD S.fy (z0.toNat) z0) else false then List.drop (z1.toNat) x.1 else x.1
def q34(x:List Int×List Int):=bif decide (z0<(↑(List.length x.1):Int)) then bif decide ((y7:Int)=z0) then true else decide (List.getD x.1 (z0.toNat) z0≤List.getD S.fy (z0.toNat) z0) else false
def q35(x:List Int×List Int):=bif decide (z0<(y7:Int)) then bif decide ((↑(List.length x.1):Int)=z0) then true else decide (List.getD S.fy (z0.toNat) z0≤List.getD x.1 (z0.toNat) z0) else false
def q36(x:List Int×List Int):=bif decide (z0<(↑(List.length x.1):Int)) then true else decide (z0<(y7:Int))
def WX(a:List Int)(b:List Int)(s1:Int)(s2:Int):Prop :=
 True∧True∧(∃(x:List Int×List Int),((bif !S.fx a then [] else a)=x.1∧(bif !S.fx b then [] else b)=S.fy∧ []=x.2∧s1=s1∧s2=s2)∧S.jr a s1 s2 x.1 x.2)∧∀(x:List Int×List Int),S.jr a s1 s2 x.1 x.2→((q36 x)=true→((decide (z0<(↑(List.length x.1):Int))=true→(decide ((y7:Int)=z0)=true→True)∧(decide ((y7:Int)=z0)=false→(z0≤z0∧z0<(↑(List.length x.1):Int))∧z0≤z0∧z0<(y7:Int)))∧(decide (z0<(↑(List.length x.1):Int))=false→True))∧((decide (z0<(y7:Int))=true→(decide ((↑(List.length x.1):Int)=z0)=true→True)∧(decide ((↑(List.length x.1):Int)=z0)=false→(z0≤z0∧z0<(y7:Int))∧z0≤z0∧z0<(↑(List.length x.1):Int)))∧(decide (z0<(y7:Int))=false→True))∧(((q34 x)=true→(z0≤z0∧z0<(↑(List.length x.1):Int))∧z0≤z1∧z1≤(↑(List.length x.1):Int))∧((q34 x)=false→True))∧(((q35 x)=true→(z0≤z0∧z0<(y7:Int))∧z0≤z1∧z1≤(y7:Int))∧((q35 x)=false→True))∧True∧(S.ph (WW x) s1 s2=true→List.length x.2+List.length [WW x]≤(17592186044416:Nat)∧∃(ag:List Int×List Int),((q33 x)=ag.1∧(q32 x)=S.fy∧x.2++ [WW x]=ag.2∧s1=s1∧s2=s2)∧S.jr a s1 s2 ag.1 ag.2∧S.len ag.1<S.len x.1)∧(S.ph (WW x) s1 s2=false→∃(ag:List Int×List Int),((q33 x)=ag.1∧(q32 x)=S.fy∧x.2=ag.2∧s1=s1∧s2=s2)∧S.jr a s1 s2 ag.1 ag.2∧S.len ag.1<S.len x.1))∧((q36 x)=false→s1=s1∧s2=s2∧x.2=S.DX a s1 s2)
def WY(l:List Int)(s1:Int)(s2:Int):Prop :=
 List.length (Vg.iU Int)=(0:Nat)∧S.DX l s1 s2=S.DX l s1 s2
def WZ(a:List Int)(b:List Int):Prop :=
 ((!decide ((aq a)=(aq b)))=true→false=S.mi a b)∧((!decide ((aq a)=(aq b)))=false→(∃(x:Nat),z0=(x:Int)∧S.p7 a b x)∧∀(x:Nat),S.p7 a b x→(decide ((x:Int)<(aq a))=true→(z0≤(x:Int)∧(x:Int)<(aq a))∧(z0≤(x:Int)∧(x:Int)<(aq b))∧((!decide (List.getD a ((x:Int).toNat) z0=List.getD b ((x:Int).toNat) z0))=true→false=S.mi a b)∧((!decide (List.getD a ((x:Int).toNat) z0=List.getD b ((x:Int).toNat) z0))=false→(aT ((x:Int)+z1))∧∃(ag:Nat),(x:Int)+z1=(ag:Int)∧S.p7 a b ag∧S.ai (S.len a) ag<S.ai (S.len a) x))∧(decide ((x:Int)<(aq a))=false→true=S.mi a b))
def EI(d:List (List UInt8×List Int))(x:Nat):=List.getD d ((x:Int).toNat) ([],[])
def q38(x:Nat)(d:List (List UInt8×List Int)):=bif decide (z0<(x:Int)) then Op.bytesLess ((EI d x).1) ((List.getD d (Int.toNat ((x:Int)-z1)) ([],[])).1) || decide ((EI d x).1=(List.getD d (Int.toNat ((x:Int)-z1)) ([],[])).1) else false
def q39(d:List (List UInt8×List Int))(x:Nat):=bif decide ((↑(List.length ((EI d x).2)):Int)=z0) then true else bif !S.fx ((EI d x).2) then true else !S.isTerm ((EI d x).1)
def W0(d:List (List UInt8×List Int)):Prop :=
 (∃(x:Nat),z0=(x:Int)∧S.A6 d x)∧∀(x:Nat),S.A6 d x→(decide ((x:Int)<(aq d))=true→(z0≤(x:Int)∧(x:Int)<(aq d))∧((decide (z0<(x:Int))=true→(aT ((x:Int)-z1))∧z0≤(x:Int)-z1∧(x:Int)-z1<(aq d))∧(decide (z0<(x:Int))=false→True))∧((q38 x d)=true→false=S.dF d)∧((q38 x d)=false→((decide ((↑(List.length ((EI d x).2)):Int)=z0)=true→True)∧(decide ((↑(List.length ((EI d x).2)):Int)=z0)=false→True∧((!S.fx ((EI d x).2))=true→True)∧((!S.fx ((EI d x).2))=false→S.small ((EI d x).1))))∧((q39 d x)=true→false=S.dF d)∧((q39 d x)=false→(aT ((x:Int)+z1))∧∃(ag:Nat),(x:Int)+z1=(ag:Int)∧S.A6 d ag∧S.ai (S.len d) ag<S.ai (S.len d) x)))∧(decide ((x:Int)<(aq d))=false→true=S.dF d)
def q40(a:List (List UInt8×List Int))(x:Nat)(b:List (List UInt8×List Int)):=bif !decide ((List.getD a ((x:Int).toNat) ([],[])).1=(List.getD b ((x:Int).toNat) ([],[])).1) then true else !S.mi ((List.getD a ((x:Int).toNat) ([],[])).2) ((List.getD b ((x:Int).toNat) ([],[])).2)
def W2(a:List (List UInt8×List Int))(b:List (List UInt8×List Int)):Prop :=
 ((!decide ((aq a)=(aq b)))=true→false=S.fi a b)∧((!decide ((aq a)=(aq b)))=false→(∃(x:Nat),z0=(x:Int)∧S.iL a b x)∧∀(x:Nat),S.iL a b x→(decide ((x:Int)<(aq a))=true→(z0≤(x:Int)∧(x:Int)<(aq a))∧(z0≤(x:Int)∧(x:Int)<(aq b))∧(((!decide ((List.getD a ((x:Int).toNat) ([],[])).1=(List.getD b ((x:Int).toNat) ([],[])).1))=true→True)∧((!decide ((List.getD a ((x:Int).toNat) ([],[])).1=(List.getD b ((x:Int).toNat) ([],[])).1))=false→(z0≤(x:Int)∧(x:Int)<(aq a))∧(z0≤(x:Int)∧(x:Int)<(aq b))∧True))∧((q40 a x b)=true→false=S.fi a b)∧((q40 a x b)=false→(aT ((x:Int)+z1))∧∃(ag:Nat),(x:Int)+z1=(ag:Int)∧S.iL a b ag∧S.ai (S.len a) ag<S.ai (S.len a) x))∧(decide ((x:Int)<(aq a))=false→true=S.fi a b))
def W3(a:List (List UInt8))(b:List (List UInt8)):Prop :=
 ((!decide ((aq a)=(aq b)))=true→false=S.kR a b)∧((!decide ((aq a)=(aq b)))=false→(∃(x:Nat),z0=(x:Int)∧S.nj a b x)∧∀(x:Nat),S.nj a b x→(decide ((x:Int)<(aq a))=true→(z0≤(x:Int)∧(x:Int)<(aq a))∧(z0≤(x:Int)∧(x:Int)<(aq b))∧((!decide (List.getD a ((x:Int).toNat) []=List.getD b ((x:Int).toNat) []))=true→false=S.kR a b)∧((!decide (List.getD a ((x:Int).toNat) []=List.getD b ((x:Int).toNat) []))=false→(aT ((x:Int)+z1))∧∃(ag:Nat),(x:Int)+z1=(ag:Int)∧S.nj a b ag∧S.ai (S.len a) ag<S.ai (S.len a) x))∧(decide ((x:Int)<(aq a))=false→true=S.kR a b))
def W4(s1:Int)(s2:Int):Prop :=
 (bif decide (z0≤s1) then bif decide (s1<s2) then decide (s2≤(1000:Int)) else false else false)=S.iI s1 s2
def q41(s3:List (List UInt8×List Int))(x:Nat)(s1 s2:Int):= !decide ((↑(List.length (S.DX ((List.getD s3 ((x:Int).toNat) ([],[])).2) s1 s2)):Int)=(↑(List.length ((List.getD s3 ((x:Int).toNat) ([],[])).2)):Int))
def W5(s1:Int)(s2:Int)(s3:List (List UInt8×List Int)):Prop :=
 True∧(((!S.iI s1 s2)=true→True)∧((!S.iI s1 s2)=false→S.js s3))∧((bif !S.iI s1 s2 then true else !S.dF s3)=true→false=S.gP s1 s2 s3)∧((bif !S.iI s1 s2 then true else !S.dF s3)=false→(∃(x:Nat),z0=(x:Int)∧S.p9 s1 s2 s3 x)∧∀(x:Nat),S.p9 s1 s2 s3 x→(decide ((x:Int)<(aq s3))=true→(z0≤(x:Int)∧(x:Int)<(aq s3))∧True∧((q41 s3 x s1 s2)=true→false=S.gP s1 s2 s3)∧((q41 s3 x s1 s2)=false→(aT ((x:Int)+z1))∧∃(ag:Nat),(x:Int)+z1=(ag:Int)∧S.p9 s1 s2 s3 ag∧S.ai (S.len s3) ag<S.ai (S.len s3) x))∧(decide ((x:Int)<(aq s3))=false→true=S.gP s1 s2 s3))
def W6(docs:List (List UInt8))(s1:Int)(s2:Int):Prop :=
 True∧((!decide ((S.gd docs s1 s2).2=z0))=true→z0=((S.cu docs s1 s2).1).1∧z0=(((S.cu docs s1 s2).1).2).1∧ []=(((S.cu docs s1 s2).1).2).2∧(S.gd docs s1 s2).2=(S.cu docs s1 s2).2)∧((!decide ((S.gd docs s1 s2).2=z0))=false→(decide (s1=s2)=true→z0=((S.cu docs s1 s2).1).1∧z0=(((S.cu docs s1 s2).1).2).1∧ []=(((S.cu docs s1 s2).1).2).2∧z1=(S.cu docs s1 s2).2)∧(decide (s1=s2)=false→s1=((S.cu docs s1 s2).1).1∧s2=(((S.cu docs s1 s2).1).2).1∧(S.gd docs s1 s2).1=(((S.cu docs s1 s2).1).2).2∧z0=(S.cu docs s1 s2).2))
def W7(a1:Int)(a2:Int)(a3:List (List UInt8×List Int))(b1:Int)(b2:Int)(b3:List (List UInt8×List Int)):Prop :=
 ((Bool.rec false (decide (a2=b2)) (decide (a1=b1))=true→True)∧(Bool.rec false (decide (a2=b2)) (decide (a1=b1))=false→True))∧(bif Bool.rec false (decide (a2=b2)) (decide (a1=b1)) then S.fi a3 b3 else false)=S.sv a1 a2 a3 b1 b2 b3
def W8(s1:Int)(s2:Int)(s3:List (List UInt8×List Int)):Prop :=
 s1=s1∧s2=s2∧s3=s3
def W9(l:List (Int×Int×List (List UInt8×List Int)))(aW:Nat×Nat):=List.getD (((List.getD l ((aW.1:Int).toNat) (z0,z0,[])).2).2) (Int.toNat (List.getD (S.aY l aW.2 aW.1) ((aW.1:Int).toNat) z0)) ([],[])
def EJ(l:List (Int×Int×List (List UInt8×List Int)))(ag:Nat×Nat):=Int.toNat (S.cJ l (S.aA l ag.2) ag.1)
def Oq(l:List (Int×Int×List (List UInt8×List Int)))(aW:Nat×Nat):=List.length (((List.getD l ((aW.1:Int).toNat) (z0,z0,[])).2).2)
def TH(aW:Nat×Nat)(l:List (Int×Int×List (List UInt8×List Int))):=z0≤(aW.1:Int)∧(aW.1:Int)<(aq (S.aY l aW.2 aW.1))
def uP(l:List (Int×Int×List (List UInt8×List Int)))(aW:Nat×Nat):=S.aY l aW.2 aW.1
def BM(aW:Nat×Nat):=(aW.1:Int).toNat
def FY(ag:Nat×Nat):=(ag.1:Int).toNat
def Xa(l:List (Int×Int×List (List UInt8×List Int))):Prop :=
 (z0≤(aq l)∧(aq l)≤(aq l)∧(aq l)≤BL/(↑(8:Nat):Int))∧(∃(x:Nat),([]=S.cv l x∧List.replicate (Int.toNat (aq l)) z0=S.aA l x)∧x≤S.uL l)∧∀(x:Nat),x≤S.uL l→(∃(ag:Nat×Nat),(z0=(ag.1:Int)∧(-1:Int)=S.cJ l (S.aA l ag.2) ag.1)∧(ag.1≤l.length∧ag.2≤S.uL l)∧S.aA l x=S.aA l ag.2)∧∀(ag:Nat×Nat),(ag.1≤l.length∧ag.2≤S.uL l)∧S.aA l x=S.aA l ag.2→(decide ((ag.1:Int)<(aq l))=true→(z0≤(ag.1:Int)∧(ag.1:Int)<(aq l))∧(z0≤(ag.1:Int)∧(ag.1:Int)<(aq (S.aA l x)))∧(ag.1:Int).toNat<List.length (S.aA l x)∧(decide (List.getD (S.aA l x) (FY ag) z0=(↑(List.length (((List.getD l (FY ag) (z0,z0,[])).2).2)):Int))=true→(aT ((ag.1:Int)+z1))∧∃(aW:Nat×Nat),((ag.1:Int)+z1=(aW.1:Int)∧S.cJ l (S.aA l ag.2) ag.1=S.cJ l (S.aA l aW.2) aW.1)∧((aW.1≤l.length∧aW.2≤S.uL l)∧S.aA l x=S.aA l aW.2)∧S.ai (S.len l) aW.1<S.ai (S.len l) ag.1)∧(decide (List.getD (S.aA l x) (FY ag) z0=(↑(List.length (((List.getD l (FY ag) (z0,z0,[])).2).2)):Int))=false→((decide (S.cJ l (S.aA l ag.2) ag.1<z0)=true→True)∧(decide (S.cJ l (S.aA l ag.2) ag.1<z0)=false→(z0≤(ag.1:Int)∧(ag.1:Int)<(aq (S.aA l x)))∧(ag.1:Int).toNat<List.length (S.aA l x)∧(z0≤List.getD (S.aA l x) (FY ag) z0∧List.getD (S.aA l x) (FY ag) z0<(↑(List.length (((List.getD l (FY ag) (z0,z0,[])).2).2)):Int))∧(z0≤S.cJ l (S.aA l ag.2) ag.1∧S.cJ l (S.aA l ag.2) ag.1<(aq l))∧(z0≤S.cJ l (S.aA l ag.2) ag.1∧S.cJ l (S.aA l ag.2) ag.1<(aq (S.aA l x)))∧Int.toNat (S.cJ l (S.aA l ag.2) ag.1)<List.length (S.aA l x)∧z0≤List.getD (S.aA l x) (EJ l ag) z0∧List.getD (S.aA l x) (EJ l ag) z0<(↑(List.length (((List.getD l (EJ l ag) (z0,z0,[])).2).2)):Int)))∧(aT ((ag.1:Int)+z1))∧∃(aW:Nat×Nat),((ag.1:Int)+z1=(aW.1:Int)∧(bif bif decide (S.cJ l (S.aA l ag.2) ag.1<z0) then true else Op.bytesLess ((List.getD (((List.getD l (FY ag) (z0,z0,[])).2).2) (Int.toNat (List.getD (S.aA l x) (FY ag) z0)) ([],[])).1) ((List.getD (((List.getD l (EJ l ag) (z0,z0,[])).2).2) (Int.toNat (List.getD (S.aA l x) (EJ l ag) z0)) ([],[])).1) then(ag.1:Int) else S.cJ l (S.aA l ag.2) ag.1)=S.cJ l (S.aA l aW.2) aW.1)∧((aW.1≤l.length∧aW.2≤S.uL l)∧S.aA l x=S.aA l aW.2)∧S.ai (S.len l) aW.1<S.ai (S.len l) ag.1))∧(decide ((ag.1:Int)<(aq l))=false→(decide (S.cJ l (S.aA l ag.2) ag.1<z0)=true→S.cv l x=S.mL l)∧(decide (S.cJ l (S.aA l ag.2) ag.1<z0)=false→(z0≤S.cJ l (S.aA l ag.2) ag.1∧S.cJ l (S.aA l ag.2) ag.1<(aq l))∧(z0≤S.cJ l (S.aA l ag.2) ag.1∧S.cJ l (S.aA l ag.2) ag.1<(aq (S.aA l x)))∧Int.toNat (S.cJ l (S.aA l ag.2) ag.1)<List.length (S.aA l x)∧(z0≤List.getD (S.aA l x) (EJ l ag) z0∧List.getD (S.aA l x) (EJ l ag) z0<(↑(List.length (((List.getD l (EJ l ag) (z0,z0,[])).2).2)):Int))∧(∃(aW:Nat×Nat),(z0=(aW.1:Int)∧S.aA l x=S.aY l aW.2 aW.1∧(List.getD (((List.getD l (EJ l ag) (z0,z0,[])).2).2) (Int.toNat (List.getD (S.aA l x) (EJ l ag) z0)) ([],[])).1=S.lb l aW.2∧ []=S.cO l (S.lb l aW.2) aW.1)∧(aW.1≤l.length∧aW.2<S.uL l)∧S.cv l x=S.cv l aW.2)∧∀(aW:Nat×Nat),(aW.1≤l.length∧aW.2<S.uL l)∧S.cv l x=S.cv l aW.2→(decide ((aW.1:Int)<(aq l))=true→(z0≤(aW.1:Int)∧(aW.1:Int)<(aq l))∧(TH aW l)∧(aW.1:Int).toNat<List.length (uP l aW)∧((decide (List.getD (uP l aW) (BM aW) z0<(↑(Oq l aW):Int))=true→(TH aW l)∧(aW.1:Int).toNat<List.length (uP l aW)∧z0≤List.getD (uP l aW) (BM aW) z0∧List.getD (uP l aW) (BM aW) z0<(↑(Oq l aW):Int))∧(decide (List.getD (uP l aW) (BM aW) z0<(↑(Oq l aW):Int))=false→True))∧((bif decide (List.getD (uP l aW) (BM aW) z0<(↑(Oq l aW):Int)) then decide ((W9 l aW).1=S.lb l aW.2) else false)=true→(TH aW l)∧(aW.1:Int).toNat<List.length (uP l aW)∧(z0≤List.getD (uP l aW) (BM aW) z0∧List.getD (uP l aW) (BM aW) z0<(↑(Oq l aW):Int))∧List.length (S.cO l (S.lb l aW.2) aW.1)+List.length ((W9 l aW).2)≤(17592186044416:Nat)∧(TH aW l)∧(aW.1:Int).toNat<List.length (uP l aW)∧(aT (List.getD (uP l aW) (BM aW) z0+z1))∧(TH aW l)∧(aW.1:Int).toNat<List.length (uP l aW)∧(aT ((aW.1:Int)+z1))∧∃(nz:Nat×Nat),((aW.1:Int)+z1=(nz.1:Int)∧List.set (uP l aW) (BM aW) (List.getD (uP l aW) (BM aW) z0+z1)=S.aY l nz.2 nz.1∧S.lb l aW.2=S.lb l nz.2∧S.cO l (S.lb l aW.2) aW.1++(W9 l aW).2=S.cO l (S.lb l nz.2) nz.1)∧((nz.1≤l.length∧nz.2<S.uL l)∧S.cv l x=S.cv l nz.2)∧S.ai (S.len l) nz.1<S.ai (S.len l) aW.1)∧((bif decide (List.getD (uP l aW) (BM aW) z0<(↑(Oq l aW):Int)) then decide ((W9 l aW).1=S.lb l aW.2) else false)=false→(aT ((aW.1:Int)+z1))∧∃(nz:Nat×Nat),((aW.1:Int)+z1=(nz.1:Int)∧S.aY l aW.2 aW.1=S.aY l nz.2 nz.1∧S.lb l aW.2=S.lb l nz.2∧S.cO l (S.lb l aW.2) aW.1=S.cO l (S.lb l nz.2) nz.1)∧((nz.1≤l.length∧nz.2<S.uL l)∧S.cv l x=S.cv l nz.2)∧S.ai (S.len l) nz.1<S.ai (S.len l) aW.1))∧(decide ((aW.1:Int)<(aq l))=false→List.length (S.cv l x)+List.length [(S.lb l aW.2,S.cO l (S.lb l aW.2) aW.1)]≤(3518437208883:Nat)∧∃(nz:Nat),(S.cv l x++ [(S.lb l aW.2,S.cO l (S.lb l aW.2) aW.1)]=S.cv l nz∧S.aY l aW.2 aW.1=S.aA l nz)∧nz≤S.uL l∧S.ai (S.uL l) nz<S.ai (S.uL l) x)))
def LR(l:List (Int×Int×List (List UInt8×List Int)))(x:Nat):=List.getD l ((x:Int).toNat) (z0,z0,[])
def q50(l:List (Int×Int×List (List UInt8×List Int)))(x:Nat):= !decide ((List.getD l (Int.toNat ((x:Int)+z1)) (z0,z0,[])).1=((List.getD l (Int.toNat ((x:Int)+z1-z1)) (z0,z0,[])).2).1)
def Xb(l:List (Int×Int×List (List UInt8×List Int))):Prop :=
 (decide ((aq l)=z0)=true→z0=((S.dm l).1).1∧z0=(((S.dm l).1).2).1∧ []=(((S.dm l).1).2).2∧z1=(S.dm l).2)∧(decide ((aq l)=z0)=false→(∃(x:Nat),z0=(x:Int)∧S.oa l x)∧∀(x:Nat),S.oa l x→(decide ((x:Int)<(aq l))=true→(z0≤(x:Int)∧(x:Int)<(aq l))∧S.js (((LR l x).2).2)∧((!S.gP ((LR l x).1) (((LR l x).2).1) (((LR l x).2).2))=true→z0=((S.dm l).1).1∧z0=(((S.dm l).1).2).1∧ []=(((S.dm l).1).2).2∧z1=(S.dm l).2)∧((!S.gP ((LR l x).1) (((LR l x).2).1) (((LR l x).2).2))=false→(aT ((x:Int)+z1))∧∃(ag:Nat),(x:Int)+z1=(ag:Int)∧S.oa l ag∧S.ai (S.len l) ag<S.ai (S.len l) x))∧(decide ((x:Int)<(aq l))=false→(∃(x:Nat),z1=(x:Int)+z1∧S.qG l x)∧∀(x:Nat),S.qG l x→(decide ((x:Int)+z1<(aq l))=true→(z0≤(x:Int)+z1∧(x:Int)+z1<(aq l))∧(aT ((x:Int)+z1-z1))∧(z0≤(x:Int)+z1-z1∧(x:Int)+z1-z1<(aq l))∧((q50 l x)=true→z0=((S.dm l).1).1∧z0=(((S.dm l).1).2).1∧ []=(((S.dm l).1).2).2∧(7:Int)=(S.dm l).2)∧((q50 l x)=false→(aT ((x:Int)+z1+z1))∧∃(ag:Nat),(x:Int)+z1+z1=(ag:Int)+z1∧S.qG l ag∧S.ai (S.len l) ag<S.ai (S.len l) x))∧(decide ((x:Int)+z1<(aq l))=false→(z0≤z0∧z0<(aq l))∧(aT ((aq l)-z1))∧(z0≤(aq l)-z1∧(aq l)-z1<(aq l))∧S.nm l∧(List.getD l (z0.toNat) (z0,z0,[])).1=((S.dm l).1).1∧((List.getD l (Int.toNat ((aq l)-z1)) (z0,z0,[])).2).1=(((S.dm l).1).2).1∧S.mL l=(((S.dm l).1).2).2∧z0=(S.dm l).2)))
def q51(s1 s2:Int):=bif decide (s1<z0) then true else bif decide (s2<z0) then true else decide (s2≤s1)
def Xc(s1:Int)(s2:Int):Prop :=
 ((q51 s1 s2)=true→(-1:Int)=S.j3 s1 s2)∧((q51 s1 s2)=false→(aT (s2-s1))∧(∃(x:Nat),(s2-s1=(x:Int)∧z0=S.lg (s2-s1)-S.lg (x:Int))∧S.lG s1 s2 x)∧∀(x:Nat),S.lG s1 s2 x→(decide (z1<(x:Int))=true→(aT (S.lg (s2-s1)-S.lg (x:Int)+z1))∧z0≤(x:Int)∧z0<(2:Int)∧∃(ag:Nat),((x:Int)/(2:Int)=(ag:Int)∧S.lg (s2-s1)-S.lg (x:Int)+z1=S.lg (s2-s1)-S.lg (ag:Int))∧S.lG s1 s2 ag∧ag<x)∧(decide (z1<(x:Int))=false→S.lg (s2-s1)-S.lg (x:Int)=S.j3 s1 s2))
def Xd(l:List (Int×Int))(x:Nat):=List.getD l (Int.toNat ((↑(S.len l):Int)-(2:Int)-(x:Int)+z1)) (z0,z0)
def Xe(l:List (Int×Int))(x:Nat):=List.getD l (Int.toNat ((↑(S.len l):Int)-(2:Int)-(x:Int))) (z0,z0)
def Xf(l:List (Int×Int)):Prop :=
 (aT ((aq l)-(2:Int)))∧(∃(x:Nat),(aq l)-(2:Int)=(↑(S.len l):Int)-(2:Int)-(x:Int)∧S.kC l x)∧∀(x:Nat),S.kC l x→(decide (z0≤(↑(S.len l):Int)-(2:Int)-(x:Int))=true→(z0≤(↑(S.len l):Int)-(2:Int)-(x:Int)∧(↑(S.len l):Int)-(2:Int)-(x:Int)<(aq l))∧True∧(aT ((↑(S.len l):Int)-(2:Int)-(x:Int)+z1))∧(z0≤(↑(S.len l):Int)-(2:Int)-(x:Int)+z1∧(↑(S.len l):Int)-(2:Int)-(x:Int)+z1<(aq l))∧True∧(decide (S.j3 ((Xe l x).1) ((Xe l x).2)≤S.j3 ((Xd l x).1) ((Xd l x).2))=true→(↑(S.len l):Int)-(2:Int)-(x:Int)=(S.dC l).1∧true=(S.dC l).2)∧(decide (S.j3 ((Xe l x).1) ((Xe l x).2)≤S.j3 ((Xd l x).1) ((Xd l x).2))=false→(aT ((↑(S.len l):Int)-(2:Int)-(x:Int)-z1))∧∃(ag:Nat),(↑(S.len l):Int)-(2:Int)-(x:Int)-z1=(↑(S.len l):Int)-(2:Int)-(ag:Int)∧S.kC l ag∧S.ai (S.len l) ag<S.ai (S.len l) x))∧(decide (z0≤(↑(S.len l):Int)-(2:Int)-(x:Int))=false→z0=(S.dC l).1∧false=(S.dC l).2)
def Xg(l:List (Int×Int×List (List UInt8×List Int))):Prop :=
 (∃(x:Nat),(z0=(x:Int)∧ []=S.gx l x)∧x≤l.length)∧∀(x:Nat),x≤l.length→(decide ((x:Int)<(aq l))=true→(z0≤(x:Int)∧(x:Int)<(aq l))∧List.length (S.gx l x)+List.length [((List.getD l ((x:Int).toNat) (z0,z0,[])).1,((List.getD l ((x:Int).toNat) (z0,z0,[])).2).1)]≤(8796093022208:Nat)∧(aT ((x:Int)+z1))∧∃(ag:Nat),((x:Int)+z1=(ag:Int)∧S.gx l x++ [((List.getD l ((x:Int).toNat) (z0,z0,[])).1,((List.getD l ((x:Int).toNat) (z0,z0,[])).2).1)]=S.gx l ag)∧ag≤l.length∧S.ai (S.len l) ag<S.ai (S.len l) x)∧(decide ((x:Int)<(aq l))=false→S.gx l x=S.cr l)
def Xh(l:List UInt8):Prop :=
 (l= []→ []=l)∧List.length (Vg.iU UInt8)+l.length≤lR∧ []++l=l
def Xi(l:List (List UInt8×List Int)):Prop :=
 (l= []→ []=l)∧List.length (Vg.iU (List UInt8×List Int))+l.length≤(3518437208883:Nat)∧ []++l=l
def Xj(a:List Int)(b:List Int):Prop :=
 ((!decide ((aq a)=(aq b)))=true→false=S.zW a b)∧((!decide ((aq a)=(aq b)))=false→(∃(x:Nat),z0=(x:Int)∧S.yP a b x)∧∀(x:Nat),S.yP a b x→(decide ((x:Int)<(aq a))=true→(z0≤(x:Int)∧(x:Int)<(aq a))∧(z0≤(x:Int)∧(x:Int)<(aq b))∧((!decide (List.getD a ((x:Int).toNat) z0=List.getD b ((x:Int).toNat) z0))=true→false=S.zW a b)∧((!decide (List.getD a ((x:Int).toNat) z0=List.getD b ((x:Int).toNat) z0))=false→(aT ((x:Int)+z1))∧∃(ag:Nat),(x:Int)+z1=(ag:Int)∧S.yP a b ag∧S.ai (S.len a) ag<S.ai (S.len a) x))∧(decide ((x:Int)<(aq a))=false→true=S.zW a b))
def Xk(a1:List UInt8)(a2:List Int)(b1:List UInt8)(b2:List Int):Prop :=
 ((decide (a1=b1)=true→True)∧(decide (a1=b1)=false→True))∧(bif decide (a1=b1) then S.zW a2 b2 else false)=S.uA a1 a2 b1 b2
def q54(a:List (List UInt8×List Int))(x:Nat)(b:List (List UInt8×List Int)):= !S.uA ((List.getD a ((x:Int).toNat) ([],[])).1) ((List.getD a ((x:Int).toNat) ([],[])).2) ((List.getD b ((x:Int).toNat) ([],[])).1) ((List.getD b ((x:Int).toNat) ([],[])).2)
def Xl(a:List (List UInt8×List Int))(b:List (List UInt8×List Int)):Prop :=
 ((!decide ((aq a)=(aq b)))=true→false=S.fi a b)∧((!decide ((aq a)=(aq b)))=false→(∃(x:Nat),z0=(x:Int)∧S.iL a b x)∧∀(x:Nat),S.iL a b x→(decide ((x:Int)<(aq a))=true→(z0≤(x:Int)∧(x:Int)<(aq a))∧(z0≤(x:Int)∧(x:Int)<(aq b))∧True∧((q54 a x b)=true→false=S.fi a b)∧((q54 a x b)=false→(aT ((x:Int)+z1))∧∃(ag:Nat),(x:Int)+z1=(ag:Int)∧S.iL a b ag∧S.ai (S.len a) ag<S.ai (S.len a) x))∧(decide ((x:Int)<(aq a))=false→true=S.fi a b))
def Xm(a:List (List UInt8×List Int))(b:List (List UInt8×List Int)):Prop :=
 True∧S.fi a b=S.fi a b
def Jt(y2:List (Int×Int×List (List UInt8×List Int)))(x:Nat):=List.getD y2 ((x:Int).toNat) (z0,z0,[])
def Ot(y1:List (List UInt8))(y2:List (Int×Int×List (List UInt8×List Int)))(x:Nat):=S.cu y1 ((Jt y2 x).1) (((Jt y2 x).2).1)
def q57(y2:List (Int×Int×List (List UInt8×List Int)))(x:Nat)(y1:List (List UInt8)):=bif !decide ((Jt y2 x).1=S.eP y2 x) then true else bif decide (((Jt y2 x).2).1≤S.eP y2 x) then true else decide ((aq y1)<((Jt y2 x).2).1)
def Xn(y1:List (List UInt8))(y2:List (Int×Int×List (List UInt8×List Int))):Prop :=
 ((bif decide ((1000:Int)<(aq y1)) then true else decide ((64:Int)<(aq y2)))=true→false=S.bc y1 y2)∧((bif decide ((1000:Int)<(aq y1)) then true else decide ((64:Int)<(aq y2)))=false→(∃(x:Nat),z0=(x:Int)∧S.Ef y1 y2 x)∧∀(x:Nat),S.Ef y1 y2 x→(decide ((x:Int)<(aq y1))=true→(z0≤(x:Int)∧(x:Int)<(aq y1))∧(decide ((2000:Int)<(↑(List.length (List.getD y1 ((x:Int).toNat) [])):Int))=true→false=S.bc y1 y2)∧(decide ((2000:Int)<(↑(List.length (List.getD y1 ((x:Int).toNat) [])):Int))=false→(aT ((x:Int)+z1))∧∃(ag:Nat),(x:Int)+z1=(ag:Int)∧S.Ef y1 y2 ag∧S.ai (S.len y1) ag<S.ai (S.len y1) x))∧(decide ((x:Int)<(aq y1))=false→(∃(x:Nat),(z0=(x:Int)∧z0=S.eP y2 x)∧S.uy y1 y2 x)∧∀(x:Nat),S.uy y1 y2 x→(decide ((x:Int)<(aq y2))=true→(z0≤(x:Int)∧(x:Int)<(aq y2))∧((q57 y2 x y1)=true→false=S.bc y1 y2)∧((q57 y2 x y1)=false→True∧(((!decide ((Ot y1 y2 x).2=z0))=true→True)∧((!decide ((Ot y1 y2 x).2=z0))=false→True))∧((bif !decide ((Ot y1 y2 x).2=z0) then true else !S.fi ((((Ot y1 y2 x).1).2).2) (((Jt y2 x).2).2))=true→false=S.bc y1 y2)∧((bif !decide ((Ot y1 y2 x).2=z0) then true else !S.fi ((((Ot y1 y2 x).1).2).2) (((Jt y2 x).2).2))=false→(aT ((x:Int)+z1))∧∃(ag:Nat),((x:Int)+z1=(ag:Int)∧((Jt y2 x).2).1=S.eP y2 ag)∧S.uy y1 y2 ag∧S.ai (S.len y2) ag<S.ai (S.len y2) x)))∧(decide ((x:Int)<(aq y2))=false→true=S.bc y1 y2)))
def Xo(y1:List (List UInt8))(y2:List (Int×Int×List (List UInt8×List Int))):Prop :=
 True∧((!S.bc y1 y2)=true→ []=(S.al y1 y2).1∧ []=(S.al y1 y2).2)∧((!S.bc y1 y2)=false→y1=(S.al y1 y2).1∧y2=(S.al y1 y2).2)
def Xp(y1:List (List UInt8))(y2:List (Int×Int×List (List UInt8×List Int))):Prop :=
 (decide ((aq y2)=z0)=true→z0=S.cm y2)∧(decide ((aq y2)=z0)=false→(aT ((aq y2)-z1))∧(z0≤(aq y2)-z1∧(aq y2)-z1<(aq y2))∧((List.getD y2 (Int.toNat ((aq y2)-z1)) (z0,z0,[])).2).1=S.cm y2)
def FZ(y2:List (Int×Int×List (List UInt8×List Int)))(ag:Nat):=List.getD y2 ((ag:Int).toNat) (z0,z0,[])
def Xq(y1:List (List UInt8))(y2:List (Int×Int×List (List UInt8×List Int))):Prop :=
 (z0≤(aq y1)∧(aq y1)≤(aq y1)∧(aq y1)≤BL/(↑(24:Nat):Int))∧(z0≤(aq y2)∧(aq y2)≤(aq y2)∧(aq y2)≤BL/(↑(40:Nat):Int))∧(∃(x:Nat),(z0=(x:Int)∧List.replicate (Int.toNat (aq y1)) (Vg.iU UInt8)=S.cV (Vg.iU UInt8) y1 x)∧S.nr y1 x)∧∀(x:Nat),S.nr y1 x→(decide ((x:Int)<(aq y1))=true→(z0≤(x:Int)∧(x:Int)<(aq y1))∧S.small (List.getD y1 ((x:Int).toNat) [])∧(z0≤(x:Int)∧(x:Int)<(↑(List.length (S.cV (Vg.iU UInt8) y1 x)):Int))∧(x:Int).toNat<List.length (S.cV (Vg.iU UInt8) y1 x)∧(aT ((x:Int)+z1))∧∃(ag:Nat),((x:Int)+z1=(ag:Int)∧List.set (S.cV (Vg.iU UInt8) y1 x) ((x:Int).toNat) (List.getD y1 ((x:Int).toNat) [])=S.cV (Vg.iU UInt8) y1 ag)∧S.nr y1 ag∧S.ai (S.len y1) ag<S.ai (S.len y1) x)∧(decide ((x:Int)<(aq y1))=false→(∃(x:Nat),(z0=(x:Int)∧List.replicate (Int.toNat (aq y2)) (z0,z0,[])=S.cV (z0,z0,[]) y2 x)∧S.nr y2 x)∧∀(ag:Nat),S.nr y2 ag→(decide ((ag:Int)<(aq y2))=true→(z0≤(ag:Int)∧(ag:Int)<(aq y2))∧S.small (((FZ y2 ag).2).2)∧(z0≤(ag:Int)∧(ag:Int)<(↑(List.length (S.cV (z0,z0,[]) y2 ag)):Int))∧(ag:Int).toNat<List.length (S.cV (z0,z0,[]) y2 ag)∧(∃(x:Nat×Nat×List S.ax),(z0=(x.1:Int)∧List.set (S.cV (z0,z0,[]) y2 ag) ((ag:Int).toNat) ((FZ y2 ag).1,((FZ y2 ag).2).1,[])=x.2.2∧(ag:Int).toNat=x.2.1∧((FZ y2 ag).2).2=((S.ar y2 x.2.1).2).2)∧S.qg y2 x.2.2 x.2.1 x.1∧(ag:Int)=(x.2.1:Int))∧∀(x:Nat×Nat×List S.ax),S.qg y2 x.2.2 x.2.1 x.1∧(ag:Int)=(x.2.1:Int)→(decide ((x.1:Int)<(↑(List.length (((FZ y2 ag).2).2)):Int))=true→(z0≤(x.1:Int)∧(x.1:Int)<(↑(List.length (((FZ y2 ag).2).2)):Int))∧(z0≤(ag:Int)∧(ag:Int)<(↑(List.length x.2.2):Int))∧(ag:Int).toNat<List.length x.2.2∧(ag:Int).toNat=x.2.1∧S.small ((List.getD (((FZ y2 ag).2).2) ((x.1:Int).toNat) ([],[])).2)∧(z0≤(x.1:Int)∧(x.1:Int)<(↑(List.length (((S.ar y2 x.2.1).2).2)):Int))∧(x.1:Int).toNat<List.length (((S.ar y2 x.2.1).2).2)∧(aT ((x.1:Int)+z1))∧∃(aW:Nat×Nat×List S.ax),((x.1:Int)+z1=(aW.1:Int)∧x.2.2=aW.2.2∧x.2.1=aW.2.1∧List.set (((S.ar y2 x.2.1).2).2) ((x.1:Int).toNat) ((List.getD (((S.ar y2 x.2.1).2).2) ((x.1:Int).toNat) ([],[])).1,(List.getD (((FZ y2 ag).2).2) ((x.1:Int).toNat) ([],[])).2)=((S.ar y2 aW.2.1).2).2)∧(S.qg y2 aW.2.2 aW.2.1 aW.1∧(ag:Int)=(aW.2.1:Int))∧S.ai (S.nq y2 aW.2.1) aW.1<S.ai (S.nq y2 x.2.1) x.1)∧(decide ((x.1:Int)<(↑(List.length (((FZ y2 ag).2).2)):Int))=false→x.2.1<List.length x.2.2∧(aT ((ag:Int)+z1))∧∃(aW:Nat),((ag:Int)+z1=(aW:Int)∧List.set x.2.2 x.2.1 ((List.getD x.2.2 x.2.1 (z0,z0,[])).1,((List.getD x.2.2 x.2.1 (z0,z0,[])).2).1,((S.ar y2 x.2.1).2).2)=S.cV (z0,z0,[]) y2 aW)∧S.nr y2 aW∧S.ai (S.len y2) aW<S.ai (S.len y2) ag))∧(decide ((ag:Int)<(aq y2))=false→S.cV (Vg.iU UInt8) y1 x=y1∧S.cV (z0,z0,[]) y2 ag=y2))
def Xr(l:List (Int×Int×List (List UInt8×List Int)))(i:Int)(m:Int)(s1:Int)(s2:Int)(s3:List (List UInt8×List Int)):Prop :=
 (z0≤i∧i=i∧i≤(aq l))∧(0:Nat)<List.length [(s1,s2,s3)]∧List.length (List.take (Int.toNat i) l)+List.length [(s1,s2,s3)]≤(3518437208883:Nat)∧(aT (i+m))∧(z0≤i+m∧i+m≤(aq l))∧List.length (List.take (Int.toNat i) l++ [(s1,s2,s3)])+List.length (List.drop (Int.toNat (i+m)) l)≤(3518437208883:Nat)∧List.take (Int.toNat i) l++ [(s1,s2,s3)]++List.drop (Int.toNat (i+m)) l=S.pq l (Int.toNat i) (Int.toNat m) (s1,s2,s3)
def Xs(y1:List (List UInt8))(y2:List (Int×Int×List (List UInt8×List Int)))(d:List UInt8):Prop :=
 True∧(decide ((2000:Int)<(aq d))=true→(S.al y1 y2).1=((S.bt y1 y2 d).1).1∧(S.al y1 y2).2=((S.bt y1 y2 d).1).2∧z1=(S.bt y1 y2 d).2)∧(decide ((2000:Int)<(aq d))=false→(decide ((1000:Int)≤(↑(List.length ((S.al y1 y2).1)):Int))=true→(S.al y1 y2).1=((S.bt y1 y2 d).1).1∧(S.al y1 y2).2=((S.bt y1 y2 d).1).2∧(3:Int)=(S.bt y1 y2 d).2)∧(decide ((1000:Int)≤(↑(List.length ((S.al y1 y2).1)):Int))=false→S.mM ((S.al y1 y2).1) ((S.al y1 y2).2)∧S.small d∧List.length ((S.al y1 y2).1)+List.length [d]≤(5864062014805:Nat)∧(S.al y1 y2).1++ [d]=((S.bt y1 y2 d).1).1∧(S.al y1 y2).2=((S.bt y1 y2 d).1).2∧z0=(S.bt y1 y2 d).2))
def F0(y1:List (List UInt8))(y2:List (Int×Int×List (List UInt8×List Int))):=S.cu ((S.al y1 y2).1) (S.cm ((S.al y1 y2).2)) (↑(List.length ((S.al y1 y2).1)):Int)
def Xt(y1:List (List UInt8))(y2:List (Int×Int×List (List UInt8×List Int))):Prop :=
 True∧True∧(decide (S.cm ((S.al y1 y2).2)=(↑(List.length ((S.al y1 y2).1)):Int))=true→(S.al y1 y2).1=((S.ba y1 y2).1).1∧(S.al y1 y2).2=((S.ba y1 y2).1).2∧(5:Int)=(S.ba y1 y2).2)∧(decide (S.cm ((S.al y1 y2).2)=(↑(List.length ((S.al y1 y2).1)):Int))=false→(decide ((64:Int)≤(↑(List.length ((S.al y1 y2).2)):Int))=true→(S.al y1 y2).1=((S.ba y1 y2).1).1∧(S.al y1 y2).2=((S.ba y1 y2).1).2∧(3:Int)=(S.ba y1 y2).2)∧(decide ((64:Int)≤(↑(List.length ((S.al y1 y2).2)):Int))=false→True∧((!decide ((F0 y1 y2).2=z0))=true→(S.al y1 y2).1=((S.ba y1 y2).1).1∧(S.al y1 y2).2=((S.ba y1 y2).1).2∧(F0 y1 y2).2=(S.ba y1 y2).2)∧((!decide ((F0 y1 y2).2=z0))=false→S.mM ((S.al y1 y2).1) ((S.al y1 y2).2)∧List.length ((S.al y1 y2).2)+List.length [(((F0 y1 y2).1).1,(((F0 y1 y2).1).2).1,(((F0 y1 y2).1).2).2)]≤(3518437208883:Nat)∧(S.al y1 y2).1=((S.ba y1 y2).1).1∧(S.al y1 y2).2++ [(((F0 y1 y2).1).1,(((F0 y1 y2).1).2).1,(((F0 y1 y2).1).2).2)]=((S.ba y1 y2).1).2∧z0=(S.ba y1 y2).2)))
def LS(i m:Int)(y1:List (List UInt8))(y2:List (Int×Int×List (List UInt8×List Int))):=List.drop (Int.toNat i) (List.take (Int.toNat (i+m)) ((S.al y1 y2).2))
def q61(m i:Int)(y1:List (List UInt8))(y2:List (Int×Int×List (List UInt8×List Int))):=bif decide (m<(2:Int)) then true else bif decide (i<z0) then true else bif decide ((↑(List.length ((S.al y1 y2).2)):Int)<m) then true else decide ((↑(List.length ((S.al y1 y2).2)):Int)-m<i)
def Xu(y1:List (List UInt8))(y2:List (Int×Int×List (List UInt8×List Int)))(i:Int)(m:Int):Prop :=
 True∧((decide (m<(2:Int))=true→True)∧(decide (m<(2:Int))=false→(decide (i<z0)=true→True)∧(decide (i<z0)=false→(decide ((↑(List.length ((S.al y1 y2).2)):Int)<m)=true→True)∧(decide ((↑(List.length ((S.al y1 y2).2)):Int)<m)=false→aT ((↑(List.length ((S.al y1 y2).2)):Int)-m)))))∧((q61 m i y1 y2)=true→(S.al y1 y2).1=((S.cw y1 y2 i m).1).1∧(S.al y1 y2).2=((S.cw y1 y2 i m).1).2∧z1=(S.cw y1 y2 i m).2)∧((q61 m i y1 y2)=false→(aT (i+m))∧(z0≤i∧i≤i+m∧i+m≤(↑(List.length ((S.al y1 y2).2)):Int))∧S.rp (LS i m y1 y2)∧((!decide ((S.dm (LS i m y1 y2)).2=z0))=true→(S.al y1 y2).1=((S.cw y1 y2 i m).1).1∧(S.al y1 y2).2=((S.cw y1 y2 i m).1).2∧(S.dm (LS i m y1 y2)).2=(S.cw y1 y2 i m).2)∧((!decide ((S.dm (LS i m y1 y2)).2=z0))=false→S.mM ((S.al y1 y2).1) ((S.al y1 y2).2)∧S.rv ((S.al y1 y2).2) i m∧(S.al y1 y2).1=((S.cw y1 y2 i m).1).1∧S.pq ((S.al y1 y2).2) (Int.toNat i) (Int.toNat m) (((S.dm (LS i m y1 y2)).1).1,(((S.dm (LS i m y1 y2)).1).2).1,(((S.dm (LS i m y1 y2)).1).2).2)=((S.cw y1 y2 i m).1).2∧z0=(S.cw y1 y2 i m).2))
def Ou(y1:List (List UInt8))(y2:List (Int×Int×List (List UInt8×List Int)))(x:List (Int×Int)):=List.take (Int.toNat ((S.dC (S.cr (S.aB ((S.al y1 y2).1) x))).1+(2:Int))-Int.toNat ((S.dC (S.cr (S.aB ((S.al y1 y2).1) x))).1)) (List.drop (Int.toNat ((S.dC (S.cr (S.aB ((S.al y1 y2).1) x))).1)) (S.aB ((S.al y1 y2).1) x))
def F1(y1:List (List UInt8))(y2:List (Int×Int×List (List UInt8×List Int)))(x:List (Int×Int)):=S.dC (S.cr (S.aB ((S.al y1 y2).1) x))
def Xv(y1:List (List UInt8))(y2:List (Int×Int×List (List UInt8×List Int))):Prop :=
 True∧S.mM ((S.al y1 y2).1) ((S.al y1 y2).2)∧(∃(x:List (Int×Int)),(S.al y1 y2).2=S.aB ((S.al y1 y2).1) x∧S.mN y1 y2 x)∧∀(x:List (Int×Int)),S.mN y1 y2 x→S.small (S.aB ((S.al y1 y2).1) x)∧True∧((!(F1 y1 y2 x).2)=true→(S.al y1 y2).1=(S.di y1 y2).1∧S.aB ((S.al y1 y2).1) x=(S.di y1 y2).2)∧((!(F1 y1 y2 x).2)=false→(aT ((F1 y1 y2 x).1+(2:Int)))∧(z0≤(F1 y1 y2 x).1∧(F1 y1 y2 x).1≤(F1 y1 y2 x).1+(2:Int)∧(F1 y1 y2 x).1+(2:Int)≤(↑(List.length (S.aB ((S.al y1 y2).1) x)):Int))∧S.rp (Ou y1 y2 x)∧((!decide ((S.dm (Ou y1 y2 x)).2=z0))=true→(S.al y1 y2).1=(S.di y1 y2).1∧(S.al y1 y2).2=(S.di y1 y2).2)∧((!decide ((S.dm (Ou y1 y2 x)).2=z0))=false→S.rv (S.aB ((S.al y1 y2).1) x) ((F1 y1 y2 x).1) (2:Int)∧∃(ag:List (Int×Int)),S.pq (S.aB ((S.al y1 y2).1) x) (Int.toNat ((F1 y1 y2 x).1)) ((2:Int).toNat) (((S.dm (Ou y1 y2 x)).1).1,(((S.dm (Ou y1 y2 x)).1).2).1,(((S.dm (Ou y1 y2 x)).1).2).2)=S.aB ((S.al y1 y2).1) ag∧S.mN y1 y2 ag∧ag.length<x.length))
def q64(a2:List (Int×Int×List (List UInt8×List Int)))(x:Nat)(b2:List (Int×Int×List (List UInt8×List Int))):= !S.sv ((List.getD a2 ((x:Int).toNat) (z0,z0,[])).1) (((List.getD a2 ((x:Int).toNat) (z0,z0,[])).2).1) (((List.getD a2 ((x:Int).toNat) (z0,z0,[])).2).2) ((List.getD b2 ((x:Int).toNat) (z0,z0,[])).1) (((List.getD b2 ((x:Int).toNat) (z0,z0,[])).2).1) (((List.getD b2 ((x:Int).toNat) (z0,z0,[])).2).2)
def PB(a1:List (List UInt8))(a2:List (Int×Int×List (List UInt8×List Int)))(b1:List (List UInt8))(b2:List (Int×Int×List (List UInt8×List Int))):Prop :=
 True∧((bif !S.kR a1 b1 then true else !decide ((aq a2)=(aq b2)))=true→false=S.iQ a1 a2 b1 b2)∧((bif !S.kR a1 b1 then true else !decide ((aq a2)=(aq b2)))=false→(∃(x:Nat),z0=(x:Int)∧S.nu a1 a2 b1 b2 x)∧∀(x:Nat),S.nu a1 a2 b1 b2 x→(decide ((x:Int)<(aq a2))=true→(z0≤(x:Int)∧(x:Int)<(aq a2))∧(z0≤(x:Int)∧(x:Int)<(aq b2))∧True∧((q64 a2 x b2)=true→false=S.iQ a1 a2 b1 b2)∧((q64 a2 x b2)=false→(aT ((x:Int)+z1))∧∃(ag:Nat),(x:Int)+z1=(ag:Int)∧S.nu a1 a2 b1 b2 ag∧S.ai (S.len a2) ag<S.ai (S.len a2) x))∧(decide ((x:Int)<(aq a2))=false→true=S.iQ a1 a2 b1 b2))
def Ov(y2:List (Int×Int×List (List UInt8×List Int)))(x:Nat):=List.getD y2 ((x:Int).toNat) (z0,z0,[])
def PC(y1:List (List UInt8))(y2:List (Int×Int×List (List UInt8×List Int))):Prop :=
 (∃(x:Nat),(z0=(x:Int)∧y1=y1∧ []=List.take x y2)∧S.nr y2 x)∧∀(x:Nat),S.nr y2 x→(decide ((x:Int)<(aq y2))=true→(z0≤(x:Int)∧(x:Int)<(aq y2))∧True∧List.length (List.take x y2)+List.length [((Ov y2 x).1,((Ov y2 x).2).1,((Ov y2 x).2).2)]≤(3518437208883:Nat)∧(aT ((x:Int)+z1))∧∃(ag:Nat),((x:Int)+z1=(ag:Int)∧y1=y1∧List.take x y2++ [((Ov y2 x).1,((Ov y2 x).2).1,((Ov y2 x).2).2)]=List.take ag y2)∧S.nr y2 ag∧S.ai (S.len y2) ag<S.ai (S.len y2) x)∧(decide ((x:Int)<(aq y2))=false→y1=y1∧List.take x y2=y2)
def q66:=List.replicate ((64:Int).toNat) (0:UInt8)
def PD(b:List UInt8):Prop :=
 (z0≤(64:Int)∧(64:Int)≤(64:Int)∧(64:Int)≤BL/(↑(1:Nat):Int))∧List.take q66.length b++List.drop b.length q66=S.copied b
def Š(n:Int):=List.replicate (Int.toNat n) (Vg.iU UInt8)
def Ju(x:Nat):=(x:Int)+z1
def PE(n:Int):Prop :=
 (aT (n*(64:Int)))∧(z0≤n*(64:Int)∧n*(64:Int)≤n*(64:Int)∧n*(64:Int)≤BL/(↑(1:Nat):Int))∧(z0≤n∧n≤n∧n≤BL/(↑(24:Nat):Int))∧(∃(x:Nat),(z0=(x:Int)∧List.length (Š n)=Int.toNat n∧x=(0:Nat))∧S.uE x (Int.toNat n))∧∀(x:Nat),S.uE x (Int.toNat n)→(decide ((x:Int)<(↑(List.length (Š n)):Int))=true→(aT ((x:Int)*(64:Int)))∧(aT (Ju x))∧(aT ((Ju x)*(64:Int)))∧(z0≤(x:Int)*(64:Int)∧(x:Int)*(64:Int)≤(Ju x)*(64:Int)∧(Ju x)*(64:Int)≤(Ju x)*(64:Int)∧(Ju x)*(64:Int)≤(↑(List.length (List.replicate (Int.toNat (n*(64:Int))) (0:UInt8))):Int))∧(z0≤(x:Int)∧(x:Int)<(↑(Int.toNat n):Int))∧((x:Int).toNat=x∧x<Int.toNat n∧Int.toNat ((x:Int)*(64:Int))=x*(64:Nat)∧Int.toNat ((Ju x)*(64:Int))-Int.toNat ((x:Int)*(64:Int))=(64:Nat))∧(aT (Ju x))∧∃(ag:Nat),((x:Int)+z1=(ag:Int)∧Int.toNat n=Int.toNat n∧x+(1:Nat)=ag∧(64:Nat)=(64:Nat))∧S.uE ag (Int.toNat n)∧S.ai (Int.toNat n) ag<S.ai (Int.toNat n) x)∧(decide ((x:Int)<(↑(List.length (Š n)):Int))=false→Int.toNat n=Int.toNat n∧x=Int.toNat n∧(64:Nat)=(64:Nat)∧List.replicate (Int.toNat (n*(64:Int))) (0:UInt8)=S.pt n)
def PF(d1:List (List UInt8))(d2:List (Int×List UInt8)):Prop :=
 S.ry (aq d1)∧(∃(x:Nat),(z0=(x:Int)∧S.pt (aq d1)=S.fN d1 x)∧S.fa d1 x)∧∀(x:Nat),S.fa d1 x→(decide ((x:Int)<(aq d1))=true→(z0≤(x:Int)∧(x:Int)<(aq d1))∧(z0≤(x:Int)∧(x:Int)<(↑(Int.toNat (aq d1)):Int))∧(x:Int).toNat<Int.toNat (aq d1)∧(x:Int).toNat*(64:Nat)+(64:Nat)≤List.length (S.fN d1 x)∧(aT ((x:Int)+z1))∧∃(ag:Nat),((x:Int)+z1=(ag:Int)∧List.take ((x:Int).toNat*(64:Nat)) (S.fN d1 x)++List.take (64:Nat) (List.getD d1 ((x:Int).toNat) [])++List.drop ((x:Int).toNat*(64:Nat)+Min.min (List.length (List.getD d1 ((x:Int).toNat) [])) (64:Nat)) (S.fN d1 x)=S.fN d1 ag)∧S.fa d1 ag∧S.ai (S.len d1) ag<S.ai (S.len d1) x)∧(decide ((x:Int)<(aq d1))=false→Int.toNat (aq d1)=S.len d1∧Int.toNat (aq d1)=S.len d1∧(64:Nat)=(64:Nat)∧S.fN d1 x=S.flat d1)
def q69(d2:List (Int×List UInt8))(x:Nat)(d1:List (List UInt8)):=bif decide ((List.getD d2 ((x:Int).toNat) (z0,[])).1<z0) then true else bif decide ((aq d1)≤(List.getD d2 ((x:Int).toNat) (z0,[])).1) then true else !decide ((↑(List.length ((List.getD d2 ((x:Int).toNat) (z0,[])).2)):Int)=(64:Int))
def PG(d1:List (List UInt8))(d2:List (Int×List UInt8)):Prop :=
 ((bif decide ((4096:Int)<(aq d1)) then true else decide ((1000:Int)<(aq d2)))=true→false=S.aI d1 d2)∧((bif decide ((4096:Int)<(aq d1)) then true else decide ((1000:Int)<(aq d2)))=false→(∃(x:Nat),z0=(x:Int)∧S.LB d1 x)∧∀(x:Nat),S.LB d1 x→(decide ((x:Int)<(aq d1))=true→(z0≤(x:Int)∧(x:Int)<(aq d1))∧((!decide ((↑(List.length (List.getD d1 ((x:Int).toNat) [])):Int)=(64:Int)))=true→false=S.aI d1 d2)∧((!decide ((↑(List.length (List.getD d1 ((x:Int).toNat) [])):Int)=(64:Int)))=false→(aT ((x:Int)+z1))∧∃(ag:Nat),(x:Int)+z1=(ag:Int)∧S.LB d1 ag∧S.ai (S.len d1) ag<S.ai (S.len d1) x))∧(decide ((x:Int)<(aq d1))=false→(∃(x:Nat),z0=(x:Int)∧S.LC d1 d2 x)∧∀(x:Nat),S.LC d1 d2 x→(decide ((x:Int)<(aq d2))=true→(z0≤(x:Int)∧(x:Int)<(aq d2))∧((q69 d2 x d1)=true→false=S.aI d1 d2)∧((q69 d2 x d1)=false→(aT ((x:Int)+z1))∧∃(ag:Nat),(x:Int)+z1=(ag:Int)∧S.LC d1 d2 ag∧S.ai (S.len d2) ag<S.ai (S.len d2) x))∧(decide ((x:Int)<(aq d2))=false→true=S.aI d1 d2)))
def PH(d1:List (List UInt8))(d2:List (Int×List UInt8)):Prop :=
 True∧((!S.aI d1 d2)=true→ []=S.vB d1 d2∧ []=S.vW d1 d2)∧((!S.aI d1 d2)=false→d1=S.vB d1 d2∧d2=S.vW d1 d2)
def PI(d1:List (List UInt8))(d2:List (Int×List UInt8)):Prop :=
 True∧(aq (S.vB d1 d2))=S.ko (S.vB d1 d2)
def q70(n:Int):=bif decide (n<z0) then true else decide ((4096:Int)<n)
def PJ(n:Int):Prop :=
 ((q70 n)=true→ []=S.pw n∧z1=S.yR n)∧((q70 n)=false→S.ry n∧Int.toNat n=Int.toNat n∧Vg.gN (64:Nat) (Int.toNat n) (S.pt n)=S.pw n∧z0=S.yR n)
def PK(d1:List (List UInt8))(d2:List (Int×List UInt8))(i:Int):Prop :=
 True∧((bif decide (i<z0) then true else decide ((aq (S.vB d1 d2))≤i))=true→z1=S.fZ d1 d2 i∧ []=S.dM d1 d2 i)∧((bif decide (i<z0) then true else decide ((aq (S.vB d1 d2))≤i))=false→(z0≤i∧i<(aq (S.vB d1 d2)))∧(∃(x:Nat),(z0=(x:Int)∧List.getD (S.vB d1 d2) (Int.toNat i) []=S.qi (S.vW d1 d2) i (S.bO (S.vB d1 d2) i) x)∧S.fa (S.vW d1 d2) x)∧∀(x:Nat),S.fa (S.vW d1 d2) x→(decide ((x:Int)<(aq (S.vW d1 d2)))=true→(z0≤(x:Int)∧(x:Int)<(aq (S.vW d1 d2)))∧(aT ((x:Int)+z1))∧∃(ag:Nat),((x:Int)+z1=(ag:Int)∧(bif decide ((List.getD (S.vW d1 d2) ((x:Int).toNat) (z0,[])).1=i) then(List.getD (S.vW d1 d2) ((x:Int).toNat) (z0,[])).2 else S.qi (S.vW d1 d2) i (S.bO (S.vB d1 d2) i) x)=S.qi (S.vW d1 d2) i (S.bO (S.vB d1 d2) i) ag)∧S.fa (S.vW d1 d2) ag∧S.ai (S.len (S.vW d1 d2)) ag<S.ai (S.len (S.vW d1 d2)) x)∧(decide ((x:Int)<(aq (S.vW d1 d2)))=false→True∧z0=S.fZ d1 d2 i∧S.copied (S.qi (S.vW d1 d2) i (S.bO (S.vB d1 d2) i) x)=S.dM d1 d2 i))
def PL(d1:List (List UInt8))(d2:List (Int×List UInt8))(i:Int)(b:List UInt8):Prop :=
 True∧((bif decide (i<z0) then true else bif decide ((aq (S.vB d1 d2))≤i) then true else !decide ((aq b)=(64:Int)))=true→S.vB d1 d2=S.wB d1 d2∧S.vW d1 d2=S.wW d1 d2 i b∧z1=S.kF d1 d2 i b)∧((bif decide (i<z0) then true else bif decide ((aq (S.vB d1 d2))≤i) then true else !decide ((aq b)=(64:Int)))=false→(decide ((1000:Int)≤(aq (S.vW d1 d2)))=true→S.vB d1 d2=S.wB d1 d2∧S.vW d1 d2=S.wW d1 d2 i b∧(3:Int)=S.kF d1 d2 i b)∧(decide ((1000:Int)≤(aq (S.vW d1 d2)))=false→S.pv (S.vB d1 d2)∧(∃(x:Nat),(z0=(x:Int)∧ []=S.kE (S.vW d1 d2) x)∧S.fa (S.vW d1 d2) x)∧∀(x:Nat),S.fa (S.vW d1 d2) x→(decide ((x:Int)<(aq (S.vW d1 d2)))=true→(z0≤(x:Int)∧(x:Int)<(aq (S.vW d1 d2)))∧True∧List.length (S.kE (S.vW d1 d2) x)+List.length [((List.getD (S.vW d1 d2) ((x:Int).toNat) (z0,[])).1,S.copied ((List.getD (S.vW d1 d2) ((x:Int).toNat) (z0,[])).2))]≤(4398046511104:Nat)∧(aT ((x:Int)+z1))∧∃(ag:Nat),((x:Int)+z1=(ag:Int)∧S.kE (S.vW d1 d2) x++ [((List.getD (S.vW d1 d2) ((x:Int).toNat) (z0,[])).1,S.copied ((List.getD (S.vW d1 d2) ((x:Int).toNat) (z0,[])).2))]=S.kE (S.vW d1 d2) ag)∧S.fa (S.vW d1 d2) ag∧S.ai (S.len (S.vW d1 d2)) ag<S.ai (S.len (S.vW d1 d2)) x)∧(decide ((x:Int)<(aq (S.vW d1 d2)))=false→True∧List.length (S.kE (S.vW d1 d2) x)+List.length [(i,S.copied b)]≤(4398046511104:Nat)∧S.len (S.vB d1 d2)=S.len (S.vB d1 d2)∧Vg.gN (64:Nat) (S.len (S.vB d1 d2)) (S.flat (S.vB d1 d2))=S.wB d1 d2∧S.kE (S.vW d1 d2) x++ [(i,S.copied b)]=S.wW d1 d2 i b∧z0=S.kF d1 d2 i b)))
def Jv(d1:List (List UInt8))(d2:List (Int×List UInt8))(x:Nat):=List.getD (S.vW d1 d2) ((x:Int).toNat) (z0,[])
def PM(d1:List (List UInt8))(d2:List (Int×List UInt8)):Prop :=
 True∧S.pv (S.vB d1 d2)∧(∃(x:Nat),(z0=(x:Int)∧S.flat (S.vB d1 d2)=S.lJ (S.vB d1 d2) (S.vW d1 d2) x)∧S.fa (S.vW d1 d2) x)∧∀(x:Nat),S.fa (S.vW d1 d2) x→(decide ((x:Int)<(aq (S.vW d1 d2)))=true→(z0≤(x:Int)∧(x:Int)<(aq (S.vW d1 d2)))∧(z0≤(Jv d1 d2 x).1∧(Jv d1 d2 x).1<(↑(S.len (S.vB d1 d2)):Int))∧Int.toNat ((Jv d1 d2 x).1)<S.len (S.vB d1 d2)∧Int.toNat ((Jv d1 d2 x).1)*(64:Nat)+(64:Nat)≤List.length (S.lJ (S.vB d1 d2) (S.vW d1 d2) x)∧(aT ((x:Int)+z1))∧∃(ag:Nat),((x:Int)+z1=(ag:Int)∧List.take (Int.toNat ((Jv d1 d2 x).1)*(64:Nat)) (S.lJ (S.vB d1 d2) (S.vW d1 d2) x)++List.take (64:Nat) ((Jv d1 d2 x).2)++List.drop (Int.toNat ((Jv d1 d2 x).1)*(64:Nat)+Min.min (List.length ((Jv d1 d2 x).2)) (64:Nat)) (S.lJ (S.vB d1 d2) (S.vW d1 d2) x)=S.lJ (S.vB d1 d2) (S.vW d1 d2) ag)∧S.fa (S.vW d1 d2) ag∧S.ai (S.len (S.vW d1 d2)) ag<S.ai (S.len (S.vW d1 d2)) x)∧(decide ((x:Int)<(aq (S.vW d1 d2)))=false→S.len (S.vB d1 d2)=S.len (S.vB d1 d2)∧Vg.gN (64:Nat) (S.len (S.vB d1 d2)) (S.lJ (S.vB d1 d2) (S.vW d1 d2) x)=S.xr (d1,d2))
def F2(d1:List (List UInt8))(d2:List (Int×List UInt8))(x:Nat):=List.getD (S.vW d1 d2) ((x:Int).toNat) (z0,[])
def š(x:Nat)(keep:List Int):=bif decide ((x:Int)<(aq keep)) then Min.min (Max.max (List.getD keep ((x:Int).toNat) z0) z0) (64:Int) else z0
def PN(d1:List (List UInt8))(d2:List (Int×List UInt8))(keep:List Int):Prop :=
 True∧S.pv (S.vB d1 d2)∧(∃(x:Nat),(z0=(x:Int)∧S.flat (S.vB d1 d2)=S.jy keep (S.vB d1 d2) (S.vW d1 d2) x)∧S.fa (S.vW d1 d2) x)∧∀(x:Nat),S.fa (S.vW d1 d2) x→(decide ((x:Int)<(aq (S.vW d1 d2)))=true→(z0≤(x:Int)∧(x:Int)<(aq (S.vW d1 d2)))∧((decide ((x:Int)<(aq keep))=true→z0≤(x:Int)∧(x:Int)<(aq keep))∧(decide ((x:Int)<(aq keep))=false→True))∧(z0≤(F2 d1 d2 x).1∧(F2 d1 d2 x).1<(↑(S.len (S.vB d1 d2)):Int))∧Int.toNat ((F2 d1 d2 x).1)<S.len (S.vB d1 d2)∧((z0≤bif decide ((x:Int)<(aq keep)) then Min.min (Max.max (List.getD keep ((x:Int).toNat) z0) z0) (64:Int) else z0)∧(š x keep)≤(↑(List.length ((F2 d1 d2 x).2)):Int))∧Int.toNat ((F2 d1 d2 x).1)*(64:Nat)+(64:Nat)≤List.length (S.jy keep (S.vB d1 d2) (S.vW d1 d2) x)∧(aT ((x:Int)+z1))∧∃(ag:Nat),((x:Int)+z1=(ag:Int)∧List.take (Int.toNat ((F2 d1 d2 x).1)*(64:Nat)) (S.jy keep (S.vB d1 d2) (S.vW d1 d2) x)++List.take (64:Nat) (List.take (Int.toNat (š x keep)) ((F2 d1 d2 x).2))++List.drop (Int.toNat ((F2 d1 d2 x).1)*(64:Nat)+Min.min (List.length (List.take (Int.toNat (š x keep)) ((F2 d1 d2 x).2))) (64:Nat)) (S.jy keep (S.vB d1 d2) (S.vW d1 d2) x)=S.jy keep (S.vB d1 d2) (S.vW d1 d2) ag)∧S.fa (S.vW d1 d2) ag∧S.ai (S.len (S.vW d1 d2)) ag<S.ai (S.len (S.vW d1 d2)) x)∧(decide ((x:Int)<(aq (S.vW d1 d2)))=false→S.len (S.vB d1 d2)=S.len (S.vB d1 d2)∧Vg.gN (64:Nat) (S.len (S.vB d1 d2)) (S.jy keep (S.vB d1 d2) (S.vW d1 d2) x)=S.eG (d1,d2) keep)
def PO(a:List UInt8)(b:List UInt8):Prop :=
 decide (a=b)=S.Jj a b
def Ţ(b:List UInt8):=List.length (List.take ((8:Int).toNat) b)
def PQ(b:List UInt8):Prop :=
 (z0≤(8:Int)∧(8:Int)≤(aq b))∧(∃(x:Nat),(z0=(x:Int)∧z0=(↑(S.dO b x):Int))∧S.nW x (8:Nat))∧∀(x:Nat),S.nW x (8:Nat)→(decide ((x:Int)<(↑(Ţ b):Int))=true→(z0≤(x:Int)∧(x:Int)<(↑(Ţ b):Int))∧(z0≤(8:Int)∧(8:Int)≤(64:Int))∧(aT ((x:Int)+z1))∧∃(ag:Nat),((x:Int)+z1=(ag:Int)∧Vg.cF ((↑(S.dO b x):Int)*(2:Int)^(8:Int).toNat%(18446744073709551616:Int)) (↑(UInt8.toNat (List.getD (List.take ((8:Int).toNat) b) ((x:Int).toNat) (0:UInt8))):Int)=(↑(S.dO b ag):Int))∧S.nW ag (8:Nat)∧S.ai (8:Nat) ag<S.ai (8:Nat) x)∧(decide ((x:Int)<(↑(Ţ b):Int))=false→(decide ((4611686018427387904:Int)<(↑(S.dO b x):Int))=true→z0=(S.eS b).1∧false=(S.eS b).2)∧(decide ((4611686018427387904:Int)<(↑(S.dO b x):Int))=false→(aT ((↑(S.dO b x):Int)))∧(↑(S.dO b x):Int)=(S.eS b).1∧true=(S.eS b).2))
def q75(m1 m2:Int)(x:Nat):=List.set (S.dW m1 m2 x) ((x:Int).toNat) (UInt8.ofNat (Int.toNat (m1%(18446744073709551616:Int)/(2:Int)^Int.toNat ((8:Int)*((7:Int)-(x:Int)))%(256:Int))))
def EK:=(32:Int).toNat
def q77(x:Nat):=z0≤(8:Int)*((7:Int)-(x:Int))∧(8:Int)*((7:Int)-(x:Int))≤(64:Int)
def ţ(m1 m2:Int)(x:Nat):=List.length (S.dW m1 m2 x)-(EK:Int).toNat
def PR(m1:Int)(m2:Int):Prop :=
 (z0≤(64:Int)∧(64:Int)≤(64:Int)∧(64:Int)≤BL/(↑(1:Nat):Int))∧(z0≤(32:Int)∧(32:Int)≤(↑(List.length (List.replicate ((64:Int).toNat) (0:UInt8))):Int))∧(∃(x:Nat),(z0=(x:Int)∧List.replicate ((64:Int).toNat) (0:UInt8)=S.dW m1 m2 x)∧S.nW x (8:Nat))∧∀(x:Nat),S.nW x (8:Nat)→(decide ((x:Int)<(8:Int))=true→(aT ((7:Int)-(x:Int)))∧(aT ((8:Int)*((7:Int)-(x:Int))))∧(q77 x)∧(z0≤(x:Int)∧(x:Int)<(EK:Int))∧(x:Int).toNat<List.length (S.dW m1 m2 x)∧(aT ((8:Int)+(x:Int)))∧(q77 x)∧(z0≤(8:Int)+(x:Int)∧(8:Int)+(x:Int)<(EK:Int))∧Int.toNat ((8:Int)+(x:Int))<List.length (q75 m1 m2 x)∧(aT ((x:Int)+z1))∧∃(ag:Nat),((x:Int)+z1=(ag:Int)∧List.set (q75 m1 m2 x) (Int.toNat ((8:Int)+(x:Int))) (UInt8.ofNat (Int.toNat (m2%(18446744073709551616:Int)/(2:Int)^Int.toNat ((8:Int)*((7:Int)-(x:Int)))%(256:Int))))=S.dW m1 m2 ag)∧S.nW ag (8:Nat)∧S.ai (8:Nat) ag<S.ai (8:Nat) x)∧(decide ((x:Int)<(8:Int))=false→(z0≤(EK:Int)∧(EK:Int)≤(aq (S.dW m1 m2 x)))∧(EK:Int).toNat+(ţ m1 m2 x)≤List.length (S.dW m1 m2 x)∧List.take ((EK:Int).toNat) (S.dW m1 m2 x)++List.take (ţ m1 m2 x) (List.take EK (S.dW m1 m2 x))++List.drop ((EK:Int).toNat+Min.min (List.length (List.take EK (S.dW m1 m2 x))) (ţ m1 m2 x)) (S.dW m1 m2 x)=S.dN m1 m2)
def F3(b:List UInt8):=S.eS (List.drop ((8:Int).toNat) b)
def q80(b:List UInt8)(m:Int):=bif !(S.eS b).2 then true else bif !(F3 b).2 then true else bif decide (m<(F3 b).1) then true else !S.Jj b (S.dN ((S.eS b).1) ((F3 b).1))
def PT(b:List UInt8)(m:Int):Prop :=
 ((!decide ((aq b)=(64:Int)))=true→z0=((S.cE b m).1).1∧z0=((S.cE b m).1).2∧false=(S.cE b m).2)∧((!decide ((aq b)=(64:Int)))=false→S.eQ b∧(z0≤(8:Int)∧(8:Int)≤(aq b))∧S.eQ (List.drop ((8:Int).toNat) b)∧(((!(S.eS b).2)=true→True)∧((!(S.eS b).2)=false→((!(F3 b).2)=true→True)∧((!(F3 b).2)=false→(decide (m<(F3 b).1)=true→True)∧(decide (m<(F3 b).1)=false→S.lN ((S.eS b).1) ((F3 b).1)∧True))))∧((q80 b m)=true→z0=((S.cE b m).1).1∧z0=((S.cE b m).1).2∧false=(S.cE b m).2)∧((q80 b m)=false→(S.eS b).1=((S.cE b m).1).1∧(F3 b).1=((S.cE b m).1).2∧true=(S.cE b m).2))
def PU(d1:List (List UInt8))(d2:List (Int×List UInt8)):Prop :=
 True∧(aT (S.ko (S.vB d1 d2)-(2:Int)))∧(aT ((S.ko (S.vB d1 d2)-(2:Int))*(64:Int)))∧(S.ko (S.vB d1 d2)-(2:Int))*(64:Int)=S.dE d1 d2
def PV(d1:List (List UInt8))(d2:List (Int×List UInt8)):Prop :=
 (∃(x:Nat),(z0=(x:Int)∧false=(S.cZ d1 d2 x).2∧z0=((S.cZ d1 d2 x).1).1∧z0=((S.cZ d1 d2 x).1).2)∧S.nW x (2:Nat))∧∀(x:Nat),S.nW x (2:Nat)→(decide ((x:Int)<(2:Int))=true→True∧((!decide (S.fZ d1 d2 (x:Int)=z0))=true→(aT ((x:Int)+z1))∧∃(ag:Nat),((x:Int)+z1=(ag:Int)∧(S.cZ d1 d2 x).2=(S.cZ d1 d2 ag).2∧((S.cZ d1 d2 x).1).1=((S.cZ d1 d2 ag).1).1∧((S.cZ d1 d2 x).1).2=((S.cZ d1 d2 ag).1).2)∧S.nW ag (2:Nat)∧S.ai (2:Nat) ag<S.ai (2:Nat) x)∧((!decide (S.fZ d1 d2 (x:Int)=z0))=false→True∧True∧(aT ((x:Int)+z1))∧∃(ag:Nat),((x:Int)+z1=(ag:Int)∧(bif bif (S.cE (S.dM d1 d2 (x:Int)) (S.dE d1 d2)).2 then bif !(S.cZ d1 d2 x).2 then true else decide (((S.cZ d1 d2 x).1).1<((S.cE (S.dM d1 d2 (x:Int)) (S.dE d1 d2)).1).1) else false then true else(S.cZ d1 d2 x).2)=(S.cZ d1 d2 ag).2∧(bif bif (S.cE (S.dM d1 d2 (x:Int)) (S.dE d1 d2)).2 then bif !(S.cZ d1 d2 x).2 then true else decide (((S.cZ d1 d2 x).1).1<((S.cE (S.dM d1 d2 (x:Int)) (S.dE d1 d2)).1).1) else false then((S.cE (S.dM d1 d2 (x:Int)) (S.dE d1 d2)).1).1 else((S.cZ d1 d2 x).1).1)=((S.cZ d1 d2 ag).1).1∧(bif bif (S.cE (S.dM d1 d2 (x:Int)) (S.dE d1 d2)).2 then bif !(S.cZ d1 d2 x).2 then true else decide (((S.cZ d1 d2 x).1).1<((S.cE (S.dM d1 d2 (x:Int)) (S.dE d1 d2)).1).1) else false then((S.cE (S.dM d1 d2 (x:Int)) (S.dE d1 d2)).1).2 else((S.cZ d1 d2 x).1).2)=((S.cZ d1 d2 ag).1).2)∧S.nW ag (2:Nat)∧S.ai (2:Nat) ag<S.ai (2:Nat) x))∧(decide ((x:Int)<(2:Int))=false→((S.cZ d1 d2 x).1).1=((S.fm d1 d2).1).1∧((S.cZ d1 d2 x).1).2=((S.fm d1 d2).1).2∧(S.cZ d1 d2 x).2=(S.fm d1 d2).2)
def PW(d1:List (List UInt8))(d2:List (Int×List UInt8))(n:Int):Prop :=
 (∃(x:Nat),((2:Int)=(x:Int)+(2:Int)∧ []=S.dP d1 d2 x)∧S.mR d1 d2 n x)∧∀(x:Nat),S.mR d1 d2 n x→(decide ((aq (S.dP d1 d2 x))<n)=true→True∧((!decide (S.fZ d1 d2 ((x:Int)+(2:Int))=z0))=true→S.dP d1 d2 x=List.take (Int.toNat n) (S.uJ d1 d2))∧((!decide (S.fZ d1 d2 ((x:Int)+(2:Int))=z0))=false→List.length (S.dP d1 d2 x)+List.length (S.dM d1 d2 ((x:Int)+(2:Int)))≤lR∧(aT ((x:Int)+(2:Int)+z1))∧∃(ag:Nat),((x:Int)+(2:Int)+z1=(ag:Int)+(2:Int)∧S.dP d1 d2 x++S.dM d1 d2 ((x:Int)+(2:Int))=S.dP d1 d2 ag)∧S.mR d1 d2 n ag∧S.ai (5000:Nat) ag<S.ai (5000:Nat) x))∧(decide ((aq (S.dP d1 d2 x))<n)=false→(z0≤n∧n≤(aq (S.dP d1 d2 x)))∧List.take (Int.toNat n) (S.dP d1 d2 x)=List.take (Int.toNat n) (S.uJ d1 d2))
def TI(r1:List UInt8)(r2 r3:Int):=S.af (((S.af r1 r2 r3).1).1) ((((S.af r1 r2 r3).1).2).1) ((((S.af r1 r2 r3).1).2).2)
def Xw(r1:List UInt8)(r2 r3:Int):=S.bj (((S.af r1 r2 r3).1).1) ((((S.af r1 r2 r3).1).2).1) ((((S.af r1 r2 r3).1).2).2) (2000:Int)
def Xx(r1:List UInt8)(r2 r3:Int):=S.af (((TI r1 r2 r3).1).1) ((((TI r1 r2 r3).1).2).1) ((((TI r1 r2 r3).1).2).2)
def nA(r1:List UInt8)(r2 r3:Int):=S.af r1 r2 r3
def PX(r1:List UInt8)(r2:Int)(r3:Int):Prop :=
 r1.length≤lR∧((decide ((nA r1 r2 r3).2=z0)=true→List.length (((nA r1 r2 r3).1).1)≤lR)∧(decide ((nA r1 r2 r3).2=z0)=false→(decide ((nA r1 r2 r3).2=(2:Int))=true→List.length (((nA r1 r2 r3).1).1)≤lR∧List.length (((TI r1 r2 r3).1).1)≤lR)∧(decide ((nA r1 r2 r3).2=(2:Int))=false→True)))∧(bif decide ((nA r1 r2 r3).2=z0) then((Xw r1 r2 r3).1).1 else bif decide ((nA r1 r2 r3).2=(2:Int)) then((Xx r1 r2 r3).1).1 else((nA r1 r2 r3).1).1)=r1∧(bif decide ((nA r1 r2 r3).2=z0) then(((Xw r1 r2 r3).1).2).1 else bif decide ((nA r1 r2 r3).2=(2:Int)) then(((Xx r1 r2 r3).1).2).1 else(((nA r1 r2 r3).1).2).1)=((S.cn r1 r2 r3).1).1∧(bif decide ((nA r1 r2 r3).2=z0) then(((Xw r1 r2 r3).1).2).2 else bif decide ((nA r1 r2 r3).2=(2:Int)) then(((Xx r1 r2 r3).1).2).2 else(((nA r1 r2 r3).1).2).2)=((S.cn r1 r2 r3).1).2∧(bif decide ((nA r1 r2 r3).2=z0) then(nA r1 r2 r3).2 else bif decide ((nA r1 r2 r3).2=(2:Int)) then(nA r1 r2 r3).2 else(nA r1 r2 r3).2)=((S.cn r1 r2 r3).2).1∧(bif decide ((nA r1 r2 r3).2=z0) then z0 else bif decide ((nA r1 r2 r3).2=(2:Int)) then(TI r1 r2 r3).2 else z0)=(((S.cn r1 r2 r3).2).2).1∧(bif decide ((nA r1 r2 r3).2=z0) then z0 else bif decide ((nA r1 r2 r3).2=(2:Int)) then(Xx r1 r2 r3).2 else z0)=((((S.cn r1 r2 r3).2).2).2).1∧(bif decide ((nA r1 r2 r3).2=z0) then(Xw r1 r2 r3).2 else [])=((((S.cn r1 r2 r3).2).2).2).2
def q85(e1:Int):=bif decide (e1<z0) then true else decide ((3:Int)<e1)
def PY(e1:Int)(e2:Int)(e3:Int)(e4:List UInt8):Prop :=
 ((q85 e1)=true→ []=(S.aU e1 e2 e3 e4).1∧z1=(S.aU e1 e2 e3 e4).2)∧((q85 e1)=false→List.length (Vg.iU UInt8)≤(35184372088832:Nat)∧(decide (e1=z0)=true→(decide ((2000:Int)<(aq e4))=true→ []=(S.aU e1 e2 e3 e4).1∧z1=(S.aU e1 e2 e3 e4).2)∧(decide ((2000:Int)<(aq e4))=false→S.lB (S.iK (Vg.iU UInt8) e1) e4∧((!decide (S.hU e1=z0))=true→ []=(S.aU e1 e2 e3 e4).1∧S.hU e1=(S.aU e1 e2 e3 e4).2)∧((!decide (S.hU e1=z0))=false→S.iK (Vg.iU UInt8) e1++S.text e4=(S.aU e1 e2 e3 e4).1∧z0=(S.aU e1 e2 e3 e4).2)))∧(decide (e1=z0)=false→(decide (e1=(2:Int))=true→(∃(x:Nat),(z0=(x:Int)∧S.hU e1=(S.jB e1 e2 e3 x).2∧S.iK (Vg.iU UInt8) e1=(S.jB e1 e2 e3 x).1)∧S.nW x (2:Nat))∧∀(x:Nat),S.nW x (2:Nat)→(decide ((x:Int)<(↑(List.length [e2,e3]):Int))=true→(z0≤(x:Int)∧(x:Int)<(↑(List.length [e2,e3]):Int))∧(x:Int).toNat<List.length [e2,e3]∧(decide ((S.jB e1 e2 e3 x).2=z0)=true→List.length ((S.jB e1 e2 e3 x).1)≤(35184372088832:Nat)∧(aT ((x:Int)+z1))∧∃(ag:Nat),((x:Int)+z1=(ag:Int)∧S.hU (List.getD [e2,e3] ((x:Int).toNat) z0)=(S.jB e1 e2 e3 ag).2∧S.iK ((S.jB e1 e2 e3 x).1) (List.getD [e2,e3] ((x:Int).toNat) z0)=(S.jB e1 e2 e3 ag).1)∧S.nW ag (2:Nat)∧S.ai (2:Nat) ag<S.ai (2:Nat) x)∧(decide ((S.jB e1 e2 e3 x).2=z0)=false→(aT ((x:Int)+z1))∧∃(ag:Nat),((x:Int)+z1=(ag:Int)∧(S.jB e1 e2 e3 x).2=(S.jB e1 e2 e3 ag).2∧(S.jB e1 e2 e3 x).1=(S.jB e1 e2 e3 ag).1)∧S.nW ag (2:Nat)∧S.ai (2:Nat) ag<S.ai (2:Nat) x))∧(decide ((x:Int)<(↑(List.length [e2,e3]):Int))=false→((!decide ((S.jB e1 e2 e3 x).2=z0))=true→ []=(S.aU e1 e2 e3 e4).1∧(S.jB e1 e2 e3 x).2=(S.aU e1 e2 e3 e4).2)∧((!decide ((S.jB e1 e2 e3 x).2=z0))=false→(S.jB e1 e2 e3 x).1=(S.aU e1 e2 e3 e4).1∧z0=(S.aU e1 e2 e3 e4).2)))∧(decide (e1=(2:Int))=false→((!decide (S.hU e1=z0))=true→ []=(S.aU e1 e2 e3 e4).1∧S.hU e1=(S.aU e1 e2 e3 e4).2)∧((!decide (S.hU e1=z0))=false→S.iK (Vg.iU UInt8) e1=(S.aU e1 e2 e3 e4).1∧z0=(S.aU e1 e2 e3 e4).2))))
def Xy(x:Int×List (List UInt8)×List S.ax)(d1:List (List UInt8))(d2:List (Int×List UInt8)):=S.c9 x.2.1 x.2.2 (((S.cn (S.aX d1 d2) x.1 z0).2).1) ((((S.cn (S.aX d1 d2) x.1 z0).2).2).1) (((((S.cn (S.aX d1 d2) x.1 z0).2).2).2).1) (((((S.cn (S.aX d1 d2) x.1 z0).2).2).2).2)
def vP(d1:List (List UInt8))(d2:List (Int×List UInt8)):=((S.au (d1,d2)).1).2
def PZ(d1:List (List UInt8))(d2:List (Int×List UInt8)):Prop :=
 True∧(((!S.aI d1 d2)=true→True)∧((!S.aI d1 d2)=false→True))∧((bif !S.aI d1 d2 then true else decide (S.ko (S.vB d1 d2)≤(2:Int)))=true→z0=((S.au (d1,d2)).1).1∧z0=(vP d1 d2).1∧ []=((vP d1 d2).2).1∧ []=((vP d1 d2).2).2∧z1=(S.au (d1,d2)).2)∧((bif !S.aI d1 d2 then true else decide (S.ko (S.vB d1 d2)≤(2:Int)))=false→True∧((!(S.fm d1 d2).2)=true→z0=((S.au (d1,d2)).1).1∧z0=(vP d1 d2).1∧ []=((vP d1 d2).2).1∧ []=((vP d1 d2).2).2∧(7:Int)=(S.au (d1,d2)).2)∧((!(S.fm d1 d2).2)=false→S.qk d1 d2 (((S.fm d1 d2).1).2)∧(∃(x:Int×List (List UInt8)×List S.ax),(List.take (Int.toNat (((S.fm d1 d2).1).2)) (S.uJ d1 d2)=S.aX d1 d2∧z0=x.1∧z0=z0∧ []=x.2.1∧ []=x.2.2)∧S.pB (S.aX d1 d2) x)∧∀(x:Int×List (List UInt8)×List S.ax),S.pB (S.aX d1 d2) x→(decide (x.1<(aq (S.aX d1 d2)))=true→S.Jl (S.aX d1 d2)∧((!decide (((S.cn (S.aX d1 d2) x.1 z0).1).2=z0))=true→z0=((S.au (d1,d2)).1).1∧z0=(vP d1 d2).1∧ []=((vP d1 d2).2).1∧ []=((vP d1 d2).2).2∧(2:Int)=(S.au (d1,d2)).2)∧((!decide (((S.cn (S.aX d1 d2) x.1 z0).1).2=z0))=false→True∧((!decide ((Xy x d1 d2).2=z0))=true→z0=((S.au (d1,d2)).1).1∧z0=(vP d1 d2).1∧ []=((vP d1 d2).2).1∧ []=((vP d1 d2).2).2∧(2:Int)=(S.au (d1,d2)).2)∧((!decide ((Xy x d1 d2).2=z0))=false→∃(ag:Int×List (List UInt8)×List S.ax),(S.aX d1 d2=S.aX d1 d2∧((S.cn (S.aX d1 d2) x.1 z0).1).1=ag.1∧((S.cn (S.aX d1 d2) x.1 z0).1).2=z0∧((Xy x d1 d2).1).1=ag.2.1∧((Xy x d1 d2).1).2=ag.2.2)∧S.pB (S.aX d1 d2) ag∧List.length (S.aX d1 d2)-Int.toNat ag.1<List.length (S.aX d1 d2)-Int.toNat x.1)))∧(decide (x.1<(aq (S.aX d1 d2)))=false→((S.fm d1 d2).1).1=((S.au (d1,d2)).1).1∧((S.fm d1 d2).1).2=(vP d1 d2).1∧x.2.1=((vP d1 d2).2).1∧x.2.2=((vP d1 d2).2).2∧z0=(S.au (d1,d2)).2)))
def Jw(d1:List (List UInt8))(d2:List (Int×List UInt8))(x:Int×List UInt8×S.Ws):=List.length (S.dM d1 d2 ((2:Int)+x.1/(64:Int)))-Int.toNat (x.1%(64:Int))
def q89(x:Int×List UInt8×S.Ws)(d1:List (List UInt8))(d2:List (Int×List UInt8)):=(false,(2:Int)+x.1/(64:Int),List.take (Int.toNat (x.1%(64:Int))) (S.dM d1 d2 ((2:Int)+x.1/(64:Int)))++List.take (Jw d1 d2 x) x.2.1++List.drop (Int.toNat (x.1%(64:Int))+Min.min (List.length x.2.1) (Jw d1 d2 x)) (S.dM d1 d2 ((2:Int)+x.1/(64:Int))))
def TJ(x:Int×List UInt8×S.Ws):=(2:Int)+x.1/(64:Int)
def P0(d1:List (List UInt8))(d2:List (Int×List UInt8))(a:Int)(b:List UInt8):Prop :=
 (aT (a+(aq b)))∧(∃(x:Int×List UInt8×S.Ws),(a=x.1∧b=x.2.1∧ []=S.lX x.2.2)∧S.sF d1 d2 a b x)∧∀(x:Int×List UInt8×S.Ws),S.sF d1 d2 a b x→(decide (x.1<a+(aq b))=true→z0≤x.1∧z0<(64:Int)∧(aT (TJ x))∧True∧((!decide (S.fZ d1 d2 (TJ x)=z0))=true→S.lX x.2.2=S.lX (S.dV d1 d2 a b))∧((!decide (S.fZ d1 d2 (TJ x)=z0))=false→z0≤x.1∧z0<(64:Int)∧(z0≤x.1%(64:Int)∧x.1%(64:Int)≤(↑(List.length (S.dM d1 d2 (TJ x))):Int))∧Int.toNat (x.1%(64:Int))+(Jw d1 d2 x)≤List.length (S.dM d1 d2 (TJ x))∧List.length (S.lX x.2.2)+List.length [q89 x d1 d2]≤(3518437208883:Nat)∧(aT (x.1+(↑(Min.min (List.length x.2.1) (Jw d1 d2 x)):Int)))∧(z0≤(↑(Min.min (List.length x.2.1) (Jw d1 d2 x)):Int)∧(↑(Min.min (List.length x.2.1) (Jw d1 d2 x)):Int)≤(↑(List.length x.2.1):Int))∧∃(ag:Int×List UInt8×S.Ws),(x.1+(↑(Min.min (List.length x.2.1) (Jw d1 d2 x)):Int)=ag.1∧List.drop (Int.toNat (↑(Min.min (List.length x.2.1) (Jw d1 d2 x)):Int)) x.2.1=ag.2.1∧S.lX x.2.2++ [q89 x d1 d2]=S.lX ag.2.2)∧S.sF d1 d2 a b ag∧List.length ag.2.1<List.length x.2.1))∧(decide (x.1<a+(aq b))=false→S.lX x.2.2=S.lX (S.dV d1 d2 a b))
def kU(d1:List (List UInt8))(d2:List (Int×List UInt8))(s1 s2:Int)(s3:List (List UInt8))(s4:List (Int×Int×List (List UInt8×List Int)))(e1 e2 e3:Int)(e4:List UInt8):=(S.bq (d1,d2) (s1,s2,s3,s4) (e1,e2,e3,e4)).2
def lS(d1:List (List UInt8))(d2:List (Int×List UInt8)):=(S.au (d1,d2)).1
def LU(e1 e2 e3:Int)(e4:List UInt8):=List.length ((S.aU e1 e2 e3 e4).1)
def P1(d1:List (List UInt8))(d2:List (Int×List UInt8))(s1:Int)(s2:Int)(s3:List (List UInt8))(s4:List (Int×Int×List (List UInt8×List Int)))(e1:Int)(e2:Int)(e3:Int)(e4:List UInt8):Prop :=
 (decide (s1=(4611686018427387904:Int))=true→ []=(S.bq (d1,d2) (s1,s2,s3,s4) (e1,e2,e3,e4)).1∧z0=((kU d1 d2 s1 s2 s3 s4 e1 e2 e3 e4).1).1∧z0=(((kU d1 d2 s1 s2 s3 s4 e1 e2 e3 e4).1).2).1∧ []=((((kU d1 d2 s1 s2 s3 s4 e1 e2 e3 e4).1).2).2).1∧ []=((((kU d1 d2 s1 s2 s3 s4 e1 e2 e3 e4).1).2).2).2∧z1=(kU d1 d2 s1 s2 s3 s4 e1 e2 e3 e4).2)∧(decide (s1=(4611686018427387904:Int))=false→True∧((bif !decide ((S.au (d1,d2)).2=z0) then true else bif !decide ((lS d1 d2).1=s1) then true else !decide (((lS d1 d2).2).1=s2))=true→ []=(S.bq (d1,d2) (s1,s2,s3,s4) (e1,e2,e3,e4)).1∧z0=((kU d1 d2 s1 s2 s3 s4 e1 e2 e3 e4).1).1∧z0=(((kU d1 d2 s1 s2 s3 s4 e1 e2 e3 e4).1).2).1∧ []=((((kU d1 d2 s1 s2 s3 s4 e1 e2 e3 e4).1).2).2).1∧ []=((((kU d1 d2 s1 s2 s3 s4 e1 e2 e3 e4).1).2).2).2∧z1=(kU d1 d2 s1 s2 s3 s4 e1 e2 e3 e4).2)∧((bif !decide ((S.au (d1,d2)).2=z0) then true else bif !decide ((lS d1 d2).1=s1) then true else !decide (((lS d1 d2).2).1=s2))=false→True∧((!decide ((S.aU e1 e2 e3 e4).2=z0))=true→ []=(S.bq (d1,d2) (s1,s2,s3,s4) (e1,e2,e3,e4)).1∧z0=((kU d1 d2 s1 s2 s3 s4 e1 e2 e3 e4).1).1∧z0=(((kU d1 d2 s1 s2 s3 s4 e1 e2 e3 e4).1).2).1∧ []=((((kU d1 d2 s1 s2 s3 s4 e1 e2 e3 e4).1).2).2).1∧ []=((((kU d1 d2 s1 s2 s3 s4 e1 e2 e3 e4).1).2).2).2∧(S.aU e1 e2 e3 e4).2=(kU d1 d2 s1 s2 s3 s4 e1 e2 e3 e4).2)∧((!decide ((S.aU e1 e2 e3 e4).2=z0))=false→True∧((!decide ((S.c9 s3 s4 e1 e2 e3 e4).2=z0))=true→ []=(S.bq (d1,d2) (s1,s2,s3,s4) (e1,e2,e3,e4)).1∧z0=((kU d1 d2 s1 s2 s3 s4 e1 e2 e3 e4).1).1∧z0=(((kU d1 d2 s1 s2 s3 s4 e1 e2 e3 e4).1).2).1∧ []=((((kU d1 d2 s1 s2 s3 s4 e1 e2 e3 e4).1).2).2).1∧ []=((((kU d1 d2 s1 s2 s3 s4 e1 e2 e3 e4).1).2).2).2∧(S.c9 s3 s4 e1 e2 e3 e4).2=(kU d1 d2 s1 s2 s3 s4 e1 e2 e3 e4).2)∧((!decide ((S.c9 s3 s4 e1 e2 e3 e4).2=z0))=false→True∧(aT (S.dE d1 d2-((lS d1 d2).2).1))∧(decide (S.dE d1 d2-((lS d1 d2).2).1<(↑(LU e1 e2 e3 e4):Int))=true→ []=(S.bq (d1,d2) (s1,s2,s3,s4) (e1,e2,e3,e4)).1∧z0=((kU d1 d2 s1 s2 s3 s4 e1 e2 e3 e4).1).1∧z0=(((kU d1 d2 s1 s2 s3 s4 e1 e2 e3 e4).1).2).1∧ []=((((kU d1 d2 s1 s2 s3 s4 e1 e2 e3 e4).1).2).2).1∧ []=((((kU d1 d2 s1 s2 s3 s4 e1 e2 e3 e4).1).2).2).2∧(3:Int)=(kU d1 d2 s1 s2 s3 s4 e1 e2 e3 e4).2)∧(decide (S.dE d1 d2-((lS d1 d2).2).1<(↑(LU e1 e2 e3 e4):Int))=false→(aT ((lS d1 d2).1+z1))∧(aT (((lS d1 d2).2).1+(↑(LU e1 e2 e3 e4):Int)))∧z0≤(lS d1 d2).1+z1∧z0<(2:Int)∧S.Jk [(255:UInt8)] (64:Int)∧S.Jm (((lS d1 d2).2).1) ((S.aU e1 e2 e3 e4).1)∧List.length [(false,((lS d1 d2).1+z1)%(2:Int),S.clean)]+List.length (S.lX (S.dV d1 d2 (((lS d1 d2).2).1) ((S.aU e1 e2 e3 e4).1)))≤(3518437208883:Nat)∧S.lN ((lS d1 d2).1+z1) (((lS d1 d2).2).1+(↑(LU e1 e2 e3 e4):Int))∧List.length ([(false,((lS d1 d2).1+z1)%(2:Int),S.clean)]++S.lX (S.dV d1 d2 (((lS d1 d2).2).1) ((S.aU e1 e2 e3 e4).1)))+List.length [(true,z0,[]),(false,((lS d1 d2).1+z1)%(2:Int),S.dN ((lS d1 d2).1+z1) (((lS d1 d2).2).1+(↑(LU e1 e2 e3 e4):Int))),(true,z0,[])]≤(3518437208883:Nat)∧ [(false,((lS d1 d2).1+z1)%(2:Int),S.clean)]++S.lX (S.dV d1 d2 (((lS d1 d2).2).1) ((S.aU e1 e2 e3 e4).1))++ [(true,z0,[]),(false,((lS d1 d2).1+z1)%(2:Int),S.dN ((lS d1 d2).1+z1) (((lS d1 d2).2).1+(↑(LU e1 e2 e3 e4):Int))),(true,z0,[])]=(S.bq (d1,d2) (s1,s2,s3,s4) (e1,e2,e3,e4)).1∧(lS d1 d2).1+z1=((kU d1 d2 s1 s2 s3 s4 e1 e2 e3 e4).1).1∧((lS d1 d2).2).1+(↑(LU e1 e2 e3 e4):Int)=(((kU d1 d2 s1 s2 s3 s4 e1 e2 e3 e4).1).2).1∧((S.c9 s3 s4 e1 e2 e3 e4).1).1=((((kU d1 d2 s1 s2 s3 s4 e1 e2 e3 e4).1).2).2).1∧((S.c9 s3 s4 e1 e2 e3 e4).1).2=((((kU d1 d2 s1 s2 s3 s4 e1 e2 e3 e4).1).2).2).2∧z0=(kU d1 d2 s1 s2 s3 s4 e1 e2 e3 e4).2)))))
def Jx(l:List (Bool×Int×List UInt8))(x:Nat×S.Bs×S.Ws):=List.getD l ((x.1:Int).toNat) (false,z0,[])
def P2(d1:List (List UInt8))(d2:List (Int×List UInt8))(l:List (Bool×Int×List UInt8))(f:Int):Prop :=
 (∃(x:Nat×S.Bs×S.Ws),(z0=(x.1:Int)∧d1=x.2.1∧d2=x.2.2)∧S.mu d1 d2 l f x)∧∀(x:Nat×S.Bs×S.Ws),S.mu d1 d2 l f x→(decide ((x.1:Int)<(aq l))=true→(z0≤(x.1:Int)∧(x.1:Int)<(aq l))∧(decide (f≤(x.1:Int))=true→x.2.1=((S.gJ (d1,d2) l f).1).1∧x.2.2=((S.gJ (d1,d2) l f).1).2∧(x.1:Int)=(S.gJ (d1,d2) l f).2)∧(decide (f≤(x.1:Int))=false→((Jx l x).1=true→True∧(aT ((x.1:Int)+z1))∧∃(ag:Nat×S.Bs×S.Ws),((x.1:Int)+z1=(ag.1:Int)∧S.xr (x.2.1,x.2.2)=ag.2.1∧ []=ag.2.2)∧S.mu d1 d2 l f ag∧S.ai (S.len l) ag.1<S.ai (S.len l) x.1)∧((Jx l x).1=false→True∧((!decide (S.kF x.2.1 x.2.2 (((Jx l x).2).1) (((Jx l x).2).2)=z0))=true→x.2.1=((S.gJ (d1,d2) l f).1).1∧x.2.2=((S.gJ (d1,d2) l f).1).2∧(x.1:Int)=(S.gJ (d1,d2) l f).2)∧((!decide (S.kF x.2.1 x.2.2 (((Jx l x).2).1) (((Jx l x).2).2)=z0))=false→(aT ((x.1:Int)+z1))∧∃(ag:Nat×S.Bs×S.Ws),((x.1:Int)+z1=(ag.1:Int)∧S.wB x.2.1 x.2.2=ag.2.1∧S.wW x.2.1 x.2.2 (((Jx l x).2).1) (((Jx l x).2).2)=ag.2.2)∧S.mu d1 d2 l f ag∧S.ai (S.len l) ag.1<S.ai (S.len l) x.1))))∧(decide ((x.1:Int)<(aq l))=false→x.2.1=((S.gJ (d1,d2) l f).1).1∧x.2.2=((S.gJ (d1,d2) l f).1).2∧(aq l)=(S.gJ (d1,d2) l f).2)
def P3(y1:List (List UInt8))(y2:List (Int×Int×List (List UInt8×List Int)))(e1:Int)(e2:Int)(e3:Int)(e4:List UInt8):Prop :=
 True∧((S.bt y1 y2 e4).1).1=((S.bt y1 y2 e4).1).1∧((S.bt y1 y2 e4).1).2=((S.bt y1 y2 e4).1).2∧(S.bt y1 y2 e4).2=(S.bt y1 y2 e4).2
def P4(y1:List (List UInt8))(y2:List (Int×Int×List (List UInt8×List Int)))(e1:Int)(e2:Int)(e3:Int)(e4:List UInt8):Prop :=
 True∧((S.ba y1 y2).1).1=((S.ba y1 y2).1).1∧((S.ba y1 y2).1).2=((S.ba y1 y2).1).2∧(S.ba y1 y2).2=(S.ba y1 y2).2
def P5(y1:List (List UInt8))(y2:List (Int×Int×List (List UInt8×List Int)))(e1:Int)(e2:Int)(e3:Int)(e4:List UInt8):Prop :=
 True∧((S.cw y1 y2 e2 e3).1).1=((S.cw y1 y2 e2 e3).1).1∧((S.cw y1 y2 e2 e3).1).2=((S.cw y1 y2 e2 e3).1).2∧(S.cw y1 y2 e2 e3).2=(S.cw y1 y2 e2 e3).2
def P6(y1:List (List UInt8))(y2:List (Int×Int×List (List UInt8×List Int)))(e1:Int)(e2:Int)(e3:Int)(e4:List UInt8):Prop :=
 True∧(S.di y1 y2).1=(S.di y1 y2).1∧(S.di y1 y2).2=(S.di y1 y2).2∧z0=z0
def P7:Prop :=
 True
def P8(y1:List (List UInt8))(y2:List (Int×Int×List (List UInt8×List Int)))(e1:Int)(e2:Int)(e3:Int)(e4:List UInt8):Prop :=
 (e1=z0→True∧e1=z0∧True∧((S.bt y1 y2 e4).1).1=((S.c9 y1 y2 e1 e2 e3 e4).1).1∧((S.bt y1 y2 e4).1).2=((S.c9 y1 y2 e1 e2 e3 e4).1).2∧(S.bt y1 y2 e4).2=(S.c9 y1 y2 e1 e2 e3 e4).2)∧(e1=z1→True∧e1=z1∧True∧((S.ba y1 y2).1).1=((S.c9 y1 y2 e1 e2 e3 e4).1).1∧((S.ba y1 y2).1).2=((S.c9 y1 y2 e1 e2 e3 e4).1).2∧(S.ba y1 y2).2=(S.c9 y1 y2 e1 e2 e3 e4).2)∧(e1=(2:Int)→True∧e1=(2:Int)∧True∧((S.cw y1 y2 e2 e3).1).1=((S.c9 y1 y2 e1 e2 e3 e4).1).1∧((S.cw y1 y2 e2 e3).1).2=((S.c9 y1 y2 e1 e2 e3 e4).1).2∧(S.cw y1 y2 e2 e3).2=(S.c9 y1 y2 e1 e2 e3 e4).2)∧(e1=(3:Int)→True∧e1=(3:Int)∧True∧(S.di y1 y2).1=((S.c9 y1 y2 e1 e2 e3 e4).1).1∧(S.di y1 y2).2=((S.c9 y1 y2 e1 e2 e3 e4).1).2∧z0=(S.c9 y1 y2 e1 e2 e3 e4).2)∧((e1=z0→False)∧(e1=z1→False)∧(e1=(2:Int)→False)∧(e1=(3:Int)→False)∧True→True∧((e1=z0→False)∧(e1=z1→False)∧(e1=(2:Int)→False)∧(e1=(3:Int)→False)∧True)∧True∧(bif !S.bc y1 y2 then [] else y1)=((S.c9 y1 y2 e1 e2 e3 e4).1).1∧(bif !S.bc y1 y2 then [] else y2)=((S.c9 y1 y2 e1 e2 e3 e4).1).2∧z1=(S.c9 y1 y2 e1 e2 e3 e4).2)
def y8:=S.bq (S.pw (10:Int),[]) ((S.au (S.pw (10:Int),[])).1) (z0,z0,z0,[(104:UInt8),(97:UInt8),(121:UInt8)])
def Jy:=S.au (S.eG ((S.gJ (S.pw (10:Int),[]) (y8.1) (9:Int)).1) (Vg.iU Int),[])
def F4:=S.au (S.pw (10:Int),[])
def Ť:=(List.getD (y8.1) ((3:Int).toNat) (false,z0,[])).2
def ť:=List.getD (y8.1) ((2:Int).toNat) (false,z0,[])
def P9:=(List.getD (y8.1) (z0.toNat) (false,z0,[])).2
def Qa:=(List.getD (y8.1) (z1.toNat) (false,z0,[])).2
def Bo:=List.length (y8.1)
def Qb:=S.gJ (S.pw (10:Int),[]) (y8.1) (9:Int)
def LV:=List.length ((((Jy.1).2).2).1)
def Qc:Prop :=
 True∧True∧(0:Nat)<List.length [(104:UInt8),(97:UInt8),(121:UInt8)]∧True∧True∧True∧True∧((decide (F4.2=z0)=true→(decide ((F4.1).1=z0)=true→(decide (((F4.1).2).1=z0)=true→(decide ((y8.2).2=z0)=true→(decide ((Bo:Int)=(5:Int))=true→(z0≤z0∧z0<(Bo:Int))∧(decide (P9.1=z1)=true→(z0≤z1∧z1<(Bo:Int))∧(decide (Qa.1=(2:Int))=true→(z0≤(2:Int)∧(2:Int)<(Bo:Int))∧(ť.1=true→(z0≤(3:Int)∧(3:Int)<(Bo:Int))∧(decide (Ť.1=z1)=true→(decide ((((y8.2).1).2).1=(5:Int))=true→(decide (Qb.2=(5:Int))=true→(decide (Jy.2=z0)=true→(decide ((Jy.1).1=z1)=true→(decide ((LV:Int)=z1)=true→z0≤z0∧z0<(LV:Int))∧(decide ((LV:Int)=z1)=false→True))∧(decide ((Jy.1).1=z1)=false→True))∧(decide (Jy.2=z0)=false→True))∧(decide (Qb.2=(5:Int))=false→True))∧(decide ((((y8.2).1).2).1=(5:Int))=false→True))∧(decide (Ť.1=z1)=false→True))∧(ť.1=false→True))∧(decide (Qa.1=(2:Int))=false→True))∧(decide (P9.1=z1)=false→True))∧(decide ((Bo:Int)=(5:Int))=false→True))∧(decide ((y8.2).2=z0)=false→True))∧(decide (((F4.1).2).1=z0)=false→True))∧(decide ((F4.1).1=z0)=false→True))∧(decide (F4.2=z0)=false→True))∧(bif decide (F4.2=z0) then bif decide ((F4.1).1=z0) then bif decide (((F4.1).2).1=z0) then bif decide ((y8.2).2=z0) then bif decide ((Bo:Int)=(5:Int)) then bif decide (P9.1=z1) then bif decide (Qa.1=(2:Int)) then bif ť.1 then bif decide (Ť.1=z1) then bif decide ((((y8.2).1).2).1=(5:Int)) then bif decide (Qb.2=(5:Int)) then bif decide (Jy.2=z0) then bif decide ((Jy.1).1=z1) then bif decide ((LV:Int)=z1) then decide (List.getD ((((Jy.1).2).2).1) (z0.toNat) []= [(104:UInt8),(97:UInt8),(121:UInt8)]) else false else false else false else false else false else false else false else false else false else false else false else false else false else false)=true
def Qd(e1:Int)(e2:Int)(e3:Int)(e4:List UInt8):Prop :=
 decide ((aq e4)≤(2500:Int))=decide ((↑(S.len e4):Int)≤(2500:Int))
def EL(n:Int)(l:List (Int×Int×Int×List UInt8))(x:Nat):=S.bq (S.bo n l x,S.ny) ((S.au (S.bo n l x,S.ny)).1) (List.getD l ((x:Int).toNat) (z0,z0,z0,[]))
def LW(n:Int)(l:List (Int×Int×Int×List UInt8))(x:Nat):=S.gJ (S.bo n l x,S.ny) ((EL n l x).1) (↑(List.length ((EL n l x).1)):Int)
def Xz(x ag:Nat)(n:Int)(l:List (Int×Int×Int×List UInt8)):=((x:Int)+z1=(ag:Int)∧S.bo n l x=S.bo n l ag∧S.ny=S.ny)∧ag≤S.kL l∧S.ai (S.kL l) ag<S.ai (S.kL l) x
def XA(l:List (Int×Int×Int×List UInt8))(x:Nat):= !decide ((↑(S.len ((((List.getD l ((x:Int).toNat) (z0,z0,z0,[])).2).2).2)):Int)≤(2500:Int))
def Qe(n:Int)(l:List (Int×Int×Int×List UInt8)):Prop :=
 True∧((!decide (S.yR n=z0))=true→S.pw n=((S.aV n l).1).1∧ []=((S.aV n l).1).2∧false=(S.aV n l).2)∧((!decide (S.yR n=z0))=false→(∃(x:Nat),(z0=(x:Int)∧S.pw n=S.bo n l x∧ []=S.ny)∧x≤S.kL l)∧∀(x:Nat),x≤S.kL l→((bif decide ((x:Int)<(aq l)) then decide ((x:Int)<(40:Int)) else false)=true→(z0≤(x:Int)∧(x:Int)<(aq l))∧True∧((XA l x)=true→(aT ((x:Int)+z1))∧∃(ag:Nat),Xz x ag n l)∧((XA l x)=false→True∧((!decide ((S.au (S.bo n l x,S.ny)).2=z0))=true→S.bo n l x=((S.aV n l).1).1∧S.ny=((S.aV n l).1).2∧false=(S.aV n l).2)∧((!decide ((S.au (S.bo n l x,S.ny)).2=z0))=false→(z0≤(x:Int)∧(x:Int)<(aq l))∧True∧((!decide (((EL n l x).2).2=z0))=true→(aT ((x:Int)+z1))∧∃(ag:Nat),Xz x ag n l)∧((!decide (((EL n l x).2).2=z0))=false→True∧((!decide ((LW n l x).2=(↑(List.length ((EL n l x).1)):Int)))=true→S.bo n l x=((S.aV n l).1).1∧S.ny=((S.aV n l).1).2∧false=(S.aV n l).2)∧((!decide ((LW n l x).2=(↑(List.length ((EL n l x).1)):Int)))=false→(aT ((x:Int)+z1))∧∃(ag:Nat),((x:Int)+z1=(ag:Int)∧((LW n l x).1).1=S.bo n l ag∧((LW n l x).1).2=S.ny)∧ag≤S.kL l∧S.ai (S.kL l) ag<S.ai (S.kL l) x)))))∧((bif decide ((x:Int)<(aq l)) then decide ((x:Int)<(40:Int)) else false)=false→S.bo n l x=((S.aV n l).1).1∧S.ny=((S.aV n l).1).2∧true=(S.aV n l).2))
def uQ(l:List (Int×Int×Int×List UInt8))(x:Nat):=List.getD l ((x:Int).toNat) (z0,z0,z0,[])
def Bp(l:List (Int×Int×Int×List UInt8))(x:Nat):=S.aU ((uQ l x).1) (((uQ l x).2).1) ((((uQ l x).2).2).1) ((((uQ l x).2).2).2)
def LX(l:List (Int×Int×Int×List UInt8))(x:Nat):=S.c9 (((S.aS l x).1).1) (((S.aS l x).1).2) ((uQ l x).1) (((uQ l x).2).1) ((((uQ l x).2).2).1) ((((uQ l x).2).2).2)
def ql(l:List (Int×Int×Int×List UInt8)):=S.au ((S.aV (150:Int) l).1)
def XB(x ag:Nat)(l:List (Int×Int×Int×List UInt8)):=((x:Int)+z1=(ag:Int)∧(S.aS l x).2=(S.aS l ag).2∧((S.aS l x).1).1=((S.aS l ag).1).1∧((S.aS l x).1).2=((S.aS l ag).1).2)∧S.qj l ag∧S.ai (S.kL l) ag<S.ai (S.kL l) x
def Qf(l:List (Int×Int×Int×List UInt8)):Prop :=
 (∃(x:Nat),(z0=(x:Int)∧z0=(S.aS l x).2∧ []=((S.aS l x).1).1∧ []=((S.aS l x).1).2)∧S.qj l x)∧∀(x:Nat),S.qj l x→((bif decide ((x:Int)<(aq l)) then decide ((x:Int)<(40:Int)) else false)=true→(z0≤(x:Int)∧(x:Int)<(aq l))∧True∧((!decide ((↑(S.len ((((uQ l x).2).2).2)):Int)≤(2500:Int)))=true→(aT ((x:Int)+z1))∧∃(ag:Nat),XB x ag l)∧((!decide ((↑(S.len ((((uQ l x).2).2).2)):Int)≤(2500:Int)))=false→(z0≤(x:Int)∧(x:Int)<(aq l))∧True∧(z0≤(x:Int)∧(x:Int)<(aq l))∧True∧((bif !decide ((LX l x).2=z0) then true else !decide ((Bp l x).2=z0))=true→(aT ((x:Int)+z1))∧∃(ag:Nat),XB x ag l)∧((bif !decide ((LX l x).2=z0) then true else !decide ((Bp l x).2=z0))=false→(aT ((S.aS l x).2+(↑(List.length ((Bp l x).1)):Int)))∧(decide ((9472:Int)<(S.aS l x).2+(↑(List.length ((Bp l x).1)):Int))=true→True∧true=true)∧(decide ((9472:Int)<(S.aS l x).2+(↑(List.length ((Bp l x).1)):Int))=false→(aT ((S.aS l x).2+(↑(List.length ((Bp l x).1)):Int)))∧(aT ((x:Int)+z1))∧∃(ag:Nat),((x:Int)+z1=(ag:Int)∧(S.aS l x).2+(↑(List.length ((Bp l x).1)):Int)=(S.aS l ag).2∧((LX l x).1).1=((S.aS l ag).1).1∧((LX l x).1).2=((S.aS l ag).1).2)∧S.qj l ag∧S.ai (S.kL l) ag<S.ai (S.kL l) x))))∧((bif decide ((x:Int)<(aq l)) then decide ((x:Int)<(40:Int)) else false)=false→S.ig (150:Int)∧True∧(((S.aV (150:Int) l).2=true→(decide ((ql l).2=z0)=true→(decide ((((ql l).1).2).1=(S.aS l x).2)=true→S.small (((((ql l).1).2).2).2)∧S.small (((S.aS l x).1).2)∧True∧(S.iQ (((((ql l).1).2).2).1) (((((ql l).1).2).2).2) (((S.aS l x).1).1) (((S.aS l x).1).2)=true→True)∧(S.iQ (((((ql l).1).2).2).1) (((((ql l).1).2).2).2) (((S.aS l x).1).1) (((S.aS l x).1).2)=false→True))∧(decide ((((ql l).1).2).1=(S.aS l x).2)=false→True))∧(decide ((ql l).2=z0)=false→True))∧((S.aV (150:Int) l).2=false→True))∧(bif (S.aV (150:Int) l).2 then bif decide ((ql l).2=z0) then bif decide ((((ql l).1).2).1=(S.aS l x).2) then bif S.iQ (((((ql l).1).2).2).1) (((((ql l).1).2).2).2) (((S.aS l x).1).1) (((S.aS l x).1).2) then true else false else false else false else false)=true)
end Go

end
section
set_option linter.unusedVariables false
namespace Go
theorem df {p:Prop} [Decidable p]:decide p=false↔¬p:=decide_eq_false_iff_not
theorem dt {p:Prop} [Decidable p]:(decide p=true)=p:=decide_eq_true_eq
theorem lc {α:Type} {a:α} {l:List α}:(a::l).length=l.length+1:=List.length_cons
theorem ln {α:Type}:([]:List α).length=0:=List.length_nil
theorem tn(n:Nat):(n:Int).toNat=n:=Int.toNat_natCast n
theorem nf {b:Bool}:((!b)=false)=(b=true):=Bool.not_eq_false' b
theorem nt {b:Bool}:((!b)=true)=(b=false):=Bool.not_eq_true' b
theorem alI(b:List UInt8)(hp:b.length≤140737488355328)(hf:Vg.Row.ok (Vg.PS.flat [.one (.slice [.int .u8])]) b):adf b:=by
 delta adf lR
 have k8:b.length≤9223372036854775807:=hf.1.1
 clear hf
 refine⟨?_,?_⟩
 · omega
 rfl
theorem alJ(v:Int)(l:List UInt8)(hp:S.yB l v)(hf:Vg.Row.ok (Vg.TA.fH [.own 50000, .jo (.int .i64)]) v)(hg:Vg.gD.ok [.row 5 [.int .u8]] (l,())):adg v l:=by
 delta adg q0 lR z0
 have alK: -9223372036854775808≤v∧v≤9223372036854775807:=hf.1
 have pC:l.length≤9223372036854775807:=hg.1.1
 clear hf hg
 obtain⟨XC,hp2⟩:=hp
 refine⟨?_,?_⟩
 · refine⟨((l),(v)),?_⟩
   try dsimp only
   with_reducible and_intros
   omega
   rfl
   exact⟨XC,Int.le_refl _,rfl⟩
 intro x1 h2
 refine⟨?_,?_⟩
 · intro h3
   try simp only [dt] at h3
   with_reducible and_intros
   iterate 2 omega
   · (have hl:=S.ue h2;have hu:=S.yE h2;simp;omega)
   iterate 2 omega
   refine⟨((Prod.fst x1++ [UInt8.ofNat (Int.toNat (Vg.cF (Vg.bf (Prod.snd x1) (127:Int)%(256:Int)) (128:Int)))]),(Prod.snd x1/(2:Int)^Int.toNat (7:Int))),?_⟩
   try dsimp only
   with_reducible and_intros
   omega
   rfl
   · (have hl:=S.ue h2;have hu:=S.yE h2;exact S.SB h2 h3 (by omega))
   · (have hl:=S.ue h2;have hu:=S.yE h2;simp;omega)
 intro h4
 try simp only [df] at h4
 refine⟨?_,?_⟩
 · (have hl:=S.ue h2;have hu:=S.yE h2;simp;omega)
 (have hl:=S.ue h2;have hu:=S.yE h2;exact S.US h2 h4)
theorem alL(s:List UInt8)(l:List UInt8)(hp:S.lB l s)(hf:Vg.Row.ok (Vg.TA.fH [.own 50000, .jo (.str)]) s)(hg:Vg.gD.ok [.row 5 [.int .u8]] (l,())):adh s l:=by
 delta adh lR aq
 have XD:s.length≤9223372036854775807:=hf.1
 have pC:l.length≤9223372036854775807:=hg.1.1
 clear hf hg
 obtain⟨XC,hp2⟩:=hp
 have :=S.kp s.length
 with_reducible and_intros
 · simp only [S.yB];omega
 · simp only [List.length_append];omega
 simp [S.text]
theorem alM(b:List UInt8)(v:Int)(hp:b.length≤35184372088832)(hf:Vg.Row.ok (Vg.PS.flat [.one (.slice [.int .u8]), .one (.int .i64)]) (b,v)):adi b v:=by
 delta adi q1 lR z0 z1
 have k8:b.length≤9223372036854775807:=hf.1.1
 have alK: -9223372036854775808≤v∧v≤9223372036854775807:=hf.2.1
 clear hf
 refine⟨?_,?_⟩
 · intro h1
   try simp only [V.rf,dt] at h1
   refine⟨?_,?_⟩
   · grind [S.iK,S.hU,S.iF]
   grind [S.iK,S.hU,S.iF]
 intro h2
 try simp only [V.hC,df] at h2
 with_reducible and_intros
 omega
 exact⟨by omega,by omega⟩
 iterate 2 (grind [S.iK,S.hU,S.iF])
theorem alN(b:List UInt8)(s:List UInt8)(hp:S.lB b s)(hf:Vg.Row.ok (Vg.PS.flat [.one (.slice [.int .u8]), .one (.str)]) (b,s)):adj b s:=by
 delta adj lR
 have k8:b.length≤9223372036854775807:=hf.1.1
 have XD:s.length≤9223372036854775807:=hf.2.1
 clear hf
 with_reducible and_intros
 · simp only [S.lB] at *;omega
 omega
 rfl
theorem alO(r1:List UInt8)(r2:Int)(r3:Int)(hp:True)(hf:Vg.Row.ok (Vg.PS.flat [.agg [.slice [.int .u8], .int .i64, .int .i64]]) (r1,r2,r3)):adk r1 r2 r3:=by
 delta adk z0 aq
 have Jz:r1.length≤9223372036854775807:=hf.1.1
 have JA: -9223372036854775808≤r2∧r2≤9223372036854775807:=hf.2.1
 have JB: -9223372036854775808≤r3∧r3≤9223372036854775807:=hf.2.2.1
 clear hf
 simp only [S.inside];cases decide (0≤r2)<;>rfl
theorem alP(r1:List UInt8)(r2:Int)(r3:Int)(hp:r1.length≤140737488355328)(hf:Vg.Row.ok (Vg.PS.flat [.agg [.slice [.int .u8], .int .i64, .int .i64]]) (r1,r2,r3)):adl r1 r2 r3:=by
 delta adl lR z0 z1
 have Jz:r1.length≤9223372036854775807:=hf.1.1
 have JA: -9223372036854775808≤r2∧r2≤9223372036854775807:=hf.2.1
 have JB: -9223372036854775808≤r3∧r3≤9223372036854775807:=hf.2.2.1
 clear hf
 with_reducible and_intros
 omega
 · intro h1
   try simp only [dt] at h1
   trivial
 · intro h2
   try simp only [df] at h2
   trivial
 rfl
 · cases decide (r3=0)<;>cases S.inside r1 r2<;>rfl
 simp only [S.cU];by_cases h:r3=0<;>cases S.inside r1 r2<;>simp [h]
theorem alQ(b:List UInt8)(p:Int)(hp:S.dA b p)(hf:Vg.Row.ok (Vg.PS.flat [.one (.slice [.int .u8]), .one (.int .i64)]) (b,p)):adm b p:=by
 delta adm q2 q3 q4 aT z0 z1 aq
 have k8:b.length≤9223372036854775807:=hf.1.1
 have alR: -9223372036854775808≤p∧p≤9223372036854775807:=hf.2.1
 clear hf
 have sT:=hp
 simp only [S.dA] at sT
 refine⟨?_,?_⟩
 · refine⟨(nat_lit 0:Nat),?_⟩
   try dsimp only
   with_reducible and_intros
   exact(S.akW b p).symm
   omega
   exact S.akV hp
 intro x1 h2
 refine⟨?_,?_⟩
 · intro h3
   try simp only [dt] at h3
   with_reducible and_intros
   iterate 3 (grind [S.UQ,S.KG])
 intro h4
 try simp only [df] at h4
 with_reducible and_intros
 iterate 2 omega
 · intro h5
   try simp only [dt] at h5
   with_reducible and_intros
   iterate 3 (grind [S.UQ,S.KG])
 intro h6
 try simp only [df] at h6
 with_reducible and_intros
 omega
 · (have hg:=S.eU h2;omega)
 omega
 · (have hg:=S.eU h2;omega)
 omega
 · (have hg:=S.eU h2;omega)
 omega
 · (have hg:=S.eU h2;omega)
 iterate 2
  · have hg:=S.eU h2
    have hn:=S.gu ((b.getD (p+(x1:Int)).toNat 0).toNat:Int) (by omega)
    have hs:=S.sh (Vg.bf ((b.getD (p+(x1:Int)).toNat 0).toNat:Int) 127) x1 (by omega) (by omega) (by omega)
    try clear h8
    try clear h9
    clear hn
    generalize Vg.bf ((b.getD (p+(x1:Int)).toNat 0).toNat:Int) 127*2^(7*(x1:Int)).toNat=z at *
    omega
 · (have hg:=S.eU h2;have hv:=S.vr (b:=b) (p:=p) hg.1;have hw:=S.vr (b:=b) (p:=p) (x:=x1+1) (by omega);have hn:=S.gu ((b.getD (p+(x1:Int)).toNat 0).toNat:Int) (by omega);have hs:=S.sh (Vg.bf ((b.getD (p+(x1:Int)).toNat 0).toNat:Int) 127) x1 (by omega) (by omega) (by omega);exact hv.1)
 · (have hg:=S.eU h2;have hv:=S.vr (b:=b) (p:=p) hg.1;have hw:=S.vr (b:=b) (p:=p) (x:=x1+1) (by omega);have hn:=S.gu ((b.getD (p+(x1:Int)).toNat 0).toNat:Int) (by omega);have hs:=S.sh (Vg.bf ((b.getD (p+(x1:Int)).toNat 0).toNat:Int) 127) x1 (by omega) (by omega) (by omega);exact hs.1)
 omega
 · (have hg:=S.eU h2;omega)
 · intro h7
   try simp only [dt] at h7
   with_reducible and_intros
   · intro h8
     try simp only [dt] at h8
     with_reducible and_intros
     omega
     · have hg:=S.eU h2
       have hn:=S.gu ((b.getD (p+(x1:Int)).toNat 0).toNat:Int) (by omega)
       have hs:=S.sh (Vg.bf ((b.getD (p+(x1:Int)).toNat 0).toNat:Int) 127) x1 (by omega) (by omega) (by omega)
       try clear h8
       try clear h9
       clear hn
       generalize Vg.bf ((b.getD (p+(x1:Int)).toNat 0).toNat:Int) 127*2^(7*(x1:Int)).toNat=z at *
       omega
     omega
     · have hg:=S.eU h2
       have hn:=S.gu ((b.getD (p+(x1:Int)).toNat 0).toNat:Int) (by omega)
       have hs:=S.sh (Vg.bf ((b.getD (p+(x1:Int)).toNat 0).toNat:Int) 127) x1 (by omega) (by omega) (by omega)
       try clear h8
       try clear h9
       clear hn
       generalize Vg.bf ((b.getD (p+(x1:Int)).toNat 0).toNat:Int) 127*2^(7*(x1:Int)).toNat=z at *
       omega
     omega
     have hg:=S.eU h2
     have hn:=S.gu ((b.getD (p+(x1:Int)).toNat 0).toNat:Int) (by omega)
     have hs:=S.sh (Vg.bf ((b.getD (p+(x1:Int)).toNat 0).toNat:Int) 127) x1 (by omega) (by omega) (by omega)
     try clear h8
     try clear h9
     clear hn
     generalize Vg.bf ((b.getD (p+(x1:Int)).toNat 0).toNat:Int) 127*2^(7*(x1:Int)).toNat=z at *
     omega
   · intro h9
     try simp only [df] at h9
     trivial
   · intro dz
     with_reducible and_intros
     · exact(S.zJ hp h2 (by have hg:=S.eU h2;omega) (by omega) (by omega) dz).1
     · exact(S.zJ hp h2 (by have hg:=S.eU h2;omega) (by omega) (by omega) dz).2.1
     · exact(S.zJ hp h2 (by have hg:=S.eU h2;omega) (by omega) (by omega) dz).2.2
   intro eI
   with_reducible and_intros
   omega
   · clear eI
     have hg:=S.eU h2
     omega
   · exact(S.zK hp h2 (by have hg:=S.eU h2;omega) (by omega) (by omega) eI).1
   · exact(S.zK hp h2 (by have hg:=S.eU h2;omega) (by omega) (by omega) eI).2.1
   · exact(S.zK hp h2 (by have hg:=S.eU h2;omega) (by omega) (by omega) eI).2.2
 intro dR
 try simp only [df] at dR
 refine⟨(x1+nat_lit 1),?_⟩
 try dsimp only
 with_reducible and_intros
 · (have hg:=S.eU h2;have hv:=S.vr (b:=b) (p:=p) hg.1;have hw:=S.vr (b:=b) (p:=p) (x:=x1+1) (by omega);have hn:=S.gu ((b.getD (p+(x1:Int)).toNat 0).toNat:Int) (by omega);have hs:=S.sh (Vg.bf ((b.getD (p+(x1:Int)).toNat 0).toNat:Int) 127) x1 (by omega) (by omega) (by omega);exact S.O3 hp h2 (by omega))
 omega
 · (have hg:=S.eU h2;exact S.SA hp h2 (by omega) (by omega) (by omega))
 · (have hg:=S.eU h2;simp only [S.ai];omega)
theorem afV(b:List UInt8)(p:Int)(b9:Int)(hp:S.dA b p)(hf:Vg.Row.ok (Vg.PS.flat [.one (.slice [.int .u8]), .one (.int .i64), .one (.int .i64)]) (b,p,b9)):Wu b p b9:=by
 delta Wu q5 aT z0 aq
 have k8:b.length≤9223372036854775807:=hf.1.1
 have alR: -9223372036854775808≤p∧p≤9223372036854775807:=hf.2.1
 have XE: -9223372036854775808≤b9∧b9≤9223372036854775807:=hf.2.2.1
 clear hf
 have hb:=S.Nc hp
 with_reducible and_intros
 omega
 · intro h1
   try simp only [nt,df] at h1
   with_reducible and_intros
   iterate 3 (grind [S.bV])
 intro h2
 try simp only [nf,dt] at h2
 refine⟨?_,?_⟩
 · intro h3
   try simp only [dt] at h3
   with_reducible and_intros
   iterate 3 (grind [S.bV])
 intro h4
 try simp only [df] at h4
 with_reducible and_intros
 iterate 2 omega
 · intro h5
   try simp only [dt] at h5
   with_reducible and_intros
   iterate 3 (grind [S.bV])
 intro h6
 try simp only [df] at h6
 with_reducible and_intros
 iterate 7 omega
 iterate 3 (grind [S.bV])
theorem afW(r1:List UInt8)(r2:Int)(r3:Int)(b9:Int)(hp:r1.length≤140737488355328)(hf:Vg.Row.ok (Vg.PS.flat [.agg [.slice [.int .u8], .int .i64, .int .i64], .one (.int .i64)]) (r1,r2,r3,b9)):Wv r1 r2 r3 b9:=by
 delta Wv lR z0
 have Jz:r1.length≤9223372036854775807:=hf.1.1
 have JA: -9223372036854775808≤r2∧r2≤9223372036854775807:=hf.2.1
 have JB: -9223372036854775808≤r3∧r3≤9223372036854775807:=hf.2.2.1
 have XE: -9223372036854775808≤b9∧b9≤9223372036854775807:=hf.2.2.2.1
 clear hf
 with_reducible and_intros
 omega
 · intro h1
   try simp only [nt,df] at h1
   with_reducible and_intros
   iterate 4 (grind [S.bj,S.dA,S.cU,S.inside])
 intro h2
 try simp only [nf,dt] at h2
 with_reducible and_intros
 grind [S.bj,S.dA,S.cU,S.inside]
 · intro h3
   try simp only [nt,df] at h3
   with_reducible and_intros
   iterate 4 (grind [S.bj,S.dA,S.cU,S.inside])
 intro h4
 try simp only [nf,dt] at h4
 with_reducible and_intros
 iterate 4 (grind [S.bj,S.dA,S.cU,S.inside])
theorem afX(r1:List UInt8)(r2:Int)(r3:Int)(hp:r1.length≤140737488355328)(hf:Vg.Row.ok (Vg.PS.flat [.agg [.slice [.int .u8], .int .i64, .int .i64]]) (r1,r2,r3)):Ww r1 r2 r3:=by
 delta Ww lR z0
 have Jz:r1.length≤9223372036854775807:=hf.1.1
 have JA: -9223372036854775808≤r2∧r2≤9223372036854775807:=hf.2.1
 have JB: -9223372036854775808≤r3∧r3≤9223372036854775807:=hf.2.2.1
 clear hf
 with_reducible and_intros
 omega
 · intro h1
   try simp only [nt,df] at h1
   with_reducible and_intros
   iterate 4 (grind [S.af,S.dA,S.cU,S.inside])
 intro h2
 try simp only [nf,dt] at h2
 with_reducible and_intros
 grind [S.af,S.dA,S.cU,S.inside]
 · intro h3
   try simp only [nt,df] at h3
   with_reducible and_intros
   iterate 4 (grind [S.af,S.dA,S.cU,S.inside])
 intro h4
 try simp only [nf,dt] at h4
 with_reducible and_intros
 iterate 4 (grind [S.af,S.dA,S.cU,S.inside])
theorem afY(c:Int)(hp:True)(hf:Vg.Row.ok (Vg.PS.flat [.one (.int .i64)]) c):Wx c:=by
 delta Wx z0
 have G4: -9223372036854775808≤c∧c≤9223372036854775807:=hf.1
 clear hf
 simp only [S.bn];grind
theorem afZ(c:Int)(hp:True)(hf:Vg.Row.ok (Vg.PS.flat [.one (.int .i64)]) c):Wy c:=by
 delta Wy z1
 have G4: -9223372036854775808≤c∧c≤9223372036854775807:=hf.1
 clear hf
 refine⟨?_,?_⟩
 · intro h1
   try simp only [dt] at h1
   grind [S.cY]
 intro h2
 try simp only [df] at h2
 refine⟨?_,?_⟩
 · intro h3
   try simp only [dt] at h3
   grind [S.cY]
 intro h4
 try simp only [df] at h4
 refine⟨?_,?_⟩
 · intro h5
   try simp only [dt] at h5
   grind [S.cY]
 intro h6
 try simp only [df] at h6
 grind [S.cY]
theorem af0(c:Int)(hp:0≤c)(hf:Vg.Row.ok (Vg.PS.flat [.one (.int .i64)]) c):Wz c:=by
 delta Wz z0
 have G4: -9223372036854775808≤c∧c≤9223372036854775807:=hf.1
 clear hf
 have e:Vg.bf c 63%256=c%64:=by rw [S.DJ _ hp];omega
 with_reducible and_intros
 iterate 2 omega
 rw [e,S.ud]
 exact S.Ġ c
theorem af1(c:Int)(hp:True)(hf:Vg.Row.ok (Vg.PS.flat [.one (.int .i64)]) c):WA c:=by
 delta WA q6 q7 q8 q9 z0 z1
 have G4: -9223372036854775808≤c∧c≤9223372036854775807:=hf.1
 clear hf
 with_reducible and_intros
 trivial
 · intro h1
   try simp only [nt] at h1
   refine⟨?_,?_⟩
   · simp only [S.sO,nt] at *
     grind
   simp only [S.fb,nt] at *
   grind
 intro h2
 try simp only [nf] at h2
 with_reducible and_intros
 trivial
 · intro h3
   try simp only [dt] at h3
   refine⟨?_,?_⟩
   · (have hc:=S.dD h2;simp only [S.sO,h2];rfl)
   (have hc:=S.dD h2;(simp only [S.fb,h2,if_true];exact S.ġ c hc.1 (by simp only [S.cY] at *;grind)))
 intro h4
 try simp only [df] at h4
 refine⟨?_,?_⟩
 · intro h5
   try simp only [dt] at h5
   with_reducible and_intros
   iterate 2 omega
   · (have hc:=S.dD h2;omega)
   · (have hc:=S.dD h2;simp only [S.sO,h2];rfl)
   · (have hc:=S.dD h2;(simp only [S.fb,h2,if_true];exact S.ĥ c hc.1 (by simp only [S.cY] at *;grind)))
 intro h6
 try simp only [df] at h6
 refine⟨?_,?_⟩
 · intro h7
   try simp only [dt] at h7
   with_reducible and_intros
   iterate 4 omega
   · (have hc:=S.dD h2;simp only [show Int.toNat 6=6 by rfl,show Int.toNat 12=12 by rfl,show Int.toNat 18=18 by rfl];omega)
   · (have hc:=S.dD h2;omega)
   · (have hc:=S.dD h2;simp only [S.sO,h2];rfl)
   · (have hc:=S.dD h2;(simp only [S.fb,h2,if_true];exact S.Ħ c hc.1 (by simp only [S.cY] at *;grind)))
 intro h8
 try simp only [df] at h8
 with_reducible and_intros
 iterate 4 omega
 · (have hc:=S.dD h2;simp only [show Int.toNat 6=6 by rfl,show Int.toNat 12=12 by rfl,show Int.toNat 18=18 by rfl];omega)
 iterate 2 omega
 · (have hc:=S.dD h2;simp only [show Int.toNat 6=6 by rfl,show Int.toNat 12=12 by rfl,show Int.toNat 18=18 by rfl];omega)
 · (have hc:=S.dD h2;omega)
 · (have hc:=S.dD h2;simp only [S.sO,h2];rfl)
 · (have hc:=S.dD h2;(simp only [S.fb,h2,if_true];exact S.ħ c hc.1 hc.2 (by simp only [S.cY] at *;grind)))
theorem af2(b:List UInt8)(hp:0<b.length)(hf:Vg.Row.ok (Vg.PS.flat [.one (.slice [.int .u8])]) b):WE b:=by
 delta WE vO WB WC WD Ś On ś Ŝ ŝ Ş ş q21 q22 q23 aT z0 z1 aq
 have k8:b.length≤9223372036854775807:=hf.1.1
 clear hf
 have sT:(0:Int)<b.length:=by omega
 with_reducible and_intros
 iterate 2 omega
 · intro h1
   try simp only [dt] at h1
   refine⟨?_,?_⟩
   · rw [S.uf1 (b:=b) (by with_reducible assumption)]
   rw [S.uf1 (b:=b) (by with_reducible assumption)]
 intro h2
 try simp only [df] at h2
 with_reducible and_intros
 iterate 2 omega
 · intro h3
   try simp only [dt] at h3
   with_reducible and_intros
   iterate 2 omega
   · intro h4
     try simp only [dt] at h4
     refine⟨?_,?_⟩
     · (have hn:=S.pa (b:=b) (by with_reducible assumption) (by with_reducible assumption);rw [S.oq hn (by omega) (by omega)])
     (have hn:=S.pa (b:=b) (by with_reducible assumption) (by with_reducible assumption);rw [S.oq hn (by omega) (by omega)])
   intro h5
   try simp only [df] at h5
   with_reducible and_intros
   iterate 3 omega
   · refine⟨(nat_lit 0:Nat),?_⟩
     try dsimp only
     with_reducible and_intros
     omega
     · (have hn:=S.pa (b:=b) (by with_reducible assumption) (by with_reducible assumption);exact S.ak0 (by with_reducible assumption))
     · (have hn:=S.pa (b:=b) (by with_reducible assumption) (by with_reducible assumption);exact S.Nf hn (by omega) (by omega))
   intro x6 h7
   refine⟨?_,?_⟩
   · intro h8
     try simp only [dt] at h8
     with_reducible and_intros
     iterate 4 omega
     · intro h9
       try simp only [nt,df,tn] at h9
       refine⟨?_,?_⟩
       · have hn:=S.pa (b:=b) (by with_reducible assumption) (by with_reducible assumption)
         have hb:=S.bx h7
         have hx:(x6:Int)+1<2:=by(have hc:=S.bM b 2 (by omega) (by omega);simp only [hc,show Int.toNat 2=2 by rfl] at *;omega)
         simp only [S.hX b 2 x6 hx,S.jR b 2 x6 hx] at *
         rw [S.ri hn h7 (by omega) (by with_reducible assumption)]
       have hn:=S.pa (b:=b) (by with_reducible assumption) (by with_reducible assumption)
       have hb:=S.bx h7
       have hx:(x6:Int)+1<2:=by(have hc:=S.bM b 2 (by omega) (by omega);simp only [hc,show Int.toNat 2=2 by rfl] at *;omega)
       simp only [S.hX b 2 x6 hx,S.jR b 2 x6 hx] at *
       rw [S.ri hn h7 (by omega) (by with_reducible assumption)]
     intro dz
     try simp only [nf,dt,tn] at dz
     with_reducible and_intros
     iterate 2 omega
     iterate 3
      · (have hn:=S.pa (b:=b) (by with_reducible assumption) (by with_reducible assumption);(have hb:=S.bx h7;(try simp only [S.bM b 2 (by omega) (by omega),show Int.toNat 2=2 by rfl] at *);simp only [show Int.toNat 6=6 by rfl,S.ai] at *;omega))
     exact Int.natCast_nonneg _
     omega
     · (have hn:=S.pa (b:=b) (by with_reducible assumption) (by with_reducible assumption);(have hb:=S.bx h7;(try simp only [S.bM b 2 (by omega) (by omega),show Int.toNat 2=2 by rfl] at *);omega))
     refine⟨(x6+nat_lit 1),?_⟩
     try dsimp only
     with_reducible and_intros
     omega
     · have hn:=S.pa (b:=b) (by with_reducible assumption) (by with_reducible assumption)
       have hb:=S.bx h7
       have hx:(x6:Int)+1<2:=by(have hc:=S.bM b 2 (by omega) (by omega);simp only [hc,show Int.toNat 2=2 by rfl] at *;omega)
       rw [S.hX b 2 x6 hx]
       exact S.Nh h7 (by omega)
     · have hn:=S.pa (b:=b) (by with_reducible assumption) (by with_reducible assumption)
       have hb:=S.bx h7
       have hx:(x6:Int)+1<2:=by(have hc:=S.bM b 2 (by omega) (by omega);simp only [hc,show Int.toNat 2=2 by rfl] at *;omega)
       simp only [S.hX b 2 x6 hx,S.jR b 2 x6 hx] at *
       exact S.IZ h7 (by with_reducible assumption) (by omega)
     · (have hn:=S.pa (b:=b) (by with_reducible assumption) (by with_reducible assumption);(have hb:=S.bx h7;(try simp only [S.bM b 2 (by omega) (by omega),show Int.toNat 2=2 by rfl] at *);simp only [show Int.toNat 6=6 by rfl,S.ai] at *;omega))
   intro eI
   try simp only [df] at eI
   with_reducible and_intros
   trivial
   · intro dR
     try simp only [nt] at dR
     trivial
   · intro lP
     try simp only [nf] at lP
     trivial
   · intro fp
     try simp only [V.rf,nt,df] at fp
     refine⟨?_,?_⟩
     · have hn:=S.pa (b:=b) (by with_reducible assumption) (by with_reducible assumption)
       have hb:=S.bx h7
       have hc:=S.bM b 2 (by omega) (by omega)
       rw [hc] at eI
       have hx:x6+1=2:=by omega
       rw [S.rj hn h7 hx fp rfl]
     have hn:=S.pa (b:=b) (by with_reducible assumption) (by with_reducible assumption)
     have hb:=S.bx h7
     have hc:=S.bM b 2 (by omega) (by omega)
     rw [hc] at eI
     have hx:x6+1=2:=by omega
     rw [S.rj hn h7 hx fp rfl]
   intro jC
   try simp only [V.hC,nf,dt] at jC
   refine⟨?_,?_⟩
   · have hn:=S.pa (b:=b) (by with_reducible assumption) (by with_reducible assumption)
     have hb:=S.bx h7
     have hc:=S.bM b 2 (by omega) (by omega)
     rw [hc] at eI
     have hx:x6+1=2:=by omega
     rw [S.rk hn h7 hx jC rfl]
   have hn:=S.pa (b:=b) (by with_reducible assumption) (by with_reducible assumption)
   have hb:=S.bx h7
   have hc:=S.bM b 2 (by omega) (by omega)
   rw [hc] at eI
   have hx:x6+1=2:=by omega
   rw [S.rk hn h7 hx jC rfl]
 intro xt
 try simp only [df] at xt
 with_reducible and_intros
 iterate 2 omega
 · intro y9
   try simp only [dt] at y9
   with_reducible and_intros
   iterate 2 omega
   · intro sV
     try simp only [dt] at sV
     refine⟨?_,?_⟩
     · (have hn:=S.pb (b:=b) (by with_reducible assumption) (by with_reducible assumption) (by with_reducible assumption);rw [S.oq hn (by omega) (by omega)])
     (have hn:=S.pb (b:=b) (by with_reducible assumption) (by with_reducible assumption) (by with_reducible assumption);rw [S.oq hn (by omega) (by omega)])
   intro EM
   try simp only [df] at EM
   with_reducible and_intros
   iterate 3 omega
   · refine⟨(nat_lit 0:Nat),?_⟩
     try dsimp only
     with_reducible and_intros
     omega
     · (have hn:=S.pb (b:=b) (by with_reducible assumption) (by with_reducible assumption) (by with_reducible assumption);exact S.ak1 (by with_reducible assumption) (by with_reducible assumption))
     · (have hn:=S.pb (b:=b) (by with_reducible assumption) (by with_reducible assumption) (by with_reducible assumption);exact S.Nf hn (by omega) (by omega))
   intro vQ rC
   refine⟨?_,?_⟩
   · intro h22
     try simp only [dt] at h22
     with_reducible and_intros
     iterate 4 omega
     · intro h23
       try simp only [nt,df,tn] at h23
       refine⟨?_,?_⟩
       · have hn:=S.pb (b:=b) (by with_reducible assumption) (by with_reducible assumption) (by with_reducible assumption)
         have hb:=S.bx rC
         have hx:(vQ:Int)+1<3:=by(have hc:=S.bM b 3 (by omega) (by omega);simp only [hc,show Int.toNat 3=3 by rfl] at *;omega)
         simp only [S.hX b 3 vQ hx,S.jR b 3 vQ hx] at *
         rw [S.ri hn rC (by omega) (by with_reducible assumption)]
       have hn:=S.pb (b:=b) (by with_reducible assumption) (by with_reducible assumption) (by with_reducible assumption)
       have hb:=S.bx rC
       have hx:(vQ:Int)+1<3:=by(have hc:=S.bM b 3 (by omega) (by omega);simp only [hc,show Int.toNat 3=3 by rfl] at *;omega)
       simp only [S.hX b 3 vQ hx,S.jR b 3 vQ hx] at *
       rw [S.ri hn rC (by omega) (by with_reducible assumption)]
     intro T6
     try simp only [nf,dt,tn] at T6
     with_reducible and_intros
     iterate 2 omega
     iterate 3
      · (have hn:=S.pb (b:=b) (by with_reducible assumption) (by with_reducible assumption) (by with_reducible assumption);(have hb:=S.bx rC;(try simp only [S.bM b 3 (by omega) (by omega),show Int.toNat 3=3 by rfl] at *);simp only [show Int.toNat 6=6 by rfl,S.ai] at *;omega))
     exact Int.natCast_nonneg _
     omega
     · (have hn:=S.pb (b:=b) (by with_reducible assumption) (by with_reducible assumption) (by with_reducible assumption);(have hb:=S.bx rC;(try simp only [S.bM b 3 (by omega) (by omega),show Int.toNat 3=3 by rfl] at *);omega))
     refine⟨(vQ+nat_lit 1),?_⟩
     try dsimp only
     with_reducible and_intros
     omega
     · have hn:=S.pb (b:=b) (by with_reducible assumption) (by with_reducible assumption) (by with_reducible assumption)
       have hb:=S.bx rC
       have hx:(vQ:Int)+1<3:=by(have hc:=S.bM b 3 (by omega) (by omega);simp only [hc,show Int.toNat 3=3 by rfl] at *;omega)
       rw [S.hX b 3 vQ hx]
       exact S.Nh rC (by omega)
     · have hn:=S.pb (b:=b) (by with_reducible assumption) (by with_reducible assumption) (by with_reducible assumption)
       have hb:=S.bx rC
       have hx:(vQ:Int)+1<3:=by(have hc:=S.bM b 3 (by omega) (by omega);simp only [hc,show Int.toNat 3=3 by rfl] at *;omega)
       simp only [S.hX b 3 vQ hx,S.jR b 3 vQ hx] at *
       exact S.IZ rC (by with_reducible assumption) (by omega)
     · (have hn:=S.pb (b:=b) (by with_reducible assumption) (by with_reducible assumption) (by with_reducible assumption);(have hb:=S.bx rC;(try simp only [S.bM b 3 (by omega) (by omega),show Int.toNat 3=3 by rfl] at *);simp only [show Int.toNat 6=6 by rfl,S.ai] at *;omega))
   intro Ow
   try simp only [df] at Ow
   with_reducible and_intros
   trivial
   · intro h26
     try simp only [nt] at h26
     trivial
   · intro h27
     try simp only [nf] at h27
     trivial
   · intro XF
     try simp only [V.rf,nt,df] at XF
     refine⟨?_,?_⟩
     · have hn:=S.pb (b:=b) (by with_reducible assumption) (by with_reducible assumption) (by with_reducible assumption)
       have hb:=S.bx rC
       have hc:=S.bM b 3 (by omega) (by omega)
       rw [hc] at Ow
       have hx:vQ+1=3:=by omega
       rw [S.rj hn rC hx XF rfl]
     have hn:=S.pb (b:=b) (by with_reducible assumption) (by with_reducible assumption) (by with_reducible assumption)
     have hb:=S.bx rC
     have hc:=S.bM b 3 (by omega) (by omega)
     rw [hc] at Ow
     have hx:vQ+1=3:=by omega
     rw [S.rj hn rC hx XF rfl]
   intro h29
   try simp only [V.hC,nf,dt] at h29
   refine⟨?_,?_⟩
   · have hn:=S.pb (b:=b) (by with_reducible assumption) (by with_reducible assumption) (by with_reducible assumption)
     have hb:=S.bx rC
     have hc:=S.bM b 3 (by omega) (by omega)
     rw [hc] at Ow
     have hx:vQ+1=3:=by omega
     rw [S.rk hn rC hx h29 rfl]
   have hn:=S.pb (b:=b) (by with_reducible assumption) (by with_reducible assumption) (by with_reducible assumption)
   have hb:=S.bx rC
   have hc:=S.bM b 3 (by omega) (by omega)
   rw [hc] at Ow
   have hx:vQ+1=3:=by omega
   rw [S.rk hn rC hx h29 rfl]
 intro h30
 try simp only [df] at h30
 with_reducible and_intros
 iterate 2 omega
 · intro h31
   try simp only [dt] at h31
   with_reducible and_intros
   iterate 2 omega
   · intro h32
     try simp only [dt] at h32
     refine⟨?_,?_⟩
     · (have hn:=S.pc (b:=b) (by with_reducible assumption) (by with_reducible assumption) (by with_reducible assumption) (by with_reducible assumption);rw [S.oq hn (by omega) (by omega)])
     (have hn:=S.pc (b:=b) (by with_reducible assumption) (by with_reducible assumption) (by with_reducible assumption) (by with_reducible assumption);rw [S.oq hn (by omega) (by omega)])
   intro h33
   try simp only [df] at h33
   with_reducible and_intros
   iterate 3 omega
   · refine⟨(nat_lit 0:Nat),?_⟩
     try dsimp only
     with_reducible and_intros
     omega
     · (have hn:=S.pc (b:=b) (by with_reducible assumption) (by with_reducible assumption) (by with_reducible assumption) (by with_reducible assumption);exact S.ak2 (by with_reducible assumption) (by with_reducible assumption))
     · (have hn:=S.pc (b:=b) (by with_reducible assumption) (by with_reducible assumption) (by with_reducible assumption) (by with_reducible assumption);exact S.Nf hn (by omega) (by omega))
   intro vR sH
   refine⟨?_,?_⟩
   · intro h36
     try simp only [dt] at h36
     with_reducible and_intros
     iterate 4 omega
     · intro h37
       try simp only [nt,df,tn] at h37
       refine⟨?_,?_⟩
       · have hn:=S.pc (b:=b) (by with_reducible assumption) (by with_reducible assumption) (by with_reducible assumption) (by with_reducible assumption)
         have hb:=S.bx sH
         have hx:(vR:Int)+1<4:=by(have hc:=S.bM b 4 (by omega) (by omega);simp only [hc,show Int.toNat 4=4 by rfl] at *;omega)
         simp only [S.hX b 4 vR hx,S.jR b 4 vR hx] at *
         rw [S.ri hn sH (by omega) (by with_reducible assumption)]
       have hn:=S.pc (b:=b) (by with_reducible assumption) (by with_reducible assumption) (by with_reducible assumption) (by with_reducible assumption)
       have hb:=S.bx sH
       have hx:(vR:Int)+1<4:=by(have hc:=S.bM b 4 (by omega) (by omega);simp only [hc,show Int.toNat 4=4 by rfl] at *;omega)
       simp only [S.hX b 4 vR hx,S.jR b 4 vR hx] at *
       rw [S.ri hn sH (by omega) (by with_reducible assumption)]
     intro h38
     try simp only [nf,dt,tn] at h38
     with_reducible and_intros
     iterate 2 omega
     iterate 3
      · (have hn:=S.pc (b:=b) (by with_reducible assumption) (by with_reducible assumption) (by with_reducible assumption) (by with_reducible assumption);(have hb:=S.bx sH;(try simp only [S.bM b 4 (by omega) (by omega),show Int.toNat 4=4 by rfl] at *);simp only [show Int.toNat 6=6 by rfl,S.ai] at *;omega))
     exact Int.natCast_nonneg _
     omega
     · (have hn:=S.pc (b:=b) (by with_reducible assumption) (by with_reducible assumption) (by with_reducible assumption) (by with_reducible assumption);(have hb:=S.bx sH;(try simp only [S.bM b 4 (by omega) (by omega),show Int.toNat 4=4 by rfl] at *);omega))
     refine⟨(vR+nat_lit 1),?_⟩
     try dsimp only
     with_reducible and_intros
     omega
     · have hn:=S.pc (b:=b) (by with_reducible assumption) (by with_reducible assumption) (by with_reducible assumption) (by with_reducible assumption)
       have hb:=S.bx sH
       have hx:(vR:Int)+1<4:=by(have hc:=S.bM b 4 (by omega) (by omega);simp only [hc,show Int.toNat 4=4 by rfl] at *;omega)
       rw [S.hX b 4 vR hx]
       exact S.Nh sH (by omega)
     · have hn:=S.pc (b:=b) (by with_reducible assumption) (by with_reducible assumption) (by with_reducible assumption) (by with_reducible assumption)
       have hb:=S.bx sH
       have hx:(vR:Int)+1<4:=by(have hc:=S.bM b 4 (by omega) (by omega);simp only [hc,show Int.toNat 4=4 by rfl] at *;omega)
       simp only [S.hX b 4 vR hx,S.jR b 4 vR hx] at *
       exact S.IZ sH (by with_reducible assumption) (by omega)
     · (have hn:=S.pc (b:=b) (by with_reducible assumption) (by with_reducible assumption) (by with_reducible assumption) (by with_reducible assumption);(have hb:=S.bx sH;(try simp only [S.bM b 4 (by omega) (by omega),show Int.toNat 4=4 by rfl] at *);simp only [show Int.toNat 6=6 by rfl,S.ai] at *;omega))
   intro XG
   try simp only [df] at XG
   with_reducible and_intros
   trivial
   · intro MD
     try simp only [nt] at MD
     trivial
   · intro h41
     try simp only [nf] at h41
     trivial
   · intro h42
     try simp only [V.rf,nt,df] at h42
     refine⟨?_,?_⟩
     · have hn:=S.pc (b:=b) (by with_reducible assumption) (by with_reducible assumption) (by with_reducible assumption) (by with_reducible assumption)
       have hb:=S.bx sH
       have hc:=S.bM b 4 (by omega) (by omega)
       rw [hc] at XG
       have hx:vR+1=4:=by omega
       rw [S.rj hn sH hx h42 rfl]
     have hn:=S.pc (b:=b) (by with_reducible assumption) (by with_reducible assumption) (by with_reducible assumption) (by with_reducible assumption)
     have hb:=S.bx sH
     have hc:=S.bM b 4 (by omega) (by omega)
     rw [hc] at XG
     have hx:vR+1=4:=by omega
     rw [S.rj hn sH hx h42 rfl]
   intro h43
   try simp only [V.hC,nf,dt] at h43
   refine⟨?_,?_⟩
   · have hn:=S.pc (b:=b) (by with_reducible assumption) (by with_reducible assumption) (by with_reducible assumption) (by with_reducible assumption)
     have hb:=S.bx sH
     have hc:=S.bM b 4 (by omega) (by omega)
     rw [hc] at XG
     have hx:vR+1=4:=by omega
     rw [S.rk hn sH hx h43 rfl]
   have hn:=S.pc (b:=b) (by with_reducible assumption) (by with_reducible assumption) (by with_reducible assumption) (by with_reducible assumption)
   have hb:=S.bx sH
   have hc:=S.bM b 4 (by omega) (by omega)
   rw [hc] at XG
   have hx:vR+1=4:=by omega
   rw [S.rk hn sH hx h43 rfl]
 intro h44
 try simp only [df] at h44
 refine⟨?_,?_⟩
 · rw [S.uf0 (b:=b) (by with_reducible assumption) (by with_reducible assumption) (by with_reducible assumption) (by with_reducible assumption)]
 rw [S.uf0 (b:=b) (by with_reducible assumption) (by with_reducible assumption) (by with_reducible assumption) (by with_reducible assumption)]
theorem aga(b:List UInt8)(hp:S.small b)(hf:Vg.Row.ok (Vg.PS.flat [.one (.slice [.int .u8])]) b):WG b:=by
 delta WG z0
 have k8:b.length≤9223372036854775807:=hf.1.1
 clear hf
 simp only [S.small] at hp
 refine⟨?_,?_⟩
 · refine⟨((b),([])),?_⟩
   try dsimp only
   with_reducible and_intros
   iterate 2 with_reducible rfl
   exact S.aeS b
 intro x1 h2
 refine⟨?_,?_⟩
 · intro h3
   try simp only [dt] at h3
   with_reducible and_intros
   omega
   · (have hd:=S.I0 h2 (by with_reducible assumption);simp only [S.len,List.length_drop,lc,ln] at *;omega)
   iterate 2
    · (have hd:=S.I0 h2 (by with_reducible assumption);omega)
   refine⟨((List.drop (Int.toNat (Prod.snd (S.aM (Prod.fst x1)))) (Prod.fst x1)),(Prod.snd x1++ [Prod.fst (S.aM (Prod.fst x1))])),?_⟩
   try dsimp only
   with_reducible and_intros
   iterate 2 with_reducible rfl
   exact S.SD h2 h3
   · (have hd:=S.I0 h2 (by with_reducible assumption);simp only [S.len,List.length_drop,lc,ln] at *;omega)
 intro h4
 try simp only [df] at h4
 exact(S.UT h2 (by with_reducible assumption))
theorem agb(c:Int)(hp:True)(hf:Vg.Row.ok (Vg.PS.flat [.one (.int .i64)]) c):WH c:=by
 delta WH q24 aT z0 z1
 have G4: -9223372036854775808≤c∧c≤9223372036854775807:=hf.1
 clear hf
 refine⟨?_,?_⟩
 · refine⟨(nat_lit 0:Nat),?_⟩
   try dsimp only
   refine⟨?_,?_⟩
   · omega
   simp [S.kX]
 intro x1 h2
 refine⟨?_,?_⟩
 · intro h3
   try simp only [dt] at h3
   with_reducible and_intros
   iterate 2 omega
   · intro h4
     try simp only [V.Gu,dt,tn] at h4
     exact S.Nj (x:=x1) (by omega) (S.Nn h4)
   intro h5
   try simp only [V.vk,df,tn] at h5
   with_reducible and_intros
   iterate 2 omega
   refine⟨(x1+nat_lit 1),?_⟩
   try dsimp only
   with_reducible and_intros
   omega
   exact S.Nk (x:=x1) h2 (by omega) (S.UU h5)
   simp only [S.ai];omega
 intro h6
 try simp only [df] at h6
 exact S.Nl h2 (by omega)
theorem agc(c:Int)(hp:True)(hf:Vg.Row.ok (Vg.PS.flat [.one (.int .i64)]) c):WI c:=by
 unfold WI
 have G4: -9223372036854775808≤c∧c≤9223372036854775807:=hf.1
 clear hf
 simp only [S.digit];grind
theorem agd(c:Int)(hp:True)(hf:Vg.Row.ok (Vg.PS.flat [.one (.int .i64)]) c):WJ c:=by
 delta WJ q25 aT z0 z1
 have G4: -9223372036854775808≤c∧c≤9223372036854775807:=hf.1
 clear hf
 refine⟨?_,?_⟩
 · refine⟨(nat_lit 0:Nat),?_⟩
   try dsimp only
   refine⟨?_,?_⟩
   · omega
   simp [S.lC]
 intro x1 h2
 refine⟨?_,?_⟩
 · intro h3
   try simp only [dt] at h3
   with_reducible and_intros
   iterate 2 omega
   · intro h4
     try simp only [V.Gu,dt,tn] at h4
     with_reducible and_intros
     iterate 2
      · have hs:=(S.Gy (c:=c) (x:=x1) h2 h3 (S.Nn h4)).2
        clear h4
        generalize List.getD [32,32,32,32,32,80,32] (Int.toNat (x1:Int)) (0:Int)=X at *
        omega
     exact(S.Gy (x:=x1) h2 (by omega) (S.Nn h4)).1
   intro h5
   try simp only [V.vk,df,tn] at h5
   with_reducible and_intros
   iterate 2 omega
   refine⟨(x1+nat_lit 1),?_⟩
   try dsimp only
   with_reducible and_intros
   omega
   exact S.SE (x:=x1) h2 (by omega) (S.UU h5)
   simp only [S.ai];omega
 intro h6
 try simp only [df] at h6
 exact S.SF h2 (by omega)
theorem age(u:List Int)(hp:S.U4 u)(hf:Vg.Row.ok (Vg.PS.flat [.one (.slice [.int .i64])]) u):WK u:=by
 delta WK TG aT lR z0 z1 aq
 have aoZ:u.length≤9223372036854775807:=hf.1.1
 clear hf
 have hq:=hp.1
 refine⟨?_,?_⟩
 · refine⟨((nat_lit 0:Nat),([])),?_⟩
   try dsimp only
   with_reducible and_intros
   omega
   rfl
   exact S.Ĩ u
 intro x1 h2
 refine⟨?_,?_⟩
 · intro h3
   try simp only [dt] at h3
   with_reducible and_intros
   iterate 2 omega
   iterate 2 trivial
   omega
   · have :=h2.2.2;have :=S.GA (S.br (List.getD u (Int.toNat (x1.1:Int)) 0));omega
   · intro h4
     try simp only [dt,tn] at h4
     exact S.Nt h2 h3 h4
   intro h5
   try simp only [df,tn] at h5
   with_reducible and_intros
   · have :=h2.2.2;have :=S.GA (S.br (List.getD u (Int.toNat (x1.1:Int)) 0));omega
   iterate 2 omega
   refine⟨((Prod.fst x1+nat_lit 1),(Prod.snd x1++S.fb (S.br (List.getD u (Int.toNat (↑(Prod.fst x1):Int)) (0:Int))))),?_⟩
   try dsimp only
   with_reducible and_intros
   omega
   rfl
   exact S.Ns h2 h3 h5
   simp only [S.ai,S.len];omega
 intro h6
 try simp only [df] at h6
 exact S.SJ h2 (by with_reducible assumption)
theorem agf(b:List UInt8)(hp:S.small b)(hf:Vg.Row.ok (Vg.PS.flat [.one (.slice [.int .u8])]) b):WL b:=by
 delta WL Js Oo aT z0 z1 aq
 have k8:b.length≤9223372036854775807:=hf.1.1
 clear hf
 have sU:b.length≤1099511627776:=hp
 with_reducible and_intros
 omega
 · refine⟨((nat_lit 0:Nat),(([]),([]))),?_⟩
   try dsimp only
   with_reducible and_intros
   omega
   iterate 2 with_reducible rfl
   exact S.aeU _
 intro x1 h2
 refine⟨?_,?_⟩
 · intro h3
   try simp only [dt] at h3
   with_reducible and_intros
   iterate 3 omega
   trivial
   · intro h4
     trivial
   · intro h5
     trivial
   · intro h6
     try simp only [V.rf] at h6
     with_reducible and_intros
     · (have hq:=S.lE h2 sU;simp only [lc,ln];omega)
     omega
     · (have hq:=S.lE h2 sU;omega)
     refine⟨((Prod.fst x1+nat_lit 1),((Prod.fst (Prod.snd x1)),(Prod.snd (Prod.snd x1)++ [List.getD (S.decode b) (Int.toNat (↑(Prod.fst x1):Int)) (0:Int)]))),?_⟩
     try dsimp only
     with_reducible and_intros
     omega
     iterate 2 with_reducible rfl
     exact S.SK h2 h3 (S.U7 (by with_reducible assumption))
     · (have hq:=S.lE h2 sU;simp only [S.ai,S.len];omega)
   intro h7
   try simp only [V.hC] at h7
   refine⟨?_,?_⟩
   · intro h8
     try simp only [dt] at h8
     with_reducible and_intros
     · (have hq:=S.lE h2 sU;exact hq.1)
     · (have hq:=S.lE h2 sU;simp only [lc,ln];omega)
     omega
     · (have hq:=S.lE h2 sU;omega)
     refine⟨((Prod.fst x1+nat_lit 1),((Prod.fst (Prod.snd x1)++ [S.fX (Prod.snd (Prod.snd x1))]),([]))),?_⟩
     try dsimp only
     with_reducible and_intros
     omega
     iterate 2 with_reducible rfl
     exact S.U6 h2 h3 (S.KT (by with_reducible assumption)) (by with_reducible assumption)
     · (have hq:=S.lE h2 sU;simp only [S.ai,S.len];omega)
   intro h9
   try simp only [df] at h9
   with_reducible and_intros
   omega
   · (have hq:=S.lE h2 sU;omega)
   refine⟨((Prod.fst x1+nat_lit 1),((Prod.fst (Prod.snd x1)),(Prod.snd (Prod.snd x1)))),?_⟩
   try dsimp only
   with_reducible and_intros
   omega
   iterate 2 with_reducible rfl
   exact S.SL h2 h3 (S.KT (by with_reducible assumption)) (by with_reducible assumption)
   · (have hq:=S.lE h2 sU;simp only [S.ai,S.len];omega)
 intro dz
 try simp only [df] at dz
 refine⟨?_,?_⟩
 · intro eI
   try simp only [dt] at eI
   with_reducible and_intros
   · (have hq:=S.lE h2 sU;exact hq.1)
   · (have hq:=S.lE h2 sU;simp only [lc,ln];omega)
   exact S.SM h2 (by with_reducible assumption) (by with_reducible assumption)
 intro dR
 try simp only [df] at dR
 exact S.SN h2 (by with_reducible assumption) (by with_reducible assumption)
theorem agh(s:List UInt8)(hp:S.small s)(hf:Vg.Row.ok (Vg.PS.flat [.one (.str)]) s):WM s:=by
 delta WM z0 z1 aq
 have XD:s.length≤9223372036854775807:=hf.1
 clear hf
 with_reducible and_intros
 omega
 · intro h1
   try simp only [dt] at h1
   with_reducible and_intros
   iterate 3 omega
 · intro h2
   try simp only [df] at h2
   trivial
 exact S.SO s
theorem agi(s:List UInt8)(hp:True)(hf:Vg.Row.ok (Vg.PS.flat [.one (.str)]) s):WN s:=by
 unfold WN
 have XD:s.length≤9223372036854775807:=hf.1
 clear hf
 simp
theorem agj(a:List UInt8)(b:List UInt8)(hp:True)(hf:Vg.Row.ok (Vg.PS.flat [.one (.str), .one (.str)]) (a,b)):WO a b:=by
 delta WO z0 z1
 have za:a.length≤9223372036854775807:=hf.1
 have k8:b.length≤9223372036854775807:=hf.2.1
 clear hf
 with_reducible and_intros
 iterate 2 trivial
 · intro h1
   refine⟨?_,?_⟩
   · intro h2
     simp only [S.fU] at *;grind [S.bU,S.gw,S.ia]
   intro h3
   simp only [S.fU] at *;grind [S.bU,S.gw,S.ia]
 intro h4
 refine⟨?_,?_⟩
 · intro h5
   simp only [S.fU] at *;grind [S.bU,S.gw,S.ia]
 intro h6
 refine⟨?_,?_⟩
 · intro h7
   simp only [S.fU] at *;grind [S.bU,S.gw,S.ia]
 intro h8
 refine⟨?_,?_⟩
 · intro h9
   try simp only [nt] at h9
   simp only [S.fU] at *;grind [S.bU,S.gw,S.ia]
 intro dz
 try simp only [nf] at dz
 simp only [S.fU] at *;grind [S.bU,S.gw,S.ia]
theorem agk(a:List UInt8)(b:List UInt8)(hp:True)(hf:Vg.Row.ok (Vg.TA.fH [.jo (.str), .jo (.str), .ref 50000 0]) (a,b))(hg:Vg.gD.ok [.cells [.fn (.func 137) [] []]] ((),())):WQ a b:=by
 delta WQ z0
 have za:a.length≤9223372036854775807:=hf.1
 have k8:b.length≤9223372036854775807:=hf.2.1
 clear hf hg
 refine⟨?_,?_⟩
 · trivial
 exact S.ĩ a b
theorem agl(l:List (List UInt8))(hp:S.small l)(hf:Vg.Row.ok (Vg.TA.fH [.own 50000, .fn (.func 152) [] [.ref 50001 0]]) ())(hg:Vg.gD.ok [.row 9 [.str], .cells [.fn (.func 137) [] []]] (l,((),()))):WR l:=by
 delta WR aT z0 z1 aq
 have pC:l.length≤9223372036854775807:=hg.1.1
 clear hf hg
 have sU:l.length≤1099511627776:=hp
 refine⟨?_,?_⟩
 · intro h1
   try simp only [dt] at h1
   exact S.Ny h1
 intro h2
 try simp only [df] at h2
 refine⟨?_,?_⟩
 · refine⟨(nat_lit 1:Nat),?_⟩
   try dsimp only
   refine⟨?_,?_⟩
   · omega
   exact S.aeX h2
 intro x3 h4
 refine⟨?_,?_⟩
 · intro h5
   try simp only [dt] at h5
   with_reducible and_intros
   iterate 5 omega
   · have :=h4.1;omega
   iterate 2 omega
   trivial
   · intro h6
     try simp only [dt,tn] at h6
     with_reducible and_intros
     iterate 2 omega
     · refine⟨((x3),((nat_lit 1:Nat),((l),(x3)))),?_⟩
       try dsimp only
       with_reducible and_intros
       iterate 2 omega
       trivial
       exact S.Ī h4 h5 h6
       omega
     intro x7 h8
     refine⟨?_,?_⟩
     · intro h9
       try simp only [dt,tn] at h9
       with_reducible and_intros
       iterate 2 omega
       · have q1:=h8.1.1;have q2:=h8.1.2.1;have q3:=h8.1.2.2.2.1;have q4:=h8.1.2.2.2.2.1;have q5:=h8.2;omega
       iterate 2 omega
       · have q1:=h8.1.1;have q2:=h8.1.2.1;have q3:=h8.1.2.2.2.1;have q4:=h8.1.2.2.2.2.1;have q5:=h8.2;omega
       omega
       · have q1:=h8.1.1;have q2:=h8.1.2.1;have q3:=h8.1.2.2.2.1;have q4:=h8.1.2.2.2.2.1;have q5:=h8.2;omega
       trivial
       · intro dz
         try simp only [nt,df,tn] at dz
         with_reducible and_intros
         iterate 2 omega
         · have q1:=h8.1.1;have q2:=h8.1.2.1;have q3:=h8.1.2.2.2.1;have q4:=h8.1.2.2.2.2.1;have q5:=h8.2;omega
         omega
         iterate 2
          · have q1:=h8.1.1;have q2:=h8.1.2.1;have q3:=h8.1.2.2.2.1;have q4:=h8.1.2.2.2.2.1;have q5:=h8.2;omega
         omega
         have q1:=h8.1.1;have q2:=h8.1.2.1;have q3:=h8.1.2.2.2.1;have q4:=h8.1.2.2.2.2.1;have q5:=h8.2;omega
       · intro eI
         try simp only [nf,dt,tn] at eI
         trivial
       iterate 2 omega
       refine⟨((Int.toNat (bif !Decidable.decide (List.getD (Prod.fst (Prod.snd (Prod.snd x7))) (Int.toNat (↑x3:Int)+Int.toNat (↑(Prod.fst (Prod.snd x7)):Int)) []=List.getD (Prod.fst (Prod.snd (Prod.snd x7))) (Int.toNat (↑x3:Int)+Int.toNat ((↑(Prod.fst (Prod.snd x7)):Int)-(1:Int))) []) then(↑(Prod.fst x7):Int)+(1:Int) else(↑(Prod.fst x7):Int))),((Prod.fst (Prod.snd x7)+nat_lit 1),((bif !Decidable.decide (List.getD (Prod.fst (Prod.snd (Prod.snd x7))) (Int.toNat (↑x3:Int)+Int.toNat (↑(Prod.fst (Prod.snd x7)):Int)) []=List.getD (Prod.fst (Prod.snd (Prod.snd x7))) (Int.toNat (↑x3:Int)+Int.toNat ((↑(Prod.fst (Prod.snd x7)):Int)-(1:Int))) []) then List.set (Prod.fst (Prod.snd (Prod.snd x7))) (Int.toNat (↑(Prod.fst x7):Int)) (List.getD (Prod.fst (Prod.snd (Prod.snd x7))) (Int.toNat (↑x3:Int)+Int.toNat (↑(Prod.fst (Prod.snd x7)):Int)) []) else Prod.fst (Prod.snd (Prod.snd x7))),(x3)))),?_⟩
       try dsimp only
       with_reducible and_intros
       · generalize (!decide (List.getD x7.2.2.1 (Int.toNat (x3:Int)+Int.toNat (x7.2.1:Int)) []=List.getD x7.2.2.1 (Int.toNat (x3:Int)+Int.toNat ((x7.2.1:Int)-1)) []))=c
         cases c<;>simp only [cond_true,cond_false]<;>omega
       omega
       trivial
       · have q1:=h8.1.1
         have e3:x7.2.2.2=x3:=by have :=h8.2;omega
         have hi:=h8.1
         rw [e3] at hi
         have e1:Int.toNat (x3:Int)+Int.toNat (x7.2.1:Int)=x3+x7.2.1:=by omega
         have e2:Int.toNat (x3:Int)+Int.toNat ((x7.2.1:Int)-1)=x3+x7.2.1-1:=by omega
         rw [e1,e2]
         by_cases hd:List.getD x7.2.2.1 (x3+x7.2.1) []=List.getD x7.2.2.1 (x3+x7.2.1-1) []
         · rw [decide_eq_true hd]
           exact S.Nz hi (by omega) hd
         rw [decide_eq_false hd]
         exact S.SR hi (by omega) hd
       omega
       simp only [S.ai,S.len]
       have q2:=h8.1.2.1
       omega
     intro dR
     try simp only [df,tn] at dR
     with_reducible and_intros
     omega
     iterate 2
      · have q1:=h8.1.2.1
        have q2:=h8.1.2.2.2.1
        have q3:=h8.1.2.2.2.2.1
        omega
     omega
     · have q1:=h8.1.2.1
       have q2:=h8.1.2.2.2.1
       have q3:=h8.1.2.2.2.2.1
       simp only [List.length_append,List.length_take]
       omega
     have q1:=h8.1.2.1
     have q2:=h8.1.2.2.2.1
     have q3:=h8.1.2.2.2.2.1
     have e1:Int.toNat (x7.1:Int)=x7.1:=by omega
     rw [e1,S.K6 (by omega)]
     exact S.SS h8.1 (by have :=h8.2;omega)
   intro lP
   try simp only [df,tn] at lP
   with_reducible and_intros
   iterate 2 omega
   refine⟨(x3+nat_lit 1),?_⟩
   try dsimp only
   with_reducible and_intros
   omega
   exact S.SQ h4 h5 lP
   simp only [S.ai,S.len]
   omega
 intro fp
 try simp only [df] at fp
 exact S.U8 h4 fp
theorem agm(l:List (List UInt8))(hp:S.small l)(hf:Vg.Row.ok (Vg.TA.fH [.jo (.slice [.str]), .fn (.func 137) [] []]) l)(hg:Vg.gD.ok [] ()):WS l:=by
 unfold WS
 have pC:l.length≤9223372036854775807:=hf.1.1
 clear hf hg
 with_reducible and_intros
 iterate 2 exact hp
 exact S.I7 hp
 rfl
theorem agn(b:List UInt8)(hp:S.small b)(hf:Vg.Row.ok (Vg.PS.flat [.one (.slice [.int .u8])]) b):WT b:=by
 unfold WT
 have k8:b.length≤9223372036854775807:=hf.1.1
 clear hf
 with_reducible and_intros
 exact hp
 exact S.I6 hp
 exact S.U9 _
theorem ago(l:List Int)(hp:True)(hf:Vg.Row.ok (Vg.PS.flat [.one (.slice [.int .i64])]) l):WU l:=by
 delta WU q29 aT z0 z1 aq
 have pC:l.length≤9223372036854775807:=hf.1.1
 clear hf
 refine⟨?_,?_⟩
 · refine⟨(nat_lit 0:Nat),?_⟩
   try dsimp only
   with_reducible and_intros
   omega
   exact(S.KX l).symm
   exact S.ĭ l
 intro x1 h2
 refine⟨?_,?_⟩
 · intro h3
   try simp only [dt] at h3
   with_reducible and_intros
   iterate 2 omega
   · intro h4
     try simp only [V.rf,dt,tn] at h4
     exact S.SX h3 h4
   intro h5
   try simp only [V.hC,df,tn] at h5
   with_reducible and_intros
   iterate 2 omega
   refine⟨(x1+nat_lit 1),?_⟩
   try dsimp only
   with_reducible and_intros
   omega
   rw [S.p8,tn]
   exact S.NB h2 h3 h5
   simp only [S.ai,S.len];omega
 intro h6
 try simp only [df] at h6
 exact S.SY h2 (by with_reducible assumption)
theorem agp(n:Int)(p:Bool)(q:Bool)(s1:Int)(s2:Int)(hp:True)(hf:Vg.Row.ok (Vg.TA.fH [.jo (.int .i64), .jo (.bool), .jo (.bool), .ref 50000 0]) (n,p,q))(hg:Vg.gD.ok [.cells [.jo (.int .i64), .jo (.int .i64)]] ((s1,s2),())):WV n p q s1 s2:=by
 unfold WV
 have adn: -9223372036854775808≤n∧n≤9223372036854775807:=hf.1
 have uR: -9223372036854775808≤s1∧s1≤9223372036854775807:=hg.1.1
 have uS: -9223372036854775808≤s2∧s2≤9223372036854775807:=hg.1.2.1
 clear hf hg
 with_reducible and_intros
 · simp only [S.ph];grind
 iterate 2 rfl
theorem agq(a:List Int)(b:List Int)(s1:Int)(s2:Int)(hp:b.length=0)(hf:Vg.Row.ok (Vg.TA.fH [.jo (.slice [.int .i64]), .jo (.slice [.int .i64]), .fn (.func 148) [] [.ref 50000 0]]) (a,b))(hg:Vg.gD.ok [.cells [.jo (.int .i64), .jo (.int .i64)]] ((s1,s2),())):WX a b s1 s2:=by
 delta WX WW y7 q32 q33 q34 q35 q36 z0 z1
 have hb:b= []:=List.eq_nil_of_length_eq_zero hp
 subst hb
 have ha:a.length≤9223372036854775807:=hf.1.1
 clear hf hg
 refine⟨trivial,trivial,?_,?_⟩
 · refine⟨(S.SV a,[]),⟨?_,?_,rfl,rfl,rfl⟩,S.Į a s1 s2⟩
   · simp only [S.SV];cases S.fx a<;>rfl
   simp [S.fy]
 rintro⟨r,out⟩ h
 have hl:=h.2
 cases r with
 |nil=>simp [S.fy];exact S.S1 h
 |cons n r=>
  simp [S.fy]
  refine⟨by omega,fun hn=>⟨?_,?_⟩,fun hn=> ?_⟩
  · simp at hl;omega
  · exact⟨r,out++ [n],⟨rfl,rfl⟩,S.S0 h hn,by simp [S.len]⟩
  exact⟨r,out,⟨rfl,rfl⟩,S.Vb h hn,by simp [S.len]⟩
theorem agr(l:List Int)(s1:Int)(s2:Int)(hp:True)(hf:Vg.Row.ok (Vg.PS.flat [.one (.slice [.int .i64]), .agg [.int .i64, .int .i64]]) (l,s1,s2)):WY l s1 s2:=by
 unfold WY
 have pC:l.length≤9223372036854775807:=hf.1.1
 have uR: -9223372036854775808≤s1∧s1≤9223372036854775807:=hf.2.1
 have uS: -9223372036854775808≤s2∧s2≤9223372036854775807:=hf.2.2.1
 clear hf
 refine⟨?_,?_⟩
 · rfl
 rfl
theorem ags(a:List Int)(b:List Int)(hp:True)(hf:Vg.Row.ok (Vg.PS.flat [.one (.slice [.int .i64]), .one (.slice [.int .i64])]) (a,b)):WZ a b:=by
 delta WZ aT z0 z1 aq
 have za:a.length≤9223372036854775807:=hf.1.1
 have k8:b.length≤9223372036854775807:=hf.2.1.1
 clear hf
 refine⟨?_,?_⟩
 · intro h1
   try simp only [nt,df] at h1
   exact S.S3 h1
 intro h2
 try simp only [nf,dt] at h2
 refine⟨?_,?_⟩
 · refine⟨(nat_lit 0:Nat),?_⟩
   try dsimp only
   refine⟨?_,?_⟩
   · omega
   exact S.į h2
 intro x3 h4
 refine⟨?_,?_⟩
 · intro h5
   try simp only [dt] at h5
   with_reducible and_intros
   iterate 4 omega
   · intro h6
     try simp only [nt,df,tn] at h6
     exact S.S2 h6
   intro h7
   try simp only [nf,dt,tn] at h7
   with_reducible and_intros
   iterate 2 omega
   refine⟨(x3+nat_lit 1),?_⟩
   try dsimp only
   with_reducible and_intros
   omega
   exact S.NC h4 h5 h7
   simp only [S.ai,S.len];omega
 intro h8
 try simp only [df] at h8
 exact S.S4 h4 h8
theorem agt(d:List (List UInt8×List Int))(hp:S.js d)(hf:Vg.Row.ok (Vg.PS.flat [.one (.slice [.str, .slice [.int .i64]])]) d):W0 d:=by
 delta W0 EI q38 q39 aT z0 z1 aq
 have alS:d.length≤9223372036854775807:=hf.1.1
 clear hf
 have sU:=hp.1
 refine⟨?_,?_⟩
 · refine⟨(nat_lit 0:Nat),?_⟩
   try dsimp only
   refine⟨?_,?_⟩
   · omega
   exact S.ak4 d
 intro x1 h2
 refine⟨?_,?_⟩
 · intro h3
   try simp only [dt] at h3
   with_reducible and_intros
   iterate 2 omega
   · intro h4
     try simp only [dt] at h4
     with_reducible and_intros
     iterate 4 omega
   · intro h5
     try simp only [df] at h5
     trivial
   · intro h6
     try simp only [V.Gu,dt] at h6
     refine S.O6 h3 ((S.DY _ _).2 (.inl ⟨by omega,?_⟩))
     have e:Int.toNat ((x1:Int)-1)=x1-1:=by omega
     have h62:=h6.2
     rw [e] at h62
     exact h62
   intro h7
   try simp only [V.vk,df] at h7
   with_reducible and_intros
   · intro h8
     try simp only [dt,tn] at h8
     trivial
   · intro h9
     try simp only [df,tn] at h9
     with_reducible and_intros
     trivial
     · intro dz
       try simp only [nt] at dz
       trivial
     intro eI
     try simp only [nf] at eI
     exact S.S5 hp
   · intro dR
     try simp only [V.rf,dt,tn,nt] at dR
     exact S.O6 h3 ((S.DY _ _).2 (.inr (dR.imp (fun q=>by have :((S.iv d x1).length:Int)=0:=q;omega) id)))
   intro lP
   try simp only [V.hC,df,tn,nf] at lP
   with_reducible and_intros
   iterate 2 omega
   refine⟨(x1+nat_lit 1),?_⟩
   try dsimp only
   with_reducible and_intros
   omega
   · refine S.Ve h2 h3 ((S.rm _ _).2 ⟨?_,?_,lP.2.1,lP.2.2⟩)
     rotate_left
     · have :=lP.1
       simp only [S.iv];omega
     rcases h7 with h7|h7
     · left;omega
     right
     have e:Int.toNat ((x1:Int)-1)=x1-1:=by omega
     rw [e] at h7
     exact h7
   simp only [S.ai,S.len];omega
 intro fp
 try simp only [df] at fp
 exact S.Ĳ h2 (by with_reducible assumption)
theorem agu(a:List (List UInt8×List Int))(b:List (List UInt8×List Int))(hp:True)(hf:Vg.Row.ok (Vg.PS.flat [.one (.slice [.str, .slice [.int .i64]]), .one (.slice [.str, .slice [.int .i64]])]) (a,b)):W2 a b:=by
 delta W2 q40 aT z0 z1 aq
 have za:a.length≤9223372036854775807:=hf.1.1
 have k8:b.length≤9223372036854775807:=hf.2.1.1
 clear hf
 refine⟨?_,?_⟩
 · intro h1
   try simp only [nt,df] at h1
   exact S.NF h1
 intro h2
 try simp only [nf,dt] at h2
 refine⟨?_,?_⟩
 · refine⟨(nat_lit 0:Nat),?_⟩
   try dsimp only
   refine⟨?_,?_⟩
   · omega
   exact S.Vh h2
 intro x3 h4
 refine⟨?_,?_⟩
 · intro h5
   try simp only [dt] at h5
   with_reducible and_intros
   iterate 4 omega
   · intro h6
     try simp only [nt,df,tn] at h6
     trivial
   · intro h7
     try simp only [nf,dt,tn] at h7
     with_reducible and_intros
     iterate 4 omega
     trivial
   · intro h8
     try simp only [V.rf,nt,df,tn] at h8
     refine S.ND (k:=x3) fun e=> ?_
     rw [e] at h8
     rcases h8 with q|q
     · exact q rfl
     simp [S.mi] at q
   intro h9
   try simp only [V.hC,nf,dt,tn] at h9
   with_reducible and_intros
   iterate 2 omega
   refine⟨(x3+nat_lit 1),?_⟩
   try dsimp only
   with_reducible and_intros
   omega
   exact S.KY h4 h5 (Prod.ext h9.1 (by simpa [S.mi] using h9.2))
   simp only [S.ai,S.len];omega
 intro dz
 try simp only [df] at dz
 exact S.NG h4 dz
theorem agv(a:List (List UInt8))(b:List (List UInt8))(hp:True)(hf:Vg.Row.ok (Vg.PS.flat [.one (.slice [.slice [.int .u8]]), .one (.slice [.slice [.int .u8]])]) (a,b)):W3 a b:=by
 delta W3 aT z0 z1 aq
 have za:a.length≤9223372036854775807:=hf.1.1
 have k8:b.length≤9223372036854775807:=hf.2.1.1
 clear hf
 refine⟨?_,?_⟩
 · intro h1
   try simp only [nt,df] at h1
   exact S.NI h1
 intro h2
 try simp only [nf,dt] at h2
 refine⟨?_,?_⟩
 · refine⟨(nat_lit 0:Nat),?_⟩
   try dsimp only
   refine⟨?_,?_⟩
   · omega
   exact S.Vi h2
 intro x3 h4
 refine⟨?_,?_⟩
 · intro h5
   try simp only [dt] at h5
   with_reducible and_intros
   iterate 4 omega
   · intro h6
     try simp only [nt,df,tn] at h6
     exact S.NH h6
   intro h7
   try simp only [nf,dt,tn] at h7
   with_reducible and_intros
   iterate 2 omega
   refine⟨(x3+nat_lit 1),?_⟩
   try dsimp only
   with_reducible and_intros
   omega
   exact S.KZ h4 h5 h7
   simp only [S.ai,S.len];omega
 intro h8
 try simp only [df] at h8
 exact S.NJ h4 h8
theorem agw(s1:Int)(s2:Int)(hp:True)(hf:Vg.Row.ok (Vg.PS.flat [.agg [.int .i64, .int .i64]]) (s1,s2)):W4 s1 s2:=by
 delta W4 z0
 have uR: -9223372036854775808≤s1∧s1≤9223372036854775807:=hf.1
 have uS: -9223372036854775808≤s2∧s2≤9223372036854775807:=hf.2.1
 clear hf
 simp only [S.iI,S.yG]
theorem agx(s1:Int)(s2:Int)(s3:List (List UInt8×List Int))(hp:S.js s3)(hf:Vg.Row.ok (Vg.PS.flat [.agg [.int .i64, .int .i64, .slice [.str, .slice [.int .i64]]]]) (s1,s2,s3)):W5 s1 s2 s3:=by
 delta W5 q41 aT z0 z1 aq
 have uR: -9223372036854775808≤s1∧s1≤9223372036854775807:=hf.1
 have uS: -9223372036854775808≤s2∧s2≤9223372036854775807:=hf.2.1
 have Ox:s3.length≤9223372036854775807:=hf.2.2.1.1
 clear hf
 with_reducible and_intros
 trivial
 · intro h1
   try simp only [nt] at h1
   trivial
 · intro h2
   try simp only [nf] at h2
   omega
 · intro h3
   try simp only [V.rf,nt] at h3
   exact S.ĵ h3
 intro h4
 try simp only [V.hC,nf] at h4
 refine⟨?_,?_⟩
 · refine⟨(nat_lit 0:Nat),?_⟩
   try dsimp only
   refine⟨?_,?_⟩
   · omega
   exact S.ae1 h4.1 h4.2
 intro x5 h6
 refine⟨?_,?_⟩
 · intro h7
   try simp only [dt] at h7
   with_reducible and_intros
   iterate 2 omega
   trivial
   · intro h8
     try simp only [nt,df,tn] at h8
     exact S.Vm h7 (decide_eq_false h8)
   intro h9
   try simp only [nf,dt,tn] at h9
   with_reducible and_intros
   iterate 2 omega
   refine⟨(x5+nat_lit 1),?_⟩
   try dsimp only
   with_reducible and_intros
   omega
   exact S.Tb h6 h7 (decide_eq_true h9)
   simp only [S.ai,S.len];omega
 intro dz
 try simp only [df] at dz
 exact S.Vn h6 dz
theorem agy(docs:List (List UInt8))(s1:Int)(s2:Int)(hp:True)(hf:Vg.Row.ok (Vg.PS.flat [.one (.slice [.slice [.int .u8]]), .agg [.int .i64, .int .i64]]) (docs,s1,s2)):W6 docs s1 s2:=by
 delta W6 z0 z1
 have alU:docs.length≤9223372036854775807:=hf.1.1
 have uR: -9223372036854775808≤s1∧s1≤9223372036854775807:=hf.2.1
 have uS: -9223372036854775808≤s2∧s2≤9223372036854775807:=hf.2.2.1
 clear hf
 with_reducible and_intros
 trivial
 · intro h1
   try simp only [nt,df] at h1
   with_reducible and_intros
   iterate 3 (rw [(S.K7 (by simpa using h1)).1])
   have q:=S.K7 (docs:=docs) (a:=s1) (b:=s2) (by simpa using h1)
   rw [q.1,q.2]
 intro h2
 try simp only [nf,dt] at h2
 refine⟨?_,?_⟩
 · intro h3
   try simp only [dt] at h3
   with_reducible and_intros
   iterate 3 (rw [S.K8 h3])
   rw [S.K8 h3]
 intro h4
 try simp only [df] at h4
 with_reducible and_intros
 iterate 3 (rw [S.K9 (by simpa using h2) h4])
 rw [S.K9 (by simpa using h2) h4]
theorem agz(a1:Int)(a2:Int)(a3:List (List UInt8×List Int))(b1:Int)(b2:Int)(b3:List (List UInt8×List Int))(hp:True)(hf:Vg.Row.ok (Vg.PS.flat [.agg [.int .i64, .int .i64, .slice [.str, .slice [.int .i64]]], .agg [.int .i64, .int .i64, .slice [.str, .slice [.int .i64]]]]) (a1,a2,a3,b1,b2,b3)):W7 a1 a2 a3 b1 b2 b3:=by
 unfold W7
 have XH: -9223372036854775808≤a1∧a1≤9223372036854775807:=hf.1
 have XI: -9223372036854775808≤a2∧a2≤9223372036854775807:=hf.2.1
 have aop:a3.length≤9223372036854775807:=hf.2.2.1.1
 have XJ: -9223372036854775808≤b1∧b1≤9223372036854775807:=hf.2.2.2.1
 have XK: -9223372036854775808≤b2∧b2≤9223372036854775807:=hf.2.2.2.2.1
 have aoq:b3.length≤9223372036854775807:=hf.2.2.2.2.2.1.1
 clear hf
 with_reducible and_intros
 · intro h1
   trivial
 · intro h2
   trivial
 simp only [S.Vo,S.sv,S.fi,S.yG,Bool.and_assoc]
theorem agA(s1:Int)(s2:Int)(s3:List (List UInt8×List Int))(hp:True)(hf:Vg.Row.ok (Vg.PS.flat [.agg [.int .i64, .int .i64, .slice [.str, .slice [.int .i64]]]]) (s1,s2,s3)):W8 s1 s2 s3:=by
 unfold W8
 have uR: -9223372036854775808≤s1∧s1≤9223372036854775807:=hf.1
 have uS: -9223372036854775808≤s2∧s2≤9223372036854775807:=hf.2.1
 have Ox:s3.length≤9223372036854775807:=hf.2.2.1.1
 clear hf
 with_reducible and_intros
 iterate 3 rfl
theorem agB(l:List (Int×Int×List (List UInt8×List Int)))(hp:S.nm l)(hf:Vg.Row.ok (Vg.PS.flat [.one (.slice [.int .i64, .int .i64, .slice [.str, .slice [.int .i64]]])]) l):Xa l:=by
 delta Xa W9 EJ Oq TH uP BM FY aT BL z0 z1 aq
 have pC:l.length≤9223372036854775807:=hf.1.1
 clear hf
 with_reducible and_intros
 iterate 2 omega
 · have :=hp.1;omega
 · refine⟨0,?_⟩
   try dsimp only
   with_reducible and_intros
   rfl
   · simp only [S.aA];exact S.Ļ l
   omega
 intro x1 h2
 refine⟨?_,?_⟩
 · refine⟨(0,x1),?_⟩
   try dsimp only
   with_reducible and_intros
   omega
   rfl
   iterate 2 omega
   rfl
 intro x3 h4
 refine⟨?_,?_⟩
 · intro h5
   try simp only [dt] at h5
   with_reducible and_intros
   iterate 3 omega
   iterate 2
    · rw [S.fM];omega
   · intro h6
     try simp only [dt,tn] at h6
     with_reducible and_intros
     iterate 2 omega
     refine⟨(x3.1+1,x3.2),?_⟩
     try dsimp only
     with_reducible and_intros
     omega
     · rw [←h4.2];exact S.VH h6
     iterate 2 omega
     exact h4.2
     simp only [S.ai,S.len];omega
   intro h7
   try simp only [df,tn] at h7
   with_reducible and_intros
   · intro h8
     try simp only [dt] at h8
     trivial
   · intro h9
     try simp only [df] at h9
     with_reducible and_intros
     omega
     iterate 2
      · rw [S.fM];omega
     exact S.VG l _ _
     exact S.alb h5 h7
     omega
     · rw [←h4.2] at h9 ⊢;first|exact(S.fA h4.1.1 h9).1|exact(S.fA h4.1.1 h9).2.1|exact(S.fA h4.1.1 h9).2.2.1|exact(S.fA h4.1.1 h9).2.2.2
     omega
     iterate 2
      · rw [←h4.2] at h9 ⊢;first|exact(S.fA h4.1.1 h9).1|exact(S.fA h4.1.1 h9).2.1|exact(S.fA h4.1.1 h9).2.2.1|exact(S.fA h4.1.1 h9).2.2.2
     exact S.VG l _ _
     rw [←h4.2] at h9 ⊢;first|exact(S.fA h4.1.1 h9).1|exact(S.fA h4.1.1 h9).2.1|exact(S.fA h4.1.1 h9).2.2.1|exact(S.fA h4.1.1 h9).2.2.2
   iterate 2 omega
   refine⟨(x3.1+1,x3.2),?_⟩
   try dsimp only
   with_reducible and_intros
   omega
   · rw [←h4.2];exact S.VI h7
   iterate 2 omega
   exact h4.2
   simp only [S.ai,S.len];omega
 intro dz
 try simp only [df] at dz
 refine⟨?_,?_⟩
 · intro eI
   try simp only [dt] at eI
   rw [←h4.2] at eI;exact S.ae9 hp h4.1.1 dz eI
 intro dR
 try simp only [df] at dR
 with_reducible and_intros
 omega
 · rw [←h4.2] at dR ⊢;first|exact(S.fA h4.1.1 dR).1|exact(S.fA h4.1.1 dR).2.1|exact(S.fA h4.1.1 dR).2.2.1|exact(S.fA h4.1.1 dR).2.2.2
 omega
 iterate 2
  · rw [←h4.2] at dR ⊢;first|exact(S.fA h4.1.1 dR).1|exact(S.fA h4.1.1 dR).2.1|exact(S.fA h4.1.1 dR).2.2.1|exact(S.fA h4.1.1 dR).2.2.2
 exact S.VG l _ _
 · rw [←h4.2] at dR ⊢;first|exact(S.fA h4.1.1 dR).1|exact(S.fA h4.1.1 dR).2.1|exact(S.fA h4.1.1 dR).2.2.1|exact(S.fA h4.1.1 dR).2.2.2
 · refine⟨(0,x1),?_⟩
   try dsimp only
   with_reducible and_intros
   omega
   exact S.ae7 l x1
   · rw [←h4.2] at dR ⊢;exact(S.Pb hp h4.1.1 dz dR).2
   rfl
   omega
   · rw [←h4.2] at dR;exact(S.Pb hp h4.1.1 dz dR).1
   rfl
 intro XL fp
 refine⟨?_,?_⟩
 · intro jC
   try simp only [dt] at jC
   with_reducible and_intros
   iterate 3 omega
   exact(S.qH jC).1
   exact(S.qH jC).2
   · intro xt
     try simp only [dt,tn] at xt
     with_reducible and_intros
     omega
     exact(S.qH jC).1
     exact(S.qH jC).2
     exact(S.VJ jC).1
     exact xt
   · intro y9
     try simp only [df,tn] at y9
     trivial
   · intro sV
     try simp only [V.Gu,dt,tn] at sV
     with_reducible and_intros
     omega
     exact(S.qH jC).1
     exact(S.qH jC).2
     exact(S.VJ jC).1
     exact sV.1
     · have q:=S.ĺ hp (k:=XL.2) jC;exact Nat.le_trans (Nat.add_le_add q.1 q.2) (by decide)
     omega
     exact(S.qH jC).1
     exact(S.qH jC).2
     exact(S.acV hp jC).1
     exact(S.acV hp jC).2
     omega
     exact(S.qH jC).1
     exact(S.qH jC).2
     iterate 2 omega
     refine⟨(XL.1+1,XL.2),?_⟩
     try dsimp only
     with_reducible and_intros
     omega
     exact(S.VK hp fp.1.2 jC sV.1 sV.2).1
     rfl
     exact(S.VK hp fp.1.2 jC sV.1 sV.2).2
     iterate 2 omega
     exact fp.2
     simp only [S.ai,S.len];omega
   intro EM
   try simp only [V.vk,df,tn] at EM
   with_reducible and_intros
   iterate 2 omega
   refine⟨(XL.1+1,XL.2),?_⟩
   try dsimp only
   with_reducible and_intros
   omega
   exact(S.Pc hp fp.1.2 jC (fun q=>EM.elim (fun z=>z q.1) (fun z=>z q.2))).1
   rfl
   exact(S.Pc hp fp.1.2 jC (fun q=>EM.elim (fun z=>z q.1) (fun z=>z q.2))).2
   iterate 2 omega
   exact fp.2
   simp only [S.ai,S.len];omega
 intro Oy
 try simp only [df] at Oy
 refine⟨?_,?_⟩
 · have :=S.alc hp h2;simp only [List.length_singleton];omega
 refine⟨(x1+1),?_⟩
 try dsimp only
 with_reducible and_intros
 · have e:=S.Jf fp.2 h2 (Nat.le_of_lt fp.1.2);subst e;exact(S.VL fp.1.1 Oy fp.1.2).1
 · have e:=S.Jf fp.2 h2 (Nat.le_of_lt fp.1.2);subst e;exact(S.VL fp.1.1 Oy fp.1.2).2
 · have e:=S.Jf fp.2 h2 (Nat.le_of_lt fp.1.2);have e2:=fp.1.2;first|omega|(simp only [S.ai];omega)
 have e:=S.Jf fp.2 h2 (Nat.le_of_lt fp.1.2);have e2:=fp.1.2;first|omega|(simp only [S.ai];omega)
theorem agC(l:List (Int×Int×List (List UInt8×List Int)))(hp:S.rp l)(hf:Vg.Row.ok (Vg.PS.flat [.one (.slice [.int .i64, .int .i64, .slice [.str, .slice [.int .i64]]])]) l):Xb l:=by
 delta Xb LR q50 aT z0 z1 aq
 have pC:l.length≤9223372036854775807:=hf.1.1
 clear hf
 refine⟨?_,?_⟩
 · intro h1
   try simp only [dt] at h1
   with_reducible and_intros
   iterate 3 (rw [S.VM h1])
   rw [S.VM h1]
 intro h2
 try simp only [df] at h2
 refine⟨?_,?_⟩
 · refine⟨(nat_lit 0:Nat),?_⟩
   try dsimp only
   refine⟨?_,?_⟩
   · omega
   exact S.ļ hp h2
 intro x3 h4
 refine⟨?_,?_⟩
 · intro h5
   try simp only [dt] at h5
   with_reducible and_intros
   iterate 2 omega
   exact hp.2 _ (S.ib (show x3<l.length by omega))
   · intro h6
     try simp only [nt] at h6
     with_reducible and_intros
     iterate 3 (rw [S.VN h5 h6])
     rw [S.VN h5 h6]
   intro h7
   try simp only [nf] at h7
   with_reducible and_intros
   iterate 2 omega
   refine⟨(x3+nat_lit 1),?_⟩
   try dsimp only
   with_reducible and_intros
   omega
   exact S.Ľ h4 h5 h7
   simp only [S.ai,S.len];omega
 intro h8
 try simp only [df] at h8
 refine⟨?_,?_⟩
 · refine⟨0,?_⟩
   try dsimp only
   refine⟨?_,?_⟩
   · omega
   exact S.ľ h4 h8
 intro x9 dz
 refine⟨?_,?_⟩
 · intro eI
   try simp only [dt] at eI
   with_reducible and_intros
   iterate 6 omega
   · intro dR
     try simp only [nt,df] at dR
     with_reducible and_intros
     iterate 3 (rw [S.VO dz eI dR])
     rw [S.VO dz eI dR]
   intro lP
   try simp only [nf,dt] at lP
   with_reducible and_intros
   iterate 2 omega
   refine⟨(x9+1),?_⟩
   try dsimp only
   with_reducible and_intros
   omega
   exact S.Ŀ dz eI lP
   simp only [S.ai,S.len];omega
 intro fp
 try simp only [df] at fp
 with_reducible and_intros
 iterate 6 omega
 exact S.afb dz
 iterate 2
  · rw [S.N2 dz fp];rfl
 rw [S.N2 dz fp]
 rw [S.N2 dz fp]
theorem agD(s1:Int)(s2:Int)(hp:True)(hf:Vg.Row.ok (Vg.PS.flat [.agg [.int .i64, .int .i64]]) (s1,s2)):Xc s1 s2:=by
 delta Xc q51 aT z0 z1
 have uR: -9223372036854775808≤s1∧s1≤9223372036854775807:=hf.1
 have uS: -9223372036854775808≤s2∧s2≤9223372036854775807:=hf.2.1
 clear hf
 refine⟨?_,?_⟩
 · intro h1
   try simp only [V.rf,dt] at h1
   exact S.VD h1
 intro h2
 try simp only [V.hC,df] at h2
 with_reducible and_intros
 iterate 2 omega
 · refine⟨(Int.toNat (s2-s1)),?_⟩
   try dsimp only
   with_reducible and_intros
   omega
   · rw [S.Ln (by omega)];omega
   exact S.ĸ h2
 intro x3 h4
 refine⟨?_,?_⟩
 · intro h5
   try simp only [dt] at h5
   with_reducible and_intros
   iterate 2
    · have q1:=S.Vu (s2-s1) (by omega);have q2:=S.Ĺ (n:=(x3:Int)) h5;have q3:=S.acU (s2-s1);have q4:=S.VE h4;have q5:=S.Vu (x3:Int) (by omega);omega
   iterate 2 omega
   refine⟨(Int.toNat ((↑x3:Int)/(2:Int))),?_⟩
   try dsimp only
   with_reducible and_intros
   omega
   exact S.VF h5
   exact S.N1 h4 h5
   omega
 intro h6
 try simp only [df] at h6
 exact S.Tj h2 h4 h6
theorem agE(l:List (Int×Int))(hp:True)(hf:Vg.Row.ok (Vg.PS.flat [.one (.slice [.int .i64, .int .i64])]) l):Xf l:=by
 delta Xf Xd Xe aT z0 z1 aq
 have pC:l.length≤9223372036854775807:=hf.1.1
 clear hf
 with_reducible and_intros
 iterate 2 omega
 · refine⟨0,?_⟩
   try dsimp only
   refine⟨?_,?_⟩
   · simp only [S.ai,S.len] at *;omega
   exact S.n_0 l
 intro x1 h2
 refine⟨?_,?_⟩
 · intro h3
   try simp only [dt] at h3
   with_reducible and_intros
   omega
   · simp only [S.ai,S.len] at *;omega
   trivial
   omega
   · simp only [S.ai,S.len] at *;omega
   omega
   · simp only [S.ai,S.len] at *;omega
   trivial
   · intro h4
     try simp only [dt] at h4
     refine⟨?_,?_⟩
     · rw [S.VP h2 h3 h4]
     rw [S.VP h2 h3 h4]
   intro h5
   try simp only [df] at h5
   with_reducible and_intros
   omega
   · simp only [S.ai,S.len] at *;omega
   refine⟨(x1+1),?_⟩
   try dsimp only
   with_reducible and_intros
   omega
   exact S.ald h2 h3 h5
   simp only [S.ai,S.len] at *;omega
 intro h6
 try simp only [df] at h6
 refine⟨?_,?_⟩
 · rw [S.VQ h2 h6]
 rw [S.VQ h2 h6]
theorem agF(l:List (Int×Int×List (List UInt8×List Int)))(hp:S.small l)(hf:Vg.Row.ok (Vg.PS.flat [.one (.slice [.int .i64, .int .i64, .slice [.str, .slice [.int .i64]]])]) l):Xg l:=by
 delta Xg aT z0 z1 aq
 have pC:l.length≤9223372036854775807:=hf.1.1
 clear hf
 refine⟨?_,?_⟩
 · refine⟨(nat_lit 0:Nat),?_⟩
   try dsimp only
   with_reducible and_intros
   omega
   simp [S.gx,S.cr]
   omega
 intro x1 h2
 refine⟨?_,?_⟩
 · intro h3
   try simp only [dt] at h3
   with_reducible and_intros
   iterate 2 omega
   · have :=S.Jg l x1;simp only [List.length_singleton,S.small] at *;omega
   iterate 2 omega
   refine⟨(x1+nat_lit 1),?_⟩
   try dsimp only
   with_reducible and_intros
   omega
   exact S.Lp h3
   omega
   simp only [S.ai,S.len] at *;omega
 intro h4
 try simp only [df] at h4
 exact S.N3 h4
theorem agG(l:List UInt8)(hp:S.small l)(hf:Vg.Row.ok (Vg.PS.flat [.one (.slice [.int .u8])]) l):Xh l:=by
 delta Xh lR
 have pC:l.length≤9223372036854775807:=hf.1.1
 clear hf
 with_reducible and_intros
 · intro h1
   exact h1.symm
 · simp only [S.small,Vg.iU,ln] at *;omega
 rfl
theorem agH(l:List (List UInt8×List Int))(hp:S.small l)(hf:Vg.Row.ok (Vg.PS.flat [.one (.slice [.str, .slice [.int .i64]])]) l):Xi l:=by
 unfold Xi
 have pC:l.length≤9223372036854775807:=hf.1.1
 clear hf
 with_reducible and_intros
 · intro h1
   exact h1.symm
 · simp only [S.small,Vg.iU,ln] at *;omega
 rfl
theorem agI(a:List Int)(b:List Int)(hp:True)(hf:Vg.Row.ok (Vg.PS.flat [.one (.slice [.int .i64]), .one (.slice [.int .i64])]) (a,b)):Xj a b:=by
 delta Xj aT z0 z1 aq
 have za:a.length≤9223372036854775807:=hf.1.1
 have k8:b.length≤9223372036854775807:=hf.2.1.1
 clear hf
 refine⟨?_,?_⟩
 · intro h1
   try simp only [nt,df] at h1
   exact(decide_eq_false (S.Eh h1)).symm
 intro h2
 try simp only [nf,dt] at h2
 refine⟨?_,?_⟩
 · refine⟨(nat_lit 0:Nat),?_⟩
   try dsimp only
   refine⟨?_,?_⟩
   · omega
   exact S.N4 h2
 intro x3 h4
 refine⟨?_,?_⟩
 · intro h5
   try simp only [dt] at h5
   with_reducible and_intros
   iterate 4 omega
   · intro h6
     try simp only [nt,df,tn] at h6
     exact(decide_eq_false (S.Lq 0 h6)).symm
   intro h7
   try simp only [nf,dt,tn] at h7
   with_reducible and_intros
   iterate 2 omega
   refine⟨(x3+nat_lit 1),?_⟩
   try dsimp only
   with_reducible and_intros
   omega
   exact S.zX 0 h4 h5 h7
   simp only [S.ai,S.len,S.nr,S.nq] at *;omega
 intro h8
 try simp only [df] at h8
 exact(decide_eq_true (S.Eg h4 h8)).symm
theorem agJ(a1:List UInt8)(a2:List Int)(b1:List UInt8)(b2:List Int)(hp:True)(hf:Vg.Row.ok (Vg.PS.flat [.agg [.str, .slice [.int .i64]], .agg [.str, .slice [.int .i64]]]) (a1,a2,b1,b2)):Xk a1 a2 b1 b2:=by
 unfold Xk
 have XH:a1.length≤9223372036854775807:=hf.1
 have XI:a2.length≤9223372036854775807:=hf.2.1.1
 have XJ:b1.length≤9223372036854775807:=hf.2.2.1
 have XK:b2.length≤9223372036854775807:=hf.2.2.2.1.1
 clear hf
 with_reducible and_intros
 · intro h1
   try simp only [dt] at h1
   trivial
 · intro h2
   try simp only [df] at h2
   trivial
 simp only [S.uA,S.zW];cases decide (a1=b1)<;>rfl
theorem agK(a:List (List UInt8×List Int))(b:List (List UInt8×List Int))(hp:True)(hf:Vg.Row.ok (Vg.TA.fH [.jo (.slice [.str, .slice [.int .i64]]), .jo (.slice [.str, .slice [.int .i64]]), .fn (.func 109) [] []]) (a,b))(hg:Vg.gD.ok [] ()):Xl a b:=by
 delta Xl q54 aT z0 z1 aq
 have za:a.length≤9223372036854775807:=hf.1.1
 have k8:b.length≤9223372036854775807:=hf.2.1.1
 clear hf hg
 refine⟨?_,?_⟩
 · intro h1
   try simp only [nt,df] at h1
   exact(decide_eq_false (S.Eh h1)).symm
 intro h2
 try simp only [nf,dt] at h2
 refine⟨?_,?_⟩
 · refine⟨(nat_lit 0:Nat),?_⟩
   try dsimp only
   refine⟨?_,?_⟩
   · omega
   exact S.N4 h2
 intro x3 h4
 refine⟨?_,?_⟩
 · intro h5
   try simp only [dt] at h5
   with_reducible and_intros
   iterate 4 omega
   trivial
   · intro h6
     try simp only [nt] at h6
     exact(decide_eq_false (S.Lq ([],[]) (S.ł h6))).symm
   intro h7
   try simp only [nf] at h7
   with_reducible and_intros
   iterate 2 omega
   refine⟨(x3+nat_lit 1),?_⟩
   try dsimp only
   with_reducible and_intros
   omega
   exact S.zX ([],[]) h4 h5 (S.Ł h7)
   simp only [S.ai,S.len,S.nr,S.nq] at *;omega
 intro h8
 try simp only [df] at h8
 exact(decide_eq_true (S.Eg h4 h8)).symm
theorem agL(a:List (List UInt8×List Int))(b:List (List UInt8×List Int))(hp:True)(hf:Vg.Row.ok (Vg.PS.flat [.one (.slice [.str, .slice [.int .i64]]), .one (.slice [.str, .slice [.int .i64]])]) (a,b)):Xm a b:=by
 unfold Xm
 have za:a.length≤9223372036854775807:=hf.1.1
 have k8:b.length≤9223372036854775807:=hf.2.1.1
 clear hf
 refine⟨?_,?_⟩
 · trivial
 rfl
theorem agM(y1:List (List UInt8))(y2:List (Int×Int×List (List UInt8×List Int)))(hp:True)(hf:Vg.Row.ok (Vg.PS.flat [.agg [.slice [.slice [.int .u8]], .slice [.int .i64, .int .i64, .slice [.str, .slice [.int .i64]]]]]) (y1,y2)):Xn y1 y2:=by
 delta Xn Jt Ot q57 aT z0 z1 aq
 have mv:y1.length≤9223372036854775807:=hf.1.1
 have mw:y2.length≤9223372036854775807:=hf.2.1.1
 clear hf
 refine⟨?_,?_⟩
 · intro h1
   try simp only [V.rf,dt] at h1
   exact S.ale h1
 intro h2
 try simp only [V.hC,df] at h2
 refine⟨?_,?_⟩
 · refine⟨(nat_lit 0:Nat),?_⟩
   try dsimp only
   refine⟨?_,?_⟩
   · omega
   exact⟨by omega,by omega,S.ĳ _⟩
 intro x3 h4
 refine⟨?_,?_⟩
 · intro h5
   try simp only [dt] at h5
   with_reducible and_intros
   iterate 2 omega
   · intro h6
     try simp only [dt,tn] at h6
     exact S.alf h5 h6
   intro h7
   try simp only [df,tn] at h7
   with_reducible and_intros
   iterate 2 omega
   refine⟨(x3+nat_lit 1),?_⟩
   try dsimp only
   with_reducible and_intros
   omega
   exact⟨h4.1,h4.2.1,S.NK h4.2.2 h5 (by omega)⟩
   simp only [S.ai,S.len,S.nr,S.nq] at *;omega
 intro h8
 try simp only [df] at h8
 refine⟨?_,?_⟩
 · refine⟨(nat_lit 0:Nat),?_⟩
   try dsimp only
   with_reducible and_intros
   omega
   rfl
   exact S.VR h4 h8
 intro x9 dz
 refine⟨?_,?_⟩
 · intro eI
   try simp only [dt] at eI
   with_reducible and_intros
   iterate 2 omega
   · intro dR
     try simp only [V.rf,nt,df,tn,dt] at dR
     exact S.Pd eI (S.alg dR)
   intro lP
   try simp only [V.hC,nf,dt,tn,df] at lP
   with_reducible and_intros
   trivial
   · intro fp
     try simp only [nt,df,tn] at fp
     trivial
   · intro jC
     try simp only [nf,dt,tn] at jC
     trivial
   · intro xt
     try simp only [V.rf,nt,df,tn] at xt
     exact S.Pd eI (S.alh dz lP xt)
   intro y9
   try simp only [V.hC,nf,dt,tn] at y9
   with_reducible and_intros
   iterate 2 omega
   refine⟨(x9+nat_lit 1),?_⟩
   try dsimp only
   with_reducible and_intros
   omega
   exact S.Tk _ _
   exact S.VS dz eI (S.ali dz lP y9)
   simp only [S.ai,S.len,S.nr,S.nq] at *;omega
 intro sV
 try simp only [df] at sV
 exact S.ŀ dz sV
theorem agN(y1:List (List UInt8))(y2:List (Int×Int×List (List UInt8×List Int)))(hp:True)(hf:Vg.Row.ok (Vg.PS.flat [.agg [.slice [.slice [.int .u8]], .slice [.int .i64, .int .i64, .slice [.str, .slice [.int .i64]]]]]) (y1,y2)):Xo y1 y2:=by
 unfold Xo
 have mv:y1.length≤9223372036854775807:=hf.1.1
 have mw:y2.length≤9223372036854775807:=hf.2.1.1
 clear hf
 with_reducible and_intros
 trivial
 · intro h1
   try simp only [nt] at h1
   refine⟨?_,?_⟩
   · rw [S.Lr h1]
   rw [S.Lr h1]
 intro h2
 try simp only [nf] at h2
 refine⟨?_,?_⟩
 · rw [S.gF h2]
 rw [S.gF h2]
theorem agO(y1:List (List UInt8))(y2:List (Int×Int×List (List UInt8×List Int)))(hp:True)(hf:Vg.Row.ok (Vg.PS.flat [.agg [.slice [.slice [.int .u8]], .slice [.int .i64, .int .i64, .slice [.str, .slice [.int .i64]]]]]) (y1,y2)):Xp y1 y2:=by
 delta Xp aT z0 z1 aq
 have mv:y1.length≤9223372036854775807:=hf.1.1
 have mw:y2.length≤9223372036854775807:=hf.2.1.1
 clear hf
 refine⟨?_,?_⟩
 · intro h1
   try simp only [dt] at h1
   exact S.afc h1
 intro h2
 try simp only [df] at h2
 with_reducible and_intros
 iterate 4 omega
 exact S.afd h2
theorem agP(y1:List (List UInt8))(y2:List (Int×Int×List (List UInt8×List Int)))(hp:S.mM y1 y2)(hf:Vg.Row.ok (Vg.PS.flat [.agg [.slice [.slice [.int .u8]], .slice [.int .i64, .int .i64, .slice [.str, .slice [.int .i64]]]]]) (y1,y2)):Xq y1 y2:=by
 delta Xq FZ aT BL z0 z1 aq
 have mv:y1.length≤9223372036854775807:=hf.1.1
 have mw:y2.length≤9223372036854775807:=hf.2.1.1
 clear hf
 with_reducible and_intros
 iterate 2 omega
 · have :=hp.1;omega
 iterate 2 omega
 · have :=hp.2.1;omega
 · refine⟨(nat_lit 0:Nat),?_⟩
   try dsimp only
   with_reducible and_intros
   omega
   exact S.Pe _ _
   simp only [S.ai,S.len,S.nr,S.nq] at *;omega
 intro x1 h2
 refine⟨?_,?_⟩
 · intro h3
   try simp only [dt] at h3
   with_reducible and_intros
   iterate 2 omega
   exact S.Lt hp _
   omega
   exact(S.vz _ h3).1
   exact(S.vz _ h3).2
   iterate 2 omega
   refine⟨(x1+nat_lit 1),?_⟩
   try dsimp only
   with_reducible and_intros
   omega
   exact S.Ls _ h3
   · simp only [S.ai,S.len,S.nr,S.nq] at *;omega
   simp only [S.ai,S.len,S.nr,S.nq] at *;omega
 intro h4
 try simp only [df] at h4
 refine⟨?_,?_⟩
 · refine⟨(nat_lit 0:Nat),?_⟩
   try dsimp only
   with_reducible and_intros
   omega
   exact S.Pe _ _
   simp only [S.ai,S.len,S.nr,S.nq] at *;omega
 intro x5 h6
 refine⟨?_,?_⟩
 · intro h7
   try simp only [dt] at h7
   with_reducible and_intros
   iterate 2 omega
   exact(S.xk hp _).1
   omega
   exact(S.vz _ h7).1
   exact(S.vz _ h7).2
   · refine⟨((nat_lit 0:Nat),((Int.toNat (↑x5:Int)),(List.set (S.cV ((0:Int),(0:Int),[]) y2 x5) (Int.toNat (↑x5:Int)) (Prod.fst (List.getD y2 (Int.toNat (↑x5:Int)) ((0:Int),(0:Int),[])),Prod.fst (Prod.snd (List.getD y2 (Int.toNat (↑x5:Int)) ((0:Int),(0:Int),[]))),[])))),?_⟩
     try dsimp only
     with_reducible and_intros
     omega
     rfl
     omega
     rfl
     exact S.afe h7
     omega
   intro x8 h9
   refine⟨?_,?_⟩
   · intro dz
     try simp only [dt,tn] at dz
     with_reducible and_intros
     omega
     trivial
     omega
     iterate 2
      · have q:=h9.1.2.2.1;have q2:=h9.1.1;have q3:=h9.2;omega
     omega
     exact(S.xk hp _).2 _
     omega
     iterate 2
      · have e:x5=x8.2.1:=(by omega);subst e;first|exact dz|exact Int.ofNat_lt.1 dz
     omega
     · have q:=(S.xk hp x5).1;exact S.Tl q dz
     refine⟨((Prod.fst x8+nat_lit 1),((Prod.fst (Prod.snd x8)),(Prod.snd (Prod.snd x8)))),?_⟩
     try dsimp only
     with_reducible and_intros
     omega
     rfl
     omega
     · have e:x5=x8.2.1:=(by omega);subst e;exact S.u3 _ _ _
     · have e:x5=x8.2.1:=(by omega);subst e;exact S.Tm h9.1 dz
     omega
     have e:x5=x8.2.1:=(by omega);subst e;exact S.Tn dz
   intro eI
   try simp only [df,tn] at eI
   with_reducible and_intros
   · have q:=h9.1.2.2.1;have q2:=h9.1.1;have q3:=h9.2;omega
   iterate 2 omega
   refine⟨(x5+nat_lit 1),?_⟩
   try dsimp only
   with_reducible and_intros
   omega
   · have e:x5=x8.2.1:=(by omega);subst e;exact S.VT h9.1
   · simp only [S.ai,S.len,S.nr,S.nq] at *;omega
   simp only [S.ai,S.len,S.nr,S.nq] at *;omega
 intro dR
 try simp only [df] at dR
 refine⟨?_,?_⟩
 · exact S.GM _ h4
 exact S.GM _ dR
theorem agQ(l:List (Int×Int×List (List UInt8×List Int)))(i:Int)(m:Int)(s1:Int)(s2:Int)(s3:List (List UInt8×List Int))(hp:S.rv l i m)(hf:Vg.Row.ok (Vg.PS.flat [.one (.slice [.int .i64, .int .i64, .slice [.str, .slice [.int .i64]]]), .one (.int .i64), .one (.int .i64), .agg [.int .i64, .int .i64, .slice [.str, .slice [.int .i64]]]]) (l,i,m,s1,s2,s3)):Xr l i m s1 s2 s3:=by
 delta Xr aT z0 aq
 have pC:l.length≤9223372036854775807:=hf.1.1
 have alV: -9223372036854775808≤i∧i≤9223372036854775807:=hf.2.1
 have ado: -9223372036854775808≤m∧m≤9223372036854775807:=hf.2.2.1
 have uR: -9223372036854775808≤s1∧s1≤9223372036854775807:=hf.2.2.2.1
 have uS: -9223372036854775808≤s2∧s2≤9223372036854775807:=hf.2.2.2.2.1
 have Ox:s3.length≤9223372036854775807:=hf.2.2.2.2.2.1.1
 clear hf
 with_reducible and_intros
 exact hp.2.1
 rfl
 · obtain⟨q1,q2,q3,q4⟩:=hp;first|omega|(simp only [List.length_append,List.length_take,List.length_drop,List.length_singleton];omega)
 exact Nat.one_pos
 iterate 6
  · obtain⟨q1,q2,q3,q4⟩:=hp;first|omega|(simp only [List.length_append,List.length_take,List.length_drop,List.length_singleton];omega)
 · unfold S.pq;rw [show(i+m).toNat=i.toNat+m.toNat by have :=hp.2;omega]
theorem agR(y1:List (List UInt8))(y2:List (Int×Int×List (List UInt8×List Int)))(d:List UInt8)(hp:True)(hf:Vg.Row.ok (Vg.PS.flat [.agg [.slice [.slice [.int .u8]], .slice [.int .i64, .int .i64, .slice [.str, .slice [.int .i64]]]], .one (.slice [.int .u8])]) (y1,y2,d)):Xs y1 y2 d:=by
 delta Xs z0 z1 aq
 have mv:y1.length≤9223372036854775807:=hf.1.1
 have mw:y2.length≤9223372036854775807:=hf.2.1.1
 have alS:d.length≤9223372036854775807:=hf.2.2.1.1
 clear hf
 with_reducible and_intros
 trivial
 · intro h1
   try simp only [dt] at h1
   with_reducible and_intros
   iterate 2 (rw [S.acY h1])
   rw [S.acY h1]
 intro h2
 try simp only [df] at h2
 refine⟨?_,?_⟩
 · intro h3
   try simp only [dt] at h3
   with_reducible and_intros
   iterate 2 (rw [S.acZ h2 h3])
   rw [S.acZ h2 h3]
 intro h4
 try simp only [df] at h4
 with_reducible and_intros
 exact S.qh _ _
 · simp only [S.small];omega
 · have :=(S.pr y1 y2).1;simp only [List.length_singleton];omega
 iterate 2 (rw [S.VU h2 h4])
 rw [S.VU h2 h4]
theorem agS(y1:List (List UInt8))(y2:List (Int×Int×List (List UInt8×List Int)))(hp:True)(hf:Vg.Row.ok (Vg.PS.flat [.agg [.slice [.slice [.int .u8]], .slice [.int .i64, .int .i64, .slice [.str, .slice [.int .i64]]]]]) (y1,y2)):Xt y1 y2:=by
 delta Xt F0 z0
 have mv:y1.length≤9223372036854775807:=hf.1.1
 have mw:y2.length≤9223372036854775807:=hf.2.1.1
 clear hf
 with_reducible and_intros
 iterate 2 trivial
 · intro h1
   try simp only [dt] at h1
   with_reducible and_intros
   iterate 2 (rw [S.ac0 h1])
   rw [S.ac0 h1]
 intro h2
 try simp only [df] at h2
 refine⟨?_,?_⟩
 · intro h3
   try simp only [dt] at h3
   with_reducible and_intros
   iterate 2 (rw [S.ac1 h2 h3])
   rw [S.ac1 h2 h3]
 intro h4
 try simp only [df] at h4
 with_reducible and_intros
 trivial
 · intro h5
   try simp only [nt,df] at h5
   with_reducible and_intros
   iterate 3 (exact absurd (by rw [S.ac2 h2]) h5)
 intro h6
 try simp only [nf,dt] at h6
 with_reducible and_intros
 exact S.qh _ _
 · have :=(S.pr y1 y2).2.1;simp only [List.length_singleton];omega
 iterate 2 (rw [S.ac3 h2 h4])
 rw [S.ac3 h2 h4]
theorem agT(y1:List (List UInt8))(y2:List (Int×Int×List (List UInt8×List Int)))(i:Int)(m:Int)(hp:True)(hf:Vg.Row.ok (Vg.PS.flat [.agg [.slice [.slice [.int .u8]], .slice [.int .i64, .int .i64, .slice [.str, .slice [.int .i64]]]], .one (.int .i64), .one (.int .i64)]) (y1,y2,i,m)):Xu y1 y2 i m:=by
 delta Xu LS q61 aT z0 z1
 have mv:y1.length≤9223372036854775807:=hf.1.1
 have mw:y2.length≤9223372036854775807:=hf.2.1.1
 have alV: -9223372036854775808≤i∧i≤9223372036854775807:=hf.2.2.1
 have ado: -9223372036854775808≤m∧m≤9223372036854775807:=hf.2.2.2.1
 clear hf
 with_reducible and_intros
 trivial
 · intro h1
   try simp only [dt] at h1
   trivial
 · intro h2
   try simp only [df] at h2
   refine⟨?_,?_⟩
   · intro h3
     try simp only [dt] at h3
     trivial
   intro h4
   try simp only [df] at h4
   refine⟨?_,?_⟩
   · intro h5
     try simp only [dt] at h5
     trivial
   intro h6
   try simp only [df] at h6
   refine⟨?_,?_⟩
   · have :=(S.pr y1 y2).2.1;omega
   have :=(S.pr y1 y2).2.1;omega
 · intro h7
   try simp only [V.rf,dt] at h7
   with_reducible and_intros
   iterate 2 (rw [S.ac5 h7])
   rw [S.ac5 h7]
 intro h8
 try simp only [V.hC,df] at h8
 with_reducible and_intros
 iterate 5
  · have :=(S.pr y1 y2).2.1;omega
 exact(S.Pf h8).1
 · intro h9
   try simp only [nt,df] at h9
   with_reducible and_intros
   iterate 3 (exact absurd (by rw [(S.Pf h8).2.1]) h9)
 intro dz
 try simp only [nf,dt] at dz
 with_reducible and_intros
 exact S.qh _ _
 exact(S.Pf h8).2.2
 iterate 2 (rw [S.ac6 h8])
 rw [S.ac6 h8]
theorem agU(y1:List (List UInt8))(y2:List (Int×Int×List (List UInt8×List Int)))(hp:True)(hf:Vg.Row.ok (Vg.PS.flat [.agg [.slice [.slice [.int .u8]], .slice [.int .i64, .int .i64, .slice [.str, .slice [.int .i64]]]]]) (y1,y2)):Xv y1 y2:=by
 delta Xv Ou F1 aT z0
 have mv:y1.length≤9223372036854775807:=hf.1.1
 have mw:y2.length≤9223372036854775807:=hf.2.1.1
 clear hf
 with_reducible and_intros
 trivial
 exact S.qh _ _
 · refine⟨(S.cr (S.al y1 y2).2),?_⟩
   try dsimp only
   refine⟨?_,?_⟩
   · exact(S.kD y1 y2).eq
   exact S.alj _ _
 intro x1 h2
 with_reducible and_intros
 exact S.alk h2
 trivial
 · intro h3
   try simp only [nt] at h3
   refine⟨?_,?_⟩
   · rfl
   exact S.Ń h2 h3
 intro h4
 try simp only [nf] at h4
 with_reducible and_intros
 iterate 5
  · have q:=S.ac7 h2 h4;omega
 exact(S.Ei h2 h4 rfl).1
 · intro h5
   try simp only [nt,df] at h5
   refine⟨?_,?_⟩
   · exact absurd (S.Ei h2 h4 rfl).2.1 h5
   exact absurd (S.Ei h2 h4 rfl).2.1 h5
 intro h6
 try simp only [nf,dt] at h6
 refine⟨?_,?_⟩
 · exact(S.Ei h2 h4 rfl).2.2.1
 refine⟨(S.iZ x1 (S.dC (S.cr (S.aB (S.al y1 y2).1 x1))).1.toNat),?_⟩
 try dsimp only
 with_reducible and_intros
 exact(S.Ei h2 h4 rfl).2.2.2.1
 exact(S.Ei h2 h4 rfl).2.2.2.2.1
 exact(S.Ei h2 h4 rfl).2.2.2.2.2
theorem Ŧ(a1:List (List UInt8))(a2:List (Int×Int×List (List UInt8×List Int)))(b1:List (List UInt8))(b2:List (Int×Int×List (List UInt8×List Int)))(hp:True)(hf:Vg.Row.ok (Vg.PS.flat [.agg [.slice [.slice [.int .u8]], .slice [.int .i64, .int .i64, .slice [.str, .slice [.int .i64]]]], .agg [.slice [.slice [.int .u8]], .slice [.int .i64, .int .i64, .slice [.str, .slice [.int .i64]]]]]) (a1,a2,b1,b2)):PB a1 a2 b1 b2:=by
 delta PB q64 aT z0 z1 aq
 have XH:a1.length≤9223372036854775807:=hf.1.1
 have XI:a2.length≤9223372036854775807:=hf.2.1.1
 have XJ:b1.length≤9223372036854775807:=hf.2.2.1.1
 have XK:b2.length≤9223372036854775807:=hf.2.2.2.1.1
 clear hf
 with_reducible and_intros
 trivial
 · intro h1
   try simp only [V.rf,nt,df] at h1
   exact S.aff h1
 intro h2
 try simp only [V.hC,nf,dt] at h2
 refine⟨?_,?_⟩
 · refine⟨(nat_lit 0:Nat),?_⟩
   try dsimp only
   refine⟨?_,?_⟩
   · omega
   exact S.alm h2
 intro x3 h4
 refine⟨?_,?_⟩
 · intro h5
   try simp only [dt] at h5
   with_reducible and_intros
   iterate 4 omega
   trivial
   · intro h6
     try simp only [nt] at h6
     exact S.ń h6
   intro h7
   try simp only [nf] at h7
   with_reducible and_intros
   iterate 2 omega
   refine⟨(x3+nat_lit 1),?_⟩
   try dsimp only
   with_reducible and_intros
   omega
   exact S.VV h4 h5 h7
   simp only [S.ai,S.len,S.nr,S.nq,S.gL] at *;omega
 intro h8
 try simp only [df] at h8
 exact S.Ņ h4 h8
theorem ŧ(y1:List (List UInt8))(y2:List (Int×Int×List (List UInt8×List Int)))(hp:S.small y2)(hf:Vg.Row.ok (Vg.PS.flat [.agg [.slice [.slice [.int .u8]], .slice [.int .i64, .int .i64, .slice [.str, .slice [.int .i64]]]]]) (y1,y2)):PC y1 y2:=by
 delta PC Ov aT z0 z1 aq
 have mv:y1.length≤9223372036854775807:=hf.1.1
 have mw:y2.length≤9223372036854775807:=hf.2.1.1
 clear hf
 refine⟨?_,?_⟩
 · refine⟨(nat_lit 0:Nat),?_⟩
   try dsimp only
   with_reducible and_intros
   omega
   iterate 2 rfl
   simp only [S.ai,S.len,S.nr,S.gL,S.pL,S.pD] at *;omega
 intro x1 h2
 refine⟨?_,?_⟩
 · intro h3
   try simp only [dt] at h3
   with_reducible and_intros
   iterate 2 omega
   trivial
   · simp only [List.length_take,List.length_singleton,S.small] at *;omega
   iterate 2 omega
   refine⟨(x1+nat_lit 1),?_⟩
   try dsimp only
   with_reducible and_intros
   omega
   rfl
   exact(S.ay y2 x1 (0,0,[]) (by omega)).symm
   · simp only [S.ai,S.len,S.nr,S.gL,S.pL,S.pD] at *;omega
   simp only [S.ai,S.len,S.nr,S.gL,S.pL,S.pD] at *;omega
 intro h4
 try simp only [df] at h4
 refine⟨?_,?_⟩
 · rfl
 exact List.take_of_length_le (by omega)
theorem Ũ(b:List UInt8)(hp:True)(hf:Vg.Row.ok (Vg.PS.flat [.one (.slice [.int .u8])]) b):PD b:=by
 delta PD q66 BL z0
 refine⟨by omega,?_⟩
 simp only [List.length_replicate,List.drop_replicate,Go.S.copied]
 rfl
theorem ũ(n:Int)(hp:S.ry n)(hf:Vg.Row.ok (Vg.PS.flat [.one (.int .i64)]) n):PE n:=by
 delta PE Š Ju aT BL z0 z1
 simp only [Go.S.ry] at hp
 refine⟨by omega,⟨by omega,by omega,by omega⟩,⟨by omega,by omega,by omega⟩,⟨0,⟨rfl,by simp,rfl⟩,by simp [Go.S.uE]⟩,fun x hx=>⟨fun h=> ?_,fun h=> ?_⟩⟩
 · simp only [Go.S.uE] at hx
   simp only [List.length_replicate,dt] at h ⊢
   refine⟨by omega,by omega,by omega,by omega,by omega,by omega,by omega,x+1,⟨by omega,by trivial,by trivial,by trivial⟩,?_,?_⟩<;>simp only [Go.S.uE,Go.S.ai]<;>omega
 simp only [Go.S.uE] at hx
 simp only [List.length_replicate,df] at h
 refine⟨rfl,by omega,rfl,?_⟩
 simp only [Go.S.pt]
 congr 1;omega
theorem Ū(d1:List (List UInt8))(d2:List (Int×List UInt8))(hp:S.pv d1)(hf:Vg.Row.ok (Vg.PS.flat [.agg [.slice [.slice [.int .u8]], .slice [.int .i64, .slice [.int .u8]]]]) (d1,d2)):PF d1 d2:=by
 delta PF aT z0 z1 aq
 obtain⟨h1,h2⟩:=hp
 refine⟨⟨by omega,by omega⟩,⟨0,⟨rfl,?_⟩,by simp [Go.S.fa]⟩,fun x hx=>⟨fun h=> ?_,fun h=> ?_⟩⟩
 · simp [Go.S.pt,Go.S.fN]
 · simp only [dt] at h
   have jH:x<d1.length:=by omega
   have hf:=Go.S.gi (d1.take x) fun b hb=>h2 b (List.mem_of_mem_take hb)
   have hb:=h2 _ (Go.S.bu d1 x [] jH)
   have hs:Go.S.fN d1 x=(d1.take x++List.replicate (d1.length-x) (List.replicate 64 0)).flatten:=by
    simp only [Go.S.fN,List.flatten_append,List.flatten_replicate_replicate]
   have oc:∀b∈d1.take x++List.replicate (d1.length-x) (List.replicate 64 (0:UInt8)),b.length=64:=by
    intro b hb
    rcases List.mem_append.1 hb with hb|hb
    · exact h2 b (List.mem_of_mem_take hb)
    rw [(List.mem_replicate.1 hb).2,List.length_replicate]
   simp only [tn]
   refine⟨by omega,by omega,jH,?_,by omega,x+1,⟨by omega,?_⟩,?_,?_⟩
   · simp only [Go.S.fN,List.length_append,hf,List.length_take,List.length_replicate]
     omega
   · rw [hs,hb,show Min.min 64 64=64 by rfl,List.take_of_length_le (l:=d1.getD x []) (by omega)]
     have :=Go.S.ob _ x (d1.getD x []) oc (by simp;omega) (by omega)
     rw [hb] at this
     have h0:=oc _ (Go.S.bu (d1.take x++List.replicate (d1.length-x) (List.replicate 64 0)) x [] (by simp;omega))
     rw [List.drop_of_length_le (Nat.le_of_eq h0),List.append_nil] at this
     rw [this]
     simp only [Go.S.fN]
     rw [List.set_append_right _ _ (by simp;omega),List.length_take,Nat.min_eq_left (by omega),Nat.sub_self,show d1.length-x=(d1.length-(x+1))+1 by omega,List.replicate_succ,List.set_cons_zero,Go.S.ay d1 x [] jH]
     simp only [List.flatten_append,List.flatten_cons,List.flatten_replicate_replicate,List.append_assoc,List.flatten_nil,List.nil_append]
   · simp only [Go.S.fa];omega
   simp only [Go.S.ai,Go.S.len];omega
 simp only [df] at h
 simp only [Go.S.fa] at hx
 have jH:x=d1.length:=by omega
 subst jH
 simp [Go.S.len,Go.S.fN,Go.S.flat]
theorem ū(d1:List (List UInt8))(d2:List (Int×List UInt8))(hp:True)(hf:Vg.Row.ok (Vg.PS.flat [.agg [.slice [.slice [.int .u8]], .slice [.int .i64, .slice [.int .u8]]]]) (d1,d2)):PG d1 d2:=by
 delta PG q69 aT z0 z1 aq
 have hl1:d1.length≤9223372036854775807:=hf.1.1
 have hl2:d2.length≤9223372036854775807:=hf.2.1.1
 refine⟨fun h=> ?_,fun h=>⟨⟨0,rfl,by simp [Go.S.LB]⟩,fun x hx=>⟨fun h'=>⟨by simp at h';omega,fun g=> ?_,fun g=>⟨by simp at h';omega,x+1,rfl,?_,?_⟩⟩,fun h'=>⟨⟨0,rfl,by simp [Go.S.LC]⟩,fun y hy=>⟨fun h2=>⟨by simp at h2;omega,fun g=> ?_,fun g=>⟨by simp at h2;omega,y+1,rfl,?_,?_⟩⟩,fun h2=> ?_⟩⟩⟩⟩⟩
 · refine Go.S.sD fun hr=> ?_
   rcases Go.S.mo h with h|h<;>simp at h<;>omega
 · simp only [tn,dt,nt,df] at h' g
   exact Go.S.sD fun hr=>absurd (hr.2.2.1 _ (Go.S.bu d1 x [] (by omega))) (by omega)
 · simp only [tn,dt,nf] at h' g
   refine⟨by omega,fun b hb=> ?_⟩
   rw [Go.S.ay d1 x [] (by omega)] at hb
   rcases List.mem_append.1 hb with hb|hb
   · exact hx.2 b hb
   simp only [List.mem_singleton] at hb;subst hb;omega
 · simp at h';simp only [Go.S.ai,Go.S.len];omega
 · simp only [dt] at h2
   have :=fun hr:(∀x∈d2,0≤x.1∧x.1<d1.length∧x.2.length=64)=>hr _ (Go.S.bu d2 y (0,[]) (by omega))
   refine Go.S.sD fun hr=> ?_
   obtain⟨a,b,c⟩:=this hr.2.2.2
   simp only [tn] at g
   rcases Go.S.mo g with g|g
   · simp only [dt] at g;omega
   rcases Go.S.mo g with g|g
   · simp only [dt] at g;omega
   simp only [nt,df] at g;omega
 · simp only [dt] at h2
   simp only [tn] at g
   obtain⟨g1,g2⟩:=Go.S.kS g
   obtain⟨g2,g3⟩:=Go.S.kS g2
   simp only [df,nf,dt] at g1 g2 g3
   refine⟨by omega,fun b hb=> ?_⟩
   rw [Go.S.ay d2 y (0,[]) (by omega)] at hb
   rcases List.mem_append.1 hb with hb|hb
   · exact hy.2 b hb
   simp only [List.mem_singleton] at hb;subst hb;omega
 · simp at h2;simp only [Go.S.ai,Go.S.len];omega
 obtain⟨h1,h3⟩:=Go.S.kS h
 simp only [df] at h1 h3 h' h2
 have e1:x=d1.length:=by have :=hx.1;omega
 have e2:y=d2.length:=by have :=hy.1;omega
 subst e1;subst e2
 have hx:=hx.2;have hy:=hy.2
 rw [List.take_length] at hx hy
 exact(Go.S.cx.2 ⟨by omega,by omega,hx,hy⟩).symm
theorem Ŭ(d1:List (List UInt8))(d2:List (Int×List UInt8))(hp:True)(hf:Vg.Row.ok (Vg.PS.flat [.agg [.slice [.slice [.int .u8]], .slice [.int .i64, .slice [.int .u8]]]]) (d1,d2)):PH d1 d2:=by
 unfold PH
 refine⟨trivial,fun h=> ?_,fun h=> ?_⟩<;>simp at h<;>simp [Go.S.vB,Go.S.vW,h]
theorem ŭ(d1:List (List UInt8))(d2:List (Int×List UInt8))(hp:True)(hf:Vg.Row.ok (Vg.PS.flat [.agg [.slice [.slice [.int .u8]], .slice [.int .i64, .slice [.int .u8]]]]) (d1,d2)):PI d1 d2:=by
 delta PI aq
 exact⟨trivial,rfl⟩
theorem Ů(n:Int)(hp:True)(hf:Vg.Row.ok (Vg.PS.flat [.one (.int .i64)]) n):PJ n:=by
 delta PJ q70 z0 z1
 refine⟨fun h=> ?_,fun h=> ?_⟩
 · have :n<0∨4096<n:=by rcases Go.S.mo h with h|h<;>simp at h<;>omega
   simp [Go.S.pw,Go.S.yR,this]
 obtain⟨h1,h2⟩:=Go.S.kS h
 simp only [df] at h1 h2
 have :¬(n<0∨4096<n):=by omega
 refine⟨⟨by omega,by omega⟩,rfl,?_,?_⟩
 · simp only [Go.S.pw,if_neg this,Go.S.pt,Go.S.LD]
 simp only [Go.S.yR,if_neg this]
theorem ů(d1:List (List UInt8))(d2:List (Int×List UInt8))(i:Int)(hp:True)(hf:Vg.Row.ok (Vg.PS.flat [.agg [.slice [.slice [.int .u8]], .slice [.int .i64, .slice [.int .u8]]], .one (.int .i64)]) (d1,d2,i)):PK d1 d2 i:=by
 delta PK aT z0 z1 aq
 refine⟨trivial,fun h=> ?_,fun h=> ?_⟩
 · have :i<0∨(Go.S.vB d1 d2).length≤i:=by rcases Go.S.mo h with h|h<;>simp at h<;>omega
   simp [Go.S.dM,Go.S.fZ,this]
 obtain⟨h1,h2⟩:=Go.S.kS h
 simp only [df] at h1 h2
 have hn:¬(i<0∨(Go.S.vB d1 d2).length≤i):=by omega
 have hw:=Go.S.Cc d1 d2
 refine⟨by omega,⟨0,⟨rfl,by simp [Go.S.qi,Go.S.cont,Go.S.bO]⟩,by simp [Go.S.fa]⟩,fun x hx=>⟨fun h=> ?_,fun h=> ?_⟩⟩
 · simp only [dt] at h
   refine⟨by omega,by omega,x+1,⟨rfl,?_⟩,?_,?_⟩
   · simp only [Go.S.qi,Go.S.cont,tn,Go.S.ay _ x (0,[]) (show x<(Go.S.vW d1 d2).length by omega),List.foldl_append,List.foldl_cons,List.foldl_nil,Bool.cond_eq_ite,dt]
   · simp only [Go.S.fa];omega
   simp only [Go.S.ai,Go.S.len];omega
 simp only [df] at h
 have jH:x=(Go.S.vW d1 d2).length:=by simp only [Go.S.fa] at hx;omega
 subst jH
 refine⟨trivial,by simp [Go.S.fZ,hn],?_⟩
 simp only [Go.S.dM,Go.S.fZ,if_neg hn,if_true,Go.S.qi,List.take_length]
 exact Go.S.xl (Go.S.zY _ (Go.S.lL d1 d2) _ _ (by simp only [Go.S.bO];exact Go.S.kJ d1 d2 _ (Go.S.bu _ _ _ (by omega))))
theorem Ű(d1:List (List UInt8))(d2:List (Int×List UInt8))(i:Int)(b:List UInt8)(hp:True)(hf:Vg.Row.ok (Vg.PS.flat [.agg [.slice [.slice [.int .u8]], .slice [.int .i64, .slice [.int .u8]]], .one (.int .i64), .one (.slice [.int .u8])]) (d1,d2,i,b)):PL d1 d2 i b:=by
 delta PL aT z0 z1 aq
 refine⟨trivial,fun h=> ?_,fun h=> ?_⟩
 · have :i<0∨(Go.S.vB d1 d2).length≤i∨b.length≠64:=by
    rcases Go.S.mo h with h|h
    · simp at h;exact .inl h
    rcases Go.S.mo h with h|h
    · simp at h;exact .inr (.inl h)
    simp at h;exact .inr (.inr (by omega))
   simp [Go.S.wB,Go.S.wW,Go.S.kF,this]
 obtain⟨h1,h2⟩:=Go.S.kS h
 obtain⟨h2,h3⟩:=Go.S.kS h2
 simp only [df,nf,dt] at h1 h2 h3
 have hn:¬(i<0∨(Go.S.vB d1 d2).length≤i∨b.length≠64):=by omega
 refine⟨fun h=> ?_,fun h=>⟨⟨Go.S.lK d1 d2,Go.S.kJ d1 d2⟩,⟨0,⟨rfl,rfl⟩,by simp [Go.S.fa]⟩,fun x hx=>⟨fun h=> ?_,fun h=> ?_⟩⟩⟩
 · simp only [dt] at h
   have :1000≤(Go.S.vW d1 d2).length:=by omega
   simp [Go.S.wB,Go.S.wW,Go.S.kF,hn,this]
 · simp only [dt] at h
   have hw:=Go.S.Cc d1 d2
   simp only [Go.S.kE,List.length_map,List.length_take,lc,ln]
   refine⟨by omega,trivial,by omega,by omega,x+1,⟨rfl,?_⟩,?_,?_⟩
   · simp only [tn,Go.S.ay _ x (0,[]) (show x<(Go.S.vW d1 d2).length by omega),List.map_append,List.map_cons,List.map_nil]
   · simp only [Go.S.fa];omega
   simp only [Go.S.ai,Go.S.len];omega
 rename_i h'
 simp only [df] at h h'
 have jH:x=(Go.S.vW d1 d2).length:=by simp only [Go.S.fa] at hx;omega
 subst jH
 have hm:Go.S.kE (Go.S.vW d1 d2) (Go.S.vW d1 d2).length=Go.S.vW d1 d2:=by
  simp only [Go.S.kE,List.take_length]
  exact Go.S.Dx fun x hx=>by rw [Go.S.xl (Go.S.lL d1 d2 x hx).2.2]
 have hw:¬1000≤(Go.S.vW d1 d2).length:=by omega
 refine⟨trivial,by rw [hm];simp;omega,rfl,?_,?_,?_⟩
 · exact Go.S.mQ _ (Go.S.kJ d1 d2)
 · simp only [hm,Go.S.wW,Go.S.kF,if_neg hn,if_neg hw,if_true,Go.S.xl (show b.length=64 by omega)]
 simp only [Go.S.kF,if_neg hn,if_neg hw]
theorem ű(d1:List (List UInt8))(d2:List (Int×List UInt8))(hp:True)(hf:Vg.Row.ok (Vg.PS.flat [.agg [.slice [.slice [.int .u8]], .slice [.int .i64, .slice [.int .u8]]]]) (d1,d2)):PM d1 d2:=by
 delta PM Jv aT z0 z1 aq
 refine⟨trivial,⟨Go.S.lK d1 d2,Go.S.kJ d1 d2⟩,⟨0,⟨rfl,by simp [Go.S.flat,Go.S.lJ,Go.S.nv]⟩,by simp [Go.S.fa]⟩,fun x hx=>⟨fun h=> ?_,fun h=> ?_⟩⟩
 · simp only [dt] at h
   have jH:x<(Go.S.vW d1 d2).length:=by omega
   have hw:=Go.S.Cc d1 d2
   obtain⟨a,b,c⟩:=Go.S.lL d1 d2 _ (Go.S.bu _ x (0,[]) jH)
   have oc:=Go.S.vD ((Go.S.vW d1 d2).take x) (fun y hy=>(Go.S.lL d1 d2 y (List.mem_of_mem_take hy)).2.2) (Go.S.vB d1 d2) (Go.S.kJ d1 d2)
   have hl:=Go.S.vC ((Go.S.vW d1 d2).take x) (Go.S.vB d1 d2)
   simp only [tn,Go.S.len]
   refine⟨by omega,by omega,by omega,?_,by omega,x+1,⟨rfl,?_⟩,?_,?_⟩
   · simp only [Go.S.xr,Go.S.lJ,Go.S.gi _ oc,hl];omega
   · rw [c,show Min.min 64 64=64 by rfl,List.take_of_length_le (l:=((Go.S.vW d1 d2).getD x (0,[])).2) (by omega)]
     have :=Go.S.ob _ ((Go.S.vW d1 d2).getD x (0,[])).1.toNat _ oc (by rw [hl];omega) (Nat.le_of_eq c)
     rw [c] at this
     have h0:=oc _ (Go.S.bu (Go.S.nv ((Go.S.vW d1 d2).take x) (Go.S.vB d1 d2)) ((Go.S.vW d1 d2).getD x (0,[])).1.toNat [] (by rw [hl];omega))
     rw [List.drop_of_length_le (Nat.le_of_eq h0),List.append_nil] at this
     simp only [Go.S.xr,Go.S.lJ,this]
     simp only [Go.S.nv,Go.S.ay _ x (0,[]) jH,List.foldl_append,List.foldl_cons,List.foldl_nil,Go.S.uD]
   · simp only [Go.S.fa];omega
   simp only [Go.S.ai];omega
 simp only [df] at h
 have jH:x=(Go.S.vW d1 d2).length:=by simp only [Go.S.fa] at hx;omega
 subst jH
 have oc:=Go.S.vD (Go.S.vW d1 d2) (fun y hy=>(Go.S.lL d1 d2 y hy).2.2) (Go.S.vB d1 d2) (Go.S.kJ d1 d2)
 have hl:=Go.S.vC (Go.S.vW d1 d2) (Go.S.vB d1 d2)
 refine⟨rfl,?_⟩
 have :=Go.S.mQ _ oc
 rw [hl] at this
 simpa only [Go.S.xr,Go.S.lJ,List.take_length,Go.S.len,Go.S.sync] using this
theorem Ų(d1:List (List UInt8))(d2:List (Int×List UInt8))(keep:List Int)(hp:True)(hf:Vg.Row.ok (Vg.PS.flat [.agg [.slice [.slice [.int .u8]], .slice [.int .i64, .slice [.int .u8]]], .one (.slice [.int .i64])]) (d1,d2,keep)):PN d1 d2 keep:=by
 delta PN F2 š aT z0 z1 aq
 refine⟨trivial,⟨Go.S.lK d1 d2,Go.S.kJ d1 d2⟩,⟨0,⟨rfl,by simp [Go.S.flat,Go.S.jy,Go.S.qJ]⟩,by simp [Go.S.fa]⟩,fun x hx=>⟨fun h=> ?_,fun h=> ?_⟩⟩
 · simp only [dt] at h
   have jH:x<(Go.S.vW d1 d2).length:=by omega
   have hw:=Go.S.Cc d1 d2
   obtain⟨a,b,c⟩:=Go.S.lL d1 d2 _ (Go.S.bu _ x (0,[]) jH)
   have oc:=Go.S.xn keep ((Go.S.vW d1 d2).take x) (fun y hy=>(Go.S.lL d1 d2 y (List.mem_of_mem_take hy))) (Go.S.vB d1 d2) (Go.S.kJ d1 d2)
   have hl:=Go.S.xm keep ((Go.S.vW d1 d2).take x) (Go.S.vB d1 d2)
   have hk:(bif decide ((x:Int)<(keep.length:Int)) then min (max (keep.getD x 0) 0) 64 else(0:Int))=(Go.S.kept keep x:Int):=by
    simp only [Go.S.kept]
    by_cases Tf:x<keep.length
    · have :(x:Int)<keep.length:=by omega
      simp only [this,decide_true,cond_true,List.getElem?_eq_getElem Tf,List.getD,Option.getD_some]
      omega
    have :¬(x:Int)<keep.length:=by omega
    simp [this,List.getElem?_eq_none (show keep.length≤x by omega)]
   have XM:Go.S.kept keep x≤64:=Go.S.uF keep x
   simp only [tn,Go.S.len,hk]
   refine⟨by omega,⟨fun h=>by simp at h;omega,fun _=>trivial⟩,by omega,by omega,by omega,?_,by omega,x+1,⟨rfl,?_⟩,?_,?_⟩
   · simp only [Go.S.eG,Go.S.jy,Go.S.gi _ oc,hl];omega
   · have hlen:(((Go.S.vW d1 d2).getD x (0,[])).2.take (Go.S.kept keep x)).length=Go.S.kept keep x:=by rw [List.length_take];omega
     rw [hlen,show Min.min (Go.S.kept keep x) 64=Go.S.kept keep x by omega,List.take_take,show Min.min 64 (Go.S.kept keep x)=Go.S.kept keep x by omega]
     have :=Go.S.ob _ ((Go.S.vW d1 d2).getD x (0,[])).1.toNat _ oc (by rw [hl];omega) (show(((Go.S.vW d1 d2).getD x (0,[])).2.take (Go.S.kept keep x)).length≤64 by omega)
     rw [hlen] at this
     simp only [Go.S.eG,Go.S.jy,this,Go.S.LF keep _ _ x jH,Go.S.sC]
   · simp only [Go.S.fa];omega
   simp only [Go.S.ai];omega
 simp only [df] at h
 have jH:x=(Go.S.vW d1 d2).length:=by simp only [Go.S.fa] at hx;omega
 subst jH
 have oc:=Go.S.xn keep (Go.S.vW d1 d2) (fun y hy=>(Go.S.lL d1 d2 y hy)) (Go.S.vB d1 d2) (Go.S.kJ d1 d2)
 have hl:=Go.S.xm keep (Go.S.vW d1 d2) (Go.S.vB d1 d2)
 refine⟨rfl,?_⟩
 have :=Go.S.mQ _ oc
 rw [hl] at this
 simpa only [Go.S.eG,Go.S.jy,List.take_length,Go.S.len,Go.S.jz] using this
theorem ų(a:List UInt8)(b:List UInt8)(hp:True)(hf:Vg.Row.ok (Vg.PS.flat [.one (.slice [.int .u8]), .one (.slice [.int .u8])]) (a,b)):PO a b:=by
 unfold PO
 have za:a.length≤9223372036854775807:=hf.1.1
 have k8:b.length≤9223372036854775807:=hf.2.1.1
 clear hf
 grind [Go.S.Jj]
theorem Ŵ(b:List UInt8)(hp:S.eQ b)(hf:Vg.Row.ok (Vg.PS.flat [.one (.slice [.int .u8])]) b):PQ b:=by
 delta PQ Ţ aT z0 z1 aq
 have k8:b.length≤9223372036854775807:=hf.1.1
 clear hf
 with_reducible and_intros
 omega
 grind [Go.S.dO,Go.S.nW,Go.S.ai,Go.S.eS,Go.S.uH,Go.S.eQ]
 · refine⟨(nat_lit 0:Nat),?_⟩
   try dsimp only
   with_reducible and_intros
   omega
   iterate 2 (grind [Go.S.dO,Go.S.nW,Go.S.ai,Go.S.eS,Go.S.uH,Go.S.eQ])
 intro x1 h2
 refine⟨?_,?_⟩
 · intro h3
   try simp only [dt] at h3
   with_reducible and_intros
   iterate 5 omega
   · have q:x1≤8:=h2;omega
   refine⟨(x1+nat_lit 1),?_⟩
   try dsimp only
   with_reducible and_intros
   omega
   exact S.Oh hp (S.ŏ h3)
   iterate 2 (grind [Go.S.dO,Go.S.nW,Go.S.ai,Go.S.eS,Go.S.uH,Go.S.eQ])
 intro h4
 try simp only [df] at h4
 refine⟨?_,?_⟩
 · intro h5
   try simp only [dt] at h5
   refine⟨?_,?_⟩
   · grind [Go.S.dO,Go.S.nW,Go.S.ai,Go.S.eS,Go.S.uH,Go.S.eQ]
   grind [Go.S.dO,Go.S.nW,Go.S.ai,Go.S.eS,Go.S.uH,Go.S.eQ]
 intro h6
 try simp only [df] at h6
 with_reducible and_intros
 iterate 2 omega
 iterate 2 (grind [Go.S.dO,Go.S.nW,Go.S.ai,Go.S.eS,Go.S.uH,Go.S.eQ])
theorem ŵ(m1:Int)(m2:Int)(hp:S.lN m1 m2)(hf:Vg.Row.ok (Vg.PS.flat [.agg [.int .i64, .int .i64]]) (m1,m2)):PR m1 m2:=by
 delta PR q75 EK q77 ţ aT BL z0 z1 aq
 have aor: -9223372036854775808≤m1∧m1≤9223372036854775807:=hf.1
 have aos: -9223372036854775808≤m2∧m2≤9223372036854775807:=hf.2.1
 clear hf
 with_reducible and_intros
 iterate 4 omega
 trivial
 · refine⟨(nat_lit 0:Nat),?_⟩
   try dsimp only
   with_reducible and_intros
   omega
   rfl
   exact Nat.zero_le _
 intro x1 h2
 refine⟨?_,?_⟩
 · intro h3
   try simp only [dt] at h3
   with_reducible and_intros
   iterate 8 omega
   · have q:=S.uK m1 m2 x1 h2;omega
   iterate 6 omega
   · have q:=S.uK m1 m2 x1 h2;rw [List.length_set];omega
   iterate 2 omega
   refine⟨(x1+nat_lit 1),?_⟩
   try dsimp only
   with_reducible and_intros
   omega
   exact S.LL hp.1 (by omega) hp.2 (by omega) (by omega)
   · show x1+1≤8;omega
   simp only [S.ai];omega
 intro h4
 try simp only [df] at h4
 with_reducible and_intros
 omega
 iterate 2
  · have q:=S.uK m1 m2 x1 h2;rw [show Int.toNat 32=32 from rfl];omega
 exact S.TC h4 h2
theorem Ŷ(b:List UInt8)(m:Int)(hp:True)(hf:Vg.Row.ok (Vg.PS.flat [.one (.slice [.int .u8]), .one (.int .i64)]) (b,m)):PT b m:=by
 delta PT F3 q80 z0 aq
 have k8:b.length≤9223372036854775807:=hf.1.1
 have ado: -9223372036854775808≤m∧m≤9223372036854775807:=hf.2.1
 clear hf
 refine⟨?_,?_⟩
 · intro h1
   try simp only [nt,df] at h1
   with_reducible and_intros
   iterate 3 (grind [Go.S.cE,Go.S.Jj,Go.S.eQ,Go.S.lN])
 intro h2
 try simp only [nf,dt] at h2
 with_reducible and_intros
 grind [Go.S.cE,Go.S.Jj,Go.S.eQ,Go.S.lN]
 iterate 2 omega
 grind [Go.S.cE,Go.S.Jj,Go.S.eQ,Go.S.lN]
 · intro h3
   try simp only [nt] at h3
   trivial
 · intro h4
   try simp only [nf] at h4
   refine⟨?_,?_⟩
   · intro h5
     try simp only [nt] at h5
     trivial
   intro h6
   try simp only [nf] at h6
   refine⟨?_,?_⟩
   · intro h7
     try simp only [dt] at h7
     trivial
   intro h8
   try simp only [df] at h8
   refine⟨?_,?_⟩
   · exact⟨S.vE _,S.vE _⟩
   trivial
 · intro h9
   try simp only [V.rf,nt,dt] at h9
   with_reducible and_intros
   iterate 3 (grind [Go.S.cE,Go.S.Jj,Go.S.eQ,Go.S.lN])
 intro dz
 try simp only [V.hC,nf,df] at dz
 with_reducible and_intros
 iterate 3 (grind [Go.S.cE,Go.S.Jj,Go.S.eQ,Go.S.lN])
theorem ŷ(d1:List (List UInt8))(d2:List (Int×List UInt8))(hp:True)(hf:Vg.Row.ok (Vg.PS.flat [.agg [.slice [.slice [.int .u8]], .slice [.int .i64, .slice [.int .u8]]]]) (d1,d2)):PU d1 d2:=by
 delta PU aT
 have Ae:d1.length≤9223372036854775807:=hf.1.1
 have Af:d2.length≤9223372036854775807:=hf.2.1.1
 clear hf
 with_reducible and_intros
 trivial
 grind [Go.S.dE,Go.S.ko]
 · have q:=S.lK d1 d2;simp only [S.ko];omega
 grind [Go.S.dE,Go.S.ko]
 · have q:=S.lK d1 d2;simp only [S.ko];omega
 grind [Go.S.dE,Go.S.ko]
theorem Ÿ(d1:List (List UInt8))(d2:List (Int×List UInt8))(hp:True)(hf:Vg.Row.ok (Vg.PS.flat [.agg [.slice [.slice [.int .u8]], .slice [.int .i64, .slice [.int .u8]]]]) (d1,d2)):PV d1 d2:=by
 delta PV aT z0 z1
 have Ae:d1.length≤9223372036854775807:=hf.1.1
 have Af:d2.length≤9223372036854775807:=hf.2.1.1
 clear hf
 refine⟨?_,?_⟩
 · refine⟨(nat_lit 0:Nat),?_⟩
   try dsimp only
   with_reducible and_intros
   omega
   iterate 3 rfl
   exact Nat.zero_le _
 intro x1 h2
 refine⟨?_,?_⟩
 · intro h3
   try simp only [dt] at h3
   with_reducible and_intros
   trivial
   · intro h4
     try simp only [nt,df] at h4
     with_reducible and_intros
     omega
     · have q:x1≤2:=h2;omega
     refine⟨(x1+nat_lit 1),?_⟩
     try dsimp only
     with_reducible and_intros
     omega
     iterate 3 (rw [S.Aa,S.uI,if_pos h4])
     · show x1+1≤2;omega
     simp only [S.ai];omega
   intro h5
   try simp only [nf,dt] at h5
   with_reducible and_intros
   iterate 2 trivial
   omega
   · have q:x1≤2:=h2;omega
   refine⟨(x1+nat_lit 1),?_⟩
   try dsimp only
   with_reducible and_intros
   omega
   · rw [S.Pm,S.Aa,S.uI,if_neg (show ¬(S.fZ d1 d2 (x1:Int)≠0) from fun w=>w h5)];split;(rename_i q;exact q.1.symm);rfl
   iterate 2
    · rw [S.Pm,S.Aa,S.uI,if_neg (show ¬(S.fZ d1 d2 (x1:Int)≠0) from fun w=>w h5)];split<;>rfl
   · show x1+1≤2;omega
   simp only [S.ai];omega
 intro h6
 try simp only [df] at h6
 with_reducible and_intros
 iterate 2
  · have q:x1≤2:=h2;obtain rfl :x1=2:=(by omega);rfl
 have q:x1≤2:=h2;obtain rfl :x1=2:=(by omega);rfl
theorem Ź(d1:List (List UInt8))(d2:List (Int×List UInt8))(n:Int)(hp:S.qk d1 d2 n)(hf:Vg.Row.ok (Vg.PS.flat [.agg [.slice [.slice [.int .u8]], .slice [.int .i64, .slice [.int .u8]]], .one (.int .i64)]) (d1,d2,n)):PW d1 d2 n:=by
 delta PW aT lR z0 z1 aq
 have Ae:d1.length≤9223372036854775807:=hf.1.1
 have Af:d2.length≤9223372036854775807:=hf.2.1.1
 have adn: -9223372036854775808≤n∧n≤9223372036854775807:=hf.2.2.1
 clear hf
 refine⟨?_,?_⟩
 · refine⟨0,?_⟩
   try dsimp only
   with_reducible and_intros
   iterate 2 rfl
   exact .inr rfl
 intro x1 h2
 refine⟨?_,?_⟩
 · intro h3
   try simp only [dt] at h3
   with_reducible and_intros
   trivial
   · intro h4
     try simp only [nt,df] at h4
     exact absurd (S.Ő hp h2 h3) h4
   intro h5
   try simp only [nf,dt] at h5
   with_reducible and_intros
   · have q:=S.yY h2;have q1:=S.rB hp h2 h3;have q2:=S.yX h5;omega
   iterate 2
    · have q1:=S.rB hp h2 h3;omega
   refine⟨(x1+1),?_⟩
   try dsimp only
   with_reducible and_intros
   omega
   exact(S.Ab d1 d2 x1).symm
   exact S.afn hp h2 h3
   have q1:=S.rB hp h2 h3;simp only [S.ai];omega
 intro h6
 try simp only [df] at h6
 with_reducible and_intros
 exact hp.2
 omega
 exact S.Wd hp h2 h6
theorem ź(r1:List UInt8)(r2:Int)(r3:Int)(hp:S.Jl r1)(hf:Vg.Row.ok (Vg.PS.flat [.agg [.slice [.int .u8], .int .i64, .int .i64]]) (r1,r2,r3)):PX r1 r2 r3:=by
 delta PX TI Xw Xx nA lR z0
 have Jz:r1.length≤9223372036854775807:=hf.1.1
 have JA: -9223372036854775808≤r2∧r2≤9223372036854775807:=hf.2.1
 have JB: -9223372036854775808≤r3∧r3≤9223372036854775807:=hf.2.2.1
 clear hf
 with_reducible and_intros
 trivial
 · intro h1
   try simp only [dt] at h1
   rw [(S.mO _ _ _).1];exact hp
 · intro h2
   try simp only [df] at h2
   refine⟨?_,?_⟩
   · intro h3
     try simp only [dt] at h3
     refine⟨?_,?_⟩
     · rw [(S.mO _ _ _).1];exact hp
     rw [(S.mO _ _ _).1,(S.mO _ _ _).1];exact hp
   intro h4
   try simp only [df] at h4
   trivial
 exact S.alp r1 r2 r3
 exact congrArg (fun z=>z.1.1) (S.vF r1 r2 r3)
 exact congrArg (fun z=>z.1.2) (S.vF r1 r2 r3)
 exact congrArg (fun z=>z.2.1) (S.vF r1 r2 r3)
 exact congrArg (fun z=>z.2.2.1) (S.vF r1 r2 r3)
 exact congrArg (fun z=>z.2.2.2.1) (S.vF r1 r2 r3)
 exact congrArg (fun z=>z.2.2.2.2) (S.vF r1 r2 r3)
theorem Ż(y1:List (List UInt8))(y2:List (Int×Int×List (List UInt8×List Int)))(e1:Int)(e2:Int)(e3:Int)(e4:List UInt8)(hp:True)(hf:Vg.Row.ok (Vg.PS.flat [.agg [.slice [.slice [.int .u8]], .slice [.int .i64, .int .i64, .slice [.str, .slice [.int .i64]]]], .agg [.int .i64, .int .i64, .int .i64, .slice [.int .u8]]]) (y1,y2,e1,e2,e3,e4)):P3 y1 y2 e1 e2 e3 e4:=by
 unfold P3
 have mv:y1.length≤9223372036854775807:=hf.1.1
 have mw:y2.length≤9223372036854775807:=hf.2.1.1
 have xu: -9223372036854775808≤e1∧e1≤9223372036854775807:=hf.2.2.1
 have xv: -9223372036854775808≤e2∧e2≤9223372036854775807:=hf.2.2.2.1
 have xw: -9223372036854775808≤e3∧e3≤9223372036854775807:=hf.2.2.2.2.1
 have xx:e4.length≤9223372036854775807:=hf.2.2.2.2.2.1.1
 clear hf
 with_reducible and_intros
 trivial
 iterate 3 rfl
theorem ż(y1:List (List UInt8))(y2:List (Int×Int×List (List UInt8×List Int)))(e1:Int)(e2:Int)(e3:Int)(e4:List UInt8)(hp:True)(hf:Vg.Row.ok (Vg.PS.flat [.agg [.slice [.slice [.int .u8]], .slice [.int .i64, .int .i64, .slice [.str, .slice [.int .i64]]]], .agg [.int .i64, .int .i64, .int .i64, .slice [.int .u8]]]) (y1,y2,e1,e2,e3,e4)):P4 y1 y2 e1 e2 e3 e4:=by
 unfold P4
 have mv:y1.length≤9223372036854775807:=hf.1.1
 have mw:y2.length≤9223372036854775807:=hf.2.1.1
 have xu: -9223372036854775808≤e1∧e1≤9223372036854775807:=hf.2.2.1
 have xv: -9223372036854775808≤e2∧e2≤9223372036854775807:=hf.2.2.2.1
 have xw: -9223372036854775808≤e3∧e3≤9223372036854775807:=hf.2.2.2.2.1
 have xx:e4.length≤9223372036854775807:=hf.2.2.2.2.2.1.1
 clear hf
 with_reducible and_intros
 trivial
 iterate 3 rfl
theorem Ž(y1:List (List UInt8))(y2:List (Int×Int×List (List UInt8×List Int)))(e1:Int)(e2:Int)(e3:Int)(e4:List UInt8)(hp:True)(hf:Vg.Row.ok (Vg.PS.flat [.agg [.slice [.slice [.int .u8]], .slice [.int .i64, .int .i64, .slice [.str, .slice [.int .i64]]]], .agg [.int .i64, .int .i64, .int .i64, .slice [.int .u8]]]) (y1,y2,e1,e2,e3,e4)):P5 y1 y2 e1 e2 e3 e4:=by
 unfold P5
 have mv:y1.length≤9223372036854775807:=hf.1.1
 have mw:y2.length≤9223372036854775807:=hf.2.1.1
 have xu: -9223372036854775808≤e1∧e1≤9223372036854775807:=hf.2.2.1
 have xv: -9223372036854775808≤e2∧e2≤9223372036854775807:=hf.2.2.2.1
 have xw: -9223372036854775808≤e3∧e3≤9223372036854775807:=hf.2.2.2.2.1
 have xx:e4.length≤9223372036854775807:=hf.2.2.2.2.2.1.1
 clear hf
 with_reducible and_intros
 trivial
 iterate 3 rfl
theorem ž(y1:List (List UInt8))(y2:List (Int×Int×List (List UInt8×List Int)))(e1:Int)(e2:Int)(e3:Int)(e4:List UInt8)(hp:True)(hf:Vg.Row.ok (Vg.PS.flat [.agg [.slice [.slice [.int .u8]], .slice [.int .i64, .int .i64, .slice [.str, .slice [.int .i64]]]], .agg [.int .i64, .int .i64, .int .i64, .slice [.int .u8]]]) (y1,y2,e1,e2,e3,e4)):P6 y1 y2 e1 e2 e3 e4:=by
 delta P6 z0
 have mv:y1.length≤9223372036854775807:=hf.1.1
 have mw:y2.length≤9223372036854775807:=hf.2.1.1
 have xu: -9223372036854775808≤e1∧e1≤9223372036854775807:=hf.2.2.1
 have xv: -9223372036854775808≤e2∧e2≤9223372036854775807:=hf.2.2.2.1
 have xw: -9223372036854775808≤e3∧e3≤9223372036854775807:=hf.2.2.2.2.1
 have xx:e4.length≤9223372036854775807:=hf.2.2.2.2.2.1.1
 clear hf
 with_reducible and_intros
 trivial
 iterate 3 rfl
theorem ſ(hp:True)(hf:Vg.Row.ok (Vg.PS.flat []) ()):P7:=by
 unfold P7
 clear hf
 trivial
theorem aaa(y1:List (List UInt8))(y2:List (Int×Int×List (List UInt8×List Int)))(e1:Int)(e2:Int)(e3:Int)(e4:List UInt8)(hp:True)(hf:Vg.Row.ok (Vg.PS.flat [.agg [.slice [.slice [.int .u8]], .slice [.int .i64, .int .i64, .slice [.str, .slice [.int .i64]]]], .agg [.int .i64, .int .i64, .int .i64, .slice [.int .u8]]]) (y1,y2,e1,e2,e3,e4)):P8 y1 y2 e1 e2 e3 e4:=by
 delta P8 z0 z1
 have mv:y1.length≤9223372036854775807:=hf.1.1
 have mw:y2.length≤9223372036854775807:=hf.2.1.1
 have xu: -9223372036854775808≤e1∧e1≤9223372036854775807:=hf.2.2.1
 have xv: -9223372036854775808≤e2∧e2≤9223372036854775807:=hf.2.2.2.1
 have xw: -9223372036854775808≤e3∧e3≤9223372036854775807:=hf.2.2.2.2.1
 have xx:e4.length≤9223372036854775807:=hf.2.2.2.2.2.1.1
 clear hf
 with_reducible and_intros
 · intro h1
   with_reducible and_intros
   trivial
   omega
   trivial
   iterate 2
    · subst h1;rfl
   subst h1;rfl
 · intro h2
   with_reducible and_intros
   trivial
   omega
   trivial
   iterate 2
    · subst h2;rfl
   subst h2;rfl
 · intro h3
   with_reducible and_intros
   trivial
   omega
   trivial
   iterate 2
    · subst h3;rfl
   subst h3;rfl
 · intro h4
   with_reducible and_intros
   trivial
   omega
   trivial
   iterate 2
    · subst h4;rfl
   subst h4;rfl
 intro h5
 with_reducible and_intros
 trivial
 · intro h6
   exact h5.1 h6
 · intro h7
   exact h5.2.1 h7
 · intro h8
   exact h5.2.2.1 h8
 · intro h9
   exact h5.2.2.2.1 h9
 iterate 2 trivial
 iterate 2 (rw [S.GY h5])
 rw [S.GY h5]
theorem aab(e1:Int)(e2:Int)(e3:Int)(e4:List UInt8)(hp:True)(hf:Vg.Row.ok (Vg.PS.flat [.agg [.int .i64, .int .i64, .int .i64, .slice [.int .u8]]]) (e1,e2,e3,e4)):PY e1 e2 e3 e4:=by
 delta PY q85 aT z0 z1 aq
 have xu: -9223372036854775808≤e1∧e1≤9223372036854775807:=hf.1
 have xv: -9223372036854775808≤e2∧e2≤9223372036854775807:=hf.2.1
 have xw: -9223372036854775808≤e3∧e3≤9223372036854775807:=hf.2.2.1
 have xx:e4.length≤9223372036854775807:=hf.2.2.2.1.1
 clear hf
 refine⟨?_,?_⟩
 · intro h1
   try simp only [V.rf,dt] at h1
   refine⟨?_,?_⟩
   · rw [S.Ey h1]
   rw [S.Ey h1]
 intro h2
 try simp only [V.hC,df] at h2
 with_reducible and_intros
 trivial
 · intro h3
   try simp only [dt] at h3
   refine⟨?_,?_⟩
   · intro h4
     try simp only [dt] at h4
     refine⟨?_,?_⟩
     · rw [S.Bl h3 h4]
     rw [S.Bl h3 h4]
   intro h5
   try simp only [df] at h5
   with_reducible and_intros
   exact S.Oi h2 h5
   · intro h6
     try simp only [nt,df] at h6
     refine⟨?_,?_⟩
     · exact absurd (S.yZ h2) h6
     exact absurd (S.yZ h2) h6
   intro h7
   try simp only [nf,dt] at h7
   refine⟨?_,?_⟩
   · rw [S.Ez h3 h5,S.Ce h2]
   rw [S.Ez h3 h5]
 intro h8
 try simp only [df] at h8
 refine⟨?_,?_⟩
 · intro h9
   try simp only [dt] at h9
   refine⟨?_,?_⟩
   · refine⟨(nat_lit 0:Nat),?_⟩
     try dsimp only
     with_reducible and_intros
     omega
     exact S.yZ h2
     exact S.Ce h2
     exact Nat.zero_le _
   intro EN eI
   refine⟨?_,?_⟩
   · intro dR
     try simp only [dt] at dR
     with_reducible and_intros
     iterate 3 omega
     · intro lP
       try simp only [dt] at lP
       with_reducible and_intros
       · have q:=S.We e1 e2 e3 EN;omega
       iterate 2
        · have q:EN≤2:=eI;omega
       refine⟨(EN+nat_lit 1),?_⟩
       try dsimp only
       with_reducible and_intros
       omega
       exact(S.Wf dR lP).1
       exact(S.Wf dR lP).2
       · have q:(EN:Int)<2:=dR;show EN+1≤2;omega
       have q:(EN:Int)<2:=dR;simp only [S.ai];omega
     intro fp
     try simp only [df] at fp
     with_reducible and_intros
     iterate 2
      · have q:EN≤2:=eI;omega
     refine⟨(EN+nat_lit 1),?_⟩
     try dsimp only
     with_reducible and_intros
     omega
     exact congrArg Prod.snd (S.Wg dR fp)
     exact congrArg Prod.fst (S.Wg dR fp)
     · have q:(EN:Int)<2:=dR;show EN+1≤2;omega
     have q:(EN:Int)<2:=dR;simp only [S.ai];omega
   intro jC
   try simp only [df] at jC
   refine⟨?_,?_⟩
   · intro xt
     try simp only [nt,df] at xt
     refine⟨?_,?_⟩
     · rw [S.y6 h9 eI jC,if_neg xt]
     rw [S.y6 h9 eI jC,if_neg xt]
   intro y9
   try simp only [nf,dt] at y9
   refine⟨?_,?_⟩
   · rw [S.y6 h9 eI jC,if_pos y9]
   rw [S.y6 h9 eI jC,if_pos y9]
 intro sV
 try simp only [df] at sV
 refine⟨?_,?_⟩
 · intro EM
   try simp only [nt,df] at EM
   refine⟨?_,?_⟩
   · exact absurd (S.yZ h2) EM
   exact absurd (S.yZ h2) EM
 intro Oy
 try simp only [nf,dt] at Oy
 refine⟨?_,?_⟩
 · rw [S.Bm h2 h8 sV,S.Ce h2]
 rw [S.Bm h2 h8 sV]
theorem aac(d1:List (List UInt8))(d2:List (Int×List UInt8))(hp:True)(hf:Vg.Row.ok (Vg.PS.flat [.agg [.slice [.slice [.int .u8]], .slice [.int .i64, .slice [.int .u8]]]]) (d1,d2)):PZ d1 d2:=by
 delta PZ Xy vP z0 z1 aq
 have Ae:d1.length≤9223372036854775807:=hf.1.1
 have Af:d2.length≤9223372036854775807:=hf.2.1.1
 clear hf
 with_reducible and_intros
 trivial
 · intro h1
   try simp only [nt] at h1
   trivial
 · intro h2
   try simp only [nf] at h2
   trivial
 · intro h3
   try simp only [V.rf,nt,dt] at h3
   with_reducible and_intros
   iterate 4
    · simp only [S.au];rw [S.ac9 h3]<;>rfl
   simp only [S.au];rw [S.ac9 h3]<;>rfl
 intro h4
 try simp only [V.hC,nf,df] at h4
 with_reducible and_intros
 trivial
 · intro h5
   try simp only [nt] at h5
   with_reducible and_intros
   iterate 4
    · simp only [S.au];rw [S.ada h4 h5]<;>rfl
   simp only [S.au];rw [S.ada h4 h5]<;>rfl
 intro h6
 try simp only [nf] at h6
 with_reducible and_intros
 exact S.œ h6
 · refine⟨(((0:Int)),(([]),([]))),?_⟩
   try dsimp only
   with_reducible and_intros
   rfl
   omega
   iterate 3 rfl
   exact S.Wi _
 intro x7 h8
 refine⟨?_,?_⟩
 · intro h9
   try simp only [dt] at h9
   with_reducible and_intros
   · have q:=S.Oj d1 d2;unfold S.Jl;omega
   · intro dz
     try simp only [nt,df] at dz
     with_reducible and_intros
     iterate 4
      · simp only [S.au];rw [S.Pq h4 h6 h8 h9 dz]<;>rfl
     simp only [S.au];rw [S.Pq h4 h6 h8 h9 dz]<;>rfl
   intro eI
   try simp only [nf,dt] at eI
   with_reducible and_intros
   trivial
   · intro dR
     try simp only [nt,df] at dR
     with_reducible and_intros
     iterate 4
      · simp only [S.au];rw [S.LO h4 h6 h8 h9 eI dR]<;>rfl
     simp only [S.au];rw [S.LO h4 h6 h8 h9 eI dR]<;>rfl
   intro lP
   try simp only [nf,dt] at lP
   refine⟨((Prod.fst (Prod.fst (S.cn (S.aX d1 d2) (Prod.fst x7) (0:Int)))),((Prod.fst (Prod.fst (S.c9 (Prod.fst (Prod.snd x7)) (Prod.snd (Prod.snd x7)) (Prod.fst (Prod.snd (S.cn (S.aX d1 d2) (Prod.fst x7) (0:Int)))) (Prod.fst (Prod.snd (Prod.snd (S.cn (S.aX d1 d2) (Prod.fst x7) (0:Int))))) (Prod.fst (Prod.snd (Prod.snd (Prod.snd (S.cn (S.aX d1 d2) (Prod.fst x7) (0:Int)))))) (Prod.snd (Prod.snd (Prod.snd (Prod.snd (S.cn (S.aX d1 d2) (Prod.fst x7) (0:Int))))))))),(Prod.snd (Prod.fst (S.c9 (Prod.fst (Prod.snd x7)) (Prod.snd (Prod.snd x7)) (Prod.fst (Prod.snd (S.cn (S.aX d1 d2) (Prod.fst x7) (0:Int)))) (Prod.fst (Prod.snd (Prod.snd (S.cn (S.aX d1 d2) (Prod.fst x7) (0:Int))))) (Prod.fst (Prod.snd (Prod.snd (Prod.snd (S.cn (S.aX d1 d2) (Prod.fst x7) (0:Int)))))) (Prod.snd (Prod.snd (Prod.snd (Prod.snd (S.cn (S.aX d1 d2) (Prod.fst x7) (0:Int))))))))))),?_⟩
   try dsimp only
   with_reducible and_intros
   rfl
   iterate 2 omega
   iterate 2 rfl
   exact S.als h8 h9 eI lP
   exact S.Wk h8 h9 eI
 intro fp
 try simp only [df] at fp
 with_reducible and_intros
 iterate 4
  · simp only [S.au];rw [S.Pr h4 h6 h8 fp]<;>rfl
 simp only [S.au];rw [S.Pr h4 h6 h8 fp]<;>rfl
theorem aad(d1:List (List UInt8))(d2:List (Int×List UInt8))(a:Int)(b:List UInt8)(hp:S.Jm a b)(hf:Vg.Row.ok (Vg.PS.flat [.agg [.slice [.slice [.int .u8]], .slice [.int .i64, .slice [.int .u8]]], .one (.int .i64), .one (.slice [.int .u8])]) (d1,d2,a,b)):P0 d1 d2 a b:=by
 delta P0 Jw q89 TJ aT z0 aq
 have Ae:d1.length≤9223372036854775807:=hf.1.1
 have Af:d2.length≤9223372036854775807:=hf.2.1.1
 have za: -9223372036854775808≤a∧a≤9223372036854775807:=hf.2.2.1
 have k8:b.length≤9223372036854775807:=hf.2.2.2.1.1
 clear hf
 with_reducible and_intros
 iterate 2
  · obtain⟨q1,q2,q3⟩:=hp;omega
 · refine⟨(a,b,[]),?_⟩
   try dsimp only
   with_reducible and_intros
   iterate 3 rfl
   exact⟨hp.1,rfl,rfl⟩
 intro x1 h2
 refine⟨?_,?_⟩
 · intro h3
   try simp only [dt] at h3
   with_reducible and_intros
   exact h2.1
   omega
   iterate 2
    · have q:=S.Jo hp h2;have q0:=h2.1;omega
   trivial
   · intro h4
     try simp only [nt,df] at h4
     rw [S.Ŕ h2 h3 h4]
   intro h5
   try simp only [nf,dt] at h5
   with_reducible and_intros
   exact h2.1
   iterate 2 omega
   iterate 2
    · have q:=S.yX h5;omega
   · have q:=S.Jo hp h2;simp only [S.lX,List.length_map,lc,ln];omega
   iterate 2
    · have q:=S.Jo hp h2;have q0:=h2.1;omega
   iterate 2 omega
   refine⟨(x1.1+((min (64-(x1.1%64).toNat) x1.2.1.length:Nat):Int),x1.2.1.drop (64-(x1.1%64).toNat),x1.2.2++ [(2+x1.1/64,S.mr (S.dM d1 d2 (2+x1.1/64)) x1.1 x1.2.1)]),?_⟩
   try dsimp only
   with_reducible and_intros
   rw [(S.Ac h2 h3 h5).1]
   · rw [(S.Ac h2 h3 h5).1,tn];exact(S.Ac h2 h3 h5).2.2.1.symm
   · rw [←(S.Ac h2 h3 h5).2.2.2.1];simp only [S.lX,List.map_append];rfl
   exact(S.Ac h2 h3 h5).2.2.2.2
   have q:=(S.Ac h2 h3 h5).2.1;simp only [List.length_drop];omega
 intro h6
 try simp only [df] at h6
 rw [S.Wl h2 h6]
theorem aae(d1:List (List UInt8))(d2:List (Int×List UInt8))(s1:Int)(s2:Int)(s3:List (List UInt8))(s4:List (Int×Int×List (List UInt8×List Int)))(e1:Int)(e2:Int)(e3:Int)(e4:List UInt8)(hp:True)(hf:Vg.Row.ok (Vg.PS.flat [.agg [.slice [.slice [.int .u8]], .slice [.int .i64, .slice [.int .u8]]], .agg [.int .i64, .int .i64, .slice [.slice [.int .u8]], .slice [.int .i64, .int .i64, .slice [.str, .slice [.int .i64]]]], .agg [.int .i64, .int .i64, .int .i64, .slice [.int .u8]]]) (d1,d2,s1,s2,s3,s4,e1,e2,e3,e4)):P1 d1 d2 s1 s2 s3 s4 e1 e2 e3 e4:=by
 delta P1 kU lS LU aT z0 z1
 have Ae:d1.length≤9223372036854775807:=hf.1.1
 have Af:d2.length≤9223372036854775807:=hf.2.1.1
 have uR: -9223372036854775808≤s1∧s1≤9223372036854775807:=hf.2.2.1
 have uS: -9223372036854775808≤s2∧s2≤9223372036854775807:=hf.2.2.2.1
 have Ox:s3.length≤9223372036854775807:=hf.2.2.2.2.1.1
 have aot:s4.length≤9223372036854775807:=hf.2.2.2.2.2.1.1
 have xu: -9223372036854775808≤e1∧e1≤9223372036854775807:=hf.2.2.2.2.2.2.1
 have xv: -9223372036854775808≤e2∧e2≤9223372036854775807:=hf.2.2.2.2.2.2.2.1
 have xw: -9223372036854775808≤e3∧e3≤9223372036854775807:=hf.2.2.2.2.2.2.2.2.1
 have xx:e4.length≤9223372036854775807:=hf.2.2.2.2.2.2.2.2.2.1.1
 clear hf
 refine⟨?_,?_⟩
 · intro h1
   try simp only [dt] at h1
   with_reducible and_intros
   iterate 6
    · (try simp only [S.au,S.bq] at *);rw [S.alu h1]<;>rfl
 intro h2
 try simp only [df] at h2
 with_reducible and_intros
 trivial
 · intro h3
   try simp only [V.rf,nt,df] at h3
   with_reducible and_intros
   iterate 6
    · (try simp only [S.au,S.bq] at *);rw [S.alv h2 h3]<;>rfl
 intro h4
 try simp only [V.hC,nf,dt] at h4
 with_reducible and_intros
 trivial
 · intro h5
   try simp only [nt,df] at h5
   with_reducible and_intros
   iterate 6
    · (try simp only [S.au,S.bq] at *);rw [S.alw h2 h4 h5]<;>rfl
 intro h6
 try simp only [nf,dt] at h6
 with_reducible and_intros
 trivial
 · intro h7
   try simp only [nt,df] at h7
   with_reducible and_intros
   iterate 6
    · (try simp only [S.au,S.bq] at *);rw [S.alx h2 h4 h6 h7]<;>rfl
 intro h8
 try simp only [nf,dt] at h8
 with_reducible and_intros
 trivial
 iterate 2
  · (try simp only [S.au,S.bq] at *);have q:=S.Jp h4.1;have q1:=S.Ad d1 d2;omega
 · intro h9
   try simp only [dt] at h9
   with_reducible and_intros
   iterate 6
    · (try simp only [S.au,S.bq] at *);rw [S.aly h2 h4 h6 h8 h9]<;>rfl
 intro dz
 try simp only [df] at dz
 with_reducible and_intros
 iterate 5
  · (try simp only [S.au,S.bq] at *);have q:=S.Jp h4.1;have q1:=S.Ad d1 d2;have q2:=S.k7 (a:=e1) (b:=e2) (c:=e3) (d:=e4);omega
 · (try simp only [S.au,S.bq] at *);first|omega|rfl|trivial|assumption
 · (try simp only [S.au,S.bq] at *);exact⟨rfl,rfl⟩
 · (try simp only [S.au,S.bq] at *);have q:=S.Jp h4.1;have q1:=S.Ad d1 d2;have q2:=S.k7 (a:=e1) (b:=e2) (c:=e3) (d:=e4);exact⟨q.2.2.1,by omega,by omega⟩
 · (try simp only [S.au,S.bq] at *);have q:=S.G1 d1 d2 (S.fo (S.aL d1 d2).1).2.1 (S.aU e1 e2 e3 e4).1;have q2:=S.k7 (a:=e1) (b:=e2) (c:=e3) (d:=e4);simp only [lc,ln];omega
 · (try simp only [S.au,S.bq] at *);have q:=S.Jp h4.1;exact⟨by omega,by omega⟩
 · (try simp only [S.au,S.bq] at *);have q:=S.G1 d1 d2 (S.fo (S.aL d1 d2).1).2.1 (S.aU e1 e2 e3 e4).1;have q2:=S.k7 (a:=e1) (b:=e2) (c:=e3) (d:=e4);simp only [lc,ln,List.length_append];omega
 iterate 6
  · (try simp only [S.au,S.bq] at *);rw [S.alz h2 h4 h6 h8 dz]<;>rfl
theorem aaf(d1:List (List UInt8))(d2:List (Int×List UInt8))(l:List (Bool×Int×List UInt8))(f:Int)(hp:True)(hf:Vg.Row.ok (Vg.PS.flat [.agg [.slice [.slice [.int .u8]], .slice [.int .i64, .slice [.int .u8]]], .one (.slice [.bool, .int .i64, .slice [.int .u8]]), .one (.int .i64)]) (d1,d2,l,f)):P2 d1 d2 l f:=by
 delta P2 Jx aT z0 z1 aq
 have Ae:d1.length≤9223372036854775807:=hf.1.1
 have Af:d2.length≤9223372036854775807:=hf.2.1.1
 have pC:l.length≤9223372036854775807:=hf.2.2.1.1
 have ao0: -9223372036854775808≤f∧f≤9223372036854775807:=hf.2.2.2.1
 clear hf
 refine⟨?_,?_⟩
 · refine⟨((nat_lit 0:Nat),((d1),(d2))),?_⟩
   try dsimp only
   with_reducible and_intros
   omega
   iterate 2 rfl
   exact S.alA d1 d2 l f
 intro x1 h2
 refine⟨?_,?_⟩
 · intro h3
   try simp only [dt] at h3
   with_reducible and_intros
   iterate 2 omega
   · intro h4
     try simp only [dt] at h4
     with_reducible and_intros
     iterate 2
      · simp only [S.gJ];rw [S.adb h2 h3 h4]
     simp only [S.gJ];rw [S.adb h2 h3 h4]
   intro h5
   try simp only [df] at h5
   refine⟨?_,?_⟩
   · intro h6
     with_reducible and_intros
     trivial
     iterate 2 omega
     refine⟨((Prod.fst x1+nat_lit 1),((S.xr (Prod.fst (Prod.snd x1),Prod.snd (Prod.snd x1))),([]))),?_⟩
     try dsimp only
     with_reducible and_intros
     omega
     iterate 2 rfl
     exact S.Wn h2 h3 h5 h6
     have q:(x1.1:Int)<l.length:=h3;simp only [S.ai,S.len];omega
   intro h7
   with_reducible and_intros
   trivial
   · intro h8
     try simp only [nt,df,tn] at h8
     with_reducible and_intros
     iterate 2
      · simp only [S.gJ];rw [S.Pu h2 h3 h5 h7 h8]
     simp only [S.gJ];rw [S.Pu h2 h3 h5 h7 h8]
   intro h9
   try simp only [nf,dt,tn] at h9
   with_reducible and_intros
   iterate 2 omega
   refine⟨((Prod.fst x1+nat_lit 1),((S.wB (Prod.fst (Prod.snd x1)) (Prod.snd (Prod.snd x1))),(S.wW (Prod.fst (Prod.snd x1)) (Prod.snd (Prod.snd x1)) (Prod.fst (Prod.snd (List.getD l (Int.toNat (↑(Prod.fst x1):Int)) (Bool.false,(0:Int),[])))) (Prod.snd (Prod.snd (List.getD l (Int.toNat (↑(Prod.fst x1):Int)) (Bool.false,(0:Int),[]))))))),?_⟩
   try dsimp only
   with_reducible and_intros
   omega
   iterate 2 rfl
   exact S.TF h2 h3 h5 h7 h9
   have q:(x1.1:Int)<l.length:=h3;simp only [S.ai,S.len];omega
 intro dz
 try simp only [df] at dz
 with_reducible and_intros
 iterate 2
  · simp only [S.gJ];rw [S.Pv h2 dz]
 simp only [S.gJ];rw [S.Pv h2 dz]
theorem aag(hp:True)(hf:Vg.Row.ok (Vg.PS.flat []) ()):Qc:=by
 delta Qc y8 Jy F4 Ť ť P9 Qa Bo Qb LV z0 z1
 clear hf
 with_reducible and_intros
 iterate 7 trivial
 · intro h1
   try simp only [dt] at h1
   refine⟨?_,?_⟩
   · intro h2
     try simp only [dt] at h2
     refine⟨?_,?_⟩
     · intro h3
       try simp only [dt] at h3
       refine⟨?_,?_⟩
       · intro h4
         try simp only [dt] at h4
         refine⟨?_,?_⟩
         · intro h5
           try simp only [dt] at h5
           with_reducible and_intros
           iterate 2 trivial
           · intro h6
             try simp only [dt] at h6
             with_reducible and_intros
             iterate 2 trivial
             · intro h7
               try simp only [dt] at h7
               with_reducible and_intros
               iterate 2 trivial
               · intro h8
                 with_reducible and_intros
                 iterate 2 trivial
                 · intro h9
                   try simp only [dt] at h9
                   refine⟨?_,?_⟩
                   · intro dz
                     try simp only [dt] at dz
                     refine⟨?_,?_⟩
                     · intro eI
                       try simp only [dt] at eI
                       refine⟨?_,?_⟩
                       · intro dR
                         try simp only [dt] at dR
                         refine⟨?_,?_⟩
                         · intro lP
                           try simp only [dt] at lP
                           refine⟨?_,?_⟩
                           · intro fp
                             try simp only [dt] at fp
                             refine⟨?_,?_⟩
                             · trivial
                             trivial
                           intro jC
                           try simp only [df] at jC
                           trivial
                         intro xt
                         try simp only [df] at xt
                         trivial
                       intro y9
                       try simp only [df] at y9
                       trivial
                     intro sV
                     try simp only [df] at sV
                     trivial
                   intro EM
                   try simp only [df] at EM
                   trivial
                 intro Oy
                 try simp only [df] at Oy
                 trivial
               intro rC
               trivial
             intro h22
             try simp only [df] at h22
             trivial
           intro h23
           try simp only [df] at h23
           trivial
         intro T6
         try simp only [df] at T6
         trivial
       intro Ow
       try simp only [df] at Ow
       trivial
     intro h26
     try simp only [df] at h26
     trivial
   intro h27
   try simp only [df] at h27
   trivial
 · intro XF
   try simp only [df] at XF
   trivial
 trivial
theorem aah(e1:Int)(e2:Int)(e3:Int)(e4:List UInt8)(hp:True)(hf:Vg.Row.ok (Vg.PS.flat [.agg [.int .i64, .int .i64, .int .i64, .slice [.int .u8]]]) (e1,e2,e3,e4)):Qd e1 e2 e3 e4:=by
 delta Qd aq
 have xu: -9223372036854775808≤e1∧e1≤9223372036854775807:=hf.1
 have xv: -9223372036854775808≤e2∧e2≤9223372036854775807:=hf.2.1
 have xw: -9223372036854775808≤e3∧e3≤9223372036854775807:=hf.2.2.1
 have xx:e4.length≤9223372036854775807:=hf.2.2.2.1.1
 clear hf
 rfl
theorem aai(n:Int)(l:List (Int×Int×Int×List UInt8))(hp:S.ig n)(hf:Vg.Row.ok (Vg.PS.flat [.one (.int .i64), .one (.slice [.int .i64, .int .i64, .int .i64, .slice [.int .u8]])]) (n,l)):Qe n l:=by
 delta Qe EL LW Xz XA aT z0 z1 aq
 have adn: -9223372036854775808≤n∧n≤9223372036854775807:=hf.1
 have pC:l.length≤9223372036854775807:=hf.2.1.1
 clear hf
 with_reducible and_intros
 trivial
 · intro h1
   try simp only [nt,df] at h1
   with_reducible and_intros
   exact absurd (S.Wq hp).1 h1
   rfl
   exact absurd (S.Wq hp).1 h1
 intro h2
 try simp only [nf,dt] at h2
 refine⟨?_,?_⟩
 · refine⟨(nat_lit 0:Nat),?_⟩
   try dsimp only
   with_reducible and_intros
   omega
   exact S.alC hp l
   rfl
   omega
 intro x3 h4
 refine⟨?_,?_⟩
 · intro h5
   try simp only [V.Gu,dt] at h5
   with_reducible and_intros
   iterate 2 omega
   trivial
   · intro h6
     try simp only [nt,df,tn] at h6
     with_reducible and_intros
     iterate 2 omega
     refine⟨(x3+nat_lit 1),?_⟩
     try dsimp only
     with_reducible and_intros
     omega
     exact S.ŗ h5 h6
     rfl
     exact(S.kT h5).2.1
     have q:=(S.kT h5).2.1;simp only [S.ai];omega
   intro h7
   try simp only [nf,dt,tn] at h7
   with_reducible and_intros
   trivial
   · intro h8
     try simp only [nt,df] at h8
     with_reducible and_intros
     exact absurd (S.LP hp h4) h8
     rfl
     exact absurd (S.LP hp h4) h8
   intro h9
   try simp only [nf,dt] at h9
   with_reducible and_intros
   iterate 2 omega
   trivial
   · intro dz
     try simp only [nt,df,tn] at dz
     with_reducible and_intros
     iterate 2 omega
     refine⟨(x3+nat_lit 1),?_⟩
     try dsimp only
     with_reducible and_intros
     omega
     exact S.afp h5 h7 dz
     rfl
     exact(S.kT h5).2.1
     have q:=(S.kT h5).2.1;simp only [S.ai];omega
   intro eI
   try simp only [nf,dt,tn] at eI
   with_reducible and_intros
   trivial
   · intro dR
     try simp only [nt,df,tn] at dR
     with_reducible and_intros
     exact absurd (congrArg Prod.snd (S.Jq hp h5 h7 eI)) dR
     rfl
     exact absurd (congrArg Prod.snd (S.Jq hp h5 h7 eI)) dR
   intro lP
   try simp only [nf,dt,tn] at lP
   with_reducible and_intros
   iterate 2 omega
   refine⟨(x3+nat_lit 1),?_⟩
   try dsimp only
   with_reducible and_intros
   omega
   · rw [tn];exact congrArg (fun z=>z.1.1) (S.Jq hp h5 h7 eI)
   · rw [tn];exact congrArg (fun z=>z.1.2) (S.Jq hp h5 h7 eI)
   exact(S.kT h5).2.1
   have q:=(S.kT h5).2.1;simp only [S.ai];omega
 intro fp
 try simp only [V.vk,df] at fp
 with_reducible and_intros
 exact S.Ř h4 fp
 iterate 2 rfl
theorem aaj(l:List (Int×Int×Int×List UInt8))(hp:True)(hf:Vg.Row.ok (Vg.PS.flat [.one (.slice [.int .i64, .int .i64, .int .i64, .slice [.int .u8]])]) l):Qf l:=by
 delta Qf uQ Bp LX ql XB aT z0 z1 aq
 have pC:l.length≤9223372036854775807:=hf.1.1
 clear hf
 refine⟨?_,?_⟩
 · refine⟨(nat_lit 0:Nat),?_⟩
   try dsimp only
   with_reducible and_intros
   omega
   iterate 3 rfl
   exact S.Ŏ l
 intro x1 h2
 refine⟨?_,?_⟩
 · intro h3
   try simp only [V.Gu,dt] at h3
   with_reducible and_intros
   iterate 2 omega
   trivial
   · intro h4
     try simp only [nt,df,tn] at h4
     with_reducible and_intros
     iterate 2 omega
     refine⟨(x1+nat_lit 1),?_⟩
     try dsimp only
     with_reducible and_intros
     omega
     iterate 3 (rw [S.Pw h3 h4])
     exact S.Py h2 h3 (S.Pw h3 h4)
     have q:=S.EE h3;simp only [S.ai];omega
   intro h5
   try simp only [nf,dt,tn] at h5
   with_reducible and_intros
   iterate 2 omega
   trivial
   iterate 2 omega
   trivial
   · intro h6
     try simp only [V.rf,nt,df,tn] at h6
     with_reducible and_intros
     iterate 2 omega
     refine⟨(x1+nat_lit 1),?_⟩
     try dsimp only
     with_reducible and_intros
     omega
     iterate 3 (rw [S.Wr h3 h6])
     exact S.Py h2 h3 (S.Wr h3 h6)
     have q:=S.EE h3;simp only [S.ai];omega
   intro h7
   try simp only [V.hC,nf,dt,tn] at h7
   with_reducible and_intros
   iterate 2
    · have q:=S.Wt h2;have q1:=S.k7 (a:=(l.getD (x1:Int).toNat (0,0,0,[])).1) (b:=(l.getD (x1:Int).toNat (0,0,0,[])).2.1) (c:=(l.getD (x1:Int).toNat (0,0,0,[])).2.2.1) (d:=(l.getD (x1:Int).toNat (0,0,0,[])).2.2.2);omega
   · intro h8
     try simp only [dt,tn] at h8
     refine⟨?_,?_⟩
     · trivial
     rfl
   intro h9
   try simp only [df,tn] at h9
   with_reducible and_intros
   iterate 2
    · have q:=S.Wt h2;have q1:=S.k7 (a:=(l.getD (x1:Int).toNat (0,0,0,[])).1) (b:=(l.getD (x1:Int).toNat (0,0,0,[])).2.1) (c:=(l.getD (x1:Int).toNat (0,0,0,[])).2.2.1) (d:=(l.getD (x1:Int).toNat (0,0,0,[])).2.2.2);omega
   iterate 2 omega
   refine⟨(x1+nat_lit 1),?_⟩
   try dsimp only
   with_reducible and_intros
   omega
   iterate 3 (rw [tn,S.Px h3 h5 h7])
   · exact S.Pl h2 (S.EE h3) (by rw [S.Px h3 h5 h7];simp only;omega)
   have q:=S.EE h3;simp only [S.ai];omega
 intro dz
 try simp only [V.vk,df] at dz
 with_reducible and_intros
 iterate 2 trivial
 · intro eI
   refine⟨?_,?_⟩
   · intro dR
     try simp only [dt] at dR
     refine⟨?_,?_⟩
     · intro lP
       try simp only [dt] at lP
       with_reducible and_intros
       · have q:=(S.Pz h2 dz).2.2;rw [q];exact S.G2 h2
       exact S.G2 h2
       trivial
       · intro fp
         trivial
       intro jC
       trivial
     intro xt
     try simp only [df] at xt
     trivial
   intro y9
   try simp only [df] at y9
   trivial
 · intro sV
   trivial
 have q:=S.Pz h2 dz;rw [q.1,q.2.1,q.2.2,S.Lu];simp [S.aV]
end Go

end
