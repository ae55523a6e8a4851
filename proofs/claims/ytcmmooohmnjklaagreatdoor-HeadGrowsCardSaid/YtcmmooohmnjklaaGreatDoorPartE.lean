import Derived.Test.YtcmmooohmnjklaaGreatDoorPartD
import Derived.Lib.LaidTab
import Derived.Test.YtcmmooohmnjklaaGreatDoorProg
set_option linter.unusedVariables false
set_option linter.unusedSimpArgs false
section
namespace Go.Vg
open Go
theorem C6 {P:Program} {W:World}:∀ {laid:List (String×DataW Unit)} {ps:List MemPlace} {name:String} {d:DataW Unit},DataW.LaidVars P W laid ps→(name,d)∈laid→
  ∃(g:Nat) (t:TypeId) (cs:Array Value) (fuel:Nat) (p:List MemPlace),P.globalNamed name=some g∧(P.globals[g]?).map (·.type)=some t∧W.var? P name=some cs∧DataW.trod (fun _=>()) P W 0 (fun _=>true) false fuel t cs.toList=some (d,p)
 | [],_,_,_,_,hm=>by cases hm
 |x::rest,ps,name,d,h,hm=>by
  obtain⟨g',t',cs,fuel,p,q,uG,ht',aoe,hd,hr,ğ⟩:=h
  rcases List.mem_cons.1 hm with rfl|hm
  · exact⟨g',t',cs,fuel,p,uG,ht',aoe,hd⟩
  · exact C6 hr hm
theorem C7 {H:Type} {enc:TypeId×Value→H} {P:Program} {w:World} {base:Nat} {sp:Nat→Bool} {held:Bool} {fuel:Nat} {t e:TypeId} {n m:Nat} {k:IntKind} {cs:List Value} {zss:List (List Int)} {p:List MemPlace} {fs:Array Field}
  (ht:P.underlying t=some (.array n e)) (he:P.underlying e=some (.struct fs)) (HF:P.cellsOf e=m) (UM:P.cellsOf t=n*m) (hfs:fs.size=m) (hf:∀(i:Nat) (f:Field),fs[i]? =some f→f.offset=i∧P.underlying f.type=some (.int k)∧P.cellsOf f.type=1)
  (hz:∀r∈zss,r.length=m) (h:DataW.trod enc P w base sp held fuel t cs=some (.agg (zss.map fun r=> .agg (r.map fun z=> .lit (.int k z))),p)):cs.length=n*m∧zss.length=n∧
    ∀i j,i<n→j<m→cs[i*m+j]? =some (.int k ((zss.getD i []).getD j 0)):=by
 cases fuel with
 |zero=>simp [DataW.trod] at h
 |succ fuel=>
  simp only [DataW.trod,ht,HF,UM] at h
  split at h
  · rename_i hl
    obtain⟨xs,hm,hx⟩:=Option.map_eq_some_iff.1 h
    have Un:xs.map (·.1)=zss.map fun r=>(DataW.agg (r.map fun z=> .lit (.int k z)):DataW H):=by
     have :=congrArg Prod.fst hx
     simpa using this
    have Jm:xs.length=n:=by simpa using Lib.mapM_length hm
    have Lf:zss.length=n:=by
     have :=congrArg List.length Un
     simp at this
     omega
    refine⟨hl,Lf,fun i j hi hj=> ?_⟩
    obtain⟨b,hb,hfb⟩:=Lib.mapM_at hm i i (by simp [hi])
    have fm:b.1=DataW.agg ((zss.getD i []).map fun z=> .lit (.int k z)):=by
     have h2:(xs.map (·.1))[i]? =some b.1:=by simp [hb]
     rw [Un] at h2
     rw [List.getElem?_map,List.getElem?_eq_getElem (by omega)] at h2
     simp only [Option.map_some,Option.some.injEq] at h2
     rw [←h2,List.getD_eq_getElem?_getD,List.getElem?_eq_getElem (by omega)]
     rfl
    obtain⟨ys,n',_,hy,_,hyl,hyf⟩:=DataW.trod_struct he hfb
    have S5:ys.map (·.1)=(zss.getD i []).map fun z=>(DataW.lit (.int k z):DataW H):=by
     rw [hy] at fm
     simpa using fm
    have hrl:(zss.getD i []).length=m:=hz _ (by rw [List.getD_eq_getElem?_getD,List.getElem?_eq_getElem (by omega)];exact List.getElem_mem _)
    have hjf:j<fs.size:=by omega
    have hfj:=hyf j fs[j] (Array.getElem?_eq_getElem hjf)
    obtain⟨f1,f2,f3⟩:=hf j fs[j] (Array.getElem?_eq_getElem hjf)
    rw [f1,f3] at hfj
    have hyj:j<ys.length:=by omega
    rw [List.getElem?_eq_getElem hyj] at hfj
    obtain⟨z,hc,hzv,_⟩:=DataW.trod_int f2 hfj
    have h1:cs[i*m+j]? =some (.int k z):=by
     have :=congrArg (·[0]?) hc
     simp only [List.getElem?_take,List.getElem?_drop] at this
     simpa [hj,Nat.add_comm] using this
    have h3:(ys.map (·.1))[j]? =some (DataW.lit (.int k z)):=by rw [List.getElem?_map,List.getElem?_eq_getElem hyj,hzv];rfl
    rw [S5,List.getElem?_map,List.getElem?_eq_getElem (by omega)] at h3
    simp only [Option.map_some,Option.some.injEq,DataW.lit.injEq,Lit.int.injEq,true_and] at h3
    rw [h1,List.getD_eq_getElem?_getD,List.getElem?_eq_getElem (by omega)]
    simp only [Option.getD_some,h3]
  · cases h
theorem Ns {P:Program} {W:World} {name:String} {g:Nat} {cs:Array Value}(hg:P.globalNamed name=some g)(h:W.var? P name=some cs)(hn:0<cs.size):g<W.heap.size:=by
 have h1:=World.var?_cell hg h 0
 rw [Array.getElem?_eq_getElem hn] at h1
 unfold World.cell? at h1
 split at h1
 · rename_i h2
   exact(Array.getElem?_eq_some_iff.1 h2).1
 · cases h1
def jv(k:IntKind):(ts:List Ty)→List Int→Row ts→Prop
 | [],[],_=>True
 | .int k'::ts,z::zs,x=>k'=k∧DI.toInt k' (Row.hd (t:= .int k') (ts:=ts) x)=z∧lo k≤z∧z≤hi k∧jv k ts zs (Row.tl x)
 |_,_,_=>False
theorem C8 {w:World} {A:Nat→Prop} {k:IntKind}:∀(ts:List Ty) (zs:List Int) (x:Row ts),jv k ts zs x→bg w A ts (zs.map (Value.int k)) x
 | [],[],x,_=>by simp [bg]
 | .int k'::ts,z::zs,x,h=>by
   simp only [jv] at h
   obtain⟨rfl,h2,h3,h4,h5⟩:=h
   simp only [bg,List.map_cons]
   refine⟨_,_,rfl,?_,C8 ts zs _ h5⟩
   simp only [Rd]
   rw [h2]
   exact⟨rfl,h3,h4⟩
 | .bool::_,_,_,h=>by simp [jv] at h
 | .str::_,_,_,h=>by simp [jv] at h
 | .slice _::_,_,_,h=>by simp [jv] at h
 | [],_::_,_,h=>by simp [jv] at h
 | .int _::_,[],_,h=>by simp [jv] at h
def oI(k:IntKind)(ts:List Ty):List (List Int)→List (Row ts)→Prop
 | [],[]=>True
 |zs::r,x::l=>jv k ts zs x∧oI k ts r l
 |_,_=>False
theorem y5 {w:World} {A:Nat→Prop} {k:IntKind} {ts:List Ty}:∀(zss:List (List Int)) (l:List (Row ts)),oI k ts zss l→bW (bg w A ts) (zss.flatten.map (Value.int k)) l
 | [],[],_=>by simp [bW]
 |zs::r,x::l,h=>by
  simp only [oI] at h
  exact⟨zs.map (Value.int k),r.flatten.map (Value.int k),by simp,C8 ts zs x h.1,y5 r l h.2⟩
 | [],_::_,h=>by simp [oI] at h
 |_::_,[],h=>by simp [oI] at h
theorem zU {m:Nat}:∀(zss:List (List Int)),(∀r∈zss,r.length=m)→∀q (z:Int),zss.flatten[q]? =some z→∃i j,i<zss.length∧j<m∧q=i*m+j∧(zss.getD i []).getD j 0=z
 | [],_,q,z,h=>by simp at h
 |r::rs,hz,q,z,h=>by
  have hr:r.length=m:=hz r (by simp)
  by_cases hq:q<m
  · refine⟨0,q,by simp,hq,by simp,?_⟩
    rw [List.flatten_cons,List.getElem?_append_left (by omega)] at h
    simp [List.getD,h]
  · rw [List.flatten_cons,List.getElem?_append_right (by omega),hr] at h
    obtain⟨i,j,h1,h2,h3,h4⟩:=zU rs (fun r lf=>hz r (by simp [lf])) (q-m) z h
    refine⟨i+1,j,by simp;omega,h2,?_,by simpa using h4⟩
    rw [Nat.add_mul];omega
theorem C9 {P:Program} {W:World} {name:String} {g:Nat} {t e:TypeId} {n m:Nat} {k:IntKind} {fs:Array Field} {zss:List (List Int)} {row:List Ty} {l:List (Row row)} {laid:List (String×DataW Unit)}
  (hm:laidMet P laid W) (aG:(name,DataW.agg (zss.map fun r=> .agg (r.map fun z=> .lit (.int k z))))∈laid) (hg:P.globalNamed name=some g) (hgt:(P.globals[g]?).map (·.type)=some t)
  (ht:P.underlying t=some (.array n e)) (he:P.underlying e=some (.struct fs)) (HF:P.cellsOf e=m) (UM:P.cellsOf t=n*m) (hfs:fs.size=m) (hf:∀(i:Nat) (f:Field),fs[i]? =some f→f.offset=i∧P.underlying f.type=some (.int k)∧P.cellsOf f.type=1)
  (hz:∀r∈zss,r.length=m) (gy:0<n*m) (hl:oI k row zss l):mH W (fun b=>b<W.heap.size) g ⟨row,l⟩:=by
 obtain⟨ps,Ek,_⟩:=hm
 obtain⟨g',t',cs,fuel,p,h1,h2,h3,h4⟩:=C6 Ek aG
 obtain rfl :=Option.some.inj (hg.symm.trans h1)
 obtain rfl :=Option.some.inj (hgt.symm.trans h2)
 obtain⟨q1,q2,q3⟩:=C7 ht he HF UM hfs hf hz h4
 have aoi:cs.size=n*m:=by simpa using q1
 refine⟨Ns hg h3 (by rw [aoi];exact gy),zss.flatten.map (Value.int k),fun q v hq=> ?_,y5 zss l hl⟩
 rw [List.getElem?_map] at hq
 obtain⟨z,Ē,rfl⟩:=Option.map_eq_some_iff.1 hq
 obtain⟨i,j,hi,hj,rfl,hv⟩:=zU zss hz q z Ē
 rw [Nat.zero_add,World.var?_cell hg h3,←Array.getElem?_toList,q3 i j (by omega) hj,hv]
theorem xU:∀zs:List Int,(zs.map fun z=> [z]).flatten=zs
 | []=>rfl
 |z::zs=>by simp only [List.map_cons,List.flatten_cons,xU zs];rfl
theorem Da {P:Program} {W:World} {name:String} {g:Nat} {t e:TypeId} {n:Nat} {k:IntKind} {zs:List Int} {row:List Ty} {l:List (Row row)} {laid:List (String×DataW Unit)}
  (hm:laidMet P laid W) (aG:(name,DataW.agg (zs.map fun z=> .lit (.int k z)))∈laid) (hg:P.globalNamed name=some g) (hgt:(P.globals[g]?).map (·.type)=some t)
  (ht:P.underlying t=some (.array n e)) (he:P.underlying e=some (.int k)) (HF:P.cellsOf e=1) (UM:P.cellsOf t=n) (gy:0<zs.length) (hl:oI k row (zs.map fun z=> [z]) l):mH W (fun b=>b<W.heap.size) g ⟨row,l⟩:=by
 obtain⟨ps,Ek,_⟩:=hm
 obtain⟨g',t',cs,fuel,p,h1,h2,h3,h4⟩:=C6 Ek aG
 obtain rfl :=Option.some.inj (hg.symm.trans h1)
 obtain rfl :=Option.some.inj (hgt.symm.trans h2)
 have hc:=Lib.cells_of_tab ht he HF UM h4
 have cz:0<cs.size:=by
  have :=congrArg List.length hc
  simp at this;omega
 refine⟨Ns hg h3 cz,zs.map (Value.int k),fun q v hq=> ?_,?_⟩
 · rw [Nat.zero_add,World.var?_cell hg h3,←Array.getElem?_toList,hc]
   exact hq
 · have :=y5 (w:=W) (A:=fun b=>b<W.heap.size) _ _ hl
   rwa [xU] at this
end Go.Vg

end
section
namespace Go.Vg
open Go.Proofs
open Go
def fU:Vg.b9:=(.node (.node (.node (.node (.node (.node .leaf 3 ⟨.int .i64,1,8, .int .i64 (0)⟩ .leaf) 4 ⟨.bool,1,1, .bool false⟩ (.node .leaf 5 ⟨.int .u8,1,1, .int .u8 (0)⟩ .leaf)) 9 ⟨.string,1,16, .string ⟨#[]⟩⟩ (.node (.node .leaf 22 ⟨.slice 46,1,24, .slice none 0 0⟩ .leaf) 23 ⟨.slice 81,1,24, .slice none 0 0⟩ .leaf)) 25 ⟨.struct #[⟨ "Docs",22,0,false,"","",0⟩,⟨ "Segs",23,1,false,"","",24⟩],2,48, .agg #[.slice none 0 0, .slice none 0 0]⟩ (.node (.node (.node .leaf 28 ⟨.slice 44,1,24, .slice none 0 0⟩ .leaf) 30 ⟨.slice 42,1,24, .slice none 0 0⟩ (.node .leaf 32 ⟨.slice 100,1,24, .slice none 0 0⟩ .leaf)) 34 ⟨.struct #[⟨ "Docs",22,0,false,"","",0⟩,⟨ "Segs",32,1,false,"","",24⟩],2,48, .agg #[.slice none 0 0, .slice none 0 0]⟩ (.node (.node .leaf 40 ⟨.struct #[⟨ "From",3,0,false,"","",0⟩,⟨ "To",3,1,false,"","",8⟩],2,16, .agg #[.int .i64 (0), .int .i64 (0)]⟩ .leaf) 42 ⟨.struct #[⟨ "Span",40,0,false,"","",0⟩,⟨ "Links",3,2,false,"","",16⟩,⟨ "Root",9,3,false,"","",24⟩],4,40, .agg #[.int .i64 (0), .int .i64 (0), .int .i64 (0), .string ⟨#[]⟩]⟩ .leaf))) 44 ⟨.struct #[⟨ "Span",40,0,false,"","",0⟩,⟨ "Links",3,2,false,"","",16⟩,⟨ "Root",9,3,false,"","",24⟩],4,40, .agg #[.int .i64 (0), .int .i64 (0), .int .i64 (0), .string ⟨#[]⟩]⟩ (.node (.node (.node (.node .leaf 45 ⟨.slice 48,1,24, .slice none 0 0⟩ .leaf) 46 ⟨.slice 5,1,24, .slice none 0 0⟩ (.node .leaf 48 ⟨.struct #[⟨ "Kind",3,0,false,"","",0⟩,⟨ "I",3,1,false,"","",8⟩,⟨ "Many",3,2,false,"","",16⟩,⟨ "Doc",46,3,false,"","",24⟩],4,48, .agg #[.int .i64 (0), .int .i64 (0), .int .i64 (0), .slice none 0 0]⟩ .leaf)) 49 ⟨.int .i64,1,8, .int .i64 (0)⟩ (.node (.node .leaf 61 ⟨.struct #[⟨ "Size",3,0,false,"","",0⟩,⟨ "Log",9,1,false,"","",8⟩,⟨ "Segs",28,2,false,"","",24⟩],3,48, .agg #[.int .i64 (0), .string ⟨#[]⟩, .slice none 0 0]⟩ .leaf) 66 ⟨.struct #[⟨ "Size",3,0,false,"","",0⟩,⟨ "Log",9,1,false,"","",8⟩,⟨ "Segs",30,2,false,"","",24⟩],3,48, .agg #[.int .i64 (0), .string ⟨#[]⟩, .slice none 0 0]⟩ .leaf)) 77 ⟨.slice 3,1,24, .slice none 0 0⟩ (.node (.node (.node .leaf 79 ⟨.slice 132,1,24, .slice none 0 0⟩ .leaf) 81 ⟨.struct #[⟨ "Span",40,0,false,"","",0⟩,⟨ "Dict",79,2,false,"","",16⟩],3,40, .agg #[.int .i64 (0), .int .i64 (0), .slice none 0 0]⟩ .leaf) 89 ⟨.slice 9,1,24, .slice none 0 0⟩ (.node (.node .leaf 100 ⟨.struct #[⟨ "Span",40,0,false,"","",0⟩,⟨ "Dict",79,2,false,"","",16⟩],3,40, .agg #[.int .i64 (0), .int .i64 (0), .slice none 0 0]⟩ .leaf) 118 ⟨.struct #[⟨ "B",46,0,false,"","",0⟩,⟨ "At",3,1,false,"","",24⟩,⟨ "E",49,2,false,"","",32⟩],3,40, .agg #[.slice none 0 0, .int .i64 (0), .int .i64 (0)]⟩ .leaf)))) 121 ⟨.func #[] #[3] false,1,8, .nilFunc⟩ (.node (.node (.node (.node (.node .leaf 124 ⟨.func #[] #[9] false,1,8, .nilFunc⟩ .leaf) 132 ⟨.struct #[⟨ "Term",9,0,false,"","",0⟩,⟨ "Docs",77,1,false,"","",16⟩],2,40, .agg #[.string ⟨#[]⟩, .slice none 0 0]⟩ (.node .leaf 137 ⟨.slice 40,1,24, .slice none 0 0⟩ .leaf)) 148 ⟨.func #[132,132] #[4] false,1,8, .nilFunc⟩ (.node (.node .leaf 154 ⟨.int .u32,1,4, .int .u32 (0)⟩ .leaf) 155 ⟨.array 8 154,8,32, .agg #[.int .u32 (0), .int .u32 (0), .int .u32 (0), .int .u32 (0), .int .u32 (0), .int .u32 (0), .int .u32 (0), .int .u32 (0)]⟩ .leaf)) 157 ⟨.struct #[⟨ "H",155,0,false,"","",0⟩,⟨ "Rest",46,8,false,"","",32⟩,⟨ "N",3,9,false,"","",56⟩],10,64, .agg #[.int .u32 (0), .int .u32 (0), .int .u32 (0), .int .u32 (0), .int .u32 (0), .int .u32 (0), .int .u32 (0), .int .u32 (0), .slice none 0 0, .int .i64 (0)]⟩ (.node (.node (.node .leaf 172 ⟨.int .u64,1,8, .int .u64 (0)⟩ .leaf) 181 ⟨.struct #[⟨ "Term",9,0,false,"","",0⟩,⟨ "Next",9,1,false,"","",16⟩,⟨ "Posts",9,2,false,"","",32⟩],3,48, .agg #[.string ⟨#[]⟩, .string ⟨#[]⟩, .string ⟨#[]⟩]⟩ .leaf) 183 ⟨.map 9 77,1,8, .map none⟩ (.node (.node .leaf 186 ⟨.func #[196] #[] false,1,8, .nilFunc⟩ .leaf) 190 ⟨.int .u64,1,8, .int .u64 (0)⟩ .leaf))) 193 ⟨.slice 154,1,24, .slice none 0 0⟩ (.node (.node (.node (.node .leaf 202 ⟨.func #[3,4,4] #[4] false,1,8, .nilFunc⟩ .leaf) 203 ⟨.struct #[⟨ "Term",9,0,false,"","",0⟩,⟨ "Next",9,1,false,"","",16⟩,⟨ "Posts",9,2,false,"","",32⟩],3,48, .agg #[.string ⟨#[]⟩, .string ⟨#[]⟩, .string ⟨#[]⟩]⟩ (.node .leaf 209 ⟨.func #[9,9] #[3] false,1,8, .nilFunc⟩ .leaf)) 223 ⟨.func #[9,9] #[4] false,1,8, .nilFunc⟩ (.node (.node .leaf 227 ⟨.array 64 154,64,256, .agg #[.int .u32 (0), .int .u32 (0), .int .u32 (0), .int .u32 (0), .int .u32 (0), .int .u32 (0), .int .u32 (0), .int .u32 (0), .int .u32 (0), .int .u32 (0), .int .u32 (0), .int .u32 (0), .int .u32 (0), .int .u32 (0), .int .u32 (0), .int .u32 (0), .int .u32 (0), .int .u32 (0), .int .u32 (0), .int .u32 (0), .int .u32 (0), .int .u32 (0), .int .u32 (0), .int .u32 (0), .int .u32 (0), .int .u32 (0), .int .u32 (0), .int .u32 (0), .int .u32 (0), .int .u32 (0), .int .u32 (0), .int .u32 (0), .int .u32 (0), .int .u32 (0), .int .u32 (0), .int .u32 (0), .int .u32 (0), .int .u32 (0), .int .u32 (0), .int .u32 (0), .int .u32 (0), .int .u32 (0), .int .u32 (0), .int .u32 (0), .int .u32 (0), .int .u32 (0), .int .u32 (0), .int .u32 (0), .int .u32 (0), .int .u32 (0), .int .u32 (0), .int .u32 (0), .int .u32 (0), .int .u32 (0), .int .u32 (0), .int .u32 (0), .int .u32 (0), .int .u32 (0), .int .u32 (0), .int .u32 (0), .int .u32 (0), .int .u32 (0), .int .u32 (0), .int .u32 (0)]⟩ .leaf) 233 ⟨.struct #[⟨ "from",3,0,false,"","rubrick/utf",0⟩,⟨ "to",3,1,false,"","rubrick/utf",8⟩],2,16, .agg #[.int .i64 (0), .int .i64 (0)]⟩ .leaf)) 234 ⟨.array 9 233,18,144, .agg #[.int .i64 (0), .int .i64 (0), .int .i64 (0), .int .i64 (0), .int .i64 (0), .int .i64 (0), .int .i64 (0), .int .i64 (0), .int .i64 (0), .int .i64 (0), .int .i64 (0), .int .i64 (0), .int .i64 (0), .int .i64 (0), .int .i64 (0), .int .i64 (0), .int .i64 (0), .int .i64 (0)]⟩ (.node (.node (.node .leaf 237 ⟨.int .i64,1,8, .int .i64 (0)⟩ .leaf) 252 ⟨.struct #[⟨ "from",3,0,false,"","rubrick/utf",0⟩,⟨ "to",3,1,false,"","rubrick/utf",8⟩,⟨ "add",3,2,false,"","rubrick/utf",16⟩],3,24, .agg #[.int .i64 (0), .int .i64 (0), .int .i64 (0)]⟩ .leaf) 253 ⟨.array 7 252,21,168, .agg #[.int .i64 (0), .int .i64 (0), .int .i64 (0), .int .i64 (0), .int .i64 (0), .int .i64 (0), .int .i64 (0), .int .i64 (0), .int .i64 (0), .int .i64 (0), .int .i64 (0), .int .i64 (0), .int .i64 (0), .int .i64 (0), .int .i64 (0), .int .i64 (0), .int .i64 (0), .int .i64 (0), .int .i64 (0), .int .i64 (0), .int .i64 (0)]⟩ (.node (.node .leaf 254 ⟨.int .u64,1,8, .int .u64 (0)⟩ .leaf) 258 ⟨.pointer 3,1,8, .pointer none⟩ .leaf)))))
set_option maxRecDepth 100000 in
theorem Nt:fU.Ok Tryz.prog:=⟨⟨⟨⟨⟨⟨trivial,trivial,Tryz.underlying3,trivial,Tryz.t3,rfl,rfl,rfl,rfl⟩,⟨trivial,trivial,Tryz.underlying5,trivial,Tryz.t5,rfl,rfl,rfl,rfl⟩,Tryz.underlying4,trivial,Tryz.t4,rfl,rfl,rfl,rfl⟩,⟨⟨trivial,trivial,Tryz.underlying22,trivial,Tryz.t22,rfl,rfl,rfl,rfl⟩,trivial,Tryz.underlying23,trivial,Tryz.t23,rfl,rfl,rfl,rfl⟩,Tryz.underlying9,trivial,Tryz.t9,rfl,rfl,rfl,rfl⟩,⟨⟨⟨trivial,trivial,Tryz.underlying28,trivial,Tryz.t28,rfl,rfl,rfl,rfl⟩,⟨trivial,trivial,Tryz.underlying32,trivial,Tryz.t32,rfl,rfl,rfl,rfl⟩,Tryz.underlying30,trivial,Tryz.t30,rfl,rfl,rfl,rfl⟩,⟨⟨trivial,trivial,Tryz.underlying40,⟨by kernel_rfl,by kernel_rfl,by kernel_rfl⟩,Tryz.t40,rfl,rfl,rfl,rfl⟩,trivial,Tryz.underlying42,⟨by kernel_rfl,by kernel_rfl,by kernel_rfl⟩,Tryz.t42,rfl,rfl,rfl,rfl⟩,Tryz.underlying34,⟨by kernel_rfl,by kernel_rfl,by kernel_rfl⟩,Tryz.t34,rfl,rfl,rfl,rfl⟩,Tryz.underlying25,⟨by kernel_rfl,by kernel_rfl,by kernel_rfl⟩,Tryz.t25,rfl,rfl,rfl,rfl⟩,⟨⟨⟨⟨trivial,trivial,Tryz.underlying45,trivial,Tryz.t45,rfl,rfl,rfl,rfl⟩,⟨trivial,trivial,Tryz.underlying48,⟨by kernel_rfl,by kernel_rfl,by kernel_rfl⟩,Tryz.t48,rfl,rfl,rfl,rfl⟩,Tryz.underlying46,trivial,Tryz.t46,rfl,rfl,rfl,rfl⟩,⟨⟨trivial,trivial,Tryz.underlying61,⟨by kernel_rfl,by kernel_rfl,by kernel_rfl⟩,Tryz.t61,rfl,rfl,rfl,rfl⟩,trivial,Tryz.underlying66,⟨by kernel_rfl,by kernel_rfl,by kernel_rfl⟩,Tryz.t66,rfl,rfl,rfl,rfl⟩,Tryz.underlying49,trivial,Tryz.t49,rfl,rfl,rfl,rfl⟩,⟨⟨⟨trivial,trivial,Tryz.underlying79,trivial,Tryz.t79,rfl,rfl,rfl,rfl⟩,trivial,Tryz.underlying81,⟨by kernel_rfl,by kernel_rfl,by kernel_rfl⟩,Tryz.t81,rfl,rfl,rfl,rfl⟩,⟨⟨trivial,trivial,Tryz.underlying100,⟨by kernel_rfl,by kernel_rfl,by kernel_rfl⟩,Tryz.t100,rfl,rfl,rfl,rfl⟩,trivial,Tryz.underlying118,⟨by kernel_rfl,by kernel_rfl,by kernel_rfl⟩,Tryz.t118,rfl,rfl,rfl,rfl⟩,Tryz.underlying89,trivial,Tryz.t89,rfl,rfl,rfl,rfl⟩,Tryz.underlying77,trivial,Tryz.t77,rfl,rfl,rfl,rfl⟩,Tryz.underlying44,⟨by kernel_rfl,by kernel_rfl,by kernel_rfl⟩,Tryz.t44,rfl,rfl,rfl,rfl⟩,⟨⟨⟨⟨⟨trivial,trivial,Tryz.underlying124,trivial,Tryz.t124,rfl,rfl,rfl,rfl⟩,⟨trivial,trivial,Tryz.underlying137,trivial,Tryz.t137,rfl,rfl,rfl,rfl⟩,Tryz.underlying132,⟨by kernel_rfl,by kernel_rfl,by kernel_rfl⟩,Tryz.t132,rfl,rfl,rfl,rfl⟩,⟨⟨trivial,trivial,Tryz.underlying154,trivial,Tryz.t154,rfl,rfl,rfl,rfl⟩,trivial,Tryz.underlying155,trivial,Tryz.t155,rfl,rfl,rfl,rfl⟩,Tryz.underlying148,trivial,Tryz.t148,rfl,rfl,rfl,rfl⟩,⟨⟨⟨trivial,trivial,Tryz.underlying172,trivial,Tryz.t172,rfl,rfl,rfl,rfl⟩,trivial,Tryz.underlying181,⟨by kernel_rfl,by kernel_rfl,by kernel_rfl⟩,Tryz.t181,rfl,rfl,rfl,rfl⟩,⟨⟨trivial,trivial,Tryz.underlying186,trivial,Tryz.t186,rfl,rfl,rfl,rfl⟩,trivial,Tryz.underlying190,trivial,Tryz.t190,rfl,rfl,rfl,rfl⟩,Tryz.underlying183,trivial,Tryz.t183,rfl,rfl,rfl,rfl⟩,Tryz.underlying157,⟨by kernel_rfl,by kernel_rfl,by kernel_rfl⟩,Tryz.t157,rfl,rfl,rfl,rfl⟩,⟨⟨⟨⟨trivial,trivial,Tryz.underlying202,trivial,Tryz.t202,rfl,rfl,rfl,rfl⟩,⟨trivial,trivial,Tryz.underlying209,trivial,Tryz.t209,rfl,rfl,rfl,rfl⟩,Tryz.underlying203,⟨by kernel_rfl,by kernel_rfl,by kernel_rfl⟩,Tryz.t203,rfl,rfl,rfl,rfl⟩,⟨⟨trivial,trivial,Tryz.underlying227,trivial,Tryz.t227,rfl,rfl,rfl,rfl⟩,trivial,Tryz.underlying233,⟨by kernel_rfl,by kernel_rfl,by kernel_rfl⟩,Tryz.t233,rfl,rfl,rfl,rfl⟩,Tryz.underlying223,trivial,Tryz.t223,rfl,rfl,rfl,rfl⟩,⟨⟨⟨trivial,trivial,Tryz.underlying237,trivial,Tryz.t237,rfl,rfl,rfl,rfl⟩,trivial,Tryz.underlying252,⟨by kernel_rfl,by kernel_rfl,by kernel_rfl⟩,Tryz.t252,rfl,rfl,rfl,rfl⟩,⟨⟨trivial,trivial,Tryz.underlying254,trivial,Tryz.t254,rfl,rfl,rfl,rfl⟩,trivial,Tryz.underlying258,trivial,Tryz.t258,rfl,rfl,rfl,rfl⟩,Tryz.underlying253,trivial,Tryz.t253,rfl,rfl,rfl,rfl⟩,Tryz.underlying234,trivial,Tryz.t234,rfl,rfl,rfl,rfl⟩,Tryz.underlying193,trivial,Tryz.t193,rfl,rfl,rfl,rfl⟩,Tryz.underlying121,trivial,Tryz.t121,rfl,rfl,rfl,rfl⟩
end Go.Vg
namespace Go.J
open Go.Proofs
def G0:Nat→Option Go.Vg.GD:=fun i=>match i with
 |0=>some ⟨[.int .u32],[1779033703,3144134277,1013904242,2773480762,1359893119,2600822924,528734635,1541459225]⟩
 |1=>some ⟨[.int .u32],Go.S.rO⟩
 |2=>some ⟨[.int .i64, .int .i64],[(65,90),(97,122),(192,214),(216,246),(248,255),(913,929),(931,937),(945,969),(1024,1119)]⟩
 |3=>some ⟨[.int .i64, .int .i64, .int .i64],[(65,90,32),(192,214,32),(216,222,32),(913,929,32),(931,937,32),(1024,1039,80),(1040,1071,32)]⟩
 |_=>none
end Go.J

end
section
set_option linter.unusedVariables false
namespace Go
def aC(x:Int):Prop :=(-9223372036854775808:Int)≤x∧x≤(9223372036854775807:Int)
def eS:Nat:=140737488355328
def Db:Int:=140737488355328
def z0:Int:=0
def z1:Int:=1
def an {α:Type}(x:List α):Int:=(x.length:Int)
def q0(k:Int):=k%(18446744073709551616:Int)
def q1(k:Int):=(32:Int)-Vg.aZ (q0 k) (31:Int)
def aet(x:Int)(k:Int):Prop :=
 (z0≤Vg.aZ (q0 k) (31:Int)∧Vg.aZ (q0 k) (31:Int)≤(32:Int))∧(z0≤(q1 k)%(18446744073709551616:Int)∧(q1 k)%(18446744073709551616:Int)≤(32:Int))∧Vg.cP (x*(2:Int)^Int.toNat (Vg.aZ (q0 k) (31:Int))%(4294967296:Int)) (x/(2:Int)^Int.toNat ((q1 k)%(18446744073709551616:Int)))=S.rotl x k
def aeu:Prop :=
 (1779033703:Int)=(1779033703:Int)∧(3144134277:Int)=(3144134277:Int)∧(1013904242:Int)=(1013904242:Int)∧(2773480762:Int)=(2773480762:Int)∧(1359893119:Int)=(1359893119:Int)∧(2600822924:Int)=(2600822924:Int)∧(528734635:Int)=(528734635:Int)∧(1541459225:Int)=(1541459225:Int)∧z0=z0
def aev(s1:Int)(s2:Int)(s3:Int)(s4:Int)(s5:Int)(s6:Int)(s7:Int)(s8:Int)(s9:List UInt8)(aI:Int):Prop :=
 ((decide (z0≤aI)=true→(decide (aI≤(1099511627776:Int))=true→z0≤aI∧z0<(64:Int))∧(decide (aI≤(1099511627776:Int))=false→True))∧(decide (z0≤aI)=false→True))∧(bif decide (z0≤aI) then bif decide (aI≤(1099511627776:Int)) then decide ((an s9)=aI%(64:Int)) else false else false)=S.aU s9 aI
def q2(p:List UInt8)(u1 u2 u3 u4 u5 u6 u7 u8:Int)(af:Nat):=S.dg (S.sched p (64:Nat)) (u1,u2,u3,u4,u5,u6,u7,u8) af
def q3(p:List UInt8)(u1 u2 u3 u4 u5 u6 u7 u8:Int)(af x:Nat):=((((((((((q2 p u1 u2 u3 u4 u5 u6 u7 u8 af).2).2).2).2).2).2).2+Vg.bo (Vg.bo (S.rotl ((((((q2 p u1 u2 u3 u4 u5 u6 u7 u8 af).2).2).2).2).1) (-6:Int)) (S.rotl ((((((q2 p u1 u2 u3 u4 u5 u6 u7 u8 af).2).2).2).2).1) (-11:Int))) (S.rotl ((((((q2 p u1 u2 u3 u4 u5 u6 u7 u8 af).2).2).2).2).1) (-25:Int)))%(4294967296:Int)+Vg.bo (Vg.aZ ((((((q2 p u1 u2 u3 u4 u5 u6 u7 u8 af).2).2).2).2).1) (((((((q2 p u1 u2 u3 u4 u5 u6 u7 u8 af).2).2).2).2).2).1)) (Vg.aZ ((4294967296:Int)-z1-(((((q2 p u1 u2 u3 u4 u5 u6 u7 u8 af).2).2).2).2).1) ((((((((q2 p u1 u2 u3 u4 u5 u6 u7 u8 af).2).2).2).2).2).2).1)))%(4294967296:Int)+List.getD S.rO ((af:Int).toNat) z0)%(4294967296:Int)+List.getD (S.aO p x) ((0:Nat)+(af:Int).toNat*(1:Nat)) z0
def q4(p:List UInt8)(x:Nat):=List.getD (S.aO p x) ((0:Nat)+Int.toNat ((x:Int)-(15:Int))*(1:Nat)) z0
def q5(p:List UInt8)(x:Nat):=List.getD (S.aO p x) ((0:Nat)+Int.toNat ((x:Int)-(2:Int))*(1:Nat)) z0
def q6(p:List UInt8):=S.sched p (64:Nat)
def q7(x:Nat):=aC ((4:Int)*(x:Int))
def q8:=z0≤(2:Int)∧(2:Int)<(↑(8:Nat):Int)
def q9:=z0≤(3:Int)∧(3:Int)<(↑(8:Nat):Int)
def Aj:=z0≤(4:Int)∧(4:Int)<(↑(8:Nat):Int)
def y6:=z0≤(5:Int)∧(5:Int)<(↑(8:Nat):Int)
def UN:=z0≤(6:Int)∧(6:Int)<(↑(8:Nat):Int)
def q13:=z0≤(7:Int)∧(7:Int)<(↑(8:Nat):Int)
def aew(u1:Int)(u2:Int)(u3:Int)(u4:Int)(u5:Int)(u6:Int)(u7:Int)(u8:Int)(p:List UInt8):Prop :=
 (∃(x:Nat),(z0=(x:Int)∧ [z0,z0,z0,z0,z0,z0,z0,z0,z0,z0,z0,z0,z0,z0,z0,z0,z0,z0,z0,z0,z0,z0,z0,z0,z0,z0,z0,z0,z0,z0,z0,z0,z0,z0,z0,z0,z0,z0,z0,z0,z0,z0,z0,z0,z0,z0,z0,z0,z0,z0,z0,z0,z0,z0,z0,z0,z0,z0,z0,z0,z0,z0,z0,z0]=S.aO p x)∧S.bY x (16:Nat))∧∀(x:Nat),S.bY x (16:Nat)→(decide ((x:Int)<(16:Int))=true→(q7 x)∧(z0≤(4:Int)*(x:Int)∧(4:Int)*(x:Int)<(an p))∧(z0≤(24:Int)∧(24:Int)≤(32:Int))∧(q7 x)∧(aC ((4:Int)*(x:Int)+z1))∧(z0≤(4:Int)*(x:Int)+z1∧(4:Int)*(x:Int)+z1<(an p))∧(z0≤(16:Int)∧(16:Int)≤(32:Int))∧(q7 x)∧(aC ((4:Int)*(x:Int)+(2:Int)))∧(z0≤(4:Int)*(x:Int)+(2:Int)∧(4:Int)*(x:Int)+(2:Int)<(an p))∧(z0≤(8:Int)∧(8:Int)≤(32:Int))∧(q7 x)∧(aC ((4:Int)*(x:Int)+(3:Int)))∧(z0≤(4:Int)*(x:Int)+(3:Int)∧(4:Int)*(x:Int)+(3:Int)<(an p))∧(z0≤(x:Int)∧(x:Int)<(↑(64:Nat):Int))∧(0:Nat)+(x:Int).toNat*(1:Nat)<List.length (S.aO p x)∧(aC ((x:Int)+z1))∧∃(af:Nat),((x:Int)+z1=(af:Int)∧List.set (S.aO p x) ((0:Nat)+(x:Int).toNat*(1:Nat)) (Vg.cP (Vg.cP (Vg.cP ((↑(UInt8.toNat (List.getD p (Int.toNat ((4:Int)*(x:Int))) (0:UInt8))):Int)*(2:Int)^(24:Int).toNat%(4294967296:Int)) ((↑(UInt8.toNat (List.getD p (Int.toNat ((4:Int)*(x:Int)+z1)) (0:UInt8))):Int)*(2:Int)^(16:Int).toNat%(4294967296:Int))) ((↑(UInt8.toNat (List.getD p (Int.toNat ((4:Int)*(x:Int)+(2:Int))) (0:UInt8))):Int)*(2:Int)^(8:Int).toNat%(4294967296:Int))) (↑(UInt8.toNat (List.getD p (Int.toNat ((4:Int)*(x:Int)+(3:Int))) (0:UInt8))):Int))=S.aO p af)∧S.bY af (16:Nat)∧S.ag (16:Nat) af<S.ag (16:Nat) x)∧(decide ((x:Int)<(16:Int))=false→(∃(af:Nat),((16:Int)=(af:Int)∧S.aO p x=S.aO p af)∧(16:Nat)≤af∧af≤(64:Nat))∧∀(x:Nat),(16:Nat)≤x∧x≤(64:Nat)→(decide ((x:Int)<(64:Int))=true→(aC ((x:Int)-(15:Int)))∧(z0≤(x:Int)-(15:Int)∧(x:Int)-(15:Int)<(↑(64:Nat):Int))∧(0:Nat)+Int.toNat ((x:Int)-(15:Int))*(1:Nat)<List.length (S.aO p x)∧(aC ((x:Int)-(2:Int)))∧(z0≤(x:Int)-(2:Int)∧(x:Int)-(2:Int)<(↑(64:Nat):Int))∧(0:Nat)+Int.toNat ((x:Int)-(2:Int))*(1:Nat)<List.length (S.aO p x)∧S.fE (q4 p x) (-7:Int)∧S.fE (q4 p x) (-18:Int)∧(z0≤(3:Int)∧(3:Int)≤(32:Int))∧S.fE (q5 p x) (-17:Int)∧S.fE (q5 p x) (-19:Int)∧(z0≤(10:Int)∧(10:Int)≤(32:Int))∧(aC ((x:Int)-(16:Int)))∧(z0≤(x:Int)-(16:Int)∧(x:Int)-(16:Int)<(↑(64:Nat):Int))∧(0:Nat)+Int.toNat ((x:Int)-(16:Int))*(1:Nat)<List.length (S.aO p x)∧(aC ((x:Int)-(7:Int)))∧(z0≤(x:Int)-(7:Int)∧(x:Int)-(7:Int)<(↑(64:Nat):Int))∧(0:Nat)+Int.toNat ((x:Int)-(7:Int))*(1:Nat)<List.length (S.aO p x)∧(z0≤(x:Int)∧(x:Int)<(↑(64:Nat):Int))∧(0:Nat)+(x:Int).toNat*(1:Nat)<List.length (S.aO p x)∧(aC ((x:Int)+z1))∧∃(af:Nat),((x:Int)+z1=(af:Int)∧List.set (S.aO p x) ((0:Nat)+(x:Int).toNat*(1:Nat)) ((((List.getD (S.aO p x) ((0:Nat)+Int.toNat ((x:Int)-(16:Int))*(1:Nat)) z0+Vg.bo (Vg.bo (S.rotl (q4 p x) (-7:Int)) (S.rotl (q4 p x) (-18:Int))) (List.getD (S.aO p x) ((0:Nat)+Int.toNat ((x:Int)-(15:Int))*(1:Nat)) z0/(2:Int)^(3:Int).toNat))%(4294967296:Int)+List.getD (S.aO p x) ((0:Nat)+Int.toNat ((x:Int)-(7:Int))*(1:Nat)) z0)%(4294967296:Int)+Vg.bo (Vg.bo (S.rotl (q5 p x) (-17:Int)) (S.rotl (q5 p x) (-19:Int))) (List.getD (S.aO p x) ((0:Nat)+Int.toNat ((x:Int)-(2:Int))*(1:Nat)) z0/(2:Int)^(10:Int).toNat))%(4294967296:Int))=S.aO p af)∧((16:Nat)≤af∧af≤(64:Nat))∧S.ag (64:Nat) af<S.ag (64:Nat) x)∧(decide ((x:Int)<(64:Int))=false→(z0≤z0∧z0<(↑(8:Nat):Int))∧(z0≤z1∧z1<(↑(8:Nat):Int))∧q8∧q9∧Aj∧y6∧UN∧q13∧(∃(x:Nat),(z0=(x:Int)∧u1=(S.dg (q6 p) (u1,u2,u3,u4,u5,u6,u7,u8) x).1∧u2=((S.dg (q6 p) (u1,u2,u3,u4,u5,u6,u7,u8) x).2).1∧u3=(((S.dg (q6 p) (u1,u2,u3,u4,u5,u6,u7,u8) x).2).2).1∧u4=((((S.dg (q6 p) (u1,u2,u3,u4,u5,u6,u7,u8) x).2).2).2).1∧u5=(((((S.dg (q6 p) (u1,u2,u3,u4,u5,u6,u7,u8) x).2).2).2).2).1∧u6=((((((S.dg (q6 p) (u1,u2,u3,u4,u5,u6,u7,u8) x).2).2).2).2).2).1∧u7=(((((((S.dg (q6 p) (u1,u2,u3,u4,u5,u6,u7,u8) x).2).2).2).2).2).2).1∧u8=(((((((S.dg (q6 p) (u1,u2,u3,u4,u5,u6,u7,u8) x).2).2).2).2).2).2).2)∧S.bY x (64:Nat))∧∀(af:Nat),S.bY af (64:Nat)→(decide ((af:Int)<(64:Int))=true→S.fE ((((((q2 p u1 u2 u3 u4 u5 u6 u7 u8 af).2).2).2).2).1) (-6:Int)∧S.fE ((((((q2 p u1 u2 u3 u4 u5 u6 u7 u8 af).2).2).2).2).1) (-11:Int)∧S.fE ((((((q2 p u1 u2 u3 u4 u5 u6 u7 u8 af).2).2).2).2).1) (-25:Int)∧(64:Nat)=List.length S.rO∧(z0≤(af:Int)∧(af:Int)<(↑(List.length S.rO):Int))∧(z0≤(af:Int)∧(af:Int)<(↑(64:Nat):Int))∧(0:Nat)+(af:Int).toNat*(1:Nat)<List.length (S.aO p x)∧S.fE ((q2 p u1 u2 u3 u4 u5 u6 u7 u8 af).1) (-2:Int)∧S.fE ((q2 p u1 u2 u3 u4 u5 u6 u7 u8 af).1) (-13:Int)∧S.fE ((q2 p u1 u2 u3 u4 u5 u6 u7 u8 af).1) (-22:Int)∧(aC ((af:Int)+z1))∧∃(aw:Nat),((af:Int)+z1=(aw:Int)∧((q3 p u1 u2 u3 u4 u5 u6 u7 u8 af x)%(4294967296:Int)+(Vg.bo (Vg.bo (S.rotl ((q2 p u1 u2 u3 u4 u5 u6 u7 u8 af).1) (-2:Int)) (S.rotl ((q2 p u1 u2 u3 u4 u5 u6 u7 u8 af).1) (-13:Int))) (S.rotl ((q2 p u1 u2 u3 u4 u5 u6 u7 u8 af).1) (-22:Int))+Vg.bo (Vg.bo (Vg.aZ ((q2 p u1 u2 u3 u4 u5 u6 u7 u8 af).1) (((q2 p u1 u2 u3 u4 u5 u6 u7 u8 af).2).1)) (Vg.aZ ((q2 p u1 u2 u3 u4 u5 u6 u7 u8 af).1) ((((q2 p u1 u2 u3 u4 u5 u6 u7 u8 af).2).2).1))) (Vg.aZ (((q2 p u1 u2 u3 u4 u5 u6 u7 u8 af).2).1) ((((q2 p u1 u2 u3 u4 u5 u6 u7 u8 af).2).2).1)))%(4294967296:Int))%(4294967296:Int)=(S.dg (q6 p) (u1,u2,u3,u4,u5,u6,u7,u8) aw).1∧(q2 p u1 u2 u3 u4 u5 u6 u7 u8 af).1=((S.dg (q6 p) (u1,u2,u3,u4,u5,u6,u7,u8) aw).2).1∧((q2 p u1 u2 u3 u4 u5 u6 u7 u8 af).2).1=(((S.dg (q6 p) (u1,u2,u3,u4,u5,u6,u7,u8) aw).2).2).1∧(((q2 p u1 u2 u3 u4 u5 u6 u7 u8 af).2).2).1=((((S.dg (q6 p) (u1,u2,u3,u4,u5,u6,u7,u8) aw).2).2).2).1∧(((((q2 p u1 u2 u3 u4 u5 u6 u7 u8 af).2).2).2).1+(q3 p u1 u2 u3 u4 u5 u6 u7 u8 af x)%(4294967296:Int))%(4294967296:Int)=(((((S.dg (q6 p) (u1,u2,u3,u4,u5,u6,u7,u8) aw).2).2).2).2).1∧(((((q2 p u1 u2 u3 u4 u5 u6 u7 u8 af).2).2).2).2).1=((((((S.dg (q6 p) (u1,u2,u3,u4,u5,u6,u7,u8) aw).2).2).2).2).2).1∧((((((q2 p u1 u2 u3 u4 u5 u6 u7 u8 af).2).2).2).2).2).1=(((((((S.dg (q6 p) (u1,u2,u3,u4,u5,u6,u7,u8) aw).2).2).2).2).2).2).1∧(((((((q2 p u1 u2 u3 u4 u5 u6 u7 u8 af).2).2).2).2).2).2).1=(((((((S.dg (q6 p) (u1,u2,u3,u4,u5,u6,u7,u8) aw).2).2).2).2).2).2).2)∧S.bY aw (64:Nat)∧S.ag (64:Nat) aw<S.ag (64:Nat) af)∧(decide ((af:Int)<(64:Int))=false→(z0≤z0∧z0<(↑(8:Nat):Int))∧(z0≤z1∧z1<(↑(8:Nat):Int))∧q8∧q9∧Aj∧y6∧UN∧q13∧(u1+(q2 p u1 u2 u3 u4 u5 u6 u7 u8 af).1)%(4294967296:Int)=(S.block (u1,u2,u3,u4,u5,u6,u7,u8) p).1∧(u2+((q2 p u1 u2 u3 u4 u5 u6 u7 u8 af).2).1)%(4294967296:Int)=((S.block (u1,u2,u3,u4,u5,u6,u7,u8) p).2).1∧(u3+(((q2 p u1 u2 u3 u4 u5 u6 u7 u8 af).2).2).1)%(4294967296:Int)=(((S.block (u1,u2,u3,u4,u5,u6,u7,u8) p).2).2).1∧(u4+((((q2 p u1 u2 u3 u4 u5 u6 u7 u8 af).2).2).2).1)%(4294967296:Int)=((((S.block (u1,u2,u3,u4,u5,u6,u7,u8) p).2).2).2).1∧(u5+(((((q2 p u1 u2 u3 u4 u5 u6 u7 u8 af).2).2).2).2).1)%(4294967296:Int)=(((((S.block (u1,u2,u3,u4,u5,u6,u7,u8) p).2).2).2).2).1∧(u6+((((((q2 p u1 u2 u3 u4 u5 u6 u7 u8 af).2).2).2).2).2).1)%(4294967296:Int)=((((((S.block (u1,u2,u3,u4,u5,u6,u7,u8) p).2).2).2).2).2).1∧(u7+(((((((q2 p u1 u2 u3 u4 u5 u6 u7 u8 af).2).2).2).2).2).2).1)%(4294967296:Int)=(((((((S.block (u1,u2,u3,u4,u5,u6,u7,u8) p).2).2).2).2).2).2).1∧(u8+(((((((q2 p u1 u2 u3 u4 u5 u6 u7 u8 af).2).2).2).2).2).2).2)%(4294967296:Int)=(((((((S.block (u1,u2,u3,u4,u5,u6,u7,u8) p).2).2).2).2).2).2).2)))
def q14(u1 u2 u3 u4 u5 u6 u7 u8:Int)(b:List UInt8)(x:Nat):=S.block ((S.proc (u1,u2,u3,u4,u5,u6,u7,u8) b x).1,((S.proc (u1,u2,u3,u4,u5,u6,u7,u8) b x).2).1,(((S.proc (u1,u2,u3,u4,u5,u6,u7,u8) b x).2).2).1,((((S.proc (u1,u2,u3,u4,u5,u6,u7,u8) b x).2).2).2).1,(((((S.proc (u1,u2,u3,u4,u5,u6,u7,u8) b x).2).2).2).2).1,((((((S.proc (u1,u2,u3,u4,u5,u6,u7,u8) b x).2).2).2).2).2).1,(((((((S.proc (u1,u2,u3,u4,u5,u6,u7,u8) b x).2).2).2).2).2).2).1,(((((((S.proc (u1,u2,u3,u4,u5,u6,u7,u8) b x).2).2).2).2).2).2).2) (List.take ((64:Int).toNat) (S.dM b x))
def q15(u1 u2 u3 u4 u5 u6 u7 u8:Int)(b:List UInt8)(x:Nat):=(((S.proc (u1,u2,u3,u4,u5,u6,u7,u8) b x).2).2).2
def US(u1:Int)(u2:Int)(u3:Int)(u4:Int)(u5:Int)(u6:Int)(u7:Int)(u8:Int)(b:List UInt8):Prop :=
 (∃(x:Nat),(b=S.dM b x∧u1=(S.proc (u1,u2,u3,u4,u5,u6,u7,u8) b x).1∧u2=((S.proc (u1,u2,u3,u4,u5,u6,u7,u8) b x).2).1∧u3=(((S.proc (u1,u2,u3,u4,u5,u6,u7,u8) b x).2).2).1∧u4=(q15 u1 u2 u3 u4 u5 u6 u7 u8 b x).1∧u5=((q15 u1 u2 u3 u4 u5 u6 u7 u8 b x).2).1∧u6=(((q15 u1 u2 u3 u4 u5 u6 u7 u8 b x).2).2).1∧u7=((((q15 u1 u2 u3 u4 u5 u6 u7 u8 b x).2).2).2).1∧u8=((((q15 u1 u2 u3 u4 u5 u6 u7 u8 b x).2).2).2).2)∧(64:Nat)*x≤b.length)∧∀(x:Nat),(64:Nat)*x≤b.length→(decide ((64:Int)≤(an (S.dM b x)))=true→(z0≤(64:Int)∧(64:Int)≤(an (S.dM b x)))∧S.HP ((S.proc (u1,u2,u3,u4,u5,u6,u7,u8) b x).1,((S.proc (u1,u2,u3,u4,u5,u6,u7,u8) b x).2).1,(((S.proc (u1,u2,u3,u4,u5,u6,u7,u8) b x).2).2).1,(q15 u1 u2 u3 u4 u5 u6 u7 u8 b x).1,((q15 u1 u2 u3 u4 u5 u6 u7 u8 b x).2).1,(((q15 u1 u2 u3 u4 u5 u6 u7 u8 b x).2).2).1,((((q15 u1 u2 u3 u4 u5 u6 u7 u8 b x).2).2).2).1,((((q15 u1 u2 u3 u4 u5 u6 u7 u8 b x).2).2).2).2) (List.take ((64:Int).toNat) (S.dM b x))∧(z0≤(64:Int)∧(64:Int)≤(an (S.dM b x)))∧∃(af:Nat),(List.drop ((64:Int).toNat) (S.dM b x)=S.dM b af∧(q14 u1 u2 u3 u4 u5 u6 u7 u8 b x).1=(S.proc (u1,u2,u3,u4,u5,u6,u7,u8) b af).1∧((q14 u1 u2 u3 u4 u5 u6 u7 u8 b x).2).1=((S.proc (u1,u2,u3,u4,u5,u6,u7,u8) b af).2).1∧(((q14 u1 u2 u3 u4 u5 u6 u7 u8 b x).2).2).1=(((S.proc (u1,u2,u3,u4,u5,u6,u7,u8) b af).2).2).1∧((((q14 u1 u2 u3 u4 u5 u6 u7 u8 b x).2).2).2).1=((((S.proc (u1,u2,u3,u4,u5,u6,u7,u8) b af).2).2).2).1∧(((((q14 u1 u2 u3 u4 u5 u6 u7 u8 b x).2).2).2).2).1=(((((S.proc (u1,u2,u3,u4,u5,u6,u7,u8) b af).2).2).2).2).1∧((((((q14 u1 u2 u3 u4 u5 u6 u7 u8 b x).2).2).2).2).2).1=((((((S.proc (u1,u2,u3,u4,u5,u6,u7,u8) b af).2).2).2).2).2).1∧(((((((q14 u1 u2 u3 u4 u5 u6 u7 u8 b x).2).2).2).2).2).2).1=(((((((S.proc (u1,u2,u3,u4,u5,u6,u7,u8) b af).2).2).2).2).2).2).1∧(((((((q14 u1 u2 u3 u4 u5 u6 u7 u8 b x).2).2).2).2).2).2).2=(((((((S.proc (u1,u2,u3,u4,u5,u6,u7,u8) b af).2).2).2).2).2).2).2)∧(64:Nat)*af≤b.length∧S.ag (S.blocks b) af<S.ag (S.blocks b) x)∧(decide ((64:Int)≤(an (S.dM b x)))=false→(S.proc (u1,u2,u3,u4,u5,u6,u7,u8) b x).1=(S.aT (u1,u2,u3,u4,u5,u6,u7,u8) b).1∧((S.proc (u1,u2,u3,u4,u5,u6,u7,u8) b x).2).1=((S.aT (u1,u2,u3,u4,u5,u6,u7,u8) b).2).1∧(((S.proc (u1,u2,u3,u4,u5,u6,u7,u8) b x).2).2).1=(((S.aT (u1,u2,u3,u4,u5,u6,u7,u8) b).2).2).1∧(q15 u1 u2 u3 u4 u5 u6 u7 u8 b x).1=((((S.aT (u1,u2,u3,u4,u5,u6,u7,u8) b).2).2).2).1∧((q15 u1 u2 u3 u4 u5 u6 u7 u8 b x).2).1=(((((S.aT (u1,u2,u3,u4,u5,u6,u7,u8) b).2).2).2).2).1∧(((q15 u1 u2 u3 u4 u5 u6 u7 u8 b x).2).2).1=((((((S.aT (u1,u2,u3,u4,u5,u6,u7,u8) b).2).2).2).2).2).1∧((((q15 u1 u2 u3 u4 u5 u6 u7 u8 b x).2).2).2).1=(((((((S.aT (u1,u2,u3,u4,u5,u6,u7,u8) b).2).2).2).2).2).2).1∧((((q15 u1 u2 u3 u4 u5 u6 u7 u8 b x).2).2).2).2=(((((((S.aT (u1,u2,u3,u4,u5,u6,u7,u8) b).2).2).2).2).2).2).2∧S.dM b x=S.dA b)
def Dc(s9:List UInt8)(aI:Int)(b:List UInt8)(s1 s2 s3 s4 s5 s6 s7 s8:Int):=S.aT (bif bif !S.aU s9 aI then true else decide ((1099511627776:Int)-aI<(an b)) then(1779033703:Int) else s1,bif bif !S.aU s9 aI then true else decide ((1099511627776:Int)-aI<(an b)) then(3144134277:Int) else s2,bif bif !S.aU s9 aI then true else decide ((1099511627776:Int)-aI<(an b)) then(1013904242:Int) else s3,bif bif !S.aU s9 aI then true else decide ((1099511627776:Int)-aI<(an b)) then(2773480762:Int) else s4,bif bif !S.aU s9 aI then true else decide ((1099511627776:Int)-aI<(an b)) then(1359893119:Int) else s5,bif bif !S.aU s9 aI then true else decide ((1099511627776:Int)-aI<(an b)) then(2600822924:Int) else s6,bif bif !S.aU s9 aI then true else decide ((1099511627776:Int)-aI<(an b)) then(528734635:Int) else s7,bif bif !S.aU s9 aI then true else decide ((1099511627776:Int)-aI<(an b)) then(1541459225:Int) else s8) ((List.replicate (z0.toNat) (0:UInt8)++bif bif !S.aU s9 aI then true else decide ((1099511627776:Int)-aI<(an b)) then [] else s9)++b)
def q17(s9:List UInt8)(aI:Int)(b:List UInt8):=bif bif !S.aU s9 aI then true else decide ((1099511627776:Int)-aI<(an b)) then [] else s9
def Si(s9:List UInt8)(aI:Int)(b:List UInt8):=List.replicate (z0.toNat) (0:UInt8)++bif bif !S.aU s9 aI then true else decide ((1099511627776:Int)-aI<(an b)) then [] else s9
def q19(s9:List UInt8)(aI:Int)(b:List UInt8):=bif bif !S.aU s9 aI then true else decide ((1099511627776:Int)-aI<(an b)) then z0 else aI
def UU(s1:Int)(s2:Int)(s3:Int)(s4:Int)(s5:Int)(s6:Int)(s7:Int)(s8:Int)(s9:List UInt8)(aI:Int)(b:List UInt8):Prop :=
 True∧(((!S.aU s9 aI)=true→True)∧((!S.aU s9 aI)=false→aC ((1099511627776:Int)-aI)))∧(((bif !S.aU s9 aI then true else decide ((1099511627776:Int)-aI<(an b)))=true→True)∧((bif !S.aU s9 aI then true else decide ((1099511627776:Int)-aI<(an b)))=false→True))∧(aC ((↑(List.length (q17 s9 aI b)):Int)+(an b)))∧(z0≤z0∧z0≤(↑(List.length (q17 s9 aI b)):Int)+(an b)∧(↑(List.length (q17 s9 aI b)):Int)+(an b)≤Db/(↑(1:Nat):Int))∧List.length (List.replicate (z0.toNat) (0:UInt8))+List.length (q17 s9 aI b)≤eS∧List.length (Si s9 aI b)+b.length≤eS∧S.pQ (bif bif !S.aU s9 aI then true else decide ((1099511627776:Int)-aI<(an b)) then(1779033703:Int) else s1,bif bif !S.aU s9 aI then true else decide ((1099511627776:Int)-aI<(an b)) then(3144134277:Int) else s2,bif bif !S.aU s9 aI then true else decide ((1099511627776:Int)-aI<(an b)) then(1013904242:Int) else s3,bif bif !S.aU s9 aI then true else decide ((1099511627776:Int)-aI<(an b)) then(2773480762:Int) else s4,bif bif !S.aU s9 aI then true else decide ((1099511627776:Int)-aI<(an b)) then(1359893119:Int) else s5,bif bif !S.aU s9 aI then true else decide ((1099511627776:Int)-aI<(an b)) then(2600822924:Int) else s6,bif bif !S.aU s9 aI then true else decide ((1099511627776:Int)-aI<(an b)) then(528734635:Int) else s7,bif bif !S.aU s9 aI then true else decide ((1099511627776:Int)-aI<(an b)) then(1541459225:Int) else s8)∧List.length (S.dA ((Si s9 aI b)++b))≤eS∧(aC ((q19 s9 aI b)+(an b)))∧(Dc s9 aI b s1 s2 s3 s4 s5 s6 s7 s8).1=(S.aT (s1,s2,s3,s4,s5,s6,s7,s8) b).1∧((Dc s9 aI b s1 s2 s3 s4 s5 s6 s7 s8).2).1=((S.aT (s1,s2,s3,s4,s5,s6,s7,s8) b).2).1∧(((Dc s9 aI b s1 s2 s3 s4 s5 s6 s7 s8).2).2).1=(((S.aT (s1,s2,s3,s4,s5,s6,s7,s8) b).2).2).1∧((((Dc s9 aI b s1 s2 s3 s4 s5 s6 s7 s8).2).2).2).1=((((S.aT (s1,s2,s3,s4,s5,s6,s7,s8) b).2).2).2).1∧(((((Dc s9 aI b s1 s2 s3 s4 s5 s6 s7 s8).2).2).2).2).1=(((((S.aT (s1,s2,s3,s4,s5,s6,s7,s8) b).2).2).2).2).1∧((((((Dc s9 aI b s1 s2 s3 s4 s5 s6 s7 s8).2).2).2).2).2).1=((((((S.aT (s1,s2,s3,s4,s5,s6,s7,s8) b).2).2).2).2).2).1∧(((((((Dc s9 aI b s1 s2 s3 s4 s5 s6 s7 s8).2).2).2).2).2).2).1=(((((((S.aT (s1,s2,s3,s4,s5,s6,s7,s8) b).2).2).2).2).2).2).1∧(((((((Dc s9 aI b s1 s2 s3 s4 s5 s6 s7 s8).2).2).2).2).2).2).2=(((((((S.aT (s1,s2,s3,s4,s5,s6,s7,s8) b).2).2).2).2).2).2).2∧S.dA ((Si s9 aI b)++b)=S.dA b∧(q19 s9 aI b)+(an b)=S.jy b
def UO(s9:List UInt8)(aI s1 s2 s3 s4 s5 s6 s7 s8:Int)(x:Nat):=S.aT (bif !S.aU s9 aI then(1779033703:Int) else s1,bif !S.aU s9 aI then(3144134277:Int) else s2,bif !S.aU s9 aI then(1013904242:Int) else s3,bif !S.aU s9 aI then(2773480762:Int) else s4,bif !S.aU s9 aI then(1359893119:Int) else s5,bif !S.aU s9 aI then(2600822924:Int) else s6,bif !S.aU s9 aI then(528734635:Int) else s7,bif !S.aU s9 aI then(1541459225:Int) else s8) (S.j7 s9 aI x)
def Ŷ(s9:List UInt8)(aI s1 s2 s3 s4 s5 s6 s7 s8:Int)(x af:Nat):=UInt8.ofNat (Int.toNat (List.getD [(UO s9 aI s1 s2 s3 s4 s5 s6 s7 s8 x).1,((UO s9 aI s1 s2 s3 s4 s5 s6 s7 s8 x).2).1,(((UO s9 aI s1 s2 s3 s4 s5 s6 s7 s8 x).2).2).1,((((UO s9 aI s1 s2 s3 s4 s5 s6 s7 s8 x).2).2).2).1,(((((UO s9 aI s1 s2 s3 s4 s5 s6 s7 s8 x).2).2).2).2).1,((((((UO s9 aI s1 s2 s3 s4 s5 s6 s7 s8 x).2).2).2).2).2).1,(((((((UO s9 aI s1 s2 s3 s4 s5 s6 s7 s8 x).2).2).2).2).2).2).1,(((((((UO s9 aI s1 s2 s3 s4 s5 s6 s7 s8 x).2).2).2).2).2).2).2] ((af:Int).toNat) z0/(2:Int)^(24:Int).toNat%(256:Int)))
def hC(s9:List UInt8)(aI s1 s2 s3 s4 s5 s6 s7 s8:Int)(x af:Nat):=UInt8.ofNat (Int.toNat (List.getD [(UO s9 aI s1 s2 s3 s4 s5 s6 s7 s8 x).1,((UO s9 aI s1 s2 s3 s4 s5 s6 s7 s8 x).2).1,(((UO s9 aI s1 s2 s3 s4 s5 s6 s7 s8 x).2).2).1,((((UO s9 aI s1 s2 s3 s4 s5 s6 s7 s8 x).2).2).2).1,(((((UO s9 aI s1 s2 s3 s4 s5 s6 s7 s8 x).2).2).2).2).1,((((((UO s9 aI s1 s2 s3 s4 s5 s6 s7 s8 x).2).2).2).2).2).1,(((((((UO s9 aI s1 s2 s3 s4 s5 s6 s7 s8 x).2).2).2).2).2).2).1,(((((((UO s9 aI s1 s2 s3 s4 s5 s6 s7 s8 x).2).2).2).2).2).2).2] ((af:Int).toNat) z0/(2:Int)^(16:Int).toNat%(256:Int)))
def q23(s9:List UInt8)(aI s1 s2 s3 s4 s5 s6 s7 s8:Int)(x af:Nat):=UInt8.ofNat (Int.toNat (List.getD [(UO s9 aI s1 s2 s3 s4 s5 s6 s7 s8 x).1,((UO s9 aI s1 s2 s3 s4 s5 s6 s7 s8 x).2).1,(((UO s9 aI s1 s2 s3 s4 s5 s6 s7 s8 x).2).2).1,((((UO s9 aI s1 s2 s3 s4 s5 s6 s7 s8 x).2).2).2).1,(((((UO s9 aI s1 s2 s3 s4 s5 s6 s7 s8 x).2).2).2).2).1,((((((UO s9 aI s1 s2 s3 s4 s5 s6 s7 s8 x).2).2).2).2).2).1,(((((((UO s9 aI s1 s2 s3 s4 s5 s6 s7 s8 x).2).2).2).2).2).2).1,(((((((UO s9 aI s1 s2 s3 s4 s5 s6 s7 s8 x).2).2).2).2).2).2).2] ((af:Int).toNat) z0/(2:Int)^(8:Int).toNat%(256:Int)))
def UP(s9:List UInt8)(aI s1 s2 s3 s4 s5 s6 s7 s8:Int)(x af:Nat):=UInt8.ofNat (Int.toNat (List.getD [(UO s9 aI s1 s2 s3 s4 s5 s6 s7 s8 x).1,((UO s9 aI s1 s2 s3 s4 s5 s6 s7 s8 x).2).1,(((UO s9 aI s1 s2 s3 s4 s5 s6 s7 s8 x).2).2).1,((((UO s9 aI s1 s2 s3 s4 s5 s6 s7 s8 x).2).2).2).1,(((((UO s9 aI s1 s2 s3 s4 s5 s6 s7 s8 x).2).2).2).2).1,((((((UO s9 aI s1 s2 s3 s4 s5 s6 s7 s8 x).2).2).2).2).2).1,(((((((UO s9 aI s1 s2 s3 s4 s5 s6 s7 s8 x).2).2).2).2).2).2).1,(((((((UO s9 aI s1 s2 s3 s4 s5 s6 s7 s8 x).2).2).2).2).2).2).2] ((af:Int).toNat) z0%(256:Int)))
def UQ(s9:List UInt8)(aI:Int)(x:Nat):=UInt8.ofNat (Int.toNat ((bif !S.aU s9 aI then z0 else aI)%(18446744073709551616:Int)*(8:Int)%(18446744073709551616:Int)/(2:Int)^Int.toNat ((56:Int)-(8:Int)*(x:Int))%(256:Int)))
def UW(s1:Int)(s2:Int)(s3:Int)(s4:Int)(s5:Int)(s6:Int)(s7:Int)(s8:Int)(s9:List UInt8)(aI:Int):Prop :=
 True∧(((!S.aU s9 aI)=true→True)∧((!S.aU s9 aI)=false→True))∧List.length (bif !S.aU s9 aI then [] else s9)≤eS∧List.length (bif !S.aU s9 aI then [] else s9)+List.length [(128:UInt8)]≤eS∧(∃(x:Nat),(bif !S.aU s9 aI then [] else s9)++ [(128:UInt8)]=S.du s9 x∧S.bH s9 x)∧∀(x:Nat),S.bH s9 x→z0≤(an (S.du s9 x))∧z0<(64:Int)∧((!decide ((an (S.du s9 x))%(64:Int)=(56:Int)))=true→List.length (S.du s9 x)+List.length [(0:UInt8)]≤eS∧∃(af:Nat),S.du s9 x++ [(0:UInt8)]=S.du s9 af∧S.bH s9 af∧S.ag (S.dL (S.len s9)) af<S.ag (S.dL (S.len s9)) x)∧((!decide ((an (S.du s9 x))%(64:Int)=(56:Int)))=false→(∃(af:Nat),(z0=(af:Int)∧S.du s9 x=S.j7 s9 aI af)∧S.bY af (8:Nat))∧∀(x:Nat),S.bY x (8:Nat)→(decide ((x:Int)<(8:Int))=true→(aC ((8:Int)*(x:Int)))∧(aC ((56:Int)-(8:Int)*(x:Int)))∧(z0≤(56:Int)-(8:Int)*(x:Int)∧(56:Int)-(8:Int)*(x:Int)≤(64:Int))∧List.length (S.j7 s9 aI x)+List.length [UQ s9 aI x]≤eS∧(aC ((x:Int)+z1))∧∃(af:Nat),((x:Int)+z1=(af:Int)∧S.j7 s9 aI x++ [UQ s9 aI x]=S.j7 s9 aI af)∧S.bY af (8:Nat)∧S.ag (8:Nat) af<S.ag (8:Nat) x)∧(decide ((x:Int)<(8:Int))=false→S.pQ (bif !S.aU s9 aI then(1779033703:Int) else s1,bif !S.aU s9 aI then(3144134277:Int) else s2,bif !S.aU s9 aI then(1013904242:Int) else s3,bif !S.aU s9 aI then(2773480762:Int) else s4,bif !S.aU s9 aI then(1359893119:Int) else s5,bif !S.aU s9 aI then(2600822924:Int) else s6,bif !S.aU s9 aI then(528734635:Int) else s7,bif !S.aU s9 aI then(1541459225:Int) else s8)∧(z0≤z0∧z0≤(32:Int)∧(32:Int)≤Db/(↑(1:Nat):Int))∧(∃(x:Nat),(z0=(x:Int)∧List.replicate (z0.toNat) (0:UInt8)=S.jP (S.aT (s1,s2,s3,s4,s5,s6,s7,s8) (S.tail s9 aI)) x)∧S.bY x (8:Nat))∧∀(af:Nat),S.bY af (8:Nat)→(decide ((af:Int)<(8:Int))=true→(z0≤(af:Int)∧(af:Int)<(↑(8:Nat):Int))∧(z0≤(24:Int)∧(24:Int)≤(32:Int))∧(z0≤(16:Int)∧(16:Int)≤(32:Int))∧(z0≤(8:Int)∧(8:Int)≤(32:Int))∧List.length (S.jP (S.aT (s1,s2,s3,s4,s5,s6,s7,s8) (S.tail s9 aI)) af)+List.length [Ŷ s9 aI s1 s2 s3 s4 s5 s6 s7 s8 x af,hC s9 aI s1 s2 s3 s4 s5 s6 s7 s8 x af,q23 s9 aI s1 s2 s3 s4 s5 s6 s7 s8 x af,UP s9 aI s1 s2 s3 s4 s5 s6 s7 s8 x af]≤eS∧(aC ((af:Int)+z1))∧∃(aw:Nat),((af:Int)+z1=(aw:Int)∧S.jP (S.aT (s1,s2,s3,s4,s5,s6,s7,s8) (S.tail s9 aI)) af++ [Ŷ s9 aI s1 s2 s3 s4 s5 s6 s7 s8 x af,hC s9 aI s1 s2 s3 s4 s5 s6 s7 s8 x af,q23 s9 aI s1 s2 s3 s4 s5 s6 s7 s8 x af,UP s9 aI s1 s2 s3 s4 s5 s6 s7 s8 x af]=S.jP (S.aT (s1,s2,s3,s4,s5,s6,s7,s8) (S.tail s9 aI)) aw)∧S.bY aw (8:Nat)∧S.ag (8:Nat) aw<S.ag (8:Nat) af)∧(decide ((af:Int)<(8:Int))=false→S.jP (S.aT (s1,s2,s3,s4,s5,s6,s7,s8) (S.tail s9 aI)) af=S.Q8 (S.aT (s1,s2,s3,s4,s5,s6,s7,s8) (S.tail s9 aI)))))
def tN(b:List UInt8):=S.aT ((1779033703:Int),(3144134277:Int),(1013904242:Int),(2773480762:Int),(1359893119:Int),(2600822924:Int),(528734635:Int),(1541459225:Int)) b
def UR(b:List UInt8):=((((tN b).2).2).2).2
def UX(b:List UInt8):Prop :=
 True∧S.HO ((1779033703:Int),(3144134277:Int),(1013904242:Int),(2773480762:Int),(1359893119:Int),(2600822924:Int),(528734635:Int),(1541459225:Int)) (Vg.cq UInt8) z0 b∧S.AA ((tN b).1,((tN b).2).1,(((tN b).2).2).1,((((tN b).2).2).2).1,(UR b).1,((UR b).2).1,(((UR b).2).2).1,(((UR b).2).2).2) (S.dA b) (S.jy b)∧S.Q8 (S.aT ((tN b).1,((tN b).2).1,(((tN b).2).2).1,((((tN b).2).2).2).1,(UR b).1,((UR b).2).1,(((UR b).2).2).1,(((UR b).2).2).2) (S.tail (S.dA b) (S.jy b)))=S.sum b
def U0(b:List UInt8):Prop :=
 b.length≤eS∧b=b
def q28(x:List UInt8×Int):=UInt8.ofNat (Int.toNat (Vg.cP (Vg.aZ x.2 (127:Int)%(256:Int)) (128:Int)))
def U1(v:Int)(l:List UInt8):Prop :=
 (∃(x:List UInt8×Int),(v=x.2∧l=x.1)∧S.ng l v x.1 x.2)∧∀(x:List UInt8×Int),S.ng l v x.1 x.2→(decide ((127:Int)<x.2)=true→z0≤x.2∧z0≤(127:Int)∧List.length x.1+List.length [q28 x]≤eS∧(z0≤(7:Int)∧(7:Int)≤(64:Int))∧∃(af:List UInt8×Int),(x.2/(2:Int)^(7:Int).toNat=af.2∧x.1++ [q28 x]=af.1)∧S.ng l v af.1 af.2∧Int.toNat af.2<Int.toNat x.2)∧(decide ((127:Int)<x.2)=false→List.length x.1+List.length [UInt8.ofNat (Int.toNat (x.2%(256:Int)))]≤eS∧x.1++ [UInt8.ofNat (Int.toNat (x.2%(256:Int)))]=l++S.num v)
def U2(s:List UInt8)(l:List UInt8):Prop :=
 S.xz l (an s)∧List.length (l++S.num (an s))+s.length≤eS∧l++S.num (an s)++s=l++S.text s
def q29(v:Int):=bif decide (v<z0) then true else decide ((4611686018427387904:Int)<v)
def U3(b:List UInt8)(v:Int):Prop :=
 ((q29 v)=true→z1=S.Ck v∧ []=S.mS b v)∧((q29 v)=false→b.length≤eS∧S.xz b v∧z0=S.Ck v∧b++S.num v=S.mS b v)
def U4(b:List UInt8)(s:List UInt8):Prop :=
 b.length≤eS∧S.kR b s∧b++S.text s=b++S.text s
def axL(r1:List UInt8)(r2:Int)(r3:Int):Prop :=
 (bif decide (z0≤r2) then decide (r2≤(an r1)) else false)=S.inside r1 r2
def axM(r1:List UInt8)(r2:Int)(r3:Int):Prop :=
 r1.length≤eS∧((decide (r3=z0)=true→True)∧(decide (r3=z0)=false→True))∧r1=r1∧(bif bif decide (r3=z0) then !S.inside r1 r2 else false then r2 else r2)=r2∧(bif bif decide (r3=z0) then !S.inside r1 r2 else false then z1 else r3)=S.afz r1 r2 r3
def q30(b:List UInt8)(p:Int)(x:Nat):=Vg.aZ (↑(UInt8.toNat (List.getD b (Int.toNat (p+(x:Int))) (0:UInt8))):Int) (127:Int)*(2:Int)^Int.toNat ((7:Int)*(x:Int))
def q31(x:Nat)(b:List UInt8)(p:Int):=bif decide (z1<(x:Int)+z1) then bif decide ((↑(UInt8.toNat (List.getD b (Int.toNat (p+((x:Int)+z1)-z1)) (0:UInt8))):Int)=z0) then true else decide ((4611686018427387904:Int)<Vg.cP (S.afa b p x) (q30 b p x)) else decide ((4611686018427387904:Int)<Vg.cP (S.afa b p x) (q30 b p x))
def q32(b:List UInt8)(p:Int)(x:Nat):=UInt8.toNat (List.getD b (Int.toNat (p+(x:Int))) (0:UInt8))
def axN(b:List UInt8)(p:Int):Prop :=
 (∃(x:Nat),(z0=S.afa b p x∧z0=(x:Int))∧S.afl b p x)∧∀(x:Nat),S.afl b p x→(decide ((x:Int)=(9:Int))=true→z0=(S.ae5 b p).1∧z0=((S.ae5 b p).2).1∧(2:Int)=((S.ae5 b p).2).2)∧(decide ((x:Int)=(9:Int))=false→(aC ((an b)-p))∧(decide ((x:Int)=(an b)-p)=true→z0=(S.ae5 b p).1∧z0=((S.ae5 b p).2).1∧(4:Int)=((S.ae5 b p).2).2)∧(decide ((x:Int)=(an b)-p)=false→(aC (p+(x:Int)))∧(z0≤p+(x:Int)∧p+(x:Int)<(an b))∧(aC ((7:Int)*(x:Int)))∧(z0≤(7:Int)*(x:Int)∧(7:Int)*(x:Int)≤(64:Int))∧(aC (q30 b p x))∧z0≤S.afa b p x∧z0≤Vg.aZ (↑(q32 b p x):Int) (127:Int)*(2:Int)^Int.toNat ((7:Int)*(x:Int))∧(aC ((x:Int)+z1))∧(decide ((↑(q32 b p x):Int)<(128:Int))=true→((decide (z1<(x:Int)+z1)=true→(aC (p+((x:Int)+z1)))∧(aC (p+((x:Int)+z1)-z1))∧z0≤p+((x:Int)+z1)-z1∧p+((x:Int)+z1)-z1<(an b))∧(decide (z1<(x:Int)+z1)=false→True))∧((q31 x b p)=true→z0=(S.ae5 b p).1∧z0=((S.ae5 b p).2).1∧(2:Int)=((S.ae5 b p).2).2)∧((q31 x b p)=false→(aC (p+((x:Int)+z1)))∧Vg.cP (S.afa b p x) (q30 b p x)=(S.ae5 b p).1∧p+((x:Int)+z1)=((S.ae5 b p).2).1∧z0=((S.ae5 b p).2).2))∧(decide ((↑(q32 b p x):Int)<(128:Int))=false→∃(af:Nat),(Vg.cP (S.afa b p x) (q30 b p x)=S.afa b p af∧(x:Int)+z1=(af:Int))∧S.afl b p af∧S.ag (9:Nat) af<S.ag (9:Nat) x)))
def axO(r1:List UInt8)(r2:Int)(r3:Int):Prop :=
 r1.length≤eS∧((!decide (S.afz r1 r2 r3=z0))=true→r1=((S.aab r1 r2 r3).1).1∧r2=(((S.aab r1 r2 r3).1).2).1∧S.afz r1 r2 r3=(((S.aab r1 r2 r3).1).2).2∧z0=(S.aab r1 r2 r3).2)∧((!decide (S.afz r1 r2 r3=z0))=false→S.afo r1 r2∧((!decide (((S.ae5 r1 r2).2).2=z0))=true→r1=((S.aab r1 r2 r3).1).1∧r2=(((S.aab r1 r2 r3).1).2).1∧((S.ae5 r1 r2).2).2=(((S.aab r1 r2 r3).1).2).2∧z0=(S.aab r1 r2 r3).2)∧((!decide (((S.ae5 r1 r2).2).2=z0))=false→r1=((S.aab r1 r2 r3).1).1∧((S.ae5 r1 r2).2).1=(((S.aab r1 r2 r3).1).2).1∧S.afz r1 r2 r3=(((S.aab r1 r2 r3).1).2).2∧(S.ae5 r1 r2).1=(S.aab r1 r2 r3).2))
def q33(r1:List UInt8)(r2 r3:Int):=(S.aac r1 r2 r3).1
def axP(r1:List UInt8)(r2:Int)(r3:Int):Prop :=
 r1.length≤eS∧((!decide (S.afz r1 r2 r3=z0))=true→r1=(q33 r1 r2 r3).1∧r2=((q33 r1 r2 r3).2).1∧S.afz r1 r2 r3=((q33 r1 r2 r3).2).2∧ []=(S.aac r1 r2 r3).2)∧((!decide (S.afz r1 r2 r3=z0))=false→(aC ((an r1)-r2))∧(decide ((an r1)-r2<(32:Int))=true→r1=(q33 r1 r2 r3).1∧r2=((q33 r1 r2 r3).2).1∧(4:Int)=((q33 r1 r2 r3).2).2∧ []=(S.aac r1 r2 r3).2)∧(decide ((an r1)-r2<(32:Int))=false→(aC (r2+(32:Int)))∧(z0≤r2∧r2≤r2+(32:Int)∧r2+(32:Int)≤(an r1))∧(aC (r2+(32:Int)))∧r1=(q33 r1 r2 r3).1∧r2+(32:Int)=((q33 r1 r2 r3).2).1∧S.afz r1 r2 r3=((q33 r1 r2 r3).2).2∧List.drop (Int.toNat r2) (List.take (Int.toNat (r2+(32:Int))) r1)=(S.aac r1 r2 r3).2))
def axQ(r1:List UInt8)(r2:Int)(r3:Int):Prop :=
 ((!decide (r3=z0))=true→r3=S.done r1 r2 r3)∧((!decide (r3=z0))=false→True∧((!S.inside r1 r2)=true→z1=S.done r1 r2 r3)∧((!S.inside r1 r2)=false→(decide (r2<(an r1))=true→(2:Int)=S.done r1 r2 r3)∧(decide (r2<(an r1))=false→z0=S.done r1 r2 r3)))
def U9(kind:UInt8)(parts:List (List UInt8)):Prop :=
 (∃(x:Nat),(z0=(x:Int)∧ [UInt8.ofNat (Int.toNat (↑(UInt8.toNat kind):Int))]=S.jo kind parts x)∧S.dY parts x)∧∀(x:Nat),S.dY parts x→(decide ((x:Int)<(an parts))=true→(z0≤(x:Int)∧(x:Int)<(an parts))∧List.length (S.jo kind parts x)+List.length (List.getD parts ((x:Int).toNat) [])≤eS∧(aC ((x:Int)+z1))∧∃(af:Nat),((x:Int)+z1=(af:Int)∧S.jo kind parts x++List.getD parts ((x:Int).toNat) []=S.jo kind parts af)∧S.dY parts af∧S.ag (S.len parts) af<S.ag (S.len parts) x)∧(decide ((x:Int)<(an parts))=false→S.jo kind parts x=S.dN kind parts)
def Va(b:List UInt8):Prop :=
 S.iQ [b]∧S.dN ((0:UInt8)) [b]=S.iR (0:Nat) b
def Vb(l:List UInt8)(r:List UInt8):Prop :=
 S.iQ [l,r]∧S.dN ((1:UInt8)) [l,r]=S.iR (1:Nat) (l++r)
def Vc(b:List UInt8):Prop :=
 S.iQ [b]∧S.dN ((2:UInt8)) [b]=S.iR (2:Nat) b
def Vd(b:List UInt8):Prop :=
 S.bj b∧S.small (S.iR (0:Nat) b)∧S.sum (S.iR (0:Nat) b)=S.leaf b
def Ve(l:List UInt8)(r:List UInt8):Prop :=
 ((bif !decide ((an l)=(32:Int)) then true else !decide ((an r)=(32:Int)))=true→ []=S.cM l r∧z1=S.j8 l r)∧((bif !decide ((an l)=(32:Int)) then true else !decide ((an r)=(32:Int)))=false→S.bj (l++r)∧S.small (S.iR (1:Nat) (l++r))∧S.sum (S.iR (1:Nat) (l++r))=S.cM l r∧z0=S.j8 l r)
def Vf(b:List UInt8):Prop :=
 S.bj b∧S.small (S.iR (2:Nat) b)∧S.sum (S.iR (2:Nat) b)=S.oi (2:Nat) b
def Vh(c:Int):Prop :=
 (bif decide (z0≤c) then bif decide (c≤(1114111:Int)) then bif decide (c<(55296:Int)) then true else decide ((57343:Int)<c) else false else false)=S.bh c
def Vi(c:Int):Prop :=
 (decide (c<(128:Int))=true→z1=S.cI c)∧(decide (c<(128:Int))=false→(decide (c<(2048:Int))=true→(2:Int)=S.cI c)∧(decide (c<(2048:Int))=false→(decide (c<(65536:Int))=true→(3:Int)=S.cI c)∧(decide (c<(65536:Int))=false→(4:Int)=S.cI c)))
def Vj(c:Int):Prop :=
 z0≤c∧z0≤(63:Int)∧Vg.cP (128:Int) (Vg.aZ c (63:Int)%(256:Int))=(↑(UInt8.toNat (S.more c)):Int)
def Ik(c:Int):=UInt8.ofNat (Int.toNat (↑(UInt8.toNat (S.more c)):Int))
def uI:=z0≤(6:Int)∧(6:Int)≤(64:Int)
def Il(c:Int):=UInt8.ofNat (Int.toNat (↑(UInt8.toNat (S.more (c/(2:Int)^(6:Int).toNat))):Int))
def UT:=z0≤(12:Int)∧(12:Int)≤(64:Int)
def Vk(c:Int):Prop :=
 True∧((!S.bh c)=true→z1=S.rP c∧ []=S.dZ c)∧((!S.bh c)=false→True∧(decide (S.cI c=z1)=true→z0=S.rP c∧ [UInt8.ofNat (Int.toNat (c%(256:Int)))]=S.dZ c)∧(decide (S.cI c=z1)=false→(decide (S.cI c=(2:Int))=true→uI∧z0≤c∧z0=S.rP c∧ [UInt8.ofNat (Int.toNat (Vg.cP (192:Int) (c/(2:Int)^(6:Int).toNat%(256:Int)))),Ik c]=S.dZ c)∧(decide (S.cI c=(2:Int))=false→(decide (S.cI c=(3:Int))=true→UT∧uI∧z0≤c/(2:Int)^(6:Int).toNat∧z0≤c∧z0=S.rP c∧ [UInt8.ofNat (Int.toNat (Vg.cP (224:Int) (c/(2:Int)^(12:Int).toNat%(256:Int)))),Il c,Ik c]=S.dZ c)∧(decide (S.cI c=(3:Int))=false→(z0≤(18:Int)∧(18:Int)≤(64:Int))∧UT∧z0≤c/(2:Int)^(12:Int).toNat∧uI∧z0≤c/(2:Int)^(6:Int).toNat∧z0≤c∧z0=S.rP c∧ [UInt8.ofNat (Int.toNat (Vg.cP (240:Int) (c/(2:Int)^(18:Int).toNat%(256:Int)))),UInt8.ofNat (Int.toNat (↑(UInt8.toNat (S.more (c/(2:Int)^(12:Int).toNat))):Int)),Il c,Ik c]=S.dZ c))))
def ŷ(b:List UInt8):=UInt8.toNat (List.getD b (z0.toNat) (0:UInt8))
def q39(b:List UInt8)(x:Nat):=UInt8.toNat (List.getD (List.drop (z1.toNat) (List.take ((2:Int).toNat) b)) ((x:Int).toNat) (0:UInt8))
def jF(b:List UInt8)(x:Nat):=UInt8.toNat (List.getD (List.drop (z1.toNat) (List.take ((3:Int).toNat) b)) ((x:Int).toNat) (0:UInt8))
def q41(b:List UInt8)(x:Nat):=UInt8.toNat (List.getD (List.drop (z1.toNat) (List.take ((4:Int).toNat) b)) ((x:Int).toNat) (0:UInt8))
def q42(b:List UInt8)(x:Nat):=((!S.bh (S.bq b x))=true→True)∧((!S.bh (S.bq b x))=false→True)
def q43(b:List UInt8)(x:Nat):=S.bq b x*(2:Int)^(6:Int).toNat
def q44(b:List UInt8):=List.length (List.drop (z1.toNat) (List.take ((2:Int).toNat) b))
def q45(b:List UInt8):=List.length (List.drop (z1.toNat) (List.take ((3:Int).toNat) b))
def EA(b:List UInt8):=List.length (List.drop (z1.toNat) (List.take ((4:Int).toNat) b))
def Im:=z0≤(6:Int)∧(6:Int)≤(64:Int)
def q48:=z0≤(6:Int)∧(6:Int)≤(8:Int)
def q49(b:List UInt8)(x:Nat):=bif !S.bh (S.bq b x) then true else !decide (S.cI (S.bq b x)=(2:Int))
def q50(b:List UInt8)(x:Nat):=bif !S.bh (S.bq b x) then true else !decide (S.cI (S.bq b x)=(3:Int))
def q51(b:List UInt8)(x:Nat):=bif !S.bh (S.bq b x) then true else !decide (S.cI (S.bq b x)=(4:Int))
def Vo(b:List UInt8):Prop :=
 (z0≤z0∧z0<(an b))∧(decide ((↑(ŷ b):Int)<(128:Int))=true→(↑(ŷ b):Int)=(S.aK b).1∧z1=(S.aK b).2)∧(decide ((↑(ŷ b):Int)<(128:Int))=false→(z0≤(5:Int)∧(5:Int)≤(64:Int))∧(decide ((↑(ŷ b):Int)/(2:Int)^(5:Int).toNat=(6:Int))=true→z0≤(↑(ŷ b):Int)∧z0≤(31:Int)∧(decide ((an b)<(2:Int))=true→(65533:Int)=(S.aK b).1∧z1=(S.aK b).2)∧(decide ((an b)<(2:Int))=false→(z0≤z1∧z1≤(2:Int)∧(2:Int)≤(an b))∧(∃(x:Nat),(z0=(x:Int)∧Vg.aZ (↑(ŷ b):Int) (31:Int)=S.bq b x)∧S.ku b x)∧∀(x:Nat),S.ku b x→(decide ((x:Int)<(↑(q44 b):Int))=true→(z0≤(x:Int)∧(x:Int)<(↑(q44 b):Int))∧q48∧((!decide ((↑(q39 b x):Int)/(2:Int)^(6:Int).toNat=(2:Int)))=true→(65533:Int)=(S.aK b).1∧z1=(S.aK b).2)∧((!decide ((↑(q39 b x):Int)/(2:Int)^(6:Int).toNat=(2:Int)))=false→Im∧(aC (q43 b x))∧z0≤S.bq b x*(2:Int)^(6:Int).toNat∧z0≤Vg.aZ (↑(q39 b x):Int) (63:Int)∧(aC ((x:Int)+z1))∧∃(af:Nat),((x:Int)+z1=(af:Int)∧Vg.cP (q43 b x) (Vg.aZ (↑(q39 b x):Int) (63:Int))=S.bq b af)∧S.ku b af∧S.ag (4:Nat) af<S.ag (4:Nat) x))∧(decide ((x:Int)<(↑(q44 b):Int))=false→True∧(q42 b x)∧((q49 b x)=true→(65533:Int)=(S.aK b).1∧z1=(S.aK b).2)∧((q49 b x)=false→S.bq b x=(S.aK b).1∧(2:Int)=(S.aK b).2))))∧(decide ((↑(ŷ b):Int)/(2:Int)^(5:Int).toNat=(6:Int))=false→(z0≤(4:Int)∧(4:Int)≤(64:Int))∧(decide ((↑(ŷ b):Int)/(2:Int)^(4:Int).toNat=(14:Int))=true→z0≤(↑(ŷ b):Int)∧z0≤(15:Int)∧(decide ((an b)<(3:Int))=true→(65533:Int)=(S.aK b).1∧z1=(S.aK b).2)∧(decide ((an b)<(3:Int))=false→(z0≤z1∧z1≤(3:Int)∧(3:Int)≤(an b))∧(∃(x:Nat),(z0=(x:Int)∧Vg.aZ (↑(ŷ b):Int) (15:Int)=S.bq b x)∧S.ku b x)∧∀(x:Nat),S.ku b x→(decide ((x:Int)<(↑(q45 b):Int))=true→(z0≤(x:Int)∧(x:Int)<(↑(q45 b):Int))∧q48∧((!decide ((↑(jF b x):Int)/(2:Int)^(6:Int).toNat=(2:Int)))=true→(65533:Int)=(S.aK b).1∧z1=(S.aK b).2)∧((!decide ((↑(jF b x):Int)/(2:Int)^(6:Int).toNat=(2:Int)))=false→Im∧(aC (q43 b x))∧z0≤S.bq b x*(2:Int)^(6:Int).toNat∧z0≤Vg.aZ (↑(jF b x):Int) (63:Int)∧(aC ((x:Int)+z1))∧∃(af:Nat),((x:Int)+z1=(af:Int)∧Vg.cP (q43 b x) (Vg.aZ (↑(jF b x):Int) (63:Int))=S.bq b af)∧S.ku b af∧S.ag (4:Nat) af<S.ag (4:Nat) x))∧(decide ((x:Int)<(↑(q45 b):Int))=false→True∧(q42 b x)∧((q50 b x)=true→(65533:Int)=(S.aK b).1∧z1=(S.aK b).2)∧((q50 b x)=false→S.bq b x=(S.aK b).1∧(3:Int)=(S.aK b).2))))∧(decide ((↑(ŷ b):Int)/(2:Int)^(4:Int).toNat=(14:Int))=false→(z0≤(3:Int)∧(3:Int)≤(64:Int))∧(decide ((↑(ŷ b):Int)/(2:Int)^(3:Int).toNat=(30:Int))=true→z0≤(↑(ŷ b):Int)∧z0≤(7:Int)∧(decide ((an b)<(4:Int))=true→(65533:Int)=(S.aK b).1∧z1=(S.aK b).2)∧(decide ((an b)<(4:Int))=false→(z0≤z1∧z1≤(4:Int)∧(4:Int)≤(an b))∧(∃(x:Nat),(z0=(x:Int)∧Vg.aZ (↑(ŷ b):Int) (7:Int)=S.bq b x)∧S.ku b x)∧∀(x:Nat),S.ku b x→(decide ((x:Int)<(↑(EA b):Int))=true→(z0≤(x:Int)∧(x:Int)<(↑(EA b):Int))∧q48∧((!decide ((↑(q41 b x):Int)/(2:Int)^(6:Int).toNat=(2:Int)))=true→(65533:Int)=(S.aK b).1∧z1=(S.aK b).2)∧((!decide ((↑(q41 b x):Int)/(2:Int)^(6:Int).toNat=(2:Int)))=false→Im∧(aC (q43 b x))∧z0≤S.bq b x*(2:Int)^(6:Int).toNat∧z0≤Vg.aZ (↑(q41 b x):Int) (63:Int)∧(aC ((x:Int)+z1))∧∃(af:Nat),((x:Int)+z1=(af:Int)∧Vg.cP (q43 b x) (Vg.aZ (↑(q41 b x):Int) (63:Int))=S.bq b af)∧S.ku b af∧S.ag (4:Nat) af<S.ag (4:Nat) x))∧(decide ((x:Int)<(↑(EA b):Int))=false→True∧(q42 b x)∧((q51 b x)=true→(65533:Int)=(S.aK b).1∧z1=(S.aK b).2)∧((q51 b x)=false→S.bq b x=(S.aK b).1∧(4:Int)=(S.aK b).2))))∧(decide ((↑(ŷ b):Int)/(2:Int)^(3:Int).toNat=(30:Int))=false→(65533:Int)=(S.aK b).1∧z1=(S.aK b).2))))
def Vp(b:List UInt8):Prop :=
 (∃(x:List UInt8×List Int),(b=x.1∧ []=x.2)∧S.gq b x.1 x.2)∧∀(x:List UInt8×List Int),S.gq b x.1 x.2→(decide (z0<(↑(List.length x.1):Int))=true→(0:Nat)<List.length x.1∧List.length x.2+List.length [(S.aK x.1).1]≤(17592186044416:Nat)∧(z0≤(S.aK x.1).2∧(S.aK x.1).2≤(↑(List.length x.1):Int))∧∃(af:List UInt8×List Int),(List.drop (Int.toNat ((S.aK x.1).2)) x.1=af.1∧x.2++ [(S.aK x.1).1]=af.2)∧S.gq b af.1 af.2∧S.len af.1<S.len x.1)∧(decide (z0<(↑(List.length x.1):Int))=false→x.2=S.decode b)
def Ÿ(x:Nat)(c:Int):=bif decide (List.getD [(65:Int),(97:Int),(192:Int),(216:Int),(248:Int),(913:Int),(931:Int),(945:Int),(1024:Int)] ((x:Int).toNat) z0≤c) then decide (c≤List.getD [(90:Int),(122:Int),(214:Int),(246:Int),(255:Int),(929:Int),(937:Int),(969:Int),(1119:Int)] ((x:Int).toNat) z0) else false
def Vq(c:Int):Prop :=
 (∃(x:Nat),z0=(x:Int)∧S.kt c x)∧∀(x:Nat),S.kt c x→(decide ((x:Int)<(9:Int))=true→(z0≤(x:Int)∧(x:Int)<(↑(9:Nat):Int))∧((Ÿ x c)=true→true=S.letter c)∧((Ÿ x c)=false→(aC ((x:Int)+z1))∧∃(af:Nat),(x:Int)+z1=(af:Int)∧S.kt c af∧S.ag (9:Nat) af<S.ag (9:Nat) x))∧(decide ((x:Int)<(9:Int))=false→false=S.letter c)
def Vr(c:Int):Prop :=
 (bif decide ((48:Int)≤c) then decide (c≤(57:Int)) else false)=S.digit c
def Ź(x:Nat)(c:Int):=bif decide (List.getD [(65:Int),(192:Int),(216:Int),(913:Int),(931:Int),(1024:Int),(1040:Int)] ((x:Int).toNat) z0≤c) then decide (c≤List.getD [(90:Int),(214:Int),(222:Int),(929:Int),(937:Int),(1039:Int),(1071:Int)] ((x:Int).toNat) z0) else false
def Vs(c:Int):Prop :=
 (∃(x:Nat),z0=(x:Int)∧S.kS c x)∧∀(x:Nat),S.kS c x→(decide ((x:Int)<(7:Int))=true→(z0≤(x:Int)∧(x:Int)<(↑(7:Nat):Int))∧((Ź x c)=true→(aC (c+List.getD [(32:Int),(32:Int),(32:Int),(32:Int),(32:Int),(80:Int),(32:Int)] ((x:Int).toNat) z0))∧c+List.getD [(32:Int),(32:Int),(32:Int),(32:Int),(32:Int),(80:Int),(32:Int)] ((x:Int).toNat) z0=S.aR c)∧((Ź x c)=false→(aC ((x:Int)+z1))∧∃(af:Nat),(x:Int)+z1=(af:Int)∧S.kS c af∧S.ag (7:Nat) af<S.ag (7:Nat) x))∧(decide ((x:Int)<(7:Int))=false→c=S.aR c)
def q54(u:List Int)(x:Nat×List UInt8):=S.aR (List.getD u ((x.1:Int).toNat) z0)
def VC(u:List Int):Prop :=
 (∃(x:Nat×List UInt8),(z0=(x.1:Int)∧ []=x.2)∧S.gJ u x.1 x.2)∧∀(x:Nat×List UInt8),S.gJ u x.1 x.2→(decide ((x.1:Int)<(an u))=true→(z0≤(x.1:Int)∧(x.1:Int)<(an u))∧True∧True∧(aC ((↑(List.length x.2):Int)+(↑(List.length (S.dZ (q54 u x))):Int)))∧(decide ((64:Int)<(↑(List.length x.2):Int)+(↑(List.length (S.dZ (q54 u x))):Int))=true→x.2=S.c9 u)∧(decide ((64:Int)<(↑(List.length x.2):Int)+(↑(List.length (S.dZ (q54 u x))):Int))=false→List.length x.2+List.length (S.dZ (q54 u x))≤eS∧(aC ((x.1:Int)+z1))∧∃(af:Nat×List UInt8),((x.1:Int)+z1=(af.1:Int)∧x.2++S.dZ (q54 u x)=af.2)∧S.gJ u af.1 af.2∧S.ag (S.len u) af.1<S.ag (S.len u) x.1))∧(decide ((x.1:Int)<(an u))=false→x.2=S.c9 u)
def q55(b:List UInt8)(x:Nat×List (List UInt8)×List Int):=List.getD (S.decode b) ((x.1:Int).toNat) z0
def uJ(b:List UInt8):=S.len (S.decode b)
def VD(b:List UInt8):Prop :=
 S.small b∧(∃(x:Nat×List (List UInt8)×List Int),(z0=(x.1:Int)∧ []=x.2.1∧ []=x.2.2)∧S.gr (S.decode b) x.1 x.2.1 x.2.2)∧∀(x:Nat×List (List UInt8)×List Int),S.gr (S.decode b) x.1 x.2.1 x.2.2→(decide ((x.1:Int)<(an (S.decode b)))=true→(z0≤(x.1:Int)∧(x.1:Int)<(an (S.decode b)))∧(x.1:Int).toNat<List.length (S.decode b)∧True∧((S.letter (q55 b x)=true→True)∧(S.letter (q55 b x)=false→True))∧((bif S.letter (q55 b x) then true else S.digit (q55 b x))=true→List.length x.2.2+List.length [q55 b x]≤(17592186044416:Nat)∧(aC ((x.1:Int)+z1))∧∃(af:Nat×List (List UInt8)×List Int),((x.1:Int)+z1=(af.1:Int)∧x.2.1=af.2.1∧x.2.2++ [q55 b x]=af.2.2)∧S.gr (S.decode b) af.1 af.2.1 af.2.2∧S.ag (uJ b) af.1<S.ag (uJ b) x.1)∧((bif S.letter (q55 b x) then true else S.digit (q55 b x))=false→(decide (z0<(↑(List.length x.2.2):Int))=true→S.Ew x.2.2∧List.length x.2.1+List.length [S.c9 x.2.2]≤(8796093022208:Nat)∧(aC ((x.1:Int)+z1))∧∃(af:Nat×List (List UInt8)×List Int),((x.1:Int)+z1=(af.1:Int)∧x.2.1++ [S.c9 x.2.2]=af.2.1∧ []=af.2.2)∧S.gr (S.decode b) af.1 af.2.1 af.2.2∧S.ag (uJ b) af.1<S.ag (uJ b) x.1)∧(decide (z0<(↑(List.length x.2.2):Int))=false→(aC ((x.1:Int)+z1))∧∃(af:Nat×List (List UInt8)×List Int),((x.1:Int)+z1=(af.1:Int)∧x.2.1=af.2.1∧x.2.2=af.2.2)∧S.gr (S.decode b) af.1 af.2.1 af.2.2∧S.ag (uJ b) af.1<S.ag (uJ b) x.1)))∧(decide ((x.1:Int)<(an (S.decode b)))=false→(decide (z0<(↑(List.length x.2.2):Int))=true→S.Ew x.2.2∧List.length x.2.1+List.length [S.c9 x.2.2]≤(8796093022208:Nat)∧x.2.1++ [S.c9 x.2.2]=S.aS b)∧(decide (z0<(↑(List.length x.2.2):Int))=false→x.2.1=S.aS b))
def VE(s:List UInt8):Prop :=
 S.small s∧((decide ((an (S.aS s))=z1)=true→(z0≤z0∧z0<(an (S.aS s)))∧z0.toNat<List.length (S.aS s))∧(decide ((an (S.aS s))=z1)=false→True))∧(bif decide ((an (S.aS s))=z1) then decide (List.getD (S.aS s) (z0.toNat) []=s) else false)=S.isTerm s
def VN(s:List UInt8):Prop :=
 (!decide (s=s))=false
def VO(a:List UInt8)(b:List UInt8):Prop :=
 True∧True∧(false=true→(false=true→z0=S.fA a b)∧(false=false→(-1:Int)=S.fA a b))∧(false=false→(false=true→z1=S.fA a b)∧(false=false→(Op.bytesLess a b=true→(-1:Int)=S.fA a b)∧(Op.bytesLess a b=false→((!(Op.bytesLess a b || decide (a=b)))=true→z1=S.fA a b)∧((!(Op.bytesLess a b || decide (a=b)))=false→z0=S.fA a b))))
def VP(a:List UInt8)(b:List UInt8):Prop :=
 True∧decide (S.fA a b=z0)=decide (a=b)
def VQ(l:List (List UInt8)):Prop :=
 (decide ((an l)<(2:Int))=true→l=S.bJ l)∧(decide ((an l)<(2:Int))=false→(∃(x:Nat),z1=(x:Int)∧S.nj l x)∧∀(x:Nat),S.nj l x→(decide ((x:Int)<(an l))=true→(z0≤(x:Int)∧(x:Int)<(an l))∧(x:Int).toNat<l.length∧(aC ((x:Int)-z1))∧(z0≤(x:Int)-z1∧(x:Int)-z1<(an l))∧Int.toNat ((x:Int)-z1)<l.length∧True∧(decide (List.getD l ((x:Int).toNat) []=List.getD l (Int.toNat ((x:Int)-z1)) [])=true→(z0≤(x:Int)∧(x:Int)≤(an l))∧(∃(af:Nat×Nat×List (List UInt8)×Nat),((x:Int)=(af.1:Int)∧z1=(af.2.1:Int)∧l=af.2.2.1)∧S.iT l af.2.2.2 af.1 af.2.1 af.2.2.1∧(x:Int)=(af.2.2.2:Int))∧∀(af:Nat×Nat×List (List UInt8)×Nat),S.iT l af.2.2.2 af.1 af.2.1 af.2.2.1∧(x:Int)=(af.2.2.2:Int)→(decide ((af.2.1:Int)<(↑(l.length-(x:Int).toNat):Int))=true→(z0≤(af.2.1:Int)∧(af.2.1:Int)<(↑(l.length-(x:Int).toNat):Int))∧(x:Int).toNat+(af.2.1:Int).toNat<List.length af.2.2.1∧(aC ((af.2.1:Int)-z1))∧(z0≤(af.2.1:Int)-z1∧(af.2.1:Int)-z1<(↑(l.length-(x:Int).toNat):Int))∧(x:Int).toNat+Int.toNat ((af.2.1:Int)-z1)<List.length af.2.2.1∧True∧(((!decide (List.getD af.2.2.1 ((x:Int).toNat+(af.2.1:Int).toNat) []=List.getD af.2.2.1 ((x:Int).toNat+Int.toNat ((af.2.1:Int)-z1)) []))=true→(z0≤(af.2.1:Int)∧(af.2.1:Int)<(↑(l.length-(x:Int).toNat):Int))∧(x:Int).toNat+(af.2.1:Int).toNat<List.length af.2.2.1∧(z0≤(af.1:Int)∧(af.1:Int)<(↑(List.length af.2.2.1):Int))∧(af.1:Int).toNat<List.length af.2.2.1∧aC ((af.1:Int)+z1))∧((!decide (List.getD af.2.2.1 ((x:Int).toNat+(af.2.1:Int).toNat) []=List.getD af.2.2.1 ((x:Int).toNat+Int.toNat ((af.2.1:Int)-z1)) []))=false→True))∧(aC ((af.2.1:Int)+z1))∧∃(aw:Nat×Nat×List (List UInt8)×Nat),((bif !decide (List.getD af.2.2.1 ((x:Int).toNat+(af.2.1:Int).toNat) []=List.getD af.2.2.1 ((x:Int).toNat+Int.toNat ((af.2.1:Int)-z1)) []) then(af.1:Int)+z1 else(af.1:Int))=(aw.1:Int)∧(af.2.1:Int)+z1=(aw.2.1:Int)∧(bif !decide (List.getD af.2.2.1 ((x:Int).toNat+(af.2.1:Int).toNat) []=List.getD af.2.2.1 ((x:Int).toNat+Int.toNat ((af.2.1:Int)-z1)) []) then List.set af.2.2.1 ((af.1:Int).toNat) (List.getD af.2.2.1 ((x:Int).toNat+(af.2.1:Int).toNat) []) else af.2.2.1)=aw.2.2.1)∧(S.iT l aw.2.2.2 aw.1 aw.2.1 aw.2.2.1∧(x:Int)=(aw.2.2.2:Int))∧S.ag (S.len l) aw.2.1<S.ag (S.len l) af.2.1)∧(decide ((af.2.1:Int)<(↑(l.length-(x:Int).toNat):Int))=false→(z0≤(af.1:Int)∧(af.1:Int)≤(↑(List.length af.2.2.1):Int))∧(((af.1:Int).toNat)+(List.length af.2.2.1-(af.1:Int).toNat))≤List.length af.2.2.1∧(z0≤(af.1:Int)∧(af.1:Int)≤(↑(List.length (List.take ((af.1:Int).toNat) af.2.2.1++List.replicate (List.length af.2.2.1-(af.1:Int).toNat) (Vg.cq UInt8)++List.drop ((((af.1:Int).toNat)+(List.length af.2.2.1-(af.1:Int).toNat))) af.2.2.1)):Int))∧List.take ((af.1:Int).toNat) (List.take ((af.1:Int).toNat) af.2.2.1++List.replicate (List.length af.2.2.1-(af.1:Int).toNat) (Vg.cq UInt8)++List.drop ((((af.1:Int).toNat)+(List.length af.2.2.1-(af.1:Int).toNat))) af.2.2.1)=S.bJ l))∧(decide (List.getD l ((x:Int).toNat) []=List.getD l (Int.toNat ((x:Int)-z1)) [])=false→(aC ((x:Int)+z1))∧∃(af:Nat),(x:Int)+z1=(af:Int)∧S.nj l af∧S.ag (S.len l) af<S.ag (S.len l) x))∧(decide ((x:Int)<(an l))=false→l=S.bJ l))
def VR(l:List (List UInt8)):Prop :=
 S.small l∧S.small l∧S.small (S.fB l)∧S.bJ (S.fB l)=S.bJ (S.fB l)
def VS(b:List UInt8):Prop :=
 S.small b∧S.small (S.aS b)∧S.bJ (S.fB (S.aS b))=S.sorted (S.aS b)
def Vl(l:List (List UInt8))(x:Nat):= !decide ((↑(List.length (List.getD l ((x:Int).toNat) [])):Int)=(32:Int))
def VT(l:List (List UInt8)):Prop :=
 (∃(x:Nat),z0=(x:Int)∧S.mB l x)∧∀(x:Nat),S.mB l x→(decide ((x:Int)<(an l))=true→(z0≤(x:Int)∧(x:Int)<(an l))∧((Vl l x)=true→false=S.mT l)∧((Vl l x)=false→(aC ((x:Int)+z1))∧∃(af:Nat),(x:Int)+z1=(af:Int)∧S.mB l af∧S.ag (S.len l) af<S.ag (S.len l) x))∧(decide ((x:Int)<(an l))=false→true=S.mT l)
def VU(a:List UInt8)(b:List UInt8):Prop :=
 True∧S.cM a b=S.cM a b
def Vm(s:List (List UInt8)):=List.set s (Int.toNat ((an s)-(2:Int))) (S.cM (List.getD s (Int.toNat ((an s)-(2:Int))) []) (List.getD s (Int.toNat ((an s)-(2:Int)+z1)) []))
def VV(s:List (List UInt8)):Prop :=
 (aC ((an s)-(2:Int)))∧(z0≤(an s)-(2:Int)∧(an s)-(2:Int)<(an s))∧Int.toNat ((an s)-(2:Int))<s.length∧(aC ((an s)-(2:Int)+z1))∧(z0≤(an s)-(2:Int)+z1∧(an s)-(2:Int)+z1<(an s))∧Int.toNat ((an s)-(2:Int)+z1)<s.length∧True∧(z0≤(an s)-(2:Int)∧(an s)-(2:Int)<(an s))∧Int.toNat ((an s)-(2:Int))<s.length∧(aC ((an s)-(2:Int)+z1))∧(z0≤(an s)-(2:Int)+z1∧(an s)-(2:Int)+z1≤(↑(List.length (Vm s)):Int))∧List.take (Int.toNat ((an s)-(2:Int)+z1)) (Vm s)=S.comb s
def VW(l:List (List UInt8)):Prop :=
 (∃(x:Nat),(z0=(x:Int)∧ []=S.db l x)∧S.dY l x)∧∀(x:Nat),S.dY l x→(decide ((x:Int)<(an l))=true→(z0≤(x:Int)∧(x:Int)<(an l))∧S.bj (List.getD l ((x:Int).toNat) [])∧List.length (S.db l x)+List.length [S.leaf (List.getD l ((x:Int).toNat) [])]≤(8796093022208:Nat)∧(aC ((x:Int)+z1))∧∃(af:Nat),((x:Int)+z1=(af:Int)∧S.db l x++ [S.leaf (List.getD l ((x:Int).toNat) [])]=S.db l af)∧S.dY l af∧S.ag (S.len l) af<S.ag (S.len l) x)∧(decide ((x:Int)<(an l))=false→S.db l x=S.leaves l)
def VX(l:List (List UInt8)):Prop :=
 (decide ((an l)=z0)=true→S.small (Vg.cq UInt8)∧S.sum (Vg.cq UInt8)=S.root l)∧(decide ((an l)=z0)=false→(∃(x:Nat×List (List UInt8)),(z0=(x.1:Int)∧ []=x.2)∧S.kU l x.1 x.2)∧∀(x:Nat×List (List UInt8)),S.kU l x.1 x.2→(decide ((x.1:Int)<(an l))=true→(z0≤(x.1:Int)∧(x.1:Int)<(an l))∧List.length x.2+List.length [List.getD l ((x.1:Int).toNat) []]≤(8796093022208:Nat)∧(∃(af:Nat×Nat×List (List UInt8)×Nat),((x.1:Int)=(af.2.1:Int)∧x.2++ [List.getD l ((x.1:Int).toNat) []]=af.2.2.1)∧S.jY l af.2.2.2 af.1 af.2.1 af.2.2.1∧(x.1:Int)=(af.2.2.2:Int))∧∀(af:Nat×Nat×List (List UInt8)×Nat),S.jY l af.2.2.2 af.1 af.2.1 af.2.2.1∧(x.1:Int)=(af.2.2.2:Int)→z0≤(af.2.1:Int)∧z0≤z1∧(decide (Vg.aZ (af.2.1:Int) z1=z1)=true→S.qn af.2.2.1∧(z0≤z1∧z1≤(64:Int))∧∃(aw:Nat×Nat×List (List UInt8)×Nat),((af.2.1:Int)/(2:Int)^z1.toNat=(aw.2.1:Int)∧S.comb af.2.2.1=aw.2.2.1)∧(S.jY l aw.2.2.2 aw.1 aw.2.1 aw.2.2.1∧(x.1:Int)=(aw.2.2.2:Int))∧aw.2.1<af.2.1)∧(decide (Vg.aZ (af.2.1:Int) z1=z1)=false→(aC ((x.1:Int)+z1))∧∃(aw:Nat×List (List UInt8)),((x.1:Int)+z1=(aw.1:Int)∧af.2.2.1=aw.2)∧S.kU l aw.1 aw.2∧S.ag (S.len l) aw.1<S.ag (S.len l) x.1))∧(decide ((x.1:Int)<(an l))=false→(∃(af:List (List UInt8)),x.2=af∧S.kV l af)∧∀(x:List (List UInt8)),S.kV l x→(decide (z1<(an x))=true→S.qn x∧∃(af:List (List UInt8)),S.comb x=af∧S.kV l af∧S.len af<S.len x)∧(decide (z1<(an x))=false→(z0≤z0∧z0<(an x))∧z0.toNat<x.length∧List.getD x (z0.toNat) []=S.root l)))
def VY(l:List (List UInt8)):Prop :=
 True∧((!S.mT l)=true→ []=S.rq l∧z1=S.ru l)∧((!S.mT l)=false→S.eb l∧S.root l=S.rq l∧z0=S.ru l)
def Vn(l:List Int)(x:Nat):=bif decide (List.getD l ((x:Int).toNat) z0≤S.dV l x) then true else decide ((1000:Int)≤List.getD l ((x:Int).toNat) z0)
def V2(l:List Int):Prop :=
 (∃(x:Nat),(z0=(x:Int)∧(-1:Int)=S.dV l x)∧S.hY l x)∧∀(x:Nat),S.hY l x→(decide ((x:Int)<(an l))=true→(z0≤(x:Int)∧(x:Int)<(an l))∧((Vn l x)=true→false=S.bR l)∧((Vn l x)=false→(aC ((x:Int)+z1))∧∃(af:Nat),((x:Int)+z1=(af:Int)∧List.getD l ((x:Int).toNat) z0=S.dV l af)∧S.hY l af∧S.ag (S.len l) af<S.ag (S.len l) x))∧(decide ((x:Int)<(an l))=false→true=S.bR l)
def ź(l:List Int)(x:Nat):=List.getD l ((x:Int).toNat) z0-S.dV l x-z1
def V3(l:List Int):Prop :=
 True∧((!S.bR l)=true→z1=S.jD l∧ []=S.oA l)∧((!S.bR l)=false→List.length (Vg.cq UInt8)≤(35184372088832:Nat)∧(∃(x:Nat),(z0=(x:Int)∧(-1:Int)=S.dV l x∧S.mS (Vg.cq UInt8) (an l)=S.cB l x)∧x≤l.length)∧∀(x:Nat),x≤l.length→(decide ((x:Int)<(an l))=true→(z0≤(x:Int)∧(x:Int)<(an l))∧(aC (List.getD l ((x:Int).toNat) z0-S.dV l x))∧(aC (ź l x))∧List.length (Vg.cq UInt8)≤(35184372088832:Nat)∧List.length (S.cB l x)+List.length (S.mS (Vg.cq UInt8) (ź l x))≤eS∧(aC ((x:Int)+z1))∧∃(af:Nat),((x:Int)+z1=(af:Int)∧List.getD l ((x:Int).toNat) z0=S.dV l af∧S.cB l x++S.mS (Vg.cq UInt8) (ź l x)=S.cB l af)∧af≤l.length∧S.ag (S.len l) af<S.ag (S.len l) x)∧(decide ((x:Int)<(an l))=false→z0=S.jD l∧S.cB l x=S.oA l))
def V4(l:List Int):Prop :=
 True∧((!decide (S.jD l=z0))=true→ []=S.oB l∧S.jD l=S.jD l)∧((!decide (S.jD l=z0))=false→S.bj (S.oA l)∧S.oi (2:Nat) (S.oA l)=S.oB l∧z0=S.jD l)
def V5(n:Int)(p:Bool)(q:Bool)(s1:Int)(s2:Int):Prop :=
 (bif decide (s1≤n) then decide (n<s2) else false)=S.oC n s1 s2∧s1=s1∧s2=s2
def Mx(x:List Int×List Int):=bif bif decide (z0<(↑(List.length S.fa):Int)) then bif decide ((↑(List.length x.1):Int)=z0) then true else decide (List.getD S.fa (z0.toNat) z0≤List.getD x.1 (z0.toNat) z0) else false then List.getD S.fa (z0.toNat) z0 else bif bif decide (z0<(↑(List.length x.1):Int)) then bif decide ((↑(List.length S.fa):Int)=z0) then true else decide (List.getD x.1 (z0.toNat) z0≤List.getD S.fa (z0.toNat) z0) else false then List.getD x.1 (z0.toNat) z0 else z0
def Ż:=List.length S.fa
def ż(x:List Int×List Int):=bif bif decide (z0<(Ż:Int)) then bif decide ((↑(List.length x.1):Int)=z0) then true else decide (List.getD S.fa (z0.toNat) z0≤List.getD x.1 (z0.toNat) z0) else false then List.drop (z1.toNat) S.fa else S.fa
def Ž(x:List Int×List Int):=bif bif decide (z0<(↑(List.length x.1):Int)) then bif decide ((Ż:Int)=z0) then true else decide (List.getD x.1 (z0.toNat) z0≤List.getD S.fa (z0.toNat) z0) else false then List.drop (z1.toNat) x.1 else x.1
def ž(x:List Int×List Int):=bif decide (z0<(↑(List.length x.1):Int)) then bif decide ((Ż:Int)=z0) then true else decide (List.getD x.1 (z0.toNat) z0≤List.getD S.fa (z0.toNat) z0) else false
def ſ(x:List Int×List Int):=bif decide (z0<(Ż:Int)) then bif decide ((↑(List.length x.1):Int)=z0) then true else decide (List.getD S.fa (z0.toNat) z0≤List.getD x.1 (z0.toNat) z0) else false
def q67(x:List Int×List Int):=bif decide (z0<(↑(List.length x.1):Int)) then true else decide (z0<(Ż:Int))
def V9(a:List Int)(b:List Int)(s1:Int)(s2:Int):Prop :=
 True∧True∧(∃(x:List Int×List Int),((bif !S.bR a then [] else a)=x.1∧(bif !S.bR b then [] else b)=S.fa∧ []=x.2∧s1=s1∧s2=s2)∧S.iV a s1 s2 x.1 x.2)∧∀(x:List Int×List Int),S.iV a s1 s2 x.1 x.2→((q67 x)=true→((decide (z0<(↑(List.length x.1):Int))=true→(decide ((Ż:Int)=z0)=true→True)∧(decide ((Ż:Int)=z0)=false→(z0≤z0∧z0<(↑(List.length x.1):Int))∧z0≤z0∧z0<(Ż:Int)))∧(decide (z0<(↑(List.length x.1):Int))=false→True))∧((decide (z0<(Ż:Int))=true→(decide ((↑(List.length x.1):Int)=z0)=true→True)∧(decide ((↑(List.length x.1):Int)=z0)=false→(z0≤z0∧z0<(Ż:Int))∧z0≤z0∧z0<(↑(List.length x.1):Int)))∧(decide (z0<(Ż:Int))=false→True))∧(((ž x)=true→(z0≤z0∧z0<(↑(List.length x.1):Int))∧z0≤z1∧z1≤(↑(List.length x.1):Int))∧((ž x)=false→True))∧(((ſ x)=true→(z0≤z0∧z0<(Ż:Int))∧z0≤z1∧z1≤(Ż:Int))∧((ſ x)=false→True))∧True∧(S.oC (Mx x) s1 s2=true→List.length x.2+List.length [Mx x]≤(17592186044416:Nat)∧∃(af:List Int×List Int),((Ž x)=af.1∧(ż x)=S.fa∧x.2++ [Mx x]=af.2∧s1=s1∧s2=s2)∧S.iV a s1 s2 af.1 af.2∧S.len af.1<S.len x.1)∧(S.oC (Mx x) s1 s2=false→∃(af:List Int×List Int),((Ž x)=af.1∧(ż x)=S.fa∧x.2=af.2∧s1=s1∧s2=s2)∧S.iV a s1 s2 af.1 af.2∧S.len af.1<S.len x.1))∧((q67 x)=false→s1=s1∧s2=s2∧x.2=S.CG a s1 s2)
def Wa(l:List Int)(s1:Int)(s2:Int):Prop :=
 List.length (Vg.cq Int)=(0:Nat)∧S.CG l s1 s2=S.CG l s1 s2
def q68(d:List (List UInt8×List Int))(x:Nat):=List.getD d ((x:Int).toNat) ([],[])
def q69(x:Nat)(d:List (List UInt8×List Int)):=bif decide (z0<(x:Int)) then Op.bytesLess ((q68 d x).1) ((List.getD d (Int.toNat ((x:Int)-z1)) ([],[])).1) || decide ((q68 d x).1=(List.getD d (Int.toNat ((x:Int)-z1)) ([],[])).1) else false
def q70(d:List (List UInt8×List Int))(x:Nat):=bif decide ((↑(List.length ((q68 d x).2)):Int)=z0) then true else bif !S.bR ((q68 d x).2) then true else !S.isTerm ((q68 d x).1)
def Wg(d:List (List UInt8×List Int)):Prop :=
 (∃(x:Nat),z0=(x:Int)∧S.zK d x)∧∀(x:Nat),S.zK d x→(decide ((x:Int)<(an d))=true→(z0≤(x:Int)∧(x:Int)<(an d))∧((decide (z0<(x:Int))=true→(aC ((x:Int)-z1))∧z0≤(x:Int)-z1∧(x:Int)-z1<(an d))∧(decide (z0<(x:Int))=false→True))∧((q69 x d)=true→false=S.bl d)∧((q69 x d)=false→((decide ((↑(List.length ((q68 d x).2)):Int)=z0)=true→True)∧(decide ((↑(List.length ((q68 d x).2)):Int)=z0)=false→True∧((!S.bR ((q68 d x).2))=true→True)∧((!S.bR ((q68 d x).2))=false→S.small ((q68 d x).1))))∧((q70 d x)=true→false=S.bl d)∧((q70 d x)=false→(aC ((x:Int)+z1))∧∃(af:Nat),(x:Int)+z1=(af:Int)∧S.zK d af∧S.ag (S.len d) af<S.ag (S.len d) x)))∧(decide ((x:Int)<(an d))=false→true=S.bl d)
def q71(l1 l2 l3:List UInt8):=bif decide ((64:Int)<(an l1)) then true else bif decide ((64:Int)<(an l2)) then true else !decide ((an l3)=(32:Int))
def Wi(l1:List UInt8)(l2:List UInt8)(l3:List UInt8):Prop :=
 ((q71 l1 l2 l3)=true→ []=S.oD l1 l2 l3∧z1=S.wk l1 l2 l3)∧((q71 l1 l2 l3)=false→S.kR (Vg.cq UInt8) l1∧S.kR ([]++S.text l1) l2∧List.length ([]++S.text l1++S.text l2)+l3.length≤eS∧ []++S.text l1++S.text l2++l3=S.oD l1 l2 l3∧z0=S.wk l1 l2 l3)
def q72(x:Nat)(d:List (List UInt8×List Int)):=S.oD (bif decide ((x:Int)<(an d)) then bif decide (z0<(x:Int)) then(List.getD d (Int.toNat ((x:Int)-z1)) ([],[])).1 else [] else bif decide (z0<(x:Int)) then(List.getD d (Int.toNat ((x:Int)-z1)) ([],[])).1 else []) (bif decide ((x:Int)<(an d)) then(List.getD d ((x:Int).toNat) ([],[])).1 else bif decide (z0<(x:Int)) then [] else []) (S.oB (bif decide (z0<(x:Int)) then(List.getD d (Int.toNat ((x:Int)-z1)) ([],[])).2 else []))
def Wk(d:List (List UInt8×List Int)):Prop :=
 S.bB d∧((!S.bl d)=true→z1=S.dE d∧ []=S.fb d)∧((!S.bl d)=false→(aC ((an d)+z1))∧(∃(x:Nat),(z0=(x:Int)∧ []=S.dy d x)∧x≤d.length+(1:Nat))∧∀(x:Nat),x≤d.length+(1:Nat)→(decide ((x:Int)<(an d)+z1)=true→((decide (z0<(x:Int))=true→(aC ((x:Int)-z1))∧(z0≤(x:Int)-z1∧(x:Int)-z1<(an d))∧(aC ((x:Int)-z1))∧z0≤(x:Int)-z1∧(x:Int)-z1<(an d))∧(decide (z0<(x:Int))=false→True))∧((decide ((x:Int)<(an d))=true→z0≤(x:Int)∧(x:Int)<(an d))∧(decide ((x:Int)<(an d))=false→True))∧True∧True∧List.length (S.dy d x)+List.length [q72 x d]≤(5864062014805:Nat)∧(aC ((x:Int)+z1))∧∃(af:Nat),((x:Int)+z1=(af:Int)∧S.dy d x++ [q72 x d]=S.dy d af)∧af≤d.length+(1:Nat)∧S.ag (S.len d+(1:Nat)) af<S.ag (S.len d+(1:Nat)) x)∧(decide ((x:Int)<(an d)+z1)=false→z0=S.dE d∧S.dy d x=S.fb d))
def Wl(d:List (List UInt8×List Int)):Prop :=
 S.bB d∧((!decide (S.dE d=z0))=true→ []=S.rz d∧S.dE d=S.dE d)∧((!decide (S.dE d=z0))=false→S.iU (S.fb d)∧S.small (S.leaves (S.fb d))∧S.rq (S.leaves (S.fb d))=S.rz d∧S.ru (S.leaves (S.fb d))=S.dE d)
def NB(s1:Int)(s2:Int):Prop :=
 (bif decide (z0≤s1) then bif decide (s1<s2) then decide (s2≤(1000:Int)) else false else false)=S.iD s1 s2
def Vv(s3:List (List UInt8×List Int))(x:Nat)(s1 s2:Int):= !decide ((↑(List.length (S.CG ((List.getD s3 ((x:Int).toNat) ([],[])).2) s1 s2)):Int)=(↑(List.length ((List.getD s3 ((x:Int).toNat) ([],[])).2)):Int))
def NC(s1:Int)(s2:Int)(s3:List (List UInt8×List Int)):Prop :=
 True∧(((!S.iD s1 s2)=true→True)∧((!S.iD s1 s2)=false→S.bB s3))∧((bif !S.iD s1 s2 then true else !S.bl s3)=true→false=S.dh s1 s2 s3)∧((bif !S.iD s1 s2 then true else !S.bl s3)=false→(∃(x:Nat),z0=(x:Int)∧S.pn s1 s2 s3 x)∧∀(x:Nat),S.pn s1 s2 s3 x→(decide ((x:Int)<(an s3))=true→(z0≤(x:Int)∧(x:Int)<(an s3))∧True∧((Vv s3 x s1 s2)=true→false=S.dh s1 s2 s3)∧((Vv s3 x s1 s2)=false→(aC ((x:Int)+z1))∧∃(af:Nat),(x:Int)+z1=(af:Int)∧S.pn s1 s2 s3 af∧S.ag (S.len s3) af<S.ag (S.len s3) x))∧(decide ((x:Int)<(an s3))=false→true=S.dh s1 s2 s3))
def ND(s1:Int)(s2:Int)(s3:List (List UInt8×List Int)):Prop :=
 S.bB s3∧((!S.dh s1 s2 s3)=true→z0=((S.lh s1 s2 s3).1).1∧z0=(((S.lh s1 s2 s3).1).2).1∧z0=((((S.lh s1 s2 s3).1).2).2).1∧ []=((((S.lh s1 s2 s3).1).2).2).2∧z1=(S.lh s1 s2 s3).2)∧((!S.dh s1 s2 s3)=false→S.bB s3∧((!decide (S.dE s3=z0))=true→z0=((S.lh s1 s2 s3).1).1∧z0=(((S.lh s1 s2 s3).1).2).1∧z0=((((S.lh s1 s2 s3).1).2).2).1∧ []=((((S.lh s1 s2 s3).1).2).2).2∧z1=(S.lh s1 s2 s3).2)∧((!decide (S.dE s3=z0))=false→(aC ((an s3)+z1))∧s1=((S.lh s1 s2 s3).1).1∧s2=(((S.lh s1 s2 s3).1).2).1∧(an s3)+z1=((((S.lh s1 s2 s3).1).2).2).1∧S.rz s3=((((S.lh s1 s2 s3).1).2).2).2∧z0=(S.lh s1 s2 s3).2))
def at7(s1:Int)(s2:Int)(s3:Int)(s4:List UInt8):Prop :=
 True∧(bif S.iD s1 s2 then bif decide (z1≤s3) then bif decide (s3≤(1099511627776:Int)) then decide ((an s4)=(32:Int)) else false else false else false)=S.af8 s1 s2 s3 s4
def NF(docs:List (List UInt8))(s1:Int)(s2:Int):Prop :=
 True∧((!decide ((S.fK docs s1 s2).2=z0))=true→z0=((S.cb docs s1 s2).1).1∧z0=(((S.cb docs s1 s2).1).2).1∧ []=(((S.cb docs s1 s2).1).2).2∧(S.fK docs s1 s2).2=(S.cb docs s1 s2).2)∧((!decide ((S.fK docs s1 s2).2=z0))=false→(decide (s1=s2)=true→z0=((S.cb docs s1 s2).1).1∧z0=(((S.cb docs s1 s2).1).2).1∧ []=(((S.cb docs s1 s2).1).2).2∧z1=(S.cb docs s1 s2).2)∧(decide (s1=s2)=false→s1=((S.cb docs s1 s2).1).1∧s2=(((S.cb docs s1 s2).1).2).1∧(S.fK docs s1 s2).1=(((S.cb docs s1 s2).1).2).2∧z0=(S.cb docs s1 s2).2))
def q74(l:List (Int×Int×Int×List UInt8))(x:Nat):=List.getD l ((x:Int).toNat) (z0,z0,z0,[])
def q75(l:List (Int×Int×Int×List UInt8))(x:Nat):=decide ((((q74 l x).2).2).2=(((q74 l x).2).2).2)
def q76(l:List (Int×Int×Int×List UInt8))(x:Nat):=decide ((((q74 l x).2).2).1=(((q74 l x).2).2).1)
def My(l:List (Int×Int×Int×List UInt8))(x:Nat):=decide (((q74 l x).2).1=((q74 l x).2).1)
def aua(l:List (Int×Int×Int×List UInt8))(n:Int):Prop :=
 (decide ((64:Int)<(an l))=true→false=S.aga l n)∧(decide ((64:Int)<(an l))=false→(∃(x:Nat),(z0=(x:Int)∧z0=S.rowAt l x)∧S.M1 l x)∧∀(x:Nat),S.M1 l x→(decide ((x:Int)<(an l))=true→(z0≤(x:Int)∧(x:Int)<(an l))∧(((!Bool.rec false (Bool.rec false (q75 l x) (q76 l x)) (Bool.rec false (My l x) (decide ((q74 l x).1=S.rowAt l x))))=true→True)∧((!Bool.rec false (Bool.rec false (q75 l x) (q76 l x)) (Bool.rec false (My l x) (decide ((q74 l x).1=S.rowAt l x))))=false→True))∧((bif !Bool.rec false (Bool.rec false (q75 l x) (q76 l x)) (Bool.rec false (My l x) (decide ((q74 l x).1=S.rowAt l x))) then true else !S.af8 ((q74 l x).1) (((q74 l x).2).1) ((((q74 l x).2).2).1) ((((q74 l x).2).2).2))=true→false=S.aga l n)∧((bif !Bool.rec false (Bool.rec false (q75 l x) (q76 l x)) (Bool.rec false (My l x) (decide ((q74 l x).1=S.rowAt l x))) then true else !S.af8 ((q74 l x).1) (((q74 l x).2).1) ((((q74 l x).2).2).1) ((((q74 l x).2).2).2))=false→(aC ((x:Int)+z1))∧∃(af:Nat),((x:Int)+z1=(af:Int)∧((q74 l x).2).1=S.rowAt l af)∧S.M1 l af∧S.ag (S.len l) af<S.ag (S.len l) x))∧(decide ((x:Int)<(an l))=false→decide (S.rowAt l x=n)=S.aga l n))
def Io(l:List (Int×Int×List (List UInt8×List Int)))(aw:Nat×Nat):=List.getD (((List.getD l ((aw.1:Int).toNat) (z0,z0,[])).2).2) (Int.toNat (List.getD (S.aY l aw.2 aw.1) ((aw.1:Int).toNat) z0)) ([],[])
def Ak(l:List (Int×Int×List (List UInt8×List Int)))(af:Nat×Nat):=Int.toNat (S.cv l (S.ay l af.2) af.1)
def Sj(l:List (Int×Int×List (List UInt8×List Int)))(aw:Nat×Nat):=List.length (((List.getD l ((aw.1:Int).toNat) (z0,z0,[])).2).2)
def Sk(aw:Nat×Nat)(l:List (Int×Int×List (List UInt8×List Int))):=z0≤(aw.1:Int)∧(aw.1:Int)<(an (S.aY l aw.2 aw.1))
def Ip(l:List (Int×Int×List (List UInt8×List Int)))(aw:Nat×Nat):=S.aY l aw.2 aw.1
def Mz(aw:Nat×Nat):=(aw.1:Int).toNat
def Kt(af:Nat×Nat):=(af.1:Int).toNat
def NP(l:List (Int×Int×List (List UInt8×List Int))):Prop :=
 (z0≤(an l)∧(an l)≤(an l)∧(an l)≤Db/(↑(8:Nat):Int))∧(∃(x:Nat),([]=S.cc l x∧List.replicate (Int.toNat (an l)) z0=S.ay l x)∧x≤S.uL l)∧∀(x:Nat),x≤S.uL l→(∃(af:Nat×Nat),(z0=(af.1:Int)∧(-1:Int)=S.cv l (S.ay l af.2) af.1)∧(af.1≤l.length∧af.2≤S.uL l)∧S.ay l x=S.ay l af.2)∧∀(af:Nat×Nat),(af.1≤l.length∧af.2≤S.uL l)∧S.ay l x=S.ay l af.2→(decide ((af.1:Int)<(an l))=true→(z0≤(af.1:Int)∧(af.1:Int)<(an l))∧(z0≤(af.1:Int)∧(af.1:Int)<(an (S.ay l x)))∧(af.1:Int).toNat<List.length (S.ay l x)∧(decide (List.getD (S.ay l x) (Kt af) z0=(↑(List.length (((List.getD l (Kt af) (z0,z0,[])).2).2)):Int))=true→(aC ((af.1:Int)+z1))∧∃(aw:Nat×Nat),((af.1:Int)+z1=(aw.1:Int)∧S.cv l (S.ay l af.2) af.1=S.cv l (S.ay l aw.2) aw.1)∧((aw.1≤l.length∧aw.2≤S.uL l)∧S.ay l x=S.ay l aw.2)∧S.ag (S.len l) aw.1<S.ag (S.len l) af.1)∧(decide (List.getD (S.ay l x) (Kt af) z0=(↑(List.length (((List.getD l (Kt af) (z0,z0,[])).2).2)):Int))=false→((decide (S.cv l (S.ay l af.2) af.1<z0)=true→True)∧(decide (S.cv l (S.ay l af.2) af.1<z0)=false→(z0≤(af.1:Int)∧(af.1:Int)<(an (S.ay l x)))∧(af.1:Int).toNat<List.length (S.ay l x)∧(z0≤List.getD (S.ay l x) (Kt af) z0∧List.getD (S.ay l x) (Kt af) z0<(↑(List.length (((List.getD l (Kt af) (z0,z0,[])).2).2)):Int))∧(z0≤S.cv l (S.ay l af.2) af.1∧S.cv l (S.ay l af.2) af.1<(an l))∧(z0≤S.cv l (S.ay l af.2) af.1∧S.cv l (S.ay l af.2) af.1<(an (S.ay l x)))∧Int.toNat (S.cv l (S.ay l af.2) af.1)<List.length (S.ay l x)∧z0≤List.getD (S.ay l x) (Ak l af) z0∧List.getD (S.ay l x) (Ak l af) z0<(↑(List.length (((List.getD l (Ak l af) (z0,z0,[])).2).2)):Int)))∧(aC ((af.1:Int)+z1))∧∃(aw:Nat×Nat),((af.1:Int)+z1=(aw.1:Int)∧(bif bif decide (S.cv l (S.ay l af.2) af.1<z0) then true else Op.bytesLess ((List.getD (((List.getD l (Kt af) (z0,z0,[])).2).2) (Int.toNat (List.getD (S.ay l x) (Kt af) z0)) ([],[])).1) ((List.getD (((List.getD l (Ak l af) (z0,z0,[])).2).2) (Int.toNat (List.getD (S.ay l x) (Ak l af) z0)) ([],[])).1) then(af.1:Int) else S.cv l (S.ay l af.2) af.1)=S.cv l (S.ay l aw.2) aw.1)∧((aw.1≤l.length∧aw.2≤S.uL l)∧S.ay l x=S.ay l aw.2)∧S.ag (S.len l) aw.1<S.ag (S.len l) af.1))∧(decide ((af.1:Int)<(an l))=false→(decide (S.cv l (S.ay l af.2) af.1<z0)=true→S.cc l x=S.l9 l)∧(decide (S.cv l (S.ay l af.2) af.1<z0)=false→(z0≤S.cv l (S.ay l af.2) af.1∧S.cv l (S.ay l af.2) af.1<(an l))∧(z0≤S.cv l (S.ay l af.2) af.1∧S.cv l (S.ay l af.2) af.1<(an (S.ay l x)))∧Int.toNat (S.cv l (S.ay l af.2) af.1)<List.length (S.ay l x)∧(z0≤List.getD (S.ay l x) (Ak l af) z0∧List.getD (S.ay l x) (Ak l af) z0<(↑(List.length (((List.getD l (Ak l af) (z0,z0,[])).2).2)):Int))∧(∃(aw:Nat×Nat),(z0=(aw.1:Int)∧S.ay l x=S.aY l aw.2 aw.1∧(List.getD (((List.getD l (Ak l af) (z0,z0,[])).2).2) (Int.toNat (List.getD (S.ay l x) (Ak l af) z0)) ([],[])).1=S.k6 l aw.2∧ []=S.cw l (S.k6 l aw.2) aw.1)∧(aw.1≤l.length∧aw.2<S.uL l)∧S.cc l x=S.cc l aw.2)∧∀(aw:Nat×Nat),(aw.1≤l.length∧aw.2<S.uL l)∧S.cc l x=S.cc l aw.2→(decide ((aw.1:Int)<(an l))=true→(z0≤(aw.1:Int)∧(aw.1:Int)<(an l))∧(Sk aw l)∧(aw.1:Int).toNat<List.length (Ip l aw)∧((decide (List.getD (Ip l aw) (Mz aw) z0<(↑(Sj l aw):Int))=true→(Sk aw l)∧(aw.1:Int).toNat<List.length (Ip l aw)∧z0≤List.getD (Ip l aw) (Mz aw) z0∧List.getD (Ip l aw) (Mz aw) z0<(↑(Sj l aw):Int))∧(decide (List.getD (Ip l aw) (Mz aw) z0<(↑(Sj l aw):Int))=false→True))∧((bif decide (List.getD (Ip l aw) (Mz aw) z0<(↑(Sj l aw):Int)) then decide ((Io l aw).1=S.k6 l aw.2) else false)=true→(Sk aw l)∧(aw.1:Int).toNat<List.length (Ip l aw)∧(z0≤List.getD (Ip l aw) (Mz aw) z0∧List.getD (Ip l aw) (Mz aw) z0<(↑(Sj l aw):Int))∧List.length (S.cw l (S.k6 l aw.2) aw.1)+List.length ((Io l aw).2)≤(17592186044416:Nat)∧(Sk aw l)∧(aw.1:Int).toNat<List.length (Ip l aw)∧(aC (List.getD (Ip l aw) (Mz aw) z0+z1))∧(Sk aw l)∧(aw.1:Int).toNat<List.length (Ip l aw)∧(aC ((aw.1:Int)+z1))∧∃(gl:Nat×Nat),((aw.1:Int)+z1=(gl.1:Int)∧List.set (Ip l aw) (Mz aw) (List.getD (Ip l aw) (Mz aw) z0+z1)=S.aY l gl.2 gl.1∧S.k6 l aw.2=S.k6 l gl.2∧S.cw l (S.k6 l aw.2) aw.1++(Io l aw).2=S.cw l (S.k6 l gl.2) gl.1)∧((gl.1≤l.length∧gl.2<S.uL l)∧S.cc l x=S.cc l gl.2)∧S.ag (S.len l) gl.1<S.ag (S.len l) aw.1)∧((bif decide (List.getD (Ip l aw) (Mz aw) z0<(↑(Sj l aw):Int)) then decide ((Io l aw).1=S.k6 l aw.2) else false)=false→(aC ((aw.1:Int)+z1))∧∃(gl:Nat×Nat),((aw.1:Int)+z1=(gl.1:Int)∧S.aY l aw.2 aw.1=S.aY l gl.2 gl.1∧S.k6 l aw.2=S.k6 l gl.2∧S.cw l (S.k6 l aw.2) aw.1=S.cw l (S.k6 l gl.2) gl.1)∧((gl.1≤l.length∧gl.2<S.uL l)∧S.cc l x=S.cc l gl.2)∧S.ag (S.len l) gl.1<S.ag (S.len l) aw.1))∧(decide ((aw.1:Int)<(an l))=false→List.length (S.cc l x)+List.length [(S.k6 l aw.2,S.cw l (S.k6 l aw.2) aw.1)]≤(3518437208883:Nat)∧∃(gl:Nat),(S.cc l x++ [(S.k6 l aw.2,S.cw l (S.k6 l aw.2) aw.1)]=S.cc l gl∧S.aY l aw.2 aw.1=S.ay l gl)∧gl≤S.uL l∧S.ag (S.uL l) gl<S.ag (S.uL l) x)))
def q85(l:List (Int×Int×List (List UInt8×List Int)))(x:Nat):=List.getD l ((x:Int).toNat) (z0,z0,[])
def q86(l:List (Int×Int×List (List UInt8×List Int)))(x:Nat):= !decide ((List.getD l (Int.toNat ((x:Int)+z1)) (z0,z0,[])).1=((List.getD l (Int.toNat ((x:Int)+z1-z1)) (z0,z0,[])).2).1)
def NQ(l:List (Int×Int×List (List UInt8×List Int))):Prop :=
 (decide ((an l)=z0)=true→z0=((S.dC l).1).1∧z0=(((S.dC l).1).2).1∧ []=(((S.dC l).1).2).2∧z1=(S.dC l).2)∧(decide ((an l)=z0)=false→(∃(x:Nat),z0=(x:Int)∧S.np l x)∧∀(x:Nat),S.np l x→(decide ((x:Int)<(an l))=true→(z0≤(x:Int)∧(x:Int)<(an l))∧S.bB (((q85 l x).2).2)∧((!S.dh ((q85 l x).1) (((q85 l x).2).1) (((q85 l x).2).2))=true→z0=((S.dC l).1).1∧z0=(((S.dC l).1).2).1∧ []=(((S.dC l).1).2).2∧z1=(S.dC l).2)∧((!S.dh ((q85 l x).1) (((q85 l x).2).1) (((q85 l x).2).2))=false→(aC ((x:Int)+z1))∧∃(af:Nat),(x:Int)+z1=(af:Int)∧S.np l af∧S.ag (S.len l) af<S.ag (S.len l) x))∧(decide ((x:Int)<(an l))=false→(∃(x:Nat),z1=(x:Int)+z1∧S.pU l x)∧∀(x:Nat),S.pU l x→(decide ((x:Int)+z1<(an l))=true→(z0≤(x:Int)+z1∧(x:Int)+z1<(an l))∧(aC ((x:Int)+z1-z1))∧(z0≤(x:Int)+z1-z1∧(x:Int)+z1-z1<(an l))∧((q86 l x)=true→z0=((S.dC l).1).1∧z0=(((S.dC l).1).2).1∧ []=(((S.dC l).1).2).2∧(7:Int)=(S.dC l).2)∧((q86 l x)=false→(aC ((x:Int)+z1+z1))∧∃(af:Nat),(x:Int)+z1+z1=(af:Int)+z1∧S.pU l af∧S.ag (S.len l) af<S.ag (S.len l) x))∧(decide ((x:Int)+z1<(an l))=false→(z0≤z0∧z0<(an l))∧(aC ((an l)-z1))∧(z0≤(an l)-z1∧(an l)-z1<(an l))∧S.mF l∧(List.getD l (z0.toNat) (z0,z0,[])).1=((S.dC l).1).1∧((List.getD l (Int.toNat ((an l)-z1)) (z0,z0,[])).2).1=(((S.dC l).1).2).1∧S.l9 l=(((S.dC l).1).2).2∧z0=(S.dC l).2)))
def VH(s1 s2:Int):=bif decide (s1<z0) then true else bif decide (s2<z0) then true else decide (s2≤s1)
def NR(s1:Int)(s2:Int):Prop :=
 ((VH s1 s2)=true→(-1:Int)=S.jE s1 s2)∧((VH s1 s2)=false→(aC (s2-s1))∧(∃(x:Nat),(s2-s1=(x:Int)∧z0=S.lg (s2-s1)-S.lg (x:Int))∧S.kZ s1 s2 x)∧∀(x:Nat),S.kZ s1 s2 x→(decide (z1<(x:Int))=true→(aC (S.lg (s2-s1)-S.lg (x:Int)+z1))∧z0≤(x:Int)∧z0<(2:Int)∧∃(af:Nat),((x:Int)/(2:Int)=(af:Int)∧S.lg (s2-s1)-S.lg (x:Int)+z1=S.lg (s2-s1)-S.lg (af:Int))∧S.kZ s1 s2 af∧af<x)∧(decide (z1<(x:Int))=false→S.lg (s2-s1)-S.lg (x:Int)=S.jE s1 s2))
def Iq(l:List (Int×Int))(x:Nat):=List.getD l (Int.toNat ((↑(S.len l):Int)-(2:Int)-(x:Int)+z1)) (z0,z0)
def q89(l:List (Int×Int))(x:Nat):=List.getD l (Int.toNat ((↑(S.len l):Int)-(2:Int)-(x:Int))) (z0,z0)
def NS(l:List (Int×Int)):Prop :=
 (aC ((an l)-(2:Int)))∧(∃(x:Nat),(an l)-(2:Int)=(↑(S.len l):Int)-(2:Int)-(x:Int)∧S.jU l x)∧∀(x:Nat),S.jU l x→(decide (z0≤(↑(S.len l):Int)-(2:Int)-(x:Int))=true→(z0≤(↑(S.len l):Int)-(2:Int)-(x:Int)∧(↑(S.len l):Int)-(2:Int)-(x:Int)<(an l))∧True∧(aC ((↑(S.len l):Int)-(2:Int)-(x:Int)+z1))∧(z0≤(↑(S.len l):Int)-(2:Int)-(x:Int)+z1∧(↑(S.len l):Int)-(2:Int)-(x:Int)+z1<(an l))∧True∧(decide (S.jE ((q89 l x).1) ((q89 l x).2)≤S.jE ((Iq l x).1) ((Iq l x).2))=true→(↑(S.len l):Int)-(2:Int)-(x:Int)=(S.dw l).1∧true=(S.dw l).2)∧(decide (S.jE ((q89 l x).1) ((q89 l x).2)≤S.jE ((Iq l x).1) ((Iq l x).2))=false→(aC ((↑(S.len l):Int)-(2:Int)-(x:Int)-z1))∧∃(af:Nat),(↑(S.len l):Int)-(2:Int)-(x:Int)-z1=(↑(S.len l):Int)-(2:Int)-(af:Int)∧S.jU l af∧S.ag (S.len l) af<S.ag (S.len l) x))∧(decide (z0≤(↑(S.len l):Int)-(2:Int)-(x:Int))=false→z0=(S.dw l).1∧false=(S.dw l).2)
def NT(l:List (Int×Int×List (List UInt8×List Int))):Prop :=
 (∃(x:Nat),(z0=(x:Int)∧ []=S.fY l x)∧x≤l.length)∧∀(x:Nat),x≤l.length→(decide ((x:Int)<(an l))=true→(z0≤(x:Int)∧(x:Int)<(an l))∧List.length (S.fY l x)+List.length [((List.getD l ((x:Int).toNat) (z0,z0,[])).1,((List.getD l ((x:Int).toNat) (z0,z0,[])).2).1)]≤(8796093022208:Nat)∧(aC ((x:Int)+z1))∧∃(af:Nat),((x:Int)+z1=(af:Int)∧S.fY l x++ [((List.getD l ((x:Int).toNat) (z0,z0,[])).1,((List.getD l ((x:Int).toNat) (z0,z0,[])).2).1)]=S.fY l af)∧af≤l.length∧S.ag (S.len l) af<S.ag (S.len l) x)∧(decide ((x:Int)<(an l))=false→S.fY l x=S.b8 l)
def NU(l:List UInt8):Prop :=
 (l= []→ []=l)∧List.length (Vg.cq UInt8)+l.length≤eS∧ []++l=l
def NV(l:List (List UInt8×List Int)):Prop :=
 (l= []→ []=l)∧List.length (Vg.cq (List UInt8×List Int))+l.length≤(3518437208883:Nat)∧ []++l=l
def NW(a:List Int)(b:List Int):Prop :=
 ((!decide ((an a)=(an b)))=true→false=S.agO a b)∧((!decide ((an a)=(an b)))=false→(∃(x:Nat),z0=(x:Int)∧S.xQ a b x)∧∀(x:Nat),S.xQ a b x→(decide ((x:Int)<(an a))=true→(z0≤(x:Int)∧(x:Int)<(an a))∧(z0≤(x:Int)∧(x:Int)<(an b))∧((!decide (List.getD a ((x:Int).toNat) z0=List.getD b ((x:Int).toNat) z0))=true→false=S.agO a b)∧((!decide (List.getD a ((x:Int).toNat) z0=List.getD b ((x:Int).toNat) z0))=false→(aC ((x:Int)+z1))∧∃(af:Nat),(x:Int)+z1=(af:Int)∧S.xQ a b af∧S.ag (S.len a) af<S.ag (S.len a) x))∧(decide ((x:Int)<(an a))=false→true=S.agO a b))
def NX(a1:List UInt8)(a2:List Int)(b1:List UInt8)(b2:List Int):Prop :=
 ((decide (a1=b1)=true→True)∧(decide (a1=b1)=false→True))∧(bif decide (a1=b1) then S.agO a2 b2 else false)=S.tK a1 a2 b1 b2
def q90(a:List (List UInt8×List Int))(x:Nat)(b:List (List UInt8×List Int)):= !S.tK ((List.getD a ((x:Int).toNat) ([],[])).1) ((List.getD a ((x:Int).toNat) ([],[])).2) ((List.getD b ((x:Int).toNat) ([],[])).1) ((List.getD b ((x:Int).toNat) ([],[])).2)
def NY(a:List (List UInt8×List Int))(b:List (List UInt8×List Int)):Prop :=
 ((!decide ((an a)=(an b)))=true→false=S.eR a b)∧((!decide ((an a)=(an b)))=false→(∃(x:Nat),z0=(x:Int)∧S.hZ a b x)∧∀(x:Nat),S.hZ a b x→(decide ((x:Int)<(an a))=true→(z0≤(x:Int)∧(x:Int)<(an a))∧(z0≤(x:Int)∧(x:Int)<(an b))∧True∧((q90 a x b)=true→false=S.eR a b)∧((q90 a x b)=false→(aC ((x:Int)+z1))∧∃(af:Nat),(x:Int)+z1=(af:Int)∧S.hZ a b af∧S.ag (S.len a) af<S.ag (S.len a) x))∧(decide ((x:Int)<(an a))=false→true=S.eR a b))
def NZ(a:List (List UInt8×List Int))(b:List (List UInt8×List Int)):Prop :=
 True∧S.eR a b=S.eR a b
def q91(y2:List (Int×Int×List (List UInt8×List Int)))(x:Nat):=List.getD y2 ((x:Int).toNat) (z0,z0,[])
def Ir(y1:List (List UInt8))(y2:List (Int×Int×List (List UInt8×List Int)))(x:Nat):=S.cb y1 ((q91 y2 x).1) (((q91 y2 x).2).1)
def q93(y2:List (Int×Int×List (List UInt8×List Int)))(x:Nat)(y1:List (List UInt8)):=bif !decide ((q91 y2 x).1=S.cD y2 x) then true else bif decide (((q91 y2 x).2).1≤S.cD y2 x) then true else decide ((an y1)<((q91 y2 x).2).1)
def N0(y1:List (List UInt8))(y2:List (Int×Int×List (List UInt8×List Int))):Prop :=
 ((bif decide ((1000:Int)<(an y1)) then true else decide ((64:Int)<(an y2)))=true→false=S.bE y1 y2)∧((bif decide ((1000:Int)<(an y1)) then true else decide ((64:Int)<(an y2)))=false→(∃(x:Nat),z0=(x:Int)∧S.C3 y1 y2 x)∧∀(x:Nat),S.C3 y1 y2 x→(decide ((x:Int)<(an y1))=true→(z0≤(x:Int)∧(x:Int)<(an y1))∧(decide ((2000:Int)<(↑(List.length (List.getD y1 ((x:Int).toNat) [])):Int))=true→false=S.bE y1 y2)∧(decide ((2000:Int)<(↑(List.length (List.getD y1 ((x:Int).toNat) [])):Int))=false→(aC ((x:Int)+z1))∧∃(af:Nat),(x:Int)+z1=(af:Int)∧S.C3 y1 y2 af∧S.ag (S.len y1) af<S.ag (S.len y1) x))∧(decide ((x:Int)<(an y1))=false→(∃(x:Nat),(z0=(x:Int)∧z0=S.cD y2 x)∧S.oH y1 y2 x)∧∀(x:Nat),S.oH y1 y2 x→(decide ((x:Int)<(an y2))=true→(z0≤(x:Int)∧(x:Int)<(an y2))∧((q93 y2 x y1)=true→false=S.bE y1 y2)∧((q93 y2 x y1)=false→True∧(((!decide ((Ir y1 y2 x).2=z0))=true→True)∧((!decide ((Ir y1 y2 x).2=z0))=false→True))∧((bif !decide ((Ir y1 y2 x).2=z0) then true else !S.eR ((((Ir y1 y2 x).1).2).2) (((q91 y2 x).2).2))=true→false=S.bE y1 y2)∧((bif !decide ((Ir y1 y2 x).2=z0) then true else !S.eR ((((Ir y1 y2 x).1).2).2) (((q91 y2 x).2).2))=false→(aC ((x:Int)+z1))∧∃(af:Nat),((x:Int)+z1=(af:Int)∧((q91 y2 x).2).1=S.cD y2 af)∧S.oH y1 y2 af∧S.ag (S.len y2) af<S.ag (S.len y2) x)))∧(decide ((x:Int)<(an y2))=false→true=S.bE y1 y2)))
def N1(y1:List (List UInt8))(y2:List (Int×Int×List (List UInt8×List Int))):Prop :=
 True∧((!S.bE y1 y2)=true→ []=(S.ao y1 y2).1∧ []=(S.ao y1 y2).2)∧((!S.bE y1 y2)=false→y1=(S.ao y1 y2).1∧y2=(S.ao y1 y2).2)
def N2(y1:List (List UInt8))(y2:List (Int×Int×List (List UInt8×List Int))):Prop :=
 (decide ((an y2)=z0)=true→z0=S.eE y2)∧(decide ((an y2)=z0)=false→(aC ((an y2)-z1))∧(z0≤(an y2)-z1∧(an y2)-z1<(an y2))∧((List.getD y2 (Int.toNat ((an y2)-z1)) (z0,z0,[])).2).1=S.eE y2)
def q94(y2:List (Int×Int×List (List UInt8×List Int)))(af:Nat):=List.getD y2 ((af:Int).toNat) (z0,z0,[])
def N3(y1:List (List UInt8))(y2:List (Int×Int×List (List UInt8×List Int))):Prop :=
 (z0≤(an y1)∧(an y1)≤(an y1)∧(an y1)≤Db/(↑(24:Nat):Int))∧(z0≤(an y2)∧(an y2)≤(an y2)∧(an y2)≤Db/(↑(40:Nat):Int))∧(∃(x:Nat),(z0=(x:Int)∧List.replicate (Int.toNat (an y1)) (Vg.cq UInt8)=S.cE (Vg.cq UInt8) y1 x)∧S.kh y1 x)∧∀(x:Nat),S.kh y1 x→(decide ((x:Int)<(an y1))=true→(z0≤(x:Int)∧(x:Int)<(an y1))∧S.small (List.getD y1 ((x:Int).toNat) [])∧(z0≤(x:Int)∧(x:Int)<(↑(List.length (S.cE (Vg.cq UInt8) y1 x)):Int))∧(x:Int).toNat<List.length (S.cE (Vg.cq UInt8) y1 x)∧(aC ((x:Int)+z1))∧∃(af:Nat),((x:Int)+z1=(af:Int)∧List.set (S.cE (Vg.cq UInt8) y1 x) ((x:Int).toNat) (List.getD y1 ((x:Int).toNat) [])=S.cE (Vg.cq UInt8) y1 af)∧S.kh y1 af∧S.ag (S.len y1) af<S.ag (S.len y1) x)∧(decide ((x:Int)<(an y1))=false→(∃(x:Nat),(z0=(x:Int)∧List.replicate (Int.toNat (an y2)) (z0,z0,[])=S.cE (z0,z0,[]) y2 x)∧S.kh y2 x)∧∀(af:Nat),S.kh y2 af→(decide ((af:Int)<(an y2))=true→(z0≤(af:Int)∧(af:Int)<(an y2))∧S.small (((q94 y2 af).2).2)∧(z0≤(af:Int)∧(af:Int)<(↑(List.length (S.cE (z0,z0,[]) y2 af)):Int))∧(af:Int).toNat<List.length (S.cE (z0,z0,[]) y2 af)∧(∃(x:Nat×Nat×List S.aD),(z0=(x.1:Int)∧List.set (S.cE (z0,z0,[]) y2 af) ((af:Int).toNat) ((q94 y2 af).1,((q94 y2 af).2).1,[])=x.2.2∧(af:Int).toNat=x.2.1∧((q94 y2 af).2).2=((S.aq y2 x.2.1).2).2)∧S.pv y2 x.2.2 x.2.1 x.1∧(af:Int)=(x.2.1:Int))∧∀(x:Nat×Nat×List S.aD),S.pv y2 x.2.2 x.2.1 x.1∧(af:Int)=(x.2.1:Int)→(decide ((x.1:Int)<(↑(List.length (((q94 y2 af).2).2)):Int))=true→(z0≤(x.1:Int)∧(x.1:Int)<(↑(List.length (((q94 y2 af).2).2)):Int))∧(z0≤(af:Int)∧(af:Int)<(↑(List.length x.2.2):Int))∧(af:Int).toNat<List.length x.2.2∧(af:Int).toNat=x.2.1∧S.small ((List.getD (((q94 y2 af).2).2) ((x.1:Int).toNat) ([],[])).2)∧(z0≤(x.1:Int)∧(x.1:Int)<(↑(List.length (((S.aq y2 x.2.1).2).2)):Int))∧(x.1:Int).toNat<List.length (((S.aq y2 x.2.1).2).2)∧(aC ((x.1:Int)+z1))∧∃(aw:Nat×Nat×List S.aD),((x.1:Int)+z1=(aw.1:Int)∧x.2.2=aw.2.2∧x.2.1=aw.2.1∧List.set (((S.aq y2 x.2.1).2).2) ((x.1:Int).toNat) ((List.getD (((S.aq y2 x.2.1).2).2) ((x.1:Int).toNat) ([],[])).1,(List.getD (((q94 y2 af).2).2) ((x.1:Int).toNat) ([],[])).2)=((S.aq y2 aw.2.1).2).2)∧(S.pv y2 aw.2.2 aw.2.1 aw.1∧(af:Int)=(aw.2.1:Int))∧S.ag (S.jW y2 aw.2.1) aw.1<S.ag (S.jW y2 x.2.1) x.1)∧(decide ((x.1:Int)<(↑(List.length (((q94 y2 af).2).2)):Int))=false→x.2.1<List.length x.2.2∧(aC ((af:Int)+z1))∧∃(aw:Nat),((af:Int)+z1=(aw:Int)∧List.set x.2.2 x.2.1 ((List.getD x.2.2 x.2.1 (z0,z0,[])).1,((List.getD x.2.2 x.2.1 (z0,z0,[])).2).1,((S.aq y2 x.2.1).2).2)=S.cE (z0,z0,[]) y2 aw)∧S.kh y2 aw∧S.ag (S.len y2) aw<S.ag (S.len y2) af))∧(decide ((af:Int)<(an y2))=false→S.cE (Vg.cq UInt8) y1 x=y1∧S.cE (z0,z0,[]) y2 af=y2))
def N4(l:List (Int×Int×List (List UInt8×List Int)))(i:Int)(m:Int)(s1:Int)(s2:Int)(s3:List (List UInt8×List Int)):Prop :=
 (z0≤i∧i=i∧i≤(an l))∧(0:Nat)<List.length [(s1,s2,s3)]∧List.length (List.take (Int.toNat i) l)+List.length [(s1,s2,s3)]≤(3518437208883:Nat)∧(aC (i+m))∧(z0≤i+m∧i+m≤(an l))∧List.length (List.take (Int.toNat i) l++ [(s1,s2,s3)])+List.length (List.drop (Int.toNat (i+m)) l)≤(3518437208883:Nat)∧List.take (Int.toNat i) l++ [(s1,s2,s3)]++List.drop (Int.toNat (i+m)) l=S.qv l (Int.toNat i) (Int.toNat m) (s1,s2,s3)
def N5(y1:List (List UInt8))(y2:List (Int×Int×List (List UInt8×List Int))):Prop :=
 True∧True∧S.eE ((S.ao y1 y2).2)=S.iX y1 y2
def N6(y1:List (List UInt8))(y2:List (Int×Int×List (List UInt8×List Int)))(d:List UInt8):Prop :=
 True∧(decide ((2000:Int)<(an d))=true→(S.ao y1 y2).1=((S.b6 y1 y2 d).1).1∧(S.ao y1 y2).2=((S.b6 y1 y2 d).1).2∧z1=(S.b6 y1 y2 d).2)∧(decide ((2000:Int)<(an d))=false→(decide ((1000:Int)≤(↑(List.length ((S.ao y1 y2).1)):Int))=true→(S.ao y1 y2).1=((S.b6 y1 y2 d).1).1∧(S.ao y1 y2).2=((S.b6 y1 y2 d).1).2∧(3:Int)=(S.b6 y1 y2 d).2)∧(decide ((1000:Int)≤(↑(List.length ((S.ao y1 y2).1)):Int))=false→S.nq ((S.ao y1 y2).1) ((S.ao y1 y2).2)∧S.small d∧List.length ((S.ao y1 y2).1)+List.length [d]≤(5864062014805:Nat)∧(S.ao y1 y2).1++ [d]=((S.b6 y1 y2 d).1).1∧(S.ao y1 y2).2=((S.b6 y1 y2 d).1).2∧z0=(S.b6 y1 y2 d).2))
def V6(y1:List (List UInt8))(y2:List (Int×Int×List (List UInt8×List Int))):=S.cb ((S.ao y1 y2).1) (S.eE ((S.ao y1 y2).2)) (↑(List.length ((S.ao y1 y2).1)):Int)
def N7(y1:List (List UInt8))(y2:List (Int×Int×List (List UInt8×List Int))):Prop :=
 True∧True∧(decide (S.eE ((S.ao y1 y2).2)=(↑(List.length ((S.ao y1 y2).1)):Int))=true→(S.ao y1 y2).1=((S.cU y1 y2).1).1∧(S.ao y1 y2).2=((S.cU y1 y2).1).2∧(5:Int)=(S.cU y1 y2).2)∧(decide (S.eE ((S.ao y1 y2).2)=(↑(List.length ((S.ao y1 y2).1)):Int))=false→(decide ((64:Int)≤(↑(List.length ((S.ao y1 y2).2)):Int))=true→(S.ao y1 y2).1=((S.cU y1 y2).1).1∧(S.ao y1 y2).2=((S.cU y1 y2).1).2∧(3:Int)=(S.cU y1 y2).2)∧(decide ((64:Int)≤(↑(List.length ((S.ao y1 y2).2)):Int))=false→True∧((!decide ((V6 y1 y2).2=z0))=true→(S.ao y1 y2).1=((S.cU y1 y2).1).1∧(S.ao y1 y2).2=((S.cU y1 y2).1).2∧(V6 y1 y2).2=(S.cU y1 y2).2)∧((!decide ((V6 y1 y2).2=z0))=false→S.nq ((S.ao y1 y2).1) ((S.ao y1 y2).2)∧List.length ((S.ao y1 y2).2)+List.length [(((V6 y1 y2).1).1,(((V6 y1 y2).1).2).1,(((V6 y1 y2).1).2).2)]≤(3518437208883:Nat)∧(S.ao y1 y2).1=((S.cU y1 y2).1).1∧(S.ao y1 y2).2++ [(((V6 y1 y2).1).1,(((V6 y1 y2).1).2).1,(((V6 y1 y2).1).2).2)]=((S.cU y1 y2).1).2∧z0=(S.cU y1 y2).2)))
def xV(i m:Int)(y1:List (List UInt8))(y2:List (Int×Int×List (List UInt8×List Int))):=List.drop (Int.toNat i) (List.take (Int.toNat (i+m)) ((S.ao y1 y2).2))
def q97(m i:Int)(y1:List (List UInt8))(y2:List (Int×Int×List (List UInt8×List Int))):=bif decide (m<(2:Int)) then true else bif decide (i<z0) then true else bif decide ((↑(List.length ((S.ao y1 y2).2)):Int)<m) then true else decide ((↑(List.length ((S.ao y1 y2).2)):Int)-m<i)
def aqo(y1:List (List UInt8))(y2:List (Int×Int×List (List UInt8×List Int)))(i:Int)(m:Int):Prop :=
 True∧((decide (m<(2:Int))=true→True)∧(decide (m<(2:Int))=false→(decide (i<z0)=true→True)∧(decide (i<z0)=false→(decide ((↑(List.length ((S.ao y1 y2).2)):Int)<m)=true→True)∧(decide ((↑(List.length ((S.ao y1 y2).2)):Int)<m)=false→aC ((↑(List.length ((S.ao y1 y2).2)):Int)-m)))))∧((q97 m i y1 y2)=true→(S.ao y1 y2).1=((S.ţ y1 y2 i m).1).1∧(S.ao y1 y2).2=((S.ţ y1 y2 i m).1).2∧z1=(S.ţ y1 y2 i m).2)∧((q97 m i y1 y2)=false→(aC (i+m))∧(z0≤i∧i≤i+m∧i+m≤(↑(List.length ((S.ao y1 y2).2)):Int))∧S.tE (xV i m y1 y2)∧((!decide ((S.dC (xV i m y1 y2)).2=z0))=true→(S.ao y1 y2).1=((S.ţ y1 y2 i m).1).1∧(S.ao y1 y2).2=((S.ţ y1 y2 i m).1).2∧(S.dC (xV i m y1 y2)).2=(S.ţ y1 y2 i m).2)∧((!decide ((S.dC (xV i m y1 y2)).2=z0))=false→S.nq ((S.ao y1 y2).1) ((S.ao y1 y2).2)∧S.xR ((S.ao y1 y2).2) i m∧(S.ao y1 y2).1=((S.ţ y1 y2 i m).1).1∧S.qv ((S.ao y1 y2).2) (Int.toNat i) (Int.toNat m) (((S.dC (xV i m y1 y2)).1).1,(((S.dC (xV i m y1 y2)).1).2).1,(((S.dC (xV i m y1 y2)).1).2).2)=((S.ţ y1 y2 i m).1).2∧z0=(S.ţ y1 y2 i m).2))
def q98(y1:List (List UInt8))(y2:List (Int×Int×List (List UInt8×List Int)))(x:List (Int×Int)):=List.take (Int.toNat ((S.dw (S.b8 (S.aF ((S.ao y1 y2).1) x))).1+(2:Int))-Int.toNat ((S.dw (S.b8 (S.aF ((S.ao y1 y2).1) x))).1)) (List.drop (Int.toNat ((S.dw (S.b8 (S.aF ((S.ao y1 y2).1) x))).1)) (S.aF ((S.ao y1 y2).1) x))
def q99(y1:List (List UInt8))(y2:List (Int×Int×List (List UInt8×List Int)))(x:List (Int×Int)):=S.dw (S.b8 (S.aF ((S.ao y1 y2).1) x))
def N8(y1:List (List UInt8))(y2:List (Int×Int×List (List UInt8×List Int))):Prop :=
 True∧S.nq ((S.ao y1 y2).1) ((S.ao y1 y2).2)∧(∃(x:List (Int×Int)),(S.ao y1 y2).2=S.aF ((S.ao y1 y2).1) x∧S.ma y1 y2 x)∧∀(x:List (Int×Int)),S.ma y1 y2 x→S.small (S.aF ((S.ao y1 y2).1) x)∧True∧((!(q99 y1 y2 x).2)=true→(S.ao y1 y2).1=(S.jV y1 y2).1∧S.aF ((S.ao y1 y2).1) x=(S.jV y1 y2).2)∧((!(q99 y1 y2 x).2)=false→(aC ((q99 y1 y2 x).1+(2:Int)))∧(z0≤(q99 y1 y2 x).1∧(q99 y1 y2 x).1≤(q99 y1 y2 x).1+(2:Int)∧(q99 y1 y2 x).1+(2:Int)≤(↑(List.length (S.aF ((S.ao y1 y2).1) x)):Int))∧S.tE (q98 y1 y2 x)∧((!decide ((S.dC (q98 y1 y2 x)).2=z0))=true→(S.ao y1 y2).1=(S.jV y1 y2).1∧(S.ao y1 y2).2=(S.jV y1 y2).2)∧((!decide ((S.dC (q98 y1 y2 x)).2=z0))=false→S.xR (S.aF ((S.ao y1 y2).1) x) ((q99 y1 y2 x).1) (2:Int)∧∃(af:List (Int×Int)),S.qv (S.aF ((S.ao y1 y2).1) x) (Int.toNat ((q99 y1 y2 x).1)) ((2:Int).toNat) (((S.dC (q98 y1 y2 x)).1).1,(((S.dC (q98 y1 y2 x)).1).2).1,(((S.dC (q98 y1 y2 x)).1).2).2)=S.aF ((S.ao y1 y2).1) af∧S.ma y1 y2 af∧af.length<x.length))
def V7(y1:List (List UInt8))(y2:List (Int×Int×List (List UInt8×List Int)))(x:Nat):=(S.lh ((List.getD ((S.ao y1 y2).2) ((x:Int).toNat) (z0,z0,[])).1) (((List.getD ((S.ao y1 y2).2) ((x:Int).toNat) (z0,z0,[])).2).1) (((List.getD ((S.ao y1 y2).2) ((x:Int).toNat) (z0,z0,[])).2).2)).1
def N9(y1:List (List UInt8))(y2:List (Int×Int×List (List UInt8×List Int))):Prop :=
 True∧(z0≤z0∧z0≤(↑(List.length ((S.ao y1 y2).2)):Int)∧(↑(List.length ((S.ao y1 y2).2)):Int)≤Db/(↑(40:Nat):Int))∧(∃(x:Nat),(z0=(x:Int)∧List.replicate (z0.toNat) (z0,z0,z0,[])=S.dn y1 y2 x)∧x≤S.gL y1 y2)∧∀(x:Nat),x≤S.gL y1 y2→(decide ((x:Int)<(↑(List.length ((S.ao y1 y2).2)):Int))=true→(z0≤(x:Int)∧(x:Int)<(↑(List.length ((S.ao y1 y2).2)):Int))∧S.bB (((List.getD ((S.ao y1 y2).2) ((x:Int).toNat) (z0,z0,[])).2).2)∧List.length (S.dn y1 y2 x)+List.length [((V7 y1 y2 x).1,((V7 y1 y2 x).2).1,(((V7 y1 y2 x).2).2).1,(((V7 y1 y2 x).2).2).2)]≤(3518437208883:Nat)∧(aC ((x:Int)+z1))∧∃(af:Nat),((x:Int)+z1=(af:Int)∧S.dn y1 y2 x++ [((V7 y1 y2 x).1,((V7 y1 y2 x).2).1,(((V7 y1 y2 x).2).2).1,(((V7 y1 y2 x).2).2).2)]=S.dn y1 y2 af)∧af≤S.gL y1 y2∧S.ag (S.gL y1 y2) af<S.ag (S.gL y1 y2) x)∧(decide ((x:Int)<(↑(List.length ((S.ao y1 y2).2)):Int))=false→S.dn y1 y2 x=S.dW y1 y2)
def aqw(y1:List (List UInt8))(y2:List (Int×Int×List (List UInt8×List Int)))(a1:Int)(a2:Int)(a3:Int)(a4:List UInt8):Prop :=
 (decide (a1=z0)=true→True∧((S.b6 y1 y2 a4).1).1=((S.agi y1 y2 a1 a2 a3 a4).1).1∧((S.b6 y1 y2 a4).1).2=((S.agi y1 y2 a1 a2 a3 a4).1).2∧(S.b6 y1 y2 a4).2=(S.agi y1 y2 a1 a2 a3 a4).2)∧(decide (a1=z0)=false→(decide (a1=z1)=true→True∧((S.cU y1 y2).1).1=((S.agi y1 y2 a1 a2 a3 a4).1).1∧((S.cU y1 y2).1).2=((S.agi y1 y2 a1 a2 a3 a4).1).2∧(S.cU y1 y2).2=(S.agi y1 y2 a1 a2 a3 a4).2)∧(decide (a1=z1)=false→(decide (a1=(2:Int))=true→True∧((S.ţ y1 y2 a2 a3).1).1=((S.agi y1 y2 a1 a2 a3 a4).1).1∧((S.ţ y1 y2 a2 a3).1).2=((S.agi y1 y2 a1 a2 a3 a4).1).2∧(S.ţ y1 y2 a2 a3).2=(S.agi y1 y2 a1 a2 a3 a4).2)∧(decide (a1=(2:Int))=false→True∧(S.jV y1 y2).1=((S.agi y1 y2 a1 a2 a3 a4).1).1∧(S.jV y1 y2).2=((S.agi y1 y2 a1 a2 a3 a4).1).2∧z0=(S.agi y1 y2 a1 a2 a3 a4).2)))
def V8(l:List (Int×Int×Int×List UInt8))(x:Nat):=List.getD l ((x:Int).toNat) (z0,z0,z0,[])
def Nu(l:List (Int×Int×Int×List UInt8))(x:Nat):=(S.agi ((S.AI ([],[]) l x).1) ((S.AI ([],[]) l x).2) ((V8 l x).1) (((V8 l x).2).1) ((((V8 l x).2).2).1) ((((V8 l x).2).2).2)).1
def att(l:List (Int×Int×Int×List UInt8)):Prop :=
 (∃(x:Nat),(z0=(x:Int)∧ []=(S.AI ([],[]) l x).1∧ []=(S.AI ([],[]) l x).2)∧S.ags l x)∧∀(x:Nat),S.ags l x→((bif decide ((x:Int)<(an l)) then decide ((x:Int)<(40:Int)) else false)=true→(z0≤(x:Int)∧(x:Int)<(an l))∧((decide ((↑(List.length ((((V8 l x).2).2).2)):Int)≤(2500:Int))=true→(z0≤(x:Int)∧(x:Int)<(an l))∧True)∧(decide ((↑(List.length ((((V8 l x).2).2).2)):Int)≤(2500:Int))=false→True))∧(aC ((x:Int)+z1))∧∃(af:Nat),((x:Int)+z1=(af:Int)∧(bif decide ((↑(List.length ((((V8 l x).2).2).2)):Int)≤(2500:Int)) then(Nu l x).1 else(S.AI ([],[]) l x).1)=(S.AI ([],[]) l af).1∧(bif decide ((↑(List.length ((((V8 l x).2).2).2)):Int)≤(2500:Int)) then(Nu l x).2 else(S.AI ([],[]) l x).2)=(S.AI ([],[]) l af).2)∧S.ags l af∧S.ag (S.len l) af<S.ag (S.len l) x)∧((bif decide ((x:Int)<(an l)) then decide ((x:Int)<(40:Int)) else false)=false→(S.AI ([],[]) l x).1=(S.aea l).1∧(S.AI ([],[]) l x).2=(S.aea l).2)
def avQ(y1:Int)(y2:List UInt8)(y3:List (Int×Int×Int×List UInt8)):Prop :=
 ((decide (z0≤y1)=true→(decide (y1≤(1000:Int))=true→(decide ((an y2)=(32:Int))=true→True)∧(decide ((an y2)=(32:Int))=false→True))∧(decide (y1≤(1000:Int))=false→True))∧(decide (z0≤y1)=false→True))∧(bif decide (z0≤y1) then bif decide (y1≤(1000:Int)) then bif decide ((an y2)=(32:Int)) then S.aga y3 y1 else false else false else false)=S.aae y1 y2 y3
def avR(y1:List (List UInt8))(y2:List (Int×Int×List (List UInt8×List Int))):Prop :=
 True∧(((!S.bE y1 y2)=true→True)∧((!S.bE y1 y2)=false→True))∧((bif !S.bE y1 y2 then true else !decide (S.iX y1 y2=(an y1)))=true→z0=((S.hOf y1 y2).1).1∧ []=(((S.hOf y1 y2).1).2).1∧ []=(((S.hOf y1 y2).1).2).2∧(7:Int)=(S.hOf y1 y2).2)∧((bif !S.bE y1 y2 then true else !decide (S.iX y1 y2=(an y1)))=false→S.iU y1∧S.small (S.leaves y1)∧((!decide (S.ru (S.leaves y1)=z0))=true→z0=((S.hOf y1 y2).1).1∧ []=(((S.hOf y1 y2).1).2).1∧ []=(((S.hOf y1 y2).1).2).2∧S.ru (S.leaves y1)=(S.hOf y1 y2).2)∧((!decide (S.ru (S.leaves y1)=z0))=false→True∧(an y1)=((S.hOf y1 y2).1).1∧S.rq (S.leaves y1)=(((S.hOf y1 y2).1).2).1∧S.dW y1 y2=(((S.hOf y1 y2).1).2).2∧z0=(S.hOf y1 y2).2))
def avT(v:Int)(q:Int):Prop :=
 (decide (q=z0)=true→List.length (Vg.cq UInt8)≤(35184372088832:Nat)∧S.Ck v=z0∧S.mS (Vg.cq UInt8) v=S.num v)∧(decide (q=z0)=false→q=z0∧ []=S.num v)
def avU(v:Int)(q:Int)(l:List UInt8):Prop :=
 (decide (q=z0)=true→l.length≤(35184372088832:Nat)∧S.Ck v=z0∧S.mS l v=l++S.num v)∧(decide (q=z0)=false→q=z0∧l=l++S.num v)
def avV(d:List UInt8)(l:List UInt8):Prop :=
 l.length+d.length≤eS∧l++d=l++d
def tO(y3:List (Int×Int×Int×List UInt8))(x:Nat):=(List.getD y3 ((x:Int).toNat) (z0,z0,z0,[])).2
def avZ(y1:Int)(y2:List UInt8)(y3:List (Int×Int×Int×List UInt8)):Prop :=
 True∧((!S.aae y1 y2 y3)=true→z1=(S.hW y1 y2 y3).2∧ []=(S.hW y1 y2 y3).1)∧((!S.aae y1 y2 y3)=false→(S.rj y1=false∧z0=z0)∧(List.length (S.num y1)≤(35184372088832:Nat)∧y2.length≤(35184372088832:Nat))∧(S.rj (an y3)=false∧z0=z0∧List.length (S.num y1++y2)≤(35184372088832:Nat))∧(∃(x:Nat),(z0=(x:Int)∧S.num y1++y2++S.num (an y3)=S.hTo y1 y2 y3 x∧z0=z0)∧S.atS y1 y2 y3 x)∧∀(x:Nat),S.atS y1 y2 y3 x→(decide ((x:Int)<(an y3))=true→(z0≤(x:Int)∧(x:Int)<(an y3))∧(S.rj ((tO y3 x).1)=false∧z0=z0∧List.length (S.hTo y1 y2 y3 x)≤(35184372088832:Nat))∧(S.rj (((tO y3 x).2).1)=false∧z0=z0∧List.length (S.hTo y1 y2 y3 x++S.num ((tO y3 x).1))≤(35184372088832:Nat))∧(List.length (S.hTo y1 y2 y3 x++S.num ((tO y3 x).1)++S.num (((tO y3 x).2).1))≤(35184372088832:Nat)∧List.length (((tO y3 x).2).2)≤(35184372088832:Nat))∧(aC ((x:Int)+z1))∧∃(af:Nat),((x:Int)+z1=(af:Int)∧S.hTo y1 y2 y3 x++S.num ((tO y3 x).1)++S.num (((tO y3 x).2).1)++((tO y3 x).2).2=S.hTo y1 y2 y3 af∧z0=z0)∧S.atS y1 y2 y3 af∧S.ag (S.len y3) af<S.ag (S.len y3) x)∧(decide ((x:Int)<(an y3))=false→((!decide (z0=z0))=true→z0=(S.hW y1 y2 y3).2∧ []=(S.hW y1 y2 y3).1)∧((!decide (z0=z0))=false→z0=(S.hW y1 y2 y3).2∧S.hTo y1 y2 y3 x=(S.hW y1 y2 y3).1)))
def av0(r1:List UInt8)(r2:Int)(r3:Int):Prop :=
 r1.length≤eS∧(S.aab r1 r2 r3).2=(S.aab r1 r2 r3).2∧((S.aab r1 r2 r3).1).1=r1∧(((S.aab r1 r2 r3).1).2).1=(((S.aab r1 r2 r3).1).2).1∧(((S.aab r1 r2 r3).1).2).2=(((S.aab r1 r2 r3).1).2).2
def av1(r1:List UInt8)(r2:Int)(r3:Int):Prop :=
 r1.length≤eS∧(S.aac r1 r2 r3).2=(S.aac r1 r2 r3).2∧((S.aac r1 r2 r3).1).1=r1∧(((S.aac r1 r2 r3).1).2).1=(((S.aac r1 r2 r3).1).2).1∧(((S.aac r1 r2 r3).1).2).2=(((S.aac r1 r2 r3).1).2).2
def We(r1:List UInt8)(r2 r3:Int):=S.aab r1 ((((S.aab r1 r2 r3).1).2).1) ((((S.aab r1 r2 r3).1).2).2)
def Wf(r1:List UInt8)(r2 r3:Int):=S.aac r1 ((((We r1 r2 r3).1).2).1) ((((We r1 r2 r3).1).2).2)
def av3(a:Int)(r1:List UInt8)(r2:Int)(r3:Int):Prop :=
 r1.length≤eS∧r1.length≤eS∧r1.length≤eS∧a=a∧(S.aab r1 r2 r3).2=(((S.pSg r1 r2 r3 a).2).2).1∧(We r1 r2 r3).2=((((S.pSg r1 r2 r3 a).2).2).2).1∧(Wf r1 r2 r3).2=((((S.pSg r1 r2 r3 a).2).2).2).2∧(S.aab r1 r2 r3).2=(((S.pSg r1 r2 r3 a).2).2).1∧(0:Nat)=(0:Nat)∧(0:Nat)=(0:Nat)∧r1=r1∧(((Wf r1 r2 r3).1).2).1=((S.pSg r1 r2 r3 a).1).1∧(((Wf r1 r2 r3).1).2).2=((S.pSg r1 r2 r3 a).1).2
def Wh(b:List UInt8):=S.aab b ((((S.aac b ((((S.aab b z0 z0).1).2).1) ((((S.aab b z0 z0).1).2).2)).1).2).1) ((((S.aac b ((((S.aab b z0 z0).1).2).1) ((((S.aab b z0 z0).1).2).2)).1).2).2)
def Wj(b:List UInt8)(x:Nat):=S.pSg b (((S.pSt b x).1).1) (((S.pSt b x).1).2) (((S.pSt b x).2).1)
def Wn(b:List UInt8)(x:Nat):=(((S.pSt b x).2).1,(((Wj b x).2).2).1,((((Wj b x).2).2).2).1,((((Wj b x).2).2).2).2)
def FA(b:List UInt8):=((S.pHd b).1).2
def av6(b:List UInt8):Prop :=
 b.length≤eS∧b.length≤eS∧b.length≤eS∧(decide ((64:Int)<(Wh b).2)=true→z0=((S.hR b).1).1∧ []=(((S.hR b).1).2).1∧ []=(((S.hR b).1).2).2∧(2:Int)=(S.hR b).2)∧(decide ((64:Int)<(Wh b).2)=false→(∃(x:Nat),(z0=(x:Int)∧b=b∧(((Wh b).1).2).1=((S.pSt b x).1).1∧(((Wh b).1).2).2=((S.pSt b x).1).2∧z0=((S.pSt b x).2).1∧(0:Nat)=(0:Nat)∧(0:Nat)=(0:Nat)∧(S.aab b z0 z0).2=((S.pHd b).1).1∧(S.aac b ((((S.aab b z0 z0).1).2).1) ((((S.aab b z0 z0).1).2).2)).2=(FA b).1∧ []=((S.pSt b x).2).2)∧x≤S.pN b∧(FA b).2≤(64:Int))∧∀(x:Nat),x≤S.pN b∧(FA b).2≤(64:Int)→(decide ((x:Int)<(Wh b).2)=true→b.length≤eS∧List.length (((S.pSt b x).2).2)+List.length [Wn b x]≤(3518437208883:Nat)∧(aC ((x:Int)+z1))∧∃(af:Nat),((x:Int)+z1=(af:Int)∧b=b∧((Wj b x).1).1=((S.pSt b af).1).1∧((Wj b x).1).2=((S.pSt b af).1).2∧(((Wj b x).2).2).1=((S.pSt b af).2).1∧(0:Nat)=(0:Nat)∧(0:Nat)=(0:Nat)∧((S.pHd b).1).1=((S.pHd b).1).1∧(FA b).1=(FA b).1∧((S.pSt b x).2).2++ [Wn b x]=((S.pSt b af).2).2)∧(af≤S.pN b∧(FA b).2≤(64:Int))∧S.ag (S.pN b) af<S.ag (S.pN b) x)∧(decide ((x:Int)<(Wh b).2)=false→True∧((!decide (S.done b (((S.pSt b x).1).1) (((S.pSt b x).1).2)=z0))=true→z0=((S.hR b).1).1∧ []=(((S.hR b).1).2).1∧ []=(((S.hR b).1).2).2∧S.done b (((S.pSt b x).1).1) (((S.pSt b x).1).2)=(S.hR b).2)∧((!decide (S.done b (((S.pSt b x).1).1) (((S.pSt b x).1).2)=z0))=false→True∧((!S.aae (((S.pHd b).1).1) ((FA b).1) (((S.pSt b x).2).2))=true→z0=((S.hR b).1).1∧ []=(((S.hR b).1).2).1∧ []=(((S.hR b).1).2).2∧(2:Int)=(S.hR b).2)∧((!S.aae (((S.pHd b).1).1) ((FA b).1) (((S.pSt b x).2).2))=false→((S.pHd b).1).1=((S.hR b).1).1∧(FA b).1=(((S.hR b).1).2).1∧((S.pSt b x).2).2=(((S.hR b).1).2).2∧z0=(S.hR b).2))))
def Wo:=S.hW (((S.hOf (Vg.cq (List UInt8)) (Vg.cq (Int×Int×List (List UInt8×List Int)))).1).1) ((((S.hOf (Vg.cq (List UInt8)) (Vg.cq (Int×Int×List (List UInt8×List Int)))).1).2).1) ((((S.hOf (Vg.cq (List UInt8)) (Vg.cq (Int×Int×List (List UInt8×List Int)))).1).2).2)
def pw:=S.hOf (Vg.cq (List UInt8)) (Vg.cq (Int×Int×List (List UInt8×List Int)))
def Wp:=S.hOf [[(1:UInt8)]] (Vg.cq (Int×Int×List (List UInt8×List Int)))
def awl:Prop :=
 True∧True∧List.length (Wo.1)≤eS∧True∧((decide (pw.2=z0)=true→S.small (Vg.cq UInt8)∧(↑(List.length [(0:UInt8)]+List.length (S.sum (Vg.cq UInt8))):Int)≤(9223372036854775807:Int)∧(↑(List.length ([(0:UInt8)]++S.sum (Vg.cq UInt8))+List.length [(0:UInt8)]):Int)≤(9223372036854775807:Int)∧(decide (Wo.1= [(0:UInt8)]++S.sum (Vg.cq UInt8)++ [(0:UInt8)])=true→(decide (Wo.2=z0)=true→(decide (((S.hR (Wo.1)).1).1=z0)=true→(decide ((S.hR (Wo.1)).2=z0)=true→(decide (Wp.2=(7:Int))=true→True)∧(decide (Wp.2=(7:Int))=false→True))∧(decide ((S.hR (Wo.1)).2=z0)=false→True))∧(decide (((S.hR (Wo.1)).1).1=z0)=false→True))∧(decide (Wo.2=z0)=false→True))∧(decide (Wo.1= [(0:UInt8)]++S.sum (Vg.cq UInt8)++ [(0:UInt8)])=false→True))∧(decide (pw.2=z0)=false→True))∧(bif decide (pw.2=z0) then bif decide (Wo.1= [(0:UInt8)]++S.sum (Vg.cq UInt8)++ [(0:UInt8)]) then bif decide (Wo.2=z0) then bif decide (((S.hR (Wo.1)).1).1=z0) then bif decide ((S.hR (Wo.1)).2=z0) then bif decide (Wp.2=(7:Int)) then S.aae ((pw.1).1) (((pw.1).2).1) (((pw.1).2).2) else false else false else false else false else false else false)=true
def Wq(l:List (Int×Int×Int×List UInt8))(d:List UInt8):=S.cU (((S.b6 (((S.cU ((S.aea l).1) ((S.aea l).2)).1).1) (((S.cU ((S.aea l).1) ((S.aea l).2)).1).2) d).1).1) (((S.b6 (((S.cU ((S.aea l).1) ((S.aea l).2)).1).1) (((S.cU ((S.aea l).1) ((S.aea l).2)).1).2) d).1).2)
def NO(l:List (Int×Int×Int×List UInt8)):=S.hOf (((S.cU ((S.aea l).1) ((S.aea l).2)).1).1) (((S.cU ((S.aea l).1) ((S.aea l).2)).1).2)
def tP(l:List (Int×Int×Int×List UInt8))(d:List UInt8)(x:Nat):=List.getD ((((S.hOf (((Wq l d).1).1) (((Wq l d).1).2)).1).2).2) ((x:Int).toNat) (z0,z0,z0,[])
def FB(l:List (Int×Int×Int×List UInt8))(d:List UInt8):=bif !decide ((NO l).2=z0) then true else bif !decide ((S.b6 (((S.cU ((S.aea l).1) ((S.aea l).2)).1).1) (((S.cU ((S.aea l).1) ((S.aea l).2)).1).2) d).2=z0) then true else bif !decide ((Wq l d).2=z0) then true else bif !decide ((S.hOf (((Wq l d).1).1) (((Wq l d).1).2)).2=z0) then true else bif !decide (((S.hOf (((Wq l d).1).1) (((Wq l d).1).2)).1).1=((NO l).1).1+z1) then true else !decide ((↑(List.length ((((S.hOf (((Wq l d).1).1) (((Wq l d).1).2)).1).2).2)):Int)=(↑(List.length ((((NO l).1).2).2)):Int)+z1)
def FC(l:List (Int×Int×Int×List UInt8))(x:Nat):=List.getD ((((NO l).1).2).2) ((x:Int).toNat) (z0,z0,z0,[])
def mU(l:List (Int×Int×Int×List UInt8)):=(S.cU ((S.aea l).1) ((S.aea l).2)).1
def tQ(l:List (Int×Int×Int×List UInt8))(d:List UInt8):=S.hOf (((Wq l d).1).1) (((Wq l d).1).2)
def vu(d:List UInt8)(l:List (Int×Int×Int×List UInt8)):=bif decide ((2000:Int)<(an d)) then true else decide ((64:Int)≤(↑(List.length ((mU l).2)):Int))
def aAK(l:List (Int×Int×Int×List UInt8))(d:List UInt8):Prop :=
 True∧True∧True∧((vu d l)=true→True∧true=true)∧((vu d l)=false→True∧True∧True∧(((!decide ((NO l).2=z0))=true→True)∧((!decide ((NO l).2=z0))=false→((!decide ((S.b6 ((mU l).1) ((mU l).2) d).2=z0))=true→True)∧((!decide ((S.b6 ((mU l).1) ((mU l).2) d).2=z0))=false→((!decide ((Wq l d).2=z0))=true→True)∧((!decide ((Wq l d).2=z0))=false→((!decide ((tQ l d).2=z0))=true→True)∧((!decide ((tQ l d).2=z0))=false→(aC (((NO l).1).1+z1))∧((!decide (((tQ l d).1).1=((NO l).1).1+z1))=true→True)∧((!decide (((tQ l d).1).1=((NO l).1).1+z1))=false→aC ((↑(List.length ((((NO l).1).2).2)):Int)+z1)))))))∧((FB l d)=true→false=true)∧((FB l d)=false→(∃(x:Nat),z0=(x:Int)∧S.axZ l x)∧∀(x:Nat),S.axZ l x→(decide ((x:Int)<(↑(List.length ((((NO l).1).2).2)):Int))=true→(z0≤(x:Int)∧(x:Int)<(↑(List.length ((((tQ l d).1).2).2)):Int))∧(z0≤(x:Int)∧(x:Int)<(↑(List.length ((((NO l).1).2).2)):Int))∧((!Bool.rec false (Bool.rec false (decide ((((tP l d x).2).2).2=(((FC l x).2).2).2)) (decide ((((tP l d x).2).2).1=(((FC l x).2).2).1))) (Bool.rec false (decide (((tP l d x).2).1=((FC l x).2).1)) (decide ((tP l d x).1=(FC l x).1))))=true→false=true)∧((!Bool.rec false (Bool.rec false (decide ((((tP l d x).2).2).2=(((FC l x).2).2).2)) (decide ((((tP l d x).2).2).1=(((FC l x).2).2).1))) (Bool.rec false (decide (((tP l d x).2).1=((FC l x).2).1)) (decide ((tP l d x).1=(FC l x).1))))=false→(aC ((x:Int)+z1))∧∃(af:Nat),(x:Int)+z1=(af:Int)∧S.axZ l af∧S.ag (S.fL l) af<S.ag (S.fL l) x))∧(decide ((x:Int)<(↑(List.length ((((NO l).1).2).2)):Int))=false→True∧true=true)))
end Go

end
section
set_option linter.unusedVariables false
namespace Go
theorem df {p:Prop} [Decidable p]:decide p=false↔¬p:=decide_eq_false_iff_not
theorem dt {p:Prop} [Decidable p]:(decide p=true)=p:=decide_eq_true_eq
theorem lc {α:Type} {a:α} {l:List α}:(a::l).length=l.length+1:=List.length_cons
theorem ln {α:Type}:([]:List α).length=0:=List.length_nil
theorem tn(n:Nat):(n:Int).toNat=n:=Int.toNat_natCast n
theorem nf {b:Bool}:((!b)=false)=(b=true):=Bool.not_eq_false' b
theorem nt {b:Bool}:((!b)=true)=(b=false):=Bool.not_eq_true' b
theorem aor(x:Int)(k:Int)(hp:S.fE x k)(hf:Vg.Row.ok (Vg.PS.flat [.one (.int .u32), .one (.int .i64)]) (x,k)):aet x k:=by
 delta aet q0 q1 z0
 have aol:0≤x∧x≤4294967295:=hf.1
 have ars: -9223372036854775808≤k∧k≤9223372036854775807:=hf.2.1
 clear hf
 have hb:=S.Ĺ hp
 have WC:=hp
 simp only [S.fE] at WC
 with_reducible and_intros
 iterate 4 omega
 exact S.ĸ hp
theorem aos(hp:True)(hf:Vg.Row.ok (Vg.PS.flat []) ()):aeu:=by
 delta aeu z0
 clear hf
 with_reducible and_intros
 iterate 9 rfl
theorem aot(s1:Int)(s2:Int)(s3:Int)(s4:Int)(s5:Int)(s6:Int)(s7:Int)(s8:Int)(s9:List UInt8)(aI:Int)(hp:True)(hf:Vg.Row.ok (Vg.PS.flat [.agg [.int .u32, .int .u32, .int .u32, .int .u32, .int .u32, .int .u32, .int .u32, .int .u32, .slice [.int .u8], .int .i64]]) (s1,s2,s3,s4,s5,s6,s7,s8,s9,aI)):aev s1 s2 s3 s4 s5 s6 s7 s8 s9 aI:=by
 delta aev z0 an
 have iY:0≤s1∧s1≤4294967295:=hf.1
 have iZ:0≤s2∧s2≤4294967295:=hf.2.1
 have tR:0≤s3∧s3≤4294967295:=hf.2.2.1
 have MA:0≤s4∧s4≤4294967295:=hf.2.2.2.1
 have WD:0≤s5∧s5≤4294967295:=hf.2.2.2.2.1
 have WE:0≤s6∧s6≤4294967295:=hf.2.2.2.2.2.1
 have WG:0≤s7∧s7≤4294967295:=hf.2.2.2.2.2.2.1
 have WH:0≤s8∧s8≤4294967295:=hf.2.2.2.2.2.2.2.1
 have WI:s9.length≤9223372036854775807:=hf.2.2.2.2.2.2.2.2.1.1
 have Ol: -9223372036854775808≤aI∧aI≤9223372036854775807:=hf.2.2.2.2.2.2.2.2.2.1
 clear hf
 with_reducible and_intros
 · intro h1
   try simp only [dt] at h1
   refine⟨?_,?_⟩
   · intro h2
     try simp only [dt] at h2
     refine⟨?_,?_⟩
     · omega
     omega
   intro h3
   try simp only [df] at h3
   trivial
 · intro h4
   try simp only [df] at h4
   trivial
 simp only [S.aU];grind
theorem aou(u1:Int)(u2:Int)(u3:Int)(u4:Int)(u5:Int)(u6:Int)(u7:Int)(u8:Int)(p:List UInt8)(hp:S.HP (u1,u2,u3,u4,u5,u6,u7,u8) p)(hf:Vg.Row.ok (Vg.PS.flat [.agg [.int .u32, .int .u32, .int .u32, .int .u32, .int .u32, .int .u32, .int .u32, .int .u32], .one (.slice [.int .u8])]) (u1,u2,u3,u4,u5,u6,u7,u8,p)):aew u1 u2 u3 u4 u5 u6 u7 u8 p:=by
 delta aew q2 q3 q4 q5 q6 q7 q8 q9 Aj y6 UN q13 aC z0 z1 an
 have ag5:0≤u1∧u1≤4294967295:=hf.1
 have ag6:0≤u2∧u2≤4294967295:=hf.2.1
 have ag7:0≤u3∧u3≤4294967295:=hf.2.2.1
 have ag8:0≤u4∧u4≤4294967295:=hf.2.2.2.1
 have ag9:0≤u5∧u5≤4294967295:=hf.2.2.2.2.1
 have aha:0≤u6∧u6≤4294967295:=hf.2.2.2.2.2.1
 have ahb:0≤u7∧u7≤4294967295:=hf.2.2.2.2.2.2.1
 have ahc:0≤u8∧u8≤4294967295:=hf.2.2.2.2.2.2.2.1
 have aoo:p.length≤9223372036854775807:=hf.2.2.2.2.2.2.2.2.1.1
 clear hf
 obtain⟨EB,WC⟩:=hp
 refine⟨?_,?_⟩
 · refine⟨(nat_lit 0:Nat),?_⟩
   try dsimp only
   with_reducible and_intros
   omega
   rfl
   simp only [S.bY,S.ag] at *;omega
 intro x1 h2
 refine⟨?_,?_⟩
 · intro h3
   try simp only [dt] at h3
   with_reducible and_intros
   iterate 30 omega
   · rw [S.oh _ _ (by omega)];omega
   iterate 2 omega
   refine⟨(x1+nat_lit 1),?_⟩
   try dsimp only
   with_reducible and_intros
   omega
   exact S.ĵ _ _ (by omega)
   · simp only [S.bY,S.ag] at *;omega
   simp only [S.bY,S.ag] at *;omega
 intro h4
 try simp only [df] at h4
 refine⟨?_,?_⟩
 · refine⟨(nat_lit 16:Nat),?_⟩
   try dsimp only
   with_reducible and_intros
   omega
   · simp only [S.bY] at h2
     rw [show x1=16 by omega]
   iterate 2 omega
 intro x5 h6
 refine⟨?_,?_⟩
 · intro h7
   try simp only [dt] at h7
   with_reducible and_intros
   iterate 4 omega
   · rw [S.oh _ _ (by omega)];omega
   iterate 4 omega
   · rw [S.oh _ _ (by omega)];omega
   iterate 2 (with_reducible exact S.Jy _ _ _ _ (by omega))
   iterate 2 omega
   iterate 2 (with_reducible exact S.Jy _ _ _ _ (by omega))
   iterate 6 omega
   · rw [S.oh _ _ (by omega)];omega
   iterate 4 omega
   · rw [S.oh _ _ (by omega)];omega
   iterate 2 omega
   · rw [S.oh _ _ (by omega)];omega
   iterate 2 omega
   refine⟨(x5+nat_lit 1),?_⟩
   try dsimp only
   with_reducible and_intros
   omega
   exact S.Ķ _ _ (by omega) (by omega)
   iterate 2 omega
   simp only [S.bY,S.ag] at *;omega
 intro h8
 try simp only [df] at h8
 with_reducible and_intros
 iterate 16 omega
 · refine⟨(nat_lit 0:Nat),?_⟩
   try dsimp only
   with_reducible and_intros
   omega
   iterate 8 rfl
   simp only [S.bY,S.ag] at *;omega
 intro x9 c5
 refine⟨?_,?_⟩
 · intro fM
   try simp only [dt] at fM
   with_reducible and_intros
   iterate 3 (with_reducible exact S.afW (S.sY _ _ EB _) _ (by omega))
   with_reducible exact S.yJ
   omega
   · rw [←S.yJ];simp only [S.bY] at *;omega
   iterate 2 omega
   · rw [S.oh _ _ (by omega)];omega
   iterate 3 (with_reducible exact S.afV (S.sY _ _ EB _) _ (by omega))
   iterate 2 omega
   refine⟨(x9+nat_lit 1),?_⟩
   try dsimp only
   with_reducible and_intros
   omega
   · rw [show x5=64 by omega,S.M5]
     simp only [S.dg,tn,Nat.zero_add,Nat.mul_one]
     rfl
   iterate 3 rfl
   · rw [show x5=64 by omega,S.M5]
     simp only [S.dg,tn,Nat.zero_add,Nat.mul_one]
     rfl
   iterate 3 rfl
   · simp only [S.bY,S.ag] at *;omega
   simp only [S.bY,S.ag] at *;omega
 intro dB
 try simp only [df] at dB
 with_reducible and_intros
 iterate 16 omega
 iterate 7
  · simp only [S.bY] at c5
    rw [show x9=64 by omega]
    simp only [S.block,S.Jw]
 simp only [S.bY] at c5
 rw [show x9=64 by omega]
 simp only [S.block,S.Jw]
theorem ahd(u1:Int)(u2:Int)(u3:Int)(u4:Int)(u5:Int)(u6:Int)(u7:Int)(u8:Int)(b:List UInt8)(hp:S.pQ (u1,u2,u3,u4,u5,u6,u7,u8))(hf:Vg.Row.ok (Vg.PS.flat [.agg [.int .u32, .int .u32, .int .u32, .int .u32, .int .u32, .int .u32, .int .u32, .int .u32], .one (.slice [.int .u8])]) (u1,u2,u3,u4,u5,u6,u7,u8,b)):US u1 u2 u3 u4 u5 u6 u7 u8 b:=by
 delta US q14 q15 z0 an
 have ag5:0≤u1∧u1≤4294967295:=hf.1
 have ag6:0≤u2∧u2≤4294967295:=hf.2.1
 have ag7:0≤u3∧u3≤4294967295:=hf.2.2.1
 have ag8:0≤u4∧u4≤4294967295:=hf.2.2.2.1
 have ag9:0≤u5∧u5≤4294967295:=hf.2.2.2.2.1
 have aha:0≤u6∧u6≤4294967295:=hf.2.2.2.2.2.1
 have ahb:0≤u7∧u7≤4294967295:=hf.2.2.2.2.2.2.1
 have ahc:0≤u8∧u8≤4294967295:=hf.2.2.2.2.2.2.2.1
 have eF:b.length≤9223372036854775807:=hf.2.2.2.2.2.2.2.2.1.1
 clear hf
 refine⟨?_,?_⟩
 · refine⟨0,?_⟩
   try dsimp only
   with_reducible and_intros
   · simp only [S.dM,List.drop_drop];congr 1
   iterate 8 rfl
   omega
 intro x1 h2
 refine⟨?_,?_⟩
 · intro h3
   try simp only [dt] at h3
   with_reducible and_intros
   iterate 2 omega
   · exact⟨S.Ce _ _ hp _,by simp only [S.dM,List.length_take,List.length_drop] at *;omega⟩
   iterate 2 omega
   refine⟨(x1+1),?_⟩
   try dsimp only
   with_reducible and_intros
   · simp only [S.dM,List.drop_drop];congr 1
   iterate 8 (simp only [S.Ļ])
   · simp only [S.dM,List.length_drop,S.ag,S.blocks] at *;omega
   simp only [S.dM,List.length_drop,S.ag,S.blocks] at *;omega
 intro h4
 try simp only [df] at h4
 with_reducible and_intros
 iterate 8
  · rw [show x1=S.blocks b by(simp only [S.dM,List.length_drop,S.blocks] at *;omega)]
    rfl
 rw [show x1=S.blocks b by(simp only [S.dM,List.length_drop,S.blocks] at *;omega)]
 rfl
theorem ahe(s1:Int)(s2:Int)(s3:Int)(s4:Int)(s5:Int)(s6:Int)(s7:Int)(s8:Int)(s9:List UInt8)(aI:Int)(b:List UInt8)(hp:S.HO (s1,s2,s3,s4,s5,s6,s7,s8) s9 aI b)(hf:Vg.Row.ok (Vg.PS.flat [.agg [.int .u32, .int .u32, .int .u32, .int .u32, .int .u32, .int .u32, .int .u32, .int .u32, .slice [.int .u8], .int .i64], .one (.slice [.int .u8])]) (s1,s2,s3,s4,s5,s6,s7,s8,s9,aI,b)):UU s1 s2 s3 s4 s5 s6 s7 s8 s9 aI b:=by
 delta UU Dc q17 Si q19 aC eS Db z0 an
 have iY:0≤s1∧s1≤4294967295:=hf.1
 have iZ:0≤s2∧s2≤4294967295:=hf.2.1
 have tR:0≤s3∧s3≤4294967295:=hf.2.2.1
 have MA:0≤s4∧s4≤4294967295:=hf.2.2.2.1
 have WD:0≤s5∧s5≤4294967295:=hf.2.2.2.2.1
 have WE:0≤s6∧s6≤4294967295:=hf.2.2.2.2.2.1
 have WG:0≤s7∧s7≤4294967295:=hf.2.2.2.2.2.2.1
 have WH:0≤s8∧s8≤4294967295:=hf.2.2.2.2.2.2.2.1
 have WI:s9.length≤9223372036854775807:=hf.2.2.2.2.2.2.2.2.1.1
 have Ol: -9223372036854775808≤aI∧aI≤9223372036854775807:=hf.2.2.2.2.2.2.2.2.2.1
 have eF:b.length≤9223372036854775807:=hf.2.2.2.2.2.2.2.2.2.2.1.1
 clear hf
 obtain⟨Er,rfl,rfl,hs⟩:=hp
 simp only [S.small] at hs
 have hv:S.aU [] 0=true :=by decide
 have hd:decide ((1099511627776:Int)-0<(b.length:Int))=false :=by simp;omega
 simp only [hv,hd,Bool.not_true,cond_false,cond_true,ln,Int.toNat_zero]
 with_reducible and_intros
 trivial
 · intro h1
   try simp only [nt] at h1
   trivial
 · intro h2
   try simp only [nf] at h2
   refine⟨?_,?_⟩
   · omega
   omega
 · intro h3
   try simp only [V.pP,nt,dt] at h3
   trivial
 · intro h4
   try simp only [V.gh,nf,df] at h4
   trivial
 iterate 5 omega
 iterate 2
  · simp only [List.replicate_zero,List.nil_append,List.append_nil,S.mw,S.jy,ln,List.length_append] at *;omega
 omega
 · simp only [List.replicate_zero,List.nil_append,List.append_nil,S.mw,S.jy,ln,List.length_append] at *;omega
 iterate 2 omega
 iterate 9 rfl
 simp only [List.replicate_zero,List.nil_append,List.append_nil,S.mw,S.jy,ln,List.length_append] at *;omega
theorem ahf(s1:Int)(s2:Int)(s3:Int)(s4:Int)(s5:Int)(s6:Int)(s7:Int)(s8:Int)(s9:List UInt8)(aI:Int)(hp:S.AA (s1,s2,s3,s4,s5,s6,s7,s8) s9 aI)(hf:Vg.Row.ok (Vg.PS.flat [.agg [.int .u32, .int .u32, .int .u32, .int .u32, .int .u32, .int .u32, .int .u32, .int .u32, .slice [.int .u8], .int .i64]]) (s1,s2,s3,s4,s5,s6,s7,s8,s9,aI)):UW s1 s2 s3 s4 s5 s6 s7 s8 s9 aI:=by
 delta UW UO Ŷ hC q23 UP UQ aC eS Db z0 z1 an
 have iY:0≤s1∧s1≤4294967295:=hf.1
 have iZ:0≤s2∧s2≤4294967295:=hf.2.1
 have tR:0≤s3∧s3≤4294967295:=hf.2.2.1
 have MA:0≤s4∧s4≤4294967295:=hf.2.2.2.1
 have WD:0≤s5∧s5≤4294967295:=hf.2.2.2.2.1
 have WE:0≤s6∧s6≤4294967295:=hf.2.2.2.2.2.1
 have WG:0≤s7∧s7≤4294967295:=hf.2.2.2.2.2.2.1
 have WH:0≤s8∧s8≤4294967295:=hf.2.2.2.2.2.2.2.1
 have WI:s9.length≤9223372036854775807:=hf.2.2.2.2.2.2.2.2.1.1
 have Ol: -9223372036854775808≤aI∧aI≤9223372036854775807:=hf.2.2.2.2.2.2.2.2.2.1
 clear hf
 have hv:=S.Ra hp
 obtain⟨Er,h01,h02,h03⟩:=hp
 simp only [hv,Bool.not_true,cond_false]
 with_reducible and_intros
 trivial
 · intro h1
   try simp only [nt] at h1
   trivial
 · intro h2
   try simp only [nf] at h2
   trivial
 omega
 · simp only [S.bU,S.eQ,S.bH,S.dL,S.bY,S.ag,S.len,lc,ln] at *;omega
 · refine⟨0,?_⟩
   try dsimp only
   refine⟨?_,?_⟩
   · exact S.JA _
   simp only [S.bU,S.eQ,S.bH,S.dL,S.bY,S.ag,S.len,lc,ln] at *;omega
 intro x3 h4
 with_reducible and_intros
 iterate 2 omega
 · intro h5
   try simp only [nt,df] at h5
   refine⟨?_,?_⟩
   · simp only [S.bU,S.eQ,S.bH,S.dL,S.bY,S.ag,S.len,lc,ln] at *;omega
   refine⟨(x3+1),?_⟩
   try dsimp only
   with_reducible and_intros
   exact S.zF _ _
   exact S.Cg h4 h5
   simp only [S.bU,S.eQ,S.bH,S.dL,S.bY,S.ag,S.len,lc,ln] at *;omega
 intro h6
 try simp only [nf,dt] at h6
 refine⟨?_,?_⟩
 · refine⟨(nat_lit 0:Nat),?_⟩
   try dsimp only
   with_reducible and_intros
   omega
   rw [S.TF,←S.E2 h4 h6]
   simp only [S.bU,S.eQ,S.bH,S.dL,S.bY,S.ag,S.len,lc,ln] at *;omega
 intro x7 h8
 refine⟨?_,?_⟩
 · intro h9
   try simp only [dt] at h9
   with_reducible and_intros
   iterate 6 omega
   · simp only [S.bU,S.eQ,S.bH,S.dL,S.bY,S.ag,S.len,lc,ln] at *;omega
   iterate 2 omega
   refine⟨(x7+nat_lit 1),?_⟩
   try dsimp only
   with_reducible and_intros
   omega
   exact S.JB s9 aI x7 h01 h02 (by omega)
   · simp only [S.bU,S.eQ,S.bH,S.dL,S.bY,S.ag,S.len,lc,ln] at *;omega
   simp only [S.bU,S.eQ,S.bH,S.dL,S.bY,S.ag,S.len,lc,ln] at *;omega
 intro c5
 try simp only [df] at c5
 with_reducible and_intros
 iterate 4 omega
 · refine⟨(nat_lit 0:Nat),?_⟩
   try dsimp only
   with_reducible and_intros
   omega
   rfl
   simp only [S.bU,S.eQ,S.bH,S.dL,S.bY,S.ag,S.len,lc,ln] at *;omega
 intro WJ dB
 refine⟨?_,?_⟩
 · intro kA
   try simp only [dt] at kA
   with_reducible and_intros
   iterate 8 omega
   · rw [S.yL _ _ (by simp only [S.bY] at *;omega)];simp;omega
   iterate 2 omega
   refine⟨(WJ+nat_lit 1),?_⟩
   try dsimp only
   with_reducible and_intros
   omega
   · rw [show x7=8 by(simp only [S.bY] at *;omega)]
     exact S.ĺ _ WJ (by omega)
   · simp only [S.bU,S.eQ,S.bH,S.dL,S.bY,S.ag,S.len,lc,ln] at *;omega
   simp only [S.bU,S.eQ,S.bH,S.dL,S.bY,S.ag,S.len,lc,ln] at *;omega
 intro eX
 try simp only [df] at eX
 rw [show WJ=8 by(simp only [S.bY] at *;omega)]
 rfl
theorem ahg(b:List UInt8)(hp:S.small b)(hf:Vg.Row.ok (Vg.PS.flat [.one (.slice [.int .u8])]) b):UX b:=by
 delta UX tN UR z0
 have eF:b.length≤9223372036854775807:=hf.1.1
 clear hf
 with_reducible and_intros
 trivial
 exact⟨S.LK,rfl,rfl,hp⟩
 · simp only [S.small] at hp
   exact⟨S.Ce _ _ S.LK _,by simp only [S.jy];omega,by simp only [S.jy];omega,by rw [S.mw];simp [S.jy]⟩
 exact congrArg S.Q8 (S.LL b _)
theorem ahj(b:List UInt8)(hp:b.length≤140737488355328)(hf:Vg.Row.ok (Vg.PS.flat [.one (.slice [.int .u8])]) b):U0 b:=by
 delta U0 eS
 have eF:b.length≤9223372036854775807:=hf.1.1
 clear hf
 refine⟨?_,?_⟩
 · omega
 rfl
theorem ahk(v:Int)(l:List UInt8)(hp:S.xz l v)(hf:Vg.Row.ok (Vg.TA.eI [.own 50000, .iP (.int .i64)]) v)(hg:Vg.fJ.ok [.row 5 [.int .u8]] (l,())):U1 v l:=by
 delta U1 q28 eS z0
 have aex: -9223372036854775808≤v∧v≤9223372036854775807:=hf.1
 have gj:l.length≤9223372036854775807:=hg.1.1
 clear hf hg
 obtain⟨EB,WC⟩:=hp
 refine⟨?_,?_⟩
 · refine⟨((l),(v)),?_⟩
   try dsimp only
   with_reducible and_intros
   omega
   rfl
   exact⟨EB,Int.le_refl _,rfl⟩
 intro x1 h2
 refine⟨?_,?_⟩
 · intro h3
   try simp only [dt] at h3
   with_reducible and_intros
   iterate 2 omega
   · (have hl:=S.ta h2;have hu:=S.xA h2;simp;omega)
   iterate 2 omega
   refine⟨((Prod.fst x1++ [UInt8.ofNat (Int.toNat (Vg.cP (Vg.aZ (Prod.snd x1) (127:Int)%(256:Int)) (128:Int)))]),(Prod.snd x1/(2:Int)^Int.toNat (7:Int))),?_⟩
   try dsimp only
   with_reducible and_intros
   omega
   rfl
   · (have hl:=S.ta h2;have hu:=S.xA h2;exact S.Rg h2 h3 (by omega))
   · (have hl:=S.ta h2;have hu:=S.xA h2;simp;omega)
 intro h4
 try simp only [df] at h4
 refine⟨?_,?_⟩
 · (have hl:=S.ta h2;have hu:=S.xA h2;simp;omega)
 (have hl:=S.ta h2;have hu:=S.xA h2;exact S.TK h2 h4)
theorem ahl(s:List UInt8)(l:List UInt8)(hp:S.kR l s)(hf:Vg.Row.ok (Vg.TA.eI [.own 50000, .iP (.str)]) s)(hg:Vg.fJ.ok [.row 5 [.int .u8]] (l,())):U2 s l:=by
 delta U2 eS an
 have Kw:s.length≤9223372036854775807:=hf.1
 have gj:l.length≤9223372036854775807:=hg.1.1
 clear hf hg
 obtain⟨EB,WC⟩:=hp
 have :=S.jQ s.length
 with_reducible and_intros
 · simp only [S.xz];omega
 · simp only [List.length_append];omega
 simp [S.text]
theorem ahm(b:List UInt8)(v:Int)(hp:b.length≤35184372088832)(hf:Vg.Row.ok (Vg.PS.flat [.one (.slice [.int .u8]), .one (.int .i64)]) (b,v)):U3 b v:=by
 delta U3 q29 eS z0 z1
 have eF:b.length≤9223372036854775807:=hf.1.1
 have aex: -9223372036854775808≤v∧v≤9223372036854775807:=hf.2.1
 clear hf
 refine⟨?_,?_⟩
 · intro h1
   try simp only [V.pP,dt] at h1
   refine⟨?_,?_⟩
   · grind [S.mS,S.Ck,S.rj]
   grind [S.mS,S.Ck,S.rj]
 intro h2
 try simp only [V.gh,df] at h2
 with_reducible and_intros
 omega
 exact⟨by omega,by omega⟩
 iterate 2 (grind [S.mS,S.Ck,S.rj])
theorem ahn(b:List UInt8)(s:List UInt8)(hp:S.kR b s)(hf:Vg.Row.ok (Vg.PS.flat [.one (.slice [.int .u8]), .one (.str)]) (b,s)):U4 b s:=by
 delta U4 eS
 have eF:b.length≤9223372036854775807:=hf.1.1
 have Kw:s.length≤9223372036854775807:=hf.2.1
 clear hf
 with_reducible and_intros
 · simp only [S.kR] at *;omega
 omega
 rfl
theorem aBf(r1:List UInt8)(r2:Int)(r3:Int)(hp:True)(hf:Vg.Row.ok (Vg.PS.flat [.agg [.slice [.int .u8], .int .i64, .int .i64]]) (r1,r2,r3)):axL r1 r2 r3:=by
 delta axL z0 an
 have at3:r1.length≤9223372036854775807:=hf.1.1
 have at4: -9223372036854775808≤r2∧r2≤9223372036854775807:=hf.2.1
 have at6: -9223372036854775808≤r3∧r3≤9223372036854775807:=hf.2.2.1
 clear hf
 simp only [S.inside];cases decide (0≤r2)<;>rfl
theorem aBg(r1:List UInt8)(r2:Int)(r3:Int)(hp:r1.length≤140737488355328)(hf:Vg.Row.ok (Vg.PS.flat [.agg [.slice [.int .u8], .int .i64, .int .i64]]) (r1,r2,r3)):axM r1 r2 r3:=by
 delta axM eS z0 z1
 have at3:r1.length≤9223372036854775807:=hf.1.1
 have at4: -9223372036854775808≤r2∧r2≤9223372036854775807:=hf.2.1
 have at6: -9223372036854775808≤r3∧r3≤9223372036854775807:=hf.2.2.1
 clear hf
 with_reducible and_intros
 omega
 · intro h1
   try simp only [dt] at h1
   trivial
 · intro h2
   try simp only [df] at h2
   trivial
 rfl
 · cases decide (r3=0)<;>cases S.inside r1 r2<;>rfl
 simp only [S.afz];by_cases h:r3=0<;>cases S.inside r1 r2<;>simp [h]
theorem aBh(b:List UInt8)(p:Int)(hp:S.afo b p)(hf:Vg.Row.ok (Vg.PS.flat [.one (.slice [.int .u8]), .one (.int .i64)]) (b,p)):axN b p:=by
 delta axN q30 q31 q32 aC z0 z1 an
 have eF:b.length≤9223372036854775807:=hf.1.1
 have aoo: -9223372036854775808≤p∧p≤9223372036854775807:=hf.2.1
 clear hf
 have į:=hp
 simp only [S.afo] at į
 refine⟨?_,?_⟩
 · refine⟨(nat_lit 0:Nat),?_⟩
   try dsimp only
   with_reducible and_intros
   exact(S.ayL b p).symm
   omega
   exact S.ayK hp
 intro x1 h2
 refine⟨?_,?_⟩
 · intro h3
   try simp only [dt] at h3
   with_reducible and_intros
   iterate 3 (grind [S.axI,S.avS])
 intro h4
 try simp only [df] at h4
 with_reducible and_intros
 iterate 2 omega
 · intro h5
   try simp only [dt] at h5
   with_reducible and_intros
   iterate 3 (grind [S.axI,S.avS])
 intro h6
 try simp only [df] at h6
 with_reducible and_intros
 omega
 · (have hg:=S.aww h2;omega)
 omega
 · (have hg:=S.aww h2;omega)
 omega
 · (have hg:=S.aww h2;omega)
 omega
 · (have hg:=S.aww h2;omega)
 iterate 2
  · have hg:=S.aww h2
    have hn:=S.Jv ((b.getD (p+(x1:Int)).toNat 0).toNat:Int) (by omega)
    have hs:=S.awy (Vg.aZ ((b.getD (p+(x1:Int)).toNat 0).toNat:Int) 127) x1 (by omega) (by omega) (by omega)
    try clear h8
    try clear h9
    clear hn
    generalize Vg.aZ ((b.getD (p+(x1:Int)).toNat 0).toNat:Int) 127*2^(7*(x1:Int)).toNat=z at *
    omega
 · (have hg:=S.aww h2;have hv:=S.awx (b:=b) (p:=p) hg.1;have hw:=S.awx (b:=b) (p:=p) (x:=x1+1) (by omega);have hn:=S.Jv ((b.getD (p+(x1:Int)).toNat 0).toNat:Int) (by omega);have hs:=S.awy (Vg.aZ ((b.getD (p+(x1:Int)).toNat 0).toNat:Int) 127) x1 (by omega) (by omega) (by omega);exact hv.1)
 · (have hg:=S.aww h2;have hv:=S.awx (b:=b) (p:=p) hg.1;have hw:=S.awx (b:=b) (p:=p) (x:=x1+1) (by omega);have hn:=S.Jv ((b.getD (p+(x1:Int)).toNat 0).toNat:Int) (by omega);have hs:=S.awy (Vg.aZ ((b.getD (p+(x1:Int)).toNat 0).toNat:Int) 127) x1 (by omega) (by omega) (by omega);exact hs.1)
 omega
 · (have hg:=S.aww h2;omega)
 · intro h7
   try simp only [dt] at h7
   with_reducible and_intros
   · intro h8
     try simp only [dt] at h8
     with_reducible and_intros
     omega
     · have hg:=S.aww h2
       have hn:=S.Jv ((b.getD (p+(x1:Int)).toNat 0).toNat:Int) (by omega)
       have hs:=S.awy (Vg.aZ ((b.getD (p+(x1:Int)).toNat 0).toNat:Int) 127) x1 (by omega) (by omega) (by omega)
       try clear h8
       try clear h9
       clear hn
       generalize Vg.aZ ((b.getD (p+(x1:Int)).toNat 0).toNat:Int) 127*2^(7*(x1:Int)).toNat=z at *
       omega
     omega
     · have hg:=S.aww h2
       have hn:=S.Jv ((b.getD (p+(x1:Int)).toNat 0).toNat:Int) (by omega)
       have hs:=S.awy (Vg.aZ ((b.getD (p+(x1:Int)).toNat 0).toNat:Int) 127) x1 (by omega) (by omega) (by omega)
       try clear h8
       try clear h9
       clear hn
       generalize Vg.aZ ((b.getD (p+(x1:Int)).toNat 0).toNat:Int) 127*2^(7*(x1:Int)).toNat=z at *
       omega
     omega
     have hg:=S.aww h2
     have hn:=S.Jv ((b.getD (p+(x1:Int)).toNat 0).toNat:Int) (by omega)
     have hs:=S.awy (Vg.aZ ((b.getD (p+(x1:Int)).toNat 0).toNat:Int) 127) x1 (by omega) (by omega) (by omega)
     try clear h8
     try clear h9
     clear hn
     generalize Vg.aZ ((b.getD (p+(x1:Int)).toNat 0).toNat:Int) 127*2^(7*(x1:Int)).toNat=z at *
     omega
   · intro h9
     try simp only [df] at h9
     trivial
   · intro c5
     with_reducible and_intros
     · exact(S.ave hp h2 (by have hg:=S.aww h2;omega) (by omega) (by omega) c5).1
     · exact(S.ave hp h2 (by have hg:=S.aww h2;omega) (by omega) (by omega) c5).2.1
     · exact(S.ave hp h2 (by have hg:=S.aww h2;omega) (by omega) (by omega) c5).2.2
   intro fM
   with_reducible and_intros
   omega
   · clear fM
     have hg:=S.aww h2
     omega
   · exact(S.avf hp h2 (by have hg:=S.aww h2;omega) (by omega) (by omega) fM).1
   · exact(S.avf hp h2 (by have hg:=S.aww h2;omega) (by omega) (by omega) fM).2.1
   · exact(S.avf hp h2 (by have hg:=S.aww h2;omega) (by omega) (by omega) fM).2.2
 intro dB
 try simp only [df] at dB
 refine⟨(x1+nat_lit 1),?_⟩
 try dsimp only
 with_reducible and_intros
 · (have hg:=S.aww h2;have hv:=S.awx (b:=b) (p:=p) hg.1;have hw:=S.awx (b:=b) (p:=p) (x:=x1+1) (by omega);have hn:=S.Jv ((b.getD (p+(x1:Int)).toNat 0).toNat:Int) (by omega);have hs:=S.awy (Vg.aZ ((b.getD (p+(x1:Int)).toNat 0).toNat:Int) 127) x1 (by omega) (by omega) (by omega);exact S.asf hp h2 (by omega))
 omega
 · (have hg:=S.aww h2;exact S.avd hp h2 (by omega) (by omega) (by omega))
 · (have hg:=S.aww h2;simp only [S.ag];omega)
theorem aBi(r1:List UInt8)(r2:Int)(r3:Int)(hp:r1.length≤140737488355328)(hf:Vg.Row.ok (Vg.PS.flat [.agg [.slice [.int .u8], .int .i64, .int .i64]]) (r1,r2,r3)):axO r1 r2 r3:=by
 delta axO eS z0
 have at3:r1.length≤9223372036854775807:=hf.1.1
 have at4: -9223372036854775808≤r2∧r2≤9223372036854775807:=hf.2.1
 have at6: -9223372036854775808≤r3∧r3≤9223372036854775807:=hf.2.2.1
 clear hf
 with_reducible and_intros
 omega
 · intro h1
   try simp only [nt,df] at h1
   with_reducible and_intros
   iterate 4 (grind [S.aab,S.afo,S.afz,S.inside])
 intro h2
 try simp only [nf,dt] at h2
 with_reducible and_intros
 grind [S.aab,S.afo,S.afz,S.inside]
 · intro h3
   try simp only [nt,df] at h3
   with_reducible and_intros
   iterate 4 (grind [S.aab,S.afo,S.afz,S.inside])
 intro h4
 try simp only [nf,dt] at h4
 with_reducible and_intros
 iterate 4 (grind [S.aab,S.afo,S.afz,S.inside])
theorem aBj(r1:List UInt8)(r2:Int)(r3:Int)(hp:r1.length≤140737488355328)(hf:Vg.Row.ok (Vg.PS.flat [.agg [.slice [.int .u8], .int .i64, .int .i64]]) (r1,r2,r3)):axP r1 r2 r3:=by
 delta axP q33 aC eS z0 an
 have at3:r1.length≤9223372036854775807:=hf.1.1
 have at4: -9223372036854775808≤r2∧r2≤9223372036854775807:=hf.2.1
 have at6: -9223372036854775808≤r3∧r3≤9223372036854775807:=hf.2.2.1
 clear hf
 with_reducible and_intros
 omega
 · intro h1
   try simp only [nt,df] at h1
   with_reducible and_intros
   iterate 4 (grind [S.aac,S.afo,S.afz,S.inside])
 intro h2
 try simp only [nf,dt] at h2
 with_reducible and_intros
 omega
 grind [S.aac,S.afo,S.afz,S.inside]
 · intro h3
   try simp only [dt] at h3
   with_reducible and_intros
   iterate 4 (grind [S.aac,S.afo,S.afz,S.inside])
 intro h4
 try simp only [df] at h4
 with_reducible and_intros
 iterate 2 omega
 grind [S.aac,S.afo,S.afz,S.inside]
 iterate 4 omega
 iterate 3 (grind [S.aac,S.afo,S.afz,S.inside])
 have h0:=S.avg h2
 simp only [S.aac,List.drop_take,show(r2+32).toNat-r2.toNat=32 by omega]
 (repeat' split)<;>first|rfl|omega|contradiction
theorem aBk(r1:List UInt8)(r2:Int)(r3:Int)(hp:True)(hf:Vg.Row.ok (Vg.PS.flat [.agg [.slice [.int .u8], .int .i64, .int .i64]]) (r1,r2,r3)):axQ r1 r2 r3:=by
 delta axQ z0 z1 an
 have at3:r1.length≤9223372036854775807:=hf.1.1
 have at4: -9223372036854775808≤r2∧r2≤9223372036854775807:=hf.2.1
 have at6: -9223372036854775808≤r3∧r3≤9223372036854775807:=hf.2.2.1
 clear hf
 refine⟨?_,?_⟩
 · intro h1
   try simp only [nt,df] at h1
   grind [S.done]
 intro h2
 try simp only [nf,dt] at h2
 with_reducible and_intros
 trivial
 · intro h3
   try simp only [nt] at h3
   grind [S.done]
 intro h4
 try simp only [nf] at h4
 refine⟨?_,?_⟩
 · intro h5
   try simp only [dt] at h5
   grind [S.done]
 intro h6
 try simp only [df] at h6
 grind [S.done]
theorem ahs(kind:UInt8)(parts:List (List UInt8))(hp:S.iQ parts)(hf:Vg.Row.ok (Vg.PS.flat [.one (.int .u8), .one (.slice [.slice [.int .u8]])]) (kind,parts)):U9 kind parts:=by
 delta U9 aC eS z0 z1 an
 have amS:parts.length≤9223372036854775807:=hf.2.1.1
 clear hf
 refine⟨?_,?_⟩
 · refine⟨(nat_lit 0:Nat),?_⟩
   try dsimp only
   with_reducible and_intros
   omega
   exact S.Ri _ _
   simp only [S.dY,S.ag,S.len] at *;omega
 intro x1 h2
 refine⟨?_,?_⟩
 · intro h3
   try simp only [dt] at h3
   with_reducible and_intros
   iterate 2 omega
   exact S.LN kind hp (by omega)
   iterate 2 omega
   refine⟨(x1+nat_lit 1),?_⟩
   try dsimp only
   with_reducible and_intros
   omega
   exact S.HT _ _ _ (by omega)
   · simp only [S.dY,S.ag,S.len] at *;omega
   simp only [S.dY,S.ag,S.len] at *;omega
 intro h4
 try simp only [df] at h4
 exact S.JC _ _ _ (by omega)
theorem aht(b:List UInt8)(hp:S.bj b)(hf:Vg.Row.ok (Vg.PS.flat [.one (.slice [.int .u8])]) b):Va b:=by
 unfold Va
 have eF:b.length≤9223372036854775807:=hf.1.1
 clear hf
 refine⟨?_,?_⟩
 · simp only [S.iQ,S.bj] at *;simp;omega
 simp [S.dN,S.iR]
theorem ahu(l:List UInt8)(r:List UInt8)(hp:S.bj (l++r))(hf:Vg.Row.ok (Vg.PS.flat [.one (.str), .one (.str)]) (l,r)):Vb l r:=by
 unfold Vb
 have gj:l.length≤9223372036854775807:=hf.1
 have aey:r.length≤9223372036854775807:=hf.2.1
 clear hf
 refine⟨?_,?_⟩
 · simp only [S.iQ,S.bj,List.length_append] at *;simp;omega
 simp [S.dN,S.iR]
theorem ahv(b:List UInt8)(hp:S.bj b)(hf:Vg.Row.ok (Vg.PS.flat [.one (.slice [.int .u8])]) b):Vc b:=by
 unfold Vc
 have eF:b.length≤9223372036854775807:=hf.1.1
 clear hf
 refine⟨?_,?_⟩
 · simp only [S.iQ,S.bj] at *;simp;omega
 simp [S.dN,S.iR]
theorem ahw(b:List UInt8)(hp:S.bj b)(hf:Vg.Row.ok (Vg.PS.flat [.one (.slice [.int .u8])]) b):Vd b:=by
 unfold Vd
 have eF:b.length≤9223372036854775807:=hf.1.1
 clear hf
 with_reducible and_intros
 iterate 2 exact hp
 rfl
theorem ahx(l:List UInt8)(r:List UInt8)(hp:True)(hf:Vg.Row.ok (Vg.PS.flat [.one (.str), .one (.str)]) (l,r)):Ve l r:=by
 delta Ve z0 z1 an
 have gj:l.length≤9223372036854775807:=hf.1
 have aey:r.length≤9223372036854775807:=hf.2.1
 clear hf
 refine⟨?_,?_⟩
 · intro h1
   try simp only [V.pP,nt,df] at h1
   refine⟨?_,?_⟩
   · grind [S.cM,S.j8,S.Cm,S.HS,S.oi]
   grind [S.cM,S.j8,S.Cm,S.HS,S.oi]
 intro h2
 try simp only [V.gh,nf,dt] at h2
 with_reducible and_intros
 iterate 2
  · simp only [S.small,S.iR,S.bj,lc,List.length_append] at *;omega
 iterate 2 (grind [S.cM,S.j8,S.Cm,S.HS,S.oi])
theorem ahy(b:List UInt8)(hp:S.bj b)(hf:Vg.Row.ok (Vg.PS.flat [.one (.slice [.int .u8])]) b):Vf b:=by
 unfold Vf
 have eF:b.length≤9223372036854775807:=hf.1.1
 clear hf
 with_reducible and_intros
 iterate 2 exact hp
 rfl
theorem ahz(c:Int)(hp:True)(hf:Vg.Row.ok (Vg.PS.flat [.one (.int .i64)]) c):Vh c:=by
 delta Vh z0
 have rS: -9223372036854775808≤c∧c≤9223372036854775807:=hf.1
 clear hf
 simp only [S.bh];grind
theorem ahA(c:Int)(hp:True)(hf:Vg.Row.ok (Vg.PS.flat [.one (.int .i64)]) c):Vi c:=by
 delta Vi z1
 have rS: -9223372036854775808≤c∧c≤9223372036854775807:=hf.1
 clear hf
 refine⟨?_,?_⟩
 · intro h1
   try simp only [dt] at h1
   grind [S.cI]
 intro h2
 try simp only [df] at h2
 refine⟨?_,?_⟩
 · intro h3
   try simp only [dt] at h3
   grind [S.cI]
 intro h4
 try simp only [df] at h4
 refine⟨?_,?_⟩
 · intro h5
   try simp only [dt] at h5
   grind [S.cI]
 intro h6
 try simp only [df] at h6
 grind [S.cI]
theorem ahB(c:Int)(hp:0≤c)(hf:Vg.Row.ok (Vg.PS.flat [.one (.int .i64)]) c):Vj c:=by
 delta Vj z0
 have rS: -9223372036854775808≤c∧c≤9223372036854775807:=hf.1
 clear hf
 have e:Vg.aZ c 63%256=c%64:=by rw [S.Cb _ hp];omega
 with_reducible and_intros
 iterate 2 omega
 rw [e,S.zE]
 exact S.Ŀ c
theorem ahC(c:Int)(hp:True)(hf:Vg.Row.ok (Vg.PS.flat [.one (.int .i64)]) c):Vk c:=by
 delta Vk Ik uI Il UT z0 z1
 have rS: -9223372036854775808≤c∧c≤9223372036854775807:=hf.1
 clear hf
 with_reducible and_intros
 trivial
 · intro h1
   try simp only [nt] at h1
   refine⟨?_,?_⟩
   · simp only [S.rP,nt] at *
     grind
   simp only [S.dZ,nt] at *
   grind
 intro h2
 try simp only [nf] at h2
 with_reducible and_intros
 trivial
 · intro h3
   try simp only [dt] at h3
   refine⟨?_,?_⟩
   · (have hc:=S.cZ h2;simp only [S.rP,h2];rfl)
   (have hc:=S.cZ h2;(simp only [S.dZ,h2,if_true];exact S.M8 c hc.1 (by simp only [S.cI] at *;grind)))
 intro h4
 try simp only [df] at h4
 refine⟨?_,?_⟩
 · intro h5
   try simp only [dt] at h5
   with_reducible and_intros
   iterate 2 omega
   · (have hc:=S.cZ h2;omega)
   · (have hc:=S.cZ h2;simp only [S.rP,h2];rfl)
   · (have hc:=S.cZ h2;(simp only [S.dZ,h2,if_true];exact S.Ń c hc.1 (by simp only [S.cI] at *;grind)))
 intro h6
 try simp only [df] at h6
 refine⟨?_,?_⟩
 · intro h7
   try simp only [dt] at h7
   with_reducible and_intros
   iterate 4 omega
   · (have hc:=S.cZ h2;simp only [show Int.toNat 6=6 by rfl,show Int.toNat 12=12 by rfl,show Int.toNat 18=18 by rfl];omega)
   · (have hc:=S.cZ h2;omega)
   · (have hc:=S.cZ h2;simp only [S.rP,h2];rfl)
   · (have hc:=S.cZ h2;(simp only [S.dZ,h2,if_true];exact S.ń c hc.1 (by simp only [S.cI] at *;grind)))
 intro h8
 try simp only [df] at h8
 with_reducible and_intros
 iterate 4 omega
 · (have hc:=S.cZ h2;simp only [show Int.toNat 6=6 by rfl,show Int.toNat 12=12 by rfl,show Int.toNat 18=18 by rfl];omega)
 iterate 2 omega
 · (have hc:=S.cZ h2;simp only [show Int.toNat 6=6 by rfl,show Int.toNat 12=12 by rfl,show Int.toNat 18=18 by rfl];omega)
 · (have hc:=S.cZ h2;omega)
 · (have hc:=S.cZ h2;simp only [S.rP,h2];rfl)
 · (have hc:=S.cZ h2;(simp only [S.dZ,h2,if_true];exact S.Ņ c hc.1 hc.2 (by simp only [S.cI] at *;grind)))
theorem ahD(b:List UInt8)(hp:0<b.length)(hf:Vg.Row.ok (Vg.PS.flat [.one (.slice [.int .u8])]) b):Vo b:=by
 delta Vo ŷ q39 jF q41 q42 q43 q44 q45 EA Im q48 q49 q50 q51 aC z0 z1 an
 have eF:b.length≤9223372036854775807:=hf.1.1
 clear hf
 have į:(0:Int)<b.length:=by omega
 with_reducible and_intros
 iterate 2 omega
 · intro h1
   try simp only [dt] at h1
   refine⟨?_,?_⟩
   · rw [S.uf1 (b:=b) (by with_reducible assumption)]
   rw [S.uf1 (b:=b) (by with_reducible assumption)]
 intro h2
 try simp only [df] at h2
 with_reducible and_intros
 iterate 2 omega
 · intro h3
   try simp only [dt] at h3
   with_reducible and_intros
   iterate 2 omega
   · intro h4
     try simp only [dt] at h4
     refine⟨?_,?_⟩
     · (have hn:=S.oq (b:=b) (by with_reducible assumption) (by with_reducible assumption);rw [S.nC hn (by omega) (by omega)])
     (have hn:=S.oq (b:=b) (by with_reducible assumption) (by with_reducible assumption);rw [S.nC hn (by omega) (by omega)])
   intro h5
   try simp only [df] at h5
   with_reducible and_intros
   iterate 3 omega
   · refine⟨(nat_lit 0:Nat),?_⟩
     try dsimp only
     with_reducible and_intros
     omega
     · (have hn:=S.oq (b:=b) (by with_reducible assumption) (by with_reducible assumption);exact S.anM (by with_reducible assumption))
     · (have hn:=S.oq (b:=b) (by with_reducible assumption) (by with_reducible assumption);exact S.LO hn (by omega) (by omega))
   intro x6 h7
   refine⟨?_,?_⟩
   · intro h8
     try simp only [dt] at h8
     with_reducible and_intros
     iterate 4 omega
     · intro h9
       try simp only [nt,df,tn] at h9
       refine⟨?_,?_⟩
       · have hn:=S.oq (b:=b) (by with_reducible assumption) (by with_reducible assumption)
         have hb:=S.bn h7
         have hx:(x6:Int)+1<2:=by(have hc:=S.bI b 2 (by omega) (by omega);simp only [hc,show Int.toNat 2=2 by rfl] at *;omega)
         simp only [S.gH b 2 x6 hx,S.jr b 2 x6 hx] at *
         rw [S.qe hn h7 (by omega) (by with_reducible assumption)]
       have hn:=S.oq (b:=b) (by with_reducible assumption) (by with_reducible assumption)
       have hb:=S.bn h7
       have hx:(x6:Int)+1<2:=by(have hc:=S.bI b 2 (by omega) (by omega);simp only [hc,show Int.toNat 2=2 by rfl] at *;omega)
       simp only [S.gH b 2 x6 hx,S.jr b 2 x6 hx] at *
       rw [S.qe hn h7 (by omega) (by with_reducible assumption)]
     intro c5
     try simp only [nf,dt,tn] at c5
     with_reducible and_intros
     iterate 2 omega
     iterate 3
      · (have hn:=S.oq (b:=b) (by with_reducible assumption) (by with_reducible assumption);(have hb:=S.bn h7;(try simp only [S.bI b 2 (by omega) (by omega),show Int.toNat 2=2 by rfl] at *);simp only [show Int.toNat 6=6 by rfl,S.ag] at *;omega))
     exact Int.natCast_nonneg _
     omega
     · (have hn:=S.oq (b:=b) (by with_reducible assumption) (by with_reducible assumption);(have hb:=S.bn h7;(try simp only [S.bI b 2 (by omega) (by omega),show Int.toNat 2=2 by rfl] at *);omega))
     refine⟨(x6+nat_lit 1),?_⟩
     try dsimp only
     with_reducible and_intros
     omega
     · have hn:=S.oq (b:=b) (by with_reducible assumption) (by with_reducible assumption)
       have hb:=S.bn h7
       have hx:(x6:Int)+1<2:=by(have hc:=S.bI b 2 (by omega) (by omega);simp only [hc,show Int.toNat 2=2 by rfl] at *;omega)
       rw [S.gH b 2 x6 hx]
       exact S.LQ h7 (by omega)
     · have hn:=S.oq (b:=b) (by with_reducible assumption) (by with_reducible assumption)
       have hb:=S.bn h7
       have hx:(x6:Int)+1<2:=by(have hc:=S.bI b 2 (by omega) (by omega);simp only [hc,show Int.toNat 2=2 by rfl] at *;omega)
       simp only [S.gH b 2 x6 hx,S.jr b 2 x6 hx] at *
       exact S.HV h7 (by with_reducible assumption) (by omega)
     · (have hn:=S.oq (b:=b) (by with_reducible assumption) (by with_reducible assumption);(have hb:=S.bn h7;(try simp only [S.bI b 2 (by omega) (by omega),show Int.toNat 2=2 by rfl] at *);simp only [show Int.toNat 6=6 by rfl,S.ag] at *;omega))
   intro fM
   try simp only [df] at fM
   with_reducible and_intros
   trivial
   · intro dB
     try simp only [nt] at dB
     trivial
   · intro kA
     try simp only [nf] at kA
     trivial
   · intro eX
     try simp only [V.pP,nt,df] at eX
     refine⟨?_,?_⟩
     · have hn:=S.oq (b:=b) (by with_reducible assumption) (by with_reducible assumption)
       have hb:=S.bn h7
       have hc:=S.bI b 2 (by omega) (by omega)
       rw [hc] at fM
       have hx:x6+1=2:=by omega
       rw [S.qg hn h7 hx eX rfl]
     have hn:=S.oq (b:=b) (by with_reducible assumption) (by with_reducible assumption)
     have hb:=S.bn h7
     have hc:=S.bI b 2 (by omega) (by omega)
     rw [hc] at fM
     have hx:x6+1=2:=by omega
     rw [S.qg hn h7 hx eX rfl]
   intro k9
   try simp only [V.gh,nf,dt] at k9
   refine⟨?_,?_⟩
   · have hn:=S.oq (b:=b) (by with_reducible assumption) (by with_reducible assumption)
     have hb:=S.bn h7
     have hc:=S.bI b 2 (by omega) (by omega)
     rw [hc] at fM
     have hx:x6+1=2:=by omega
     rw [S.qh hn h7 hx k9 rfl]
   have hn:=S.oq (b:=b) (by with_reducible assumption) (by with_reducible assumption)
   have hb:=S.bn h7
   have hc:=S.bI b 2 (by omega) (by omega)
   rw [hc] at fM
   have hx:x6+1=2:=by omega
   rw [S.qh hn h7 hx k9 rfl]
 intro EC
 try simp only [df] at EC
 with_reducible and_intros
 iterate 2 omega
 · intro Kx
   try simp only [dt] at Kx
   with_reducible and_intros
   iterate 2 omega
   · intro y7
     try simp only [dt] at y7
     refine⟨?_,?_⟩
     · (have hn:=S.ot (b:=b) (by with_reducible assumption) (by with_reducible assumption) (by with_reducible assumption);rw [S.nC hn (by omega) (by omega)])
     (have hn:=S.ot (b:=b) (by with_reducible assumption) (by with_reducible assumption) (by with_reducible assumption);rw [S.nC hn (by omega) (by omega)])
   intro Ky
   try simp only [df] at Ky
   with_reducible and_intros
   iterate 3 omega
   · refine⟨(nat_lit 0:Nat),?_⟩
     try dsimp only
     with_reducible and_intros
     omega
     · (have hn:=S.ot (b:=b) (by with_reducible assumption) (by with_reducible assumption) (by with_reducible assumption);exact S.anN (by with_reducible assumption) (by with_reducible assumption))
     · (have hn:=S.ot (b:=b) (by with_reducible assumption) (by with_reducible assumption) (by with_reducible assumption);exact S.LO hn (by omega) (by omega))
   intro uK oK
   refine⟨?_,?_⟩
   · intro h22
     try simp only [dt] at h22
     with_reducible and_intros
     iterate 4 omega
     · intro h23
       try simp only [nt,df,tn] at h23
       refine⟨?_,?_⟩
       · have hn:=S.ot (b:=b) (by with_reducible assumption) (by with_reducible assumption) (by with_reducible assumption)
         have hb:=S.bn oK
         have hx:(uK:Int)+1<3:=by(have hc:=S.bI b 3 (by omega) (by omega);simp only [hc,show Int.toNat 3=3 by rfl] at *;omega)
         simp only [S.gH b 3 uK hx,S.jr b 3 uK hx] at *
         rw [S.qe hn oK (by omega) (by with_reducible assumption)]
       have hn:=S.ot (b:=b) (by with_reducible assumption) (by with_reducible assumption) (by with_reducible assumption)
       have hb:=S.bn oK
       have hx:(uK:Int)+1<3:=by(have hc:=S.bI b 3 (by omega) (by omega);simp only [hc,show Int.toNat 3=3 by rfl] at *;omega)
       simp only [S.gH b 3 uK hx,S.jr b 3 uK hx] at *
       rw [S.qe hn oK (by omega) (by with_reducible assumption)]
     intro h24
     try simp only [nf,dt,tn] at h24
     with_reducible and_intros
     iterate 2 omega
     iterate 3
      · (have hn:=S.ot (b:=b) (by with_reducible assumption) (by with_reducible assumption) (by with_reducible assumption);(have hb:=S.bn oK;(try simp only [S.bI b 3 (by omega) (by omega),show Int.toNat 3=3 by rfl] at *);simp only [show Int.toNat 6=6 by rfl,S.ag] at *;omega))
     exact Int.natCast_nonneg _
     omega
     · (have hn:=S.ot (b:=b) (by with_reducible assumption) (by with_reducible assumption) (by with_reducible assumption);(have hb:=S.bn oK;(try simp only [S.bI b 3 (by omega) (by omega),show Int.toNat 3=3 by rfl] at *);omega))
     refine⟨(uK+nat_lit 1),?_⟩
     try dsimp only
     with_reducible and_intros
     omega
     · have hn:=S.ot (b:=b) (by with_reducible assumption) (by with_reducible assumption) (by with_reducible assumption)
       have hb:=S.bn oK
       have hx:(uK:Int)+1<3:=by(have hc:=S.bI b 3 (by omega) (by omega);simp only [hc,show Int.toNat 3=3 by rfl] at *;omega)
       rw [S.gH b 3 uK hx]
       exact S.LQ oK (by omega)
     · have hn:=S.ot (b:=b) (by with_reducible assumption) (by with_reducible assumption) (by with_reducible assumption)
       have hb:=S.bn oK
       have hx:(uK:Int)+1<3:=by(have hc:=S.bI b 3 (by omega) (by omega);simp only [hc,show Int.toNat 3=3 by rfl] at *;omega)
       simp only [S.gH b 3 uK hx,S.jr b 3 uK hx] at *
       exact S.HV oK (by with_reducible assumption) (by omega)
     · (have hn:=S.ot (b:=b) (by with_reducible assumption) (by with_reducible assumption) (by with_reducible assumption);(have hb:=S.bn oK;(try simp only [S.bI b 3 (by omega) (by omega),show Int.toNat 3=3 by rfl] at *);simp only [show Int.toNat 6=6 by rfl,S.ag] at *;omega))
   intro WL
   try simp only [df] at WL
   with_reducible and_intros
   trivial
   · intro h26
     try simp only [nt] at h26
     trivial
   · intro h27
     try simp only [nf] at h27
     trivial
   · intro h28
     try simp only [V.pP,nt,df] at h28
     refine⟨?_,?_⟩
     · have hn:=S.ot (b:=b) (by with_reducible assumption) (by with_reducible assumption) (by with_reducible assumption)
       have hb:=S.bn oK
       have hc:=S.bI b 3 (by omega) (by omega)
       rw [hc] at WL
       have hx:uK+1=3:=by omega
       rw [S.qg hn oK hx h28 rfl]
     have hn:=S.ot (b:=b) (by with_reducible assumption) (by with_reducible assumption) (by with_reducible assumption)
     have hb:=S.bn oK
     have hc:=S.bI b 3 (by omega) (by omega)
     rw [hc] at WL
     have hx:uK+1=3:=by omega
     rw [S.qg hn oK hx h28 rfl]
   intro h29
   try simp only [V.gh,nf,dt] at h29
   refine⟨?_,?_⟩
   · have hn:=S.ot (b:=b) (by with_reducible assumption) (by with_reducible assumption) (by with_reducible assumption)
     have hb:=S.bn oK
     have hc:=S.bI b 3 (by omega) (by omega)
     rw [hc] at WL
     have hx:uK+1=3:=by omega
     rw [S.qh hn oK hx h29 rfl]
   have hn:=S.ot (b:=b) (by with_reducible assumption) (by with_reducible assumption) (by with_reducible assumption)
   have hb:=S.bn oK
   have hc:=S.bI b 3 (by omega) (by omega)
   rw [hc] at WL
   have hx:uK+1=3:=by omega
   rw [S.qh hn oK hx h29 rfl]
 intro h30
 try simp only [df] at h30
 with_reducible and_intros
 iterate 2 omega
 · intro h31
   try simp only [dt] at h31
   with_reducible and_intros
   iterate 2 omega
   · intro h32
     try simp only [dt] at h32
     refine⟨?_,?_⟩
     · (have hn:=S.ou (b:=b) (by with_reducible assumption) (by with_reducible assumption) (by with_reducible assumption) (by with_reducible assumption);rw [S.nC hn (by omega) (by omega)])
     (have hn:=S.ou (b:=b) (by with_reducible assumption) (by with_reducible assumption) (by with_reducible assumption) (by with_reducible assumption);rw [S.nC hn (by omega) (by omega)])
   intro h33
   try simp only [df] at h33
   with_reducible and_intros
   iterate 3 omega
   · refine⟨(nat_lit 0:Nat),?_⟩
     try dsimp only
     with_reducible and_intros
     omega
     · (have hn:=S.ou (b:=b) (by with_reducible assumption) (by with_reducible assumption) (by with_reducible assumption) (by with_reducible assumption);exact S.anO (by with_reducible assumption) (by with_reducible assumption))
     · (have hn:=S.ou (b:=b) (by with_reducible assumption) (by with_reducible assumption) (by with_reducible assumption) (by with_reducible assumption);exact S.LO hn (by omega) (by omega))
   intro uM rI
   refine⟨?_,?_⟩
   · intro h36
     try simp only [dt] at h36
     with_reducible and_intros
     iterate 4 omega
     · intro h37
       try simp only [nt,df,tn] at h37
       refine⟨?_,?_⟩
       · have hn:=S.ou (b:=b) (by with_reducible assumption) (by with_reducible assumption) (by with_reducible assumption) (by with_reducible assumption)
         have hb:=S.bn rI
         have hx:(uM:Int)+1<4:=by(have hc:=S.bI b 4 (by omega) (by omega);simp only [hc,show Int.toNat 4=4 by rfl] at *;omega)
         simp only [S.gH b 4 uM hx,S.jr b 4 uM hx] at *
         rw [S.qe hn rI (by omega) (by with_reducible assumption)]
       have hn:=S.ou (b:=b) (by with_reducible assumption) (by with_reducible assumption) (by with_reducible assumption) (by with_reducible assumption)
       have hb:=S.bn rI
       have hx:(uM:Int)+1<4:=by(have hc:=S.bI b 4 (by omega) (by omega);simp only [hc,show Int.toNat 4=4 by rfl] at *;omega)
       simp only [S.gH b 4 uM hx,S.jr b 4 uM hx] at *
       rw [S.qe hn rI (by omega) (by with_reducible assumption)]
     intro h38
     try simp only [nf,dt,tn] at h38
     with_reducible and_intros
     iterate 2 omega
     iterate 3
      · (have hn:=S.ou (b:=b) (by with_reducible assumption) (by with_reducible assumption) (by with_reducible assumption) (by with_reducible assumption);(have hb:=S.bn rI;(try simp only [S.bI b 4 (by omega) (by omega),show Int.toNat 4=4 by rfl] at *);simp only [show Int.toNat 6=6 by rfl,S.ag] at *;omega))
     exact Int.natCast_nonneg _
     omega
     · (have hn:=S.ou (b:=b) (by with_reducible assumption) (by with_reducible assumption) (by with_reducible assumption) (by with_reducible assumption);(have hb:=S.bn rI;(try simp only [S.bI b 4 (by omega) (by omega),show Int.toNat 4=4 by rfl] at *);omega))
     refine⟨(uM+nat_lit 1),?_⟩
     try dsimp only
     with_reducible and_intros
     omega
     · have hn:=S.ou (b:=b) (by with_reducible assumption) (by with_reducible assumption) (by with_reducible assumption) (by with_reducible assumption)
       have hb:=S.bn rI
       have hx:(uM:Int)+1<4:=by(have hc:=S.bI b 4 (by omega) (by omega);simp only [hc,show Int.toNat 4=4 by rfl] at *;omega)
       rw [S.gH b 4 uM hx]
       exact S.LQ rI (by omega)
     · have hn:=S.ou (b:=b) (by with_reducible assumption) (by with_reducible assumption) (by with_reducible assumption) (by with_reducible assumption)
       have hb:=S.bn rI
       have hx:(uM:Int)+1<4:=by(have hc:=S.bI b 4 (by omega) (by omega);simp only [hc,show Int.toNat 4=4 by rfl] at *;omega)
       simp only [S.gH b 4 uM hx,S.jr b 4 uM hx] at *
       exact S.HV rI (by with_reducible assumption) (by omega)
     · (have hn:=S.ou (b:=b) (by with_reducible assumption) (by with_reducible assumption) (by with_reducible assumption) (by with_reducible assumption);(have hb:=S.bn rI;(try simp only [S.bI b 4 (by omega) (by omega),show Int.toNat 4=4 by rfl] at *);simp only [show Int.toNat 6=6 by rfl,S.ag] at *;omega))
   intro WM
   try simp only [df] at WM
   with_reducible and_intros
   trivial
   · intro Ě
     try simp only [nt] at Ě
     trivial
   · intro h41
     try simp only [nf] at h41
     trivial
   · intro h42
     try simp only [V.pP,nt,df] at h42
     refine⟨?_,?_⟩
     · have hn:=S.ou (b:=b) (by with_reducible assumption) (by with_reducible assumption) (by with_reducible assumption) (by with_reducible assumption)
       have hb:=S.bn rI
       have hc:=S.bI b 4 (by omega) (by omega)
       rw [hc] at WM
       have hx:uM+1=4:=by omega
       rw [S.qg hn rI hx h42 rfl]
     have hn:=S.ou (b:=b) (by with_reducible assumption) (by with_reducible assumption) (by with_reducible assumption) (by with_reducible assumption)
     have hb:=S.bn rI
     have hc:=S.bI b 4 (by omega) (by omega)
     rw [hc] at WM
     have hx:uM+1=4:=by omega
     rw [S.qg hn rI hx h42 rfl]
   intro h43
   try simp only [V.gh,nf,dt] at h43
   refine⟨?_,?_⟩
   · have hn:=S.ou (b:=b) (by with_reducible assumption) (by with_reducible assumption) (by with_reducible assumption) (by with_reducible assumption)
     have hb:=S.bn rI
     have hc:=S.bI b 4 (by omega) (by omega)
     rw [hc] at WM
     have hx:uM+1=4:=by omega
     rw [S.qh hn rI hx h43 rfl]
   have hn:=S.ou (b:=b) (by with_reducible assumption) (by with_reducible assumption) (by with_reducible assumption) (by with_reducible assumption)
   have hb:=S.bn rI
   have hc:=S.bI b 4 (by omega) (by omega)
   rw [hc] at WM
   have hx:uM+1=4:=by omega
   rw [S.qh hn rI hx h43 rfl]
 intro h44
 try simp only [df] at h44
 refine⟨?_,?_⟩
 · rw [S.uf0 (b:=b) (by with_reducible assumption) (by with_reducible assumption) (by with_reducible assumption) (by with_reducible assumption)]
 rw [S.uf0 (b:=b) (by with_reducible assumption) (by with_reducible assumption) (by with_reducible assumption) (by with_reducible assumption)]
theorem ahI(b:List UInt8)(hp:S.small b)(hf:Vg.Row.ok (Vg.PS.flat [.one (.slice [.int .u8])]) b):Vp b:=by
 delta Vp z0
 have eF:b.length≤9223372036854775807:=hf.1.1
 clear hf
 simp only [S.small] at hp
 refine⟨?_,?_⟩
 · refine⟨((b),([])),?_⟩
   try dsimp only
   with_reducible and_intros
   iterate 2 with_reducible rfl
   exact S.afY b
 intro x1 h2
 refine⟨?_,?_⟩
 · intro h3
   try simp only [dt] at h3
   with_reducible and_intros
   omega
   · (have hd:=S.HW h2 (by with_reducible assumption);simp only [S.len,List.length_drop,lc,ln] at *;omega)
   iterate 2
    · (have hd:=S.HW h2 (by with_reducible assumption);omega)
   refine⟨((List.drop (Int.toNat (Prod.snd (S.aK (Prod.fst x1)))) (Prod.fst x1)),(Prod.snd x1++ [Prod.fst (S.aK (Prod.fst x1))])),?_⟩
   try dsimp only
   with_reducible and_intros
   iterate 2 with_reducible rfl
   exact S.E5 h2 h3
   · (have hd:=S.HW h2 (by with_reducible assumption);simp only [S.len,List.length_drop,lc,ln] at *;omega)
 intro h4
 try simp only [df] at h4
 exact(S.JG h2 (by with_reducible assumption))
theorem ahJ(c:Int)(hp:True)(hf:Vg.Row.ok (Vg.PS.flat [.one (.int .i64)]) c):Vq c:=by
 delta Vq Ÿ aC z0 z1
 have rS: -9223372036854775808≤c∧c≤9223372036854775807:=hf.1
 clear hf
 refine⟨?_,?_⟩
 · refine⟨(nat_lit 0:Nat),?_⟩
   try dsimp only
   refine⟨?_,?_⟩
   · omega
   simp [S.kt]
 intro x1 h2
 refine⟨?_,?_⟩
 · intro h3
   try simp only [dt] at h3
   with_reducible and_intros
   iterate 2 omega
   · intro h4
     try simp only [V.Jt,dt,tn] at h4
     exact S.LS (x:=x1) (by omega) (S.LW h4)
   intro h5
   try simp only [V.xw,df,tn] at h5
   with_reducible and_intros
   iterate 2 omega
   refine⟨(x1+nat_lit 1),?_⟩
   try dsimp only
   with_reducible and_intros
   omega
   exact S.LU (x:=x1) h2 (by omega) (S.TL h5)
   simp only [S.ag];omega
 intro h6
 try simp only [df] at h6
 exact S.LV h2 (by omega)
theorem ahK(c:Int)(hp:True)(hf:Vg.Row.ok (Vg.PS.flat [.one (.int .i64)]) c):Vr c:=by
 unfold Vr
 have rS: -9223372036854775808≤c∧c≤9223372036854775807:=hf.1
 clear hf
 simp only [S.digit];grind
theorem ahL(c:Int)(hp:True)(hf:Vg.Row.ok (Vg.PS.flat [.one (.int .i64)]) c):Vs c:=by
 delta Vs Ź aC z0 z1
 have rS: -9223372036854775808≤c∧c≤9223372036854775807:=hf.1
 clear hf
 refine⟨?_,?_⟩
 · refine⟨(nat_lit 0:Nat),?_⟩
   try dsimp only
   refine⟨?_,?_⟩
   · omega
   simp [S.kS]
 intro x1 h2
 refine⟨?_,?_⟩
 · intro h3
   try simp only [dt] at h3
   with_reducible and_intros
   iterate 2 omega
   · intro h4
     try simp only [V.Jt,dt,tn] at h4
     with_reducible and_intros
     iterate 2
      · have hs:=(S.E7 (c:=c) (x:=x1) h2 h3 (S.LW h4)).2
        clear h4
        generalize List.getD [32,32,32,32,32,80,32] (Int.toNat (x1:Int)) (0:Int)=X at *
        omega
     exact(S.E7 (x:=x1) h2 (by omega) (S.LW h4)).1
   intro h5
   try simp only [V.xw,df,tn] at h5
   with_reducible and_intros
   iterate 2 omega
   refine⟨(x1+nat_lit 1),?_⟩
   try dsimp only
   with_reducible and_intros
   omega
   exact S.Rk (x:=x1) h2 (by omega) (S.TL h5)
   simp only [S.ag];omega
 intro h6
 try simp only [df] at h6
 exact S.Rl h2 (by omega)
theorem ahU(u:List Int)(hp:S.Ew u)(hf:Vg.Row.ok (Vg.PS.flat [.one (.slice [.int .i64])]) u):VC u:=by
 delta VC q54 aC eS z0 z1 an
 have aov:u.length≤9223372036854775807:=hf.1.1
 clear hf
 have hq:=hp.1
 refine⟨?_,?_⟩
 · refine⟨((nat_lit 0:Nat),([])),?_⟩
   try dsimp only
   with_reducible and_intros
   omega
   rfl
   exact S.Na u
 intro x1 h2
 refine⟨?_,?_⟩
 · intro h3
   try simp only [dt] at h3
   with_reducible and_intros
   iterate 2 omega
   iterate 2 trivial
   omega
   · have :=h2.2.2;have :=S.Fc (S.aR (List.getD u (Int.toNat (x1.1:Int)) 0));omega
   · intro h4
     try simp only [dt,tn] at h4
     exact S.Cu h2 h3 h4
   intro h5
   try simp only [df,tn] at h5
   with_reducible and_intros
   · have :=h2.2.2;have :=S.Fc (S.aR (List.getD u (Int.toNat (x1.1:Int)) 0));omega
   iterate 2 omega
   refine⟨((Prod.fst x1+nat_lit 1),(Prod.snd x1++S.dZ (S.aR (List.getD u (Int.toNat (↑(Prod.fst x1):Int)) (0:Int))))),?_⟩
   try dsimp only
   with_reducible and_intros
   omega
   rfl
   exact S.Ct h2 h3 h5
   simp only [S.ag,S.len];omega
 intro h6
 try simp only [df] at h6
 exact S.Fb h2 (by with_reducible assumption)
theorem ahV(b:List UInt8)(hp:S.small b)(hf:Vg.Row.ok (Vg.PS.flat [.one (.slice [.int .u8])]) b):VD b:=by
 delta VD q55 uJ aC z0 z1 an
 have eF:b.length≤9223372036854775807:=hf.1.1
 clear hf
 have la:b.length≤1099511627776:=hp
 with_reducible and_intros
 omega
 · refine⟨((nat_lit 0:Nat),(([]),([]))),?_⟩
   try dsimp only
   with_reducible and_intros
   omega
   iterate 2 with_reducible rfl
   exact S.af0 _
 intro x1 h2
 refine⟨?_,?_⟩
 · intro h3
   try simp only [dt] at h3
   with_reducible and_intros
   iterate 3 omega
   trivial
   · intro h4
     trivial
   · intro h5
     trivial
   · intro h6
     try simp only [V.pP] at h6
     with_reducible and_intros
     · (have hq:=S.kT h2 la;simp only [lc,ln];omega)
     omega
     · (have hq:=S.kT h2 la;omega)
     refine⟨((Prod.fst x1+nat_lit 1),((Prod.fst (Prod.snd x1)),(Prod.snd (Prod.snd x1)++ [List.getD (S.decode b) (Int.toNat (↑(Prod.fst x1):Int)) (0:Int)]))),?_⟩
     try dsimp only
     with_reducible and_intros
     omega
     iterate 2 with_reducible rfl
     exact S.Rt h2 h3 (S.TV (by with_reducible assumption))
     · (have hq:=S.kT h2 la;simp only [S.ag,S.len];omega)
   intro h7
   try simp only [V.gh] at h7
   refine⟨?_,?_⟩
   · intro h8
     try simp only [dt] at h8
     with_reducible and_intros
     · (have hq:=S.kT h2 la;exact hq.1)
     · (have hq:=S.kT h2 la;simp only [lc,ln];omega)
     omega
     · (have hq:=S.kT h2 la;omega)
     refine⟨((Prod.fst x1+nat_lit 1),((Prod.fst (Prod.snd x1)++ [S.c9 (Prod.snd (Prod.snd x1))]),([]))),?_⟩
     try dsimp only
     with_reducible and_intros
     omega
     iterate 2 with_reducible rfl
     exact S.TU h2 h3 (S.JN (by with_reducible assumption)) (by with_reducible assumption)
     · (have hq:=S.kT h2 la;simp only [S.ag,S.len];omega)
   intro h9
   try simp only [df] at h9
   with_reducible and_intros
   omega
   · (have hq:=S.kT h2 la;omega)
   refine⟨((Prod.fst x1+nat_lit 1),((Prod.fst (Prod.snd x1)),(Prod.snd (Prod.snd x1)))),?_⟩
   try dsimp only
   with_reducible and_intros
   omega
   iterate 2 with_reducible rfl
   exact S.Ru h2 h3 (S.JN (by with_reducible assumption)) (by with_reducible assumption)
   · (have hq:=S.kT h2 la;simp only [S.ag,S.len];omega)
 intro c5
 try simp only [df] at c5
 refine⟨?_,?_⟩
 · intro fM
   try simp only [dt] at fM
   with_reducible and_intros
   · (have hq:=S.kT h2 la;exact hq.1)
   · (have hq:=S.kT h2 la;simp only [lc,ln];omega)
   exact S.Rv h2 (by with_reducible assumption) (by with_reducible assumption)
 intro dB
 try simp only [df] at dB
 exact S.Rw h2 (by with_reducible assumption) (by with_reducible assumption)
theorem ahW(s:List UInt8)(hp:S.small s)(hf:Vg.Row.ok (Vg.PS.flat [.one (.str)]) s):VE s:=by
 delta VE z0 z1 an
 have Kw:s.length≤9223372036854775807:=hf.1
 clear hf
 with_reducible and_intros
 omega
 · intro h1
   try simp only [dt] at h1
   with_reducible and_intros
   iterate 3 omega
 · intro h2
   try simp only [df] at h2
   trivial
 exact S.RA s
theorem ah4(s:List UInt8)(hp:True)(hf:Vg.Row.ok (Vg.PS.flat [.one (.str)]) s):VN s:=by
 unfold VN
 have Kw:s.length≤9223372036854775807:=hf.1
 clear hf
 simp
theorem ah5(a:List UInt8)(b:List UInt8)(hp:True)(hf:Vg.Row.ok (Vg.PS.flat [.one (.str), .one (.str)]) (a,b)):VO a b:=by
 delta VO z0 z1
 have ya:a.length≤9223372036854775807:=hf.1
 have eF:b.length≤9223372036854775807:=hf.2.1
 clear hf
 with_reducible and_intros
 iterate 2 trivial
 · intro h1
   refine⟨?_,?_⟩
   · intro h2
     simp only [S.fA] at *;grind [S.bO,S.fX,S.gM]
   intro h3
   simp only [S.fA] at *;grind [S.bO,S.fX,S.gM]
 intro h4
 refine⟨?_,?_⟩
 · intro h5
   simp only [S.fA] at *;grind [S.bO,S.fX,S.gM]
 intro h6
 refine⟨?_,?_⟩
 · intro h7
   simp only [S.fA] at *;grind [S.bO,S.fX,S.gM]
 intro h8
 refine⟨?_,?_⟩
 · intro h9
   try simp only [nt] at h9
   simp only [S.fA] at *;grind [S.bO,S.fX,S.gM]
 intro c5
 try simp only [nf] at c5
 simp only [S.fA] at *;grind [S.bO,S.fX,S.gM]
theorem ah6(a:List UInt8)(b:List UInt8)(hp:True)(hf:Vg.Row.ok (Vg.TA.eI [.iP (.str), .iP (.str), .ref 50000 0]) (a,b))(hg:Vg.fJ.ok [.cells [.fn (.func 161) [] []]] ((),())):VP a b:=by
 delta VP z0
 have ya:a.length≤9223372036854775807:=hf.1
 have eF:b.length≤9223372036854775807:=hf.2.1
 clear hf hg
 refine⟨?_,?_⟩
 · trivial
 exact S.ŏ a b
theorem ah7(l:List (List UInt8))(hp:S.small l)(hf:Vg.Row.ok (Vg.TA.eI [.own 50000, .fn (.func 181) [] [.ref 50001 0]]) ())(hg:Vg.fJ.ok [.row 9 [.str], .cells [.fn (.func 161) [] []]] (l,((),()))):VQ l:=by
 delta VQ aC z0 z1 an
 have gj:l.length≤9223372036854775807:=hg.1.1
 clear hf hg
 have la:l.length≤1099511627776:=hp
 refine⟨?_,?_⟩
 · intro h1
   try simp only [dt] at h1
   exact S.L8 h1
 intro h2
 try simp only [df] at h2
 refine⟨?_,?_⟩
 · refine⟨(nat_lit 1:Nat),?_⟩
   try dsimp only
   refine⟨?_,?_⟩
   · omega
   exact S.af3 h2
 intro x3 h4
 refine⟨?_,?_⟩
 · intro h5
   try simp only [dt] at h5
   with_reducible and_intros
   iterate 5 omega
   · have :=h4.1;omega
   iterate 2 omega
   trivial
   · intro h6
     try simp only [dt,tn] at h6
     with_reducible and_intros
     iterate 2 omega
     · refine⟨((x3),((nat_lit 1:Nat),((l),(x3)))),?_⟩
       try dsimp only
       with_reducible and_intros
       iterate 2 omega
       trivial
       exact S.Ő h4 h5 h6
       omega
     intro x7 h8
     refine⟨?_,?_⟩
     · intro h9
       try simp only [dt,tn] at h9
       with_reducible and_intros
       iterate 2 omega
       · have q1:=h8.1.1;have q2:=h8.1.2.1;have q3:=h8.1.2.2.2.1;have q4:=h8.1.2.2.2.2.1;have q5:=h8.2;omega
       iterate 2 omega
       · have q1:=h8.1.1;have q2:=h8.1.2.1;have q3:=h8.1.2.2.2.1;have q4:=h8.1.2.2.2.2.1;have q5:=h8.2;omega
       omega
       · have q1:=h8.1.1;have q2:=h8.1.2.1;have q3:=h8.1.2.2.2.1;have q4:=h8.1.2.2.2.2.1;have q5:=h8.2;omega
       trivial
       · intro c5
         try simp only [nt,df,tn] at c5
         with_reducible and_intros
         iterate 2 omega
         · have q1:=h8.1.1;have q2:=h8.1.2.1;have q3:=h8.1.2.2.2.1;have q4:=h8.1.2.2.2.2.1;have q5:=h8.2;omega
         omega
         iterate 2
          · have q1:=h8.1.1;have q2:=h8.1.2.1;have q3:=h8.1.2.2.2.1;have q4:=h8.1.2.2.2.2.1;have q5:=h8.2;omega
         omega
         have q1:=h8.1.1;have q2:=h8.1.2.1;have q3:=h8.1.2.2.2.1;have q4:=h8.1.2.2.2.2.1;have q5:=h8.2;omega
       · intro fM
         try simp only [nf,dt,tn] at fM
         trivial
       iterate 2 omega
       refine⟨((Int.toNat (bif !Decidable.decide (List.getD (Prod.fst (Prod.snd (Prod.snd x7))) (Int.toNat (↑x3:Int)+Int.toNat (↑(Prod.fst (Prod.snd x7)):Int)) []=List.getD (Prod.fst (Prod.snd (Prod.snd x7))) (Int.toNat (↑x3:Int)+Int.toNat ((↑(Prod.fst (Prod.snd x7)):Int)-(1:Int))) []) then(↑(Prod.fst x7):Int)+(1:Int) else(↑(Prod.fst x7):Int))),((Prod.fst (Prod.snd x7)+nat_lit 1),((bif !Decidable.decide (List.getD (Prod.fst (Prod.snd (Prod.snd x7))) (Int.toNat (↑x3:Int)+Int.toNat (↑(Prod.fst (Prod.snd x7)):Int)) []=List.getD (Prod.fst (Prod.snd (Prod.snd x7))) (Int.toNat (↑x3:Int)+Int.toNat ((↑(Prod.fst (Prod.snd x7)):Int)-(1:Int))) []) then List.set (Prod.fst (Prod.snd (Prod.snd x7))) (Int.toNat (↑(Prod.fst x7):Int)) (List.getD (Prod.fst (Prod.snd (Prod.snd x7))) (Int.toNat (↑x3:Int)+Int.toNat (↑(Prod.fst (Prod.snd x7)):Int)) []) else Prod.fst (Prod.snd (Prod.snd x7))),(x3)))),?_⟩
       try dsimp only
       with_reducible and_intros
       · generalize (!decide (List.getD x7.2.2.1 (Int.toNat (x3:Int)+Int.toNat (x7.2.1:Int)) []=List.getD x7.2.2.1 (Int.toNat (x3:Int)+Int.toNat ((x7.2.1:Int)-1)) []))=c
         cases c<;>simp only [cond_true,cond_false]<;>omega
       omega
       trivial
       · have q1:=h8.1.1
         have e3:x7.2.2.2=x3:=by have :=h8.2;omega
         have hi:=h8.1
         rw [e3] at hi
         have e1:Int.toNat (x3:Int)+Int.toNat (x7.2.1:Int)=x3+x7.2.1:=by omega
         have e2:Int.toNat (x3:Int)+Int.toNat ((x7.2.1:Int)-1)=x3+x7.2.1-1:=by omega
         rw [e1,e2]
         by_cases hd:List.getD x7.2.2.1 (x3+x7.2.1) []=List.getD x7.2.2.1 (x3+x7.2.1-1) []
         · rw [decide_eq_true hd]
           exact S.L9 hi (by omega) hd
         rw [decide_eq_false hd]
         exact S.RH hi (by omega) hd
       omega
       simp only [S.ag,S.len]
       have q2:=h8.1.2.1
       omega
     intro dB
     try simp only [df,tn] at dB
     with_reducible and_intros
     omega
     iterate 2
      · have q1:=h8.1.2.1
        have q2:=h8.1.2.2.2.1
        have q3:=h8.1.2.2.2.2.1
        omega
     omega
     · have q1:=h8.1.2.1
       have q2:=h8.1.2.2.2.1
       have q3:=h8.1.2.2.2.2.1
       simp only [List.length_append,List.length_take]
       omega
     have q1:=h8.1.2.1
     have q2:=h8.1.2.2.2.1
     have q3:=h8.1.2.2.2.2.1
     have e1:Int.toNat (x7.1:Int)=x7.1:=by omega
     rw [e1,S.J2 (by omega)]
     exact S.RJ h8.1 (by have :=h8.2;omega)
   intro kA
   try simp only [df,tn] at kA
   with_reducible and_intros
   iterate 2 omega
   refine⟨(x3+nat_lit 1),?_⟩
   try dsimp only
   with_reducible and_intros
   omega
   exact S.RG h4 h5 kA
   simp only [S.ag,S.len]
   omega
 intro eX
 try simp only [df] at eX
 exact S.TW h4 eX
theorem ah8(l:List (List UInt8))(hp:S.small l)(hf:Vg.Row.ok (Vg.TA.eI [.iP (.slice [.str]), .fn (.func 161) [] []]) l)(hg:Vg.fJ.ok [] ()):VR l:=by
 unfold VR
 have gj:l.length≤9223372036854775807:=hf.1.1
 clear hf hg
 with_reducible and_intros
 iterate 2 exact hp
 exact S.H7 hp
 rfl
theorem ah9(b:List UInt8)(hp:S.small b)(hf:Vg.Row.ok (Vg.PS.flat [.one (.slice [.int .u8])]) b):VS b:=by
 unfold VS
 have eF:b.length≤9223372036854775807:=hf.1.1
 clear hf
 with_reducible and_intros
 exact hp
 exact S.H6 hp
 exact S.TX _
theorem aia(l:List (List UInt8))(hp:True)(hf:Vg.Row.ok (Vg.PS.flat [.one (.slice [.str])]) l):VT l:=by
 delta VT Vl aC z0 z1 an
 have gj:l.length≤9223372036854775807:=hf.1.1
 clear hf
 refine⟨?_,?_⟩
 · refine⟨(nat_lit 0:Nat),?_⟩
   try dsimp only
   refine⟨?_,?_⟩
   · omega
   exact S.Ŕ l
 intro x1 h2
 refine⟨?_,?_⟩
 · intro h3
   try simp only [dt] at h3
   with_reducible and_intros
   iterate 2 omega
   · intro h4
     try simp only [nt,df,tn] at h4
     exact S.RN h3 h4
   intro h5
   try simp only [nf,dt,tn] at h5
   with_reducible and_intros
   iterate 2 omega
   refine⟨(x1+nat_lit 1),?_⟩
   try dsimp only
   with_reducible and_intros
   omega
   exact S.Mb h2 h3 h5
   simp only [S.ag,S.len];omega
 intro h6
 try simp only [df] at h6
 exact S.RO h2 (by with_reducible assumption)
theorem aib(a:List UInt8)(b:List UInt8)(hp:True)(hf:Vg.Row.ok (Vg.PS.flat [.one (.str), .one (.str)]) (a,b)):VU a b:=by
 unfold VU
 have ya:a.length≤9223372036854775807:=hf.1
 have eF:b.length≤9223372036854775807:=hf.2.1
 clear hf
 refine⟨?_,?_⟩
 · trivial
 rfl
theorem aic(s:List (List UInt8))(hp:S.qn s)(hf:Vg.Row.ok (Vg.TA.eI [.own 50000]) ())(hg:Vg.fJ.ok [.row 9 [.str]] (s,())):VV s:=by
 delta VV Vm aC z0 z1 an
 have Kw:s.length≤9223372036854775807:=hg.1.1
 clear hf hg
 have h1:=hp.1
 have h2:=hp.2
 with_reducible and_intros
 iterate 10 omega
 trivial
 iterate 6 omega
 · rw [List.length_set];omega
 exact S.œ hp
theorem aid(l:List (List UInt8))(hp:S.iU l)(hf:Vg.Row.ok (Vg.PS.flat [.one (.slice [.slice [.int .u8]])]) l):VW l:=by
 delta VW aC z0 z1 an
 have gj:l.length≤9223372036854775807:=hf.1.1
 clear hf
 have h1:=hp.1
 refine⟨?_,?_⟩
 · refine⟨(nat_lit 0:Nat),?_⟩
   try dsimp only
   with_reducible and_intros
   omega
   rfl
   simp only [S.dY,S.ag,S.len] at *;omega
 intro x1 h2
 refine⟨?_,?_⟩
 · intro h3
   try simp only [dt] at h3
   with_reducible and_intros
   iterate 2 omega
   exact S.zJ hp (by with_reducible assumption)
   · have :=S.vt l x1;simp only [lc,ln];omega
   iterate 2 omega
   refine⟨(x1+nat_lit 1),?_⟩
   try dsimp only
   with_reducible and_intros
   omega
   exact S.xJ (by with_reducible assumption)
   · simp only [S.dY,S.ag,S.len] at *;omega
   simp only [S.dY,S.ag,S.len] at *;omega
 intro h4
 try simp only [df] at h4
 exact S.zI (by with_reducible assumption)
theorem aie(l:List (List UInt8))(hp:S.eb l)(hf:Vg.Row.ok (Vg.PS.flat [.one (.slice [.str])]) l):VX l:=by
 delta VX aC z0 z1 an
 have gj:l.length≤9223372036854775807:=hf.1.1
 clear hf
 have la:=hp.2
 refine⟨?_,?_⟩
 · intro h1
   try simp only [dt] at h1
   refine⟨?_,?_⟩
   · exact Nat.zero_le _
   exact S.Fi h1
 intro h2
 try simp only [df] at h2
 refine⟨?_,?_⟩
 · refine⟨((nat_lit 0:Nat),([])),?_⟩
   try dsimp only
   with_reducible and_intros
   omega
   with_reducible rfl
   exact S.ő l
 intro x3 h4
 refine⟨?_,?_⟩
 · intro h5
   try simp only [dt] at h5
   with_reducible and_intros
   iterate 2 omega
   · have :=S.JV h4;simp only [lc,ln];omega
   · refine⟨(0,x3.1,x3.2++ [List.getD l (Int.toNat (x3.1:Int)) []],x3.1),?_⟩
     try dsimp only
     with_reducible and_intros
     omega
     with_reducible rfl
     exact S.af5 h4 h5
     omega
   intro x6 h7
   with_reducible and_intros
   iterate 2 omega
   · intro h8
     try simp only [dt] at h8
     with_reducible and_intros
     exact S.T4 (S.AD h7) h8 hp
     iterate 2 omega
     refine⟨(x6.1+1,x6.2.1/2,S.comb x6.2.2.1,x3.1),?_⟩
     try dsimp only
     with_reducible and_intros
     · simp only [show Int.toNat 1=1 by rfl];omega
     with_reducible rfl
     exact(S.yS (S.AD h7) h8).1
     omega
     exact(S.yS (S.AD h7) h8).2.1
   intro h9
   try simp only [df] at h9
   with_reducible and_intros
   iterate 2 omega
   refine⟨((Prod.fst x3+nat_lit 1),(Prod.fst (Prod.snd (Prod.snd x6)))),?_⟩
   try dsimp only
   with_reducible and_intros
   omega
   with_reducible rfl
   exact S.TZ (S.AD h7) h9
   simp only [S.ag,S.len];omega
 intro c5
 try simp only [df] at c5
 refine⟨?_,?_⟩
 · refine⟨(Prod.snd x3),?_⟩
   try dsimp only
   refine⟨?_,?_⟩
   · with_reducible rfl
   exact S.af6 h4 c5 h2
 intro WJ dB
 refine⟨?_,?_⟩
 · intro kA
   try simp only [dt] at kA
   refine⟨?_,?_⟩
   · have :=S.T2 dB;exact⟨by omega,by omega⟩
   refine⟨(S.comb WJ),?_⟩
   try dsimp only
   with_reducible and_intros
   with_reducible rfl
   exact(S.Fh dB kA).1
   exact(S.Fh dB kA).2
 intro eX
 try simp only [df] at eX
 with_reducible and_intros
 omega
 iterate 2
  · have :=(S.JT dB eX).2;omega
 exact(S.JT dB eX).1
theorem aif(l:List (List UInt8))(hp:S.small l)(hf:Vg.Row.ok (Vg.PS.flat [.one (.slice [.str])]) l):VY l:=by
 delta VY z0 z1
 have gj:l.length≤9223372036854775807:=hf.1.1
 clear hf
 have la:l.length≤1099511627776:=hp
 with_reducible and_intros
 trivial
 · intro h1
   try simp only [nt] at h1
   refine⟨?_,?_⟩
   · grind [S.rq,S.ru,S.eb]
   grind [S.rq,S.ru,S.eb]
 intro h2
 try simp only [nf] at h2
 with_reducible and_intros
 trivial
 iterate 2 (grind [S.rq,S.ru,S.eb])
theorem aik(l:List Int)(hp:True)(hf:Vg.Row.ok (Vg.PS.flat [.one (.slice [.int .i64])]) l):V2 l:=by
 delta V2 Vn aC z0 z1 an
 have gj:l.length≤9223372036854775807:=hf.1.1
 clear hf
 refine⟨?_,?_⟩
 · refine⟨(nat_lit 0:Nat),?_⟩
   try dsimp only
   with_reducible and_intros
   omega
   exact(S.tu l).symm
   exact S.ŕ l
 intro x1 h2
 refine⟨?_,?_⟩
 · intro h3
   try simp only [dt] at h3
   with_reducible and_intros
   iterate 2 omega
   · intro h4
     try simp only [V.pP,dt,tn] at h4
     exact S.RQ h3 h4
   intro h5
   try simp only [V.gh,df,tn] at h5
   with_reducible and_intros
   iterate 2 omega
   refine⟨(x1+nat_lit 1),?_⟩
   try dsimp only
   with_reducible and_intros
   omega
   rw [S.kz,tn]
   exact S.Mc h2 h3 h5
   simp only [S.ag,S.len];omega
 intro h6
 try simp only [df] at h6
 exact S.RR h2 (by with_reducible assumption)
theorem ail(l:List Int)(hp:True)(hf:Vg.Row.ok (Vg.PS.flat [.one (.slice [.int .i64])]) l):V3 l:=by
 delta V3 ź aC eS z0 z1 an
 have gj:l.length≤9223372036854775807:=hf.1.1
 clear hf
 with_reducible and_intros
 trivial
 · intro h1
   try simp only [nt] at h1
   refine⟨?_,?_⟩
   · simp only [S.jD,S.oA,h1];rfl
   simp only [S.jD,S.oA,h1];rfl
 intro h2
 try simp only [nf] at h2
 with_reducible and_intros
 exact Nat.zero_le _
 · refine⟨(nat_lit 0:Nat),?_⟩
   try dsimp only
   with_reducible and_intros
   omega
   exact(S.tu l).symm
   · have :=S.qp h2;rw [S.Fk (by omega) (by omega),S.yT]
   omega
 intro x3 h4
 refine⟨?_,?_⟩
 · intro h5
   try simp only [dt] at h5
   with_reducible and_intros
   iterate 2 omega
   iterate 4
    · have :=S.uw h2 h5;omega
   exact Nat.zero_le _
   · have :=(S.pT h2 h5 (List.getD l (Int.toNat (x3:Int)) 0-S.dV l x3-1)).1;omega
   iterate 2 omega
   refine⟨(x3+nat_lit 1),?_⟩
   try dsimp only
   with_reducible and_intros
   omega
   rw [S.kz,tn]
   exact S.CI h2 h5
   omega
   simp only [S.ag,S.len];omega
 intro h6
 try simp only [df] at h6
 refine⟨?_,?_⟩
 · simp only [S.jD,h2];rfl
 rw [show x3=l.length by omega];exact S.RS h2
theorem aim(l:List Int)(hp:True)(hf:Vg.Row.ok (Vg.PS.flat [.one (.slice [.int .i64])]) l):V4 l:=by
 delta V4 z0
 have gj:l.length≤9223372036854775807:=hf.1.1
 clear hf
 with_reducible and_intros
 trivial
 · intro h1
   try simp only [nt,df] at h1
   refine⟨?_,?_⟩
   · have hq:S.bR l=false :=by
      cases hr:S.bR l with
      |false=>rfl
      |true=>exact absurd (by simp only [S.jD,hr];rfl) h1
     simp only [S.oB,hq];rfl
   rfl
 intro h2
 try simp only [nf,dt] at h2
 with_reducible and_intros
 iterate 2
  · have hq:S.bR l=true :=by
     cases hr:S.bR l with
     |true=>rfl
     |false=>simp only [S.jD,hr] at h2;exact absurd h2 (by decide)
    have hl:=S.CJ hq
    simp only [S.oA,S.oB,hq,if_true,S.bj]
    try (first|rfl|omega)
 omega
theorem ain(n:Int)(p:Bool)(q:Bool)(s1:Int)(s2:Int)(hp:True)(hf:Vg.Row.ok (Vg.TA.eI [.iP (.int .i64), .iP (.bool), .iP (.bool), .ref 50000 0]) (n,p,q))(hg:Vg.fJ.ok [.cells [.iP (.int .i64), .iP (.int .i64)]] ((s1,s2),())):V5 n p q s1 s2:=by
 unfold V5
 have WB: -9223372036854775808≤n∧n≤9223372036854775807:=hf.1
 have iY: -9223372036854775808≤s1∧s1≤9223372036854775807:=hg.1.1
 have iZ: -9223372036854775808≤s2∧s2≤9223372036854775807:=hg.1.2.1
 clear hf hg
 with_reducible and_intros
 · simp only [S.oC];grind
 iterate 2 rfl
theorem aio(a:List Int)(b:List Int)(s1:Int)(s2:Int)(hp:b.length=0)(hf:Vg.Row.ok (Vg.TA.eI [.iP (.slice [.int .i64]), .iP (.slice [.int .i64]), .fn (.func 154) [] [.ref 50000 0]]) (a,b))(hg:Vg.fJ.ok [.cells [.iP (.int .i64), .iP (.int .i64)]] ((s1,s2),())):V9 a b s1 s2:=by
 delta V9 Mx Ż ż Ž ž ſ q67 z0 z1
 have hb:b= []:=List.eq_nil_of_length_eq_zero hp
 subst hb
 have ha:a.length≤9223372036854775807:=hf.1.1
 clear hf hg
 refine⟨trivial,trivial,?_,?_⟩
 · refine⟨(S.RP a,[]),⟨?_,?_,rfl,rfl,rfl⟩,S.Ŗ a s1 s2⟩
   · simp only [S.RP];cases S.bR a<;>rfl
   simp [S.fa]
 rintro⟨r,out⟩ h
 have hl:=h.2
 cases r with
 |nil=>simp [S.fa];exact S.RU h
 |cons n r=>
  simp [S.fa]
  refine⟨by omega,fun hn=>⟨?_,?_⟩,fun hn=> ?_⟩
  · simp at hl;omega
  · exact⟨r,out++ [n],⟨rfl,rfl⟩,S.RT h hn,by simp [S.len]⟩
  exact⟨r,out,⟨rfl,rfl⟩,S.T5 h hn,by simp [S.len]⟩
theorem aip(l:List Int)(s1:Int)(s2:Int)(hp:True)(hf:Vg.Row.ok (Vg.PS.flat [.one (.slice [.int .i64]), .agg [.int .i64, .int .i64]]) (l,s1,s2)):Wa l s1 s2:=by
 unfold Wa
 have gj:l.length≤9223372036854775807:=hf.1.1
 have iY: -9223372036854775808≤s1∧s1≤9223372036854775807:=hf.2.1
 have iZ: -9223372036854775808≤s2∧s2≤9223372036854775807:=hf.2.2.1
 clear hf
 refine⟨?_,?_⟩
 · rfl
 rfl
theorem ait(d:List (List UInt8×List Int))(hp:S.bB d)(hf:Vg.Row.ok (Vg.PS.flat [.one (.slice [.str, .slice [.int .i64]])]) d):Wg d:=by
 delta Wg q68 q69 q70 aC z0 z1 an
 have FE:d.length≤9223372036854775807:=hf.1.1
 clear hf
 have la:=hp.1
 refine⟨?_,?_⟩
 · refine⟨(nat_lit 0:Nat),?_⟩
   try dsimp only
   refine⟨?_,?_⟩
   · omega
   exact S.anQ d
 intro x1 h2
 refine⟨?_,?_⟩
 · intro h3
   try simp only [dt] at h3
   with_reducible and_intros
   iterate 2 omega
   · intro h4
     try simp only [dt] at h4
     with_reducible and_intros
     iterate 4 omega
   · intro h5
     try simp only [df] at h5
     trivial
   · intro h6
     try simp only [V.Jt,dt] at h6
     refine S.Nd h3 ((S.CK _ _).2 (.inl ⟨by omega,?_⟩))
     have e:Int.toNat ((x1:Int)-1)=x1-1:=by omega
     have h62:=h6.2
     rw [e] at h62
     exact h62
   intro h7
   try simp only [V.xw,df] at h7
   with_reducible and_intros
   · intro h8
     try simp only [dt,tn] at h8
     trivial
   · intro h9
     try simp only [df,tn] at h9
     with_reducible and_intros
     trivial
     · intro c5
       try simp only [nt] at c5
       trivial
     intro fM
     try simp only [nf] at fM
     exact S.RY hp
   · intro dB
     try simp only [V.pP,dt,tn,nt] at dB
     exact S.Nd h3 ((S.CK _ _).2 (.inr (dB.imp (fun q=>by have :((S.fl d x1).length:Int)=0:=q;omega) id)))
   intro kA
   try simp only [V.gh,df,tn,nf] at kA
   with_reducible and_intros
   iterate 2 omega
   refine⟨(x1+nat_lit 1),?_⟩
   try dsimp only
   with_reducible and_intros
   omega
   · refine S.T6 h2 h3 ((S.qq _ _).2 ⟨?_,?_,kA.2.1,kA.2.2⟩)
     rotate_left
     · have :=kA.1
       simp only [S.fl];omega
     rcases h7 with h7|h7
     · left;omega
     right
     have e:Int.toNat ((x1:Int)-1)=x1-1:=by omega
     rw [e] at h7
     exact h7
   simp only [S.ag,S.len];omega
 intro eX
 try simp only [df] at eX
 exact S.Ř h2 (by with_reducible assumption)
theorem aiu(l1:List UInt8)(l2:List UInt8)(l3:List UInt8)(hp:True)(hf:Vg.Row.ok (Vg.PS.flat [.agg [.str, .str, .str]]) (l1,l2,l3)):Wi l1 l2 l3:=by
 delta Wi q71 eS z0 z1 an
 have aiv:l1.length≤9223372036854775807:=hf.1
 have aiw:l2.length≤9223372036854775807:=hf.2.1
 have aix:l3.length≤9223372036854775807:=hf.2.2.1
 clear hf
 refine⟨?_,?_⟩
 · intro h1
   try simp only [V.pP,dt,nt,df] at h1
   refine⟨?_,?_⟩
   · have hq:=S.CO h1
     simp only [S.oD,S.wk,hq];rfl
   have hq:=S.CO h1
   simp only [S.oD,S.wk,hq];rfl
 intro h2
 try simp only [V.gh,df,nf,dt] at h2
 with_reducible and_intros
 · have hq:=S.mC h2
   have q:=(S.gS _ _ _).1 hq
   have t1:=S.fO (s:=l1);have t2:=S.fO (s:=l2)
   exact S.zN (Nat.zero_le _) (by omega)
 · have hq:=S.mC h2
   have q:=(S.gS _ _ _).1 hq
   have t1:=S.fO (s:=l1);have t2:=S.fO (s:=l2)
   exact S.zN (by rw [List.nil_append];omega) (by omega)
 · have hq:=S.mC h2
   have q:=(S.gS _ _ _).1 hq
   have t1:=S.fO (s:=l1);have t2:=S.fO (s:=l2)
   simp only [List.length_append,ln];omega
 · have hq:=S.mC h2
   have q:=(S.gS _ _ _).1 hq
   have t1:=S.fO (s:=l1);have t2:=S.fO (s:=l2)
   simp only [S.oD,hq,if_true];rfl
 have hq:=S.mC h2
 have q:=(S.gS _ _ _).1 hq
 have t1:=S.fO (s:=l1);have t2:=S.fO (s:=l2)
 simp only [S.wk,hq,if_true];done
theorem aiy(d:List (List UInt8×List Int))(hp:S.bB d)(hf:Vg.Row.ok (Vg.PS.flat [.one (.slice [.str, .slice [.int .i64]])]) d):Wk d:=by
 delta Wk q72 aC z0 z1 an
 have FE:d.length≤9223372036854775807:=hf.1.1
 clear hf
 have la:=hp.1
 with_reducible and_intros
 omega
 · intro h1
   try simp only [nt] at h1
   refine⟨?_,?_⟩
   · simp only [S.dE,S.fb,h1];rfl
   simp only [S.dE,S.fb,h1];rfl
 intro h2
 try simp only [nf] at h2
 with_reducible and_intros
 iterate 2 omega
 · refine⟨(nat_lit 0:Nat),?_⟩
   try dsimp only
   with_reducible and_intros
   omega
   rfl
   omega
 intro x3 h4
 refine⟨?_,?_⟩
 · intro h5
   try simp only [dt] at h5
   with_reducible and_intros
   · intro h6
     try simp only [dt] at h6
     with_reducible and_intros
     iterate 8 omega
   · intro h7
     try simp only [df] at h7
     trivial
   · intro h8
     try simp only [dt] at h8
     refine⟨?_,?_⟩
     · omega
     omega
   · intro h9
     try simp only [df] at h9
     trivial
   iterate 2 trivial
   · rw [S.wm];simp only [lc,ln];omega
   iterate 2 omega
   refine⟨(x3+nat_lit 1),?_⟩
   try dsimp only
   with_reducible and_intros
   omega
   rw [S.Ś h2 (by omega),S.zM]
   omega
   simp only [S.ag,S.len];omega
 intro c5
 try simp only [df] at c5
 refine⟨?_,?_⟩
 · simp only [S.dE,h2];rfl
 simp only [S.fb,h2,if_true];rw [show x3=d.length+1 by omega];rfl
theorem aiz(d:List (List UInt8×List Int))(hp:S.bB d)(hf:Vg.Row.ok (Vg.PS.flat [.one (.slice [.str, .slice [.int .i64]])]) d):Wl d:=by
 delta Wl z0
 have FE:d.length≤9223372036854775807:=hf.1.1
 clear hf
 with_reducible and_intros
 omega
 · intro h1
   try simp only [nt,df] at h1
   refine⟨?_,?_⟩
   · simp only [S.rz,S.anR h1];rfl
   rfl
 intro h2
 try simp only [nf,dt] at h2
 with_reducible and_intros
 · have hr:=S.Ng h2
   have hq:=S.lM hp hr
   have e:S.fb d=S.iq d:=by simp only [S.fb,hr,if_true]
   rw [e]
   exact hq.1
 · have hr:=S.Ng h2
   have hq:=S.lM hp hr
   have e:S.fb d=S.iq d:=by simp only [S.fb,hr,if_true]
   rw [e]
   exact hq.2.2
 · have hr:=S.Ng h2
   have hq:=S.lM hp hr
   have e:S.fb d=S.iq d:=by simp only [S.fb,hr,if_true]
   rw [e]
   simp only [S.rz,S.rq,hr,hq.2.1,if_true];rfl
 have hr:=S.Ng h2
 have hq:=S.lM hp hr
 have e:S.fb d=S.iq d:=by simp only [S.fb,hr,if_true]
 rw [e]
 simp only [S.dE,S.ru,hr,hq.2.1,if_true]
theorem aan(s1:Int)(s2:Int)(hp:True)(hf:Vg.Row.ok (Vg.PS.flat [.agg [.int .i64, .int .i64]]) (s1,s2)):NB s1 s2:=by
 delta NB z0
 have iY: -9223372036854775808≤s1∧s1≤9223372036854775807:=hf.1
 have iZ: -9223372036854775808≤s2∧s2≤9223372036854775807:=hf.2.1
 clear hf
 simp only [S.iD,S.qf]
theorem aao(s1:Int)(s2:Int)(s3:List (List UInt8×List Int))(hp:S.bB s3)(hf:Vg.Row.ok (Vg.PS.flat [.agg [.int .i64, .int .i64, .slice [.str, .slice [.int .i64]]]]) (s1,s2,s3)):NC s1 s2 s3:=by
 delta NC Vv aC z0 z1 an
 have iY: -9223372036854775808≤s1∧s1≤9223372036854775807:=hf.1
 have iZ: -9223372036854775808≤s2∧s2≤9223372036854775807:=hf.2.1
 have tR:s3.length≤9223372036854775807:=hf.2.2.1.1
 clear hf
 with_reducible and_intros
 trivial
 · intro h1
   try simp only [nt] at h1
   trivial
 · intro h2
   try simp only [nf] at h2
   omega
 · intro h3
   try simp only [V.pP,nt] at h3
   exact S.Ŝ h3
 intro h4
 try simp only [V.gh,nf] at h4
 refine⟨?_,?_⟩
 · refine⟨(nat_lit 0:Nat),?_⟩
   try dsimp only
   refine⟨?_,?_⟩
   · omega
   exact S.af9 h4.1 h4.2
 intro x5 h6
 refine⟨?_,?_⟩
 · intro h7
   try simp only [dt] at h7
   with_reducible and_intros
   iterate 2 omega
   trivial
   · intro h8
     try simp only [nt,df,tn] at h8
     exact S.Ub h7 (decide_eq_false h8)
   intro h9
   try simp only [nf,dt,tn] at h9
   with_reducible and_intros
   iterate 2 omega
   refine⟨(x5+nat_lit 1),?_⟩
   try dsimp only
   with_reducible and_intros
   omega
   exact S.R3 h6 h7 (decide_eq_true h9)
   simp only [S.ag,S.len];omega
 intro c5
 try simp only [df] at c5
 exact S.Uc h6 c5
theorem aap(s1:Int)(s2:Int)(s3:List (List UInt8×List Int))(hp:S.bB s3)(hf:Vg.Row.ok (Vg.PS.flat [.agg [.int .i64, .int .i64, .slice [.str, .slice [.int .i64]]]]) (s1,s2,s3)):ND s1 s2 s3:=by
 delta ND aC z0 z1 an
 have iY: -9223372036854775808≤s1∧s1≤9223372036854775807:=hf.1
 have iZ: -9223372036854775808≤s2∧s2≤9223372036854775807:=hf.2.1
 have tR:s3.length≤9223372036854775807:=hf.2.2.1.1
 clear hf
 have la:=hp.1
 with_reducible and_intros
 omega
 · intro h1
   try simp only [nt] at h1
   with_reducible and_intros
   iterate 4 (rw [S.CR h1])
   rw [S.CR h1]
 intro h2
 try simp only [nf] at h2
 with_reducible and_intros
 omega
 · intro h3
   try simp only [nt,df] at h3
   with_reducible and_intros
   iterate 5 (exact absurd (S.mD h2).2.1 h3)
 intro h4
 try simp only [nf,dt] at h4
 with_reducible and_intros
 iterate 2 omega
 iterate 3 (rw [(S.mD h2).1])
 · rw [(S.mD h2).1];exact(S.mD h2).2.2
 rw [(S.mD h2).1]
theorem auS(s1:Int)(s2:Int)(s3:Int)(s4:List UInt8)(hp:True)(hf:Vg.Row.ok (Vg.PS.flat [.agg [.int .i64, .int .i64, .int .i64, .str]]) (s1,s2,s3,s4)):at7 s1 s2 s3 s4:=by
 delta at7 z1 an
 have iY: -9223372036854775808≤s1∧s1≤9223372036854775807:=hf.1
 have iZ: -9223372036854775808≤s2∧s2≤9223372036854775807:=hf.2.1
 have tR: -9223372036854775808≤s3∧s3≤9223372036854775807:=hf.2.2.1
 have MA:s4.length≤9223372036854775807:=hf.2.2.2.1
 clear hf
 refine⟨?_,?_⟩
 · trivial
 simp only [S.af8,S.qf]
theorem aaq(docs:List (List UInt8))(s1:Int)(s2:Int)(hp:True)(hf:Vg.Row.ok (Vg.PS.flat [.one (.slice [.slice [.int .u8]]), .agg [.int .i64, .int .i64]]) (docs,s1,s2)):NF docs s1 s2:=by
 delta NF z0 z1
 have tS:docs.length≤9223372036854775807:=hf.1.1
 have iY: -9223372036854775808≤s1∧s1≤9223372036854775807:=hf.2.1
 have iZ: -9223372036854775808≤s2∧s2≤9223372036854775807:=hf.2.2.1
 clear hf
 with_reducible and_intros
 trivial
 · intro h1
   try simp only [nt,df] at h1
   with_reducible and_intros
   iterate 3 (rw [(S.J3 (by simpa using h1)).1])
   have q:=S.J3 (docs:=docs) (a:=s1) (b:=s2) (by simpa using h1)
   rw [q.1,q.2]
 intro h2
 try simp only [nf,dt] at h2
 refine⟨?_,?_⟩
 · intro h3
   try simp only [dt] at h3
   with_reducible and_intros
   iterate 3 (rw [S.J4 h3])
   rw [S.J4 h3]
 intro h4
 try simp only [df] at h4
 with_reducible and_intros
 iterate 3 (rw [S.J5 (by simpa using h2) h4])
 rw [S.J5 (by simpa using h2) h4]
theorem auT(l:List (Int×Int×Int×List UInt8))(n:Int)(hp:True)(hf:Vg.Row.ok (Vg.PS.flat [.one (.slice [.int .i64, .int .i64, .int .i64, .str]), .one (.int .i64)]) (l,n)):aua l n:=by
 delta aua q74 q75 q76 My aC z0 z1 an
 have gj:l.length≤9223372036854775807:=hf.1.1
 have WB: -9223372036854775808≤n∧n≤9223372036854775807:=hf.2.1
 clear hf
 refine⟨?_,?_⟩
 · intro h1
   try simp only [dt] at h1
   exact S.avY h1
 intro h2
 try simp only [df] at h2
 refine⟨?_,?_⟩
 · refine⟨(nat_lit 0:Nat),?_⟩
   try dsimp only
   with_reducible and_intros
   omega
   exact(S.apx l).symm
   exact S.awA h2
 intro x3 h4
 refine⟨?_,?_⟩
 · intro h5
   try simp only [dt] at h5
   with_reducible and_intros
   iterate 2 omega
   · intro h6
     try simp only [nt] at h6
     trivial
   · intro h7
     try simp only [nf] at h7
     trivial
   · intro h8
     try simp only [V.pP,nt] at h8
     refine S.avi h4 h5 (S.atM ?_)
     rw [show Int.toNat (x3:Int)=x3 by omega] at h8
     simpa [S.Ud,S.sg] using h8
   intro h9
   try simp only [V.gh,nf] at h9
   with_reducible and_intros
   iterate 2 omega
   refine⟨(x3+nat_lit 1),?_⟩
   try dsimp only
   with_reducible and_intros
   omega
   exact(S.atL l x3).symm
   · refine S.auC h4 h5 (S.auD ?_)
     rw [show Int.toNat (x3:Int)=x3 by omega] at h9
     simpa [S.Ud,S.sg] using h9
   simp only [S.ag,S.len];omega
 intro c5
 try simp only [df] at c5
 exact S.avj h4 c5
theorem aaz(l:List (Int×Int×List (List UInt8×List Int)))(hp:S.mF l)(hf:Vg.Row.ok (Vg.PS.flat [.one (.slice [.int .i64, .int .i64, .slice [.str, .slice [.int .i64]]])]) l):NP l:=by
 delta NP Io Ak Sj Sk Ip Mz Kt aC Db z0 z1 an
 have gj:l.length≤9223372036854775807:=hf.1.1
 clear hf
 with_reducible and_intros
 iterate 2 omega
 · have :=hp.1;omega
 · refine⟨0,?_⟩
   try dsimp only
   with_reducible and_intros
   rfl
   · simp only [S.ay];exact S.Ū l
   omega
 intro x1 h2
 refine⟨?_,?_⟩
 · refine⟨(0,x1),?_⟩
   try dsimp only
   with_reducible and_intros
   omega
   rfl
   iterate 2 omega
   rfl
 intro x3 h4
 refine⟨?_,?_⟩
 · intro h5
   try simp only [dt] at h5
   with_reducible and_intros
   iterate 3 omega
   iterate 2
    · rw [S.fq];omega
   · intro h6
     try simp only [dt,tn] at h6
     with_reducible and_intros
     iterate 2 omega
     refine⟨(x3.1+1,x3.2),?_⟩
     try dsimp only
     with_reducible and_intros
     omega
     · rw [←h4.2];exact S.Ux h6
     iterate 2 omega
     exact h4.2
     simp only [S.ag,S.len];omega
   intro h7
   try simp only [df,tn] at h7
   with_reducible and_intros
   · intro h8
     try simp only [dt] at h8
     trivial
   · intro h9
     try simp only [df] at h9
     with_reducible and_intros
     omega
     iterate 2
      · rw [S.fq];omega
     exact S.Uw l _ _
     exact S.an1 h5 h7
     omega
     · rw [←h4.2] at h9 ⊢;first|exact(S.fc h4.1.1 h9).1|exact(S.fc h4.1.1 h9).2.1|exact(S.fc h4.1.1 h9).2.2.1|exact(S.fc h4.1.1 h9).2.2.2
     omega
     iterate 2
      · rw [←h4.2] at h9 ⊢;first|exact(S.fc h4.1.1 h9).1|exact(S.fc h4.1.1 h9).2.1|exact(S.fc h4.1.1 h9).2.2.1|exact(S.fc h4.1.1 h9).2.2.2
     exact S.Uw l _ _
     rw [←h4.2] at h9 ⊢;first|exact(S.fc h4.1.1 h9).1|exact(S.fc h4.1.1 h9).2.1|exact(S.fc h4.1.1 h9).2.2.1|exact(S.fc h4.1.1 h9).2.2.2
   iterate 2 omega
   refine⟨(x3.1+1,x3.2),?_⟩
   try dsimp only
   with_reducible and_intros
   omega
   · rw [←h4.2];exact S.Uy h7
   iterate 2 omega
   exact h4.2
   simp only [S.ag,S.len];omega
 intro c5
 try simp only [df] at c5
 refine⟨?_,?_⟩
 · intro fM
   try simp only [dt] at fM
   rw [←h4.2] at fM;exact S.agk hp h4.1.1 c5 fM
 intro dB
 try simp only [df] at dB
 with_reducible and_intros
 omega
 · rw [←h4.2] at dB ⊢;first|exact(S.fc h4.1.1 dB).1|exact(S.fc h4.1.1 dB).2.1|exact(S.fc h4.1.1 dB).2.2.1|exact(S.fc h4.1.1 dB).2.2.2
 omega
 iterate 2
  · rw [←h4.2] at dB ⊢;first|exact(S.fc h4.1.1 dB).1|exact(S.fc h4.1.1 dB).2.1|exact(S.fc h4.1.1 dB).2.2.1|exact(S.fc h4.1.1 dB).2.2.2
 exact S.Uw l _ _
 · rw [←h4.2] at dB ⊢;first|exact(S.fc h4.1.1 dB).1|exact(S.fc h4.1.1 dB).2.1|exact(S.fc h4.1.1 dB).2.2.1|exact(S.fc h4.1.1 dB).2.2.2
 · refine⟨(0,x1),?_⟩
   try dsimp only
   with_reducible and_intros
   omega
   exact S.agf l x1
   · rw [←h4.2] at dB ⊢;exact(S.Nl hp h4.1.1 c5 dB).2
   rfl
   omega
   · rw [←h4.2] at dB;exact(S.Nl hp h4.1.1 c5 dB).1
   rfl
 intro WN eX
 refine⟨?_,?_⟩
 · intro k9
   try simp only [dt] at k9
   with_reducible and_intros
   iterate 3 omega
   exact(S.pV k9).1
   exact(S.pV k9).2
   · intro EC
     try simp only [dt,tn] at EC
     with_reducible and_intros
     omega
     exact(S.pV k9).1
     exact(S.pV k9).2
     exact(S.Uz k9).1
     exact EC
   · intro Kx
     try simp only [df,tn] at Kx
     trivial
   · intro y7
     try simp only [V.Jt,dt,tn] at y7
     with_reducible and_intros
     omega
     exact(S.pV k9).1
     exact(S.pV k9).2
     exact(S.Uz k9).1
     exact y7.1
     · have q:=S.ũ hp (k:=WN.2) k9;exact Nat.le_trans (Nat.add_le_add q.1 q.2) (by decide)
     omega
     exact(S.pV k9).1
     exact(S.pV k9).2
     exact(S.aeb hp k9).1
     exact(S.aeb hp k9).2
     omega
     exact(S.pV k9).1
     exact(S.pV k9).2
     iterate 2 omega
     refine⟨(WN.1+1,WN.2),?_⟩
     try dsimp only
     with_reducible and_intros
     omega
     exact(S.UA hp eX.1.2 k9 y7.1 y7.2).1
     rfl
     exact(S.UA hp eX.1.2 k9 y7.1 y7.2).2
     iterate 2 omega
     exact eX.2
     simp only [S.ag,S.len];omega
   intro Ky
   try simp only [V.xw,df,tn] at Ky
   with_reducible and_intros
   iterate 2 omega
   refine⟨(WN.1+1,WN.2),?_⟩
   try dsimp only
   with_reducible and_intros
   omega
   exact(S.Nn hp eX.1.2 k9 (fun q=>Ky.elim (fun z=>z q.1) (fun z=>z q.2))).1
   rfl
   exact(S.Nn hp eX.1.2 k9 (fun q=>Ky.elim (fun z=>z q.1) (fun z=>z q.2))).2
   iterate 2 omega
   exact eX.2
   simp only [S.ag,S.len];omega
 intro Sl
 try simp only [df] at Sl
 refine⟨?_,?_⟩
 · have :=S.an2 hp h2;simp only [List.length_singleton];omega
 refine⟨(x1+1),?_⟩
 try dsimp only
 with_reducible and_intros
 · have e:=S.Ih eX.2 h2 (Nat.le_of_lt eX.1.2);subst e;exact(S.UB eX.1.1 Sl eX.1.2).1
 · have e:=S.Ih eX.2 h2 (Nat.le_of_lt eX.1.2);subst e;exact(S.UB eX.1.1 Sl eX.1.2).2
 · have e:=S.Ih eX.2 h2 (Nat.le_of_lt eX.1.2);have e2:=eX.1.2;first|omega|(simp only [S.ag];omega)
 have e:=S.Ih eX.2 h2 (Nat.le_of_lt eX.1.2);have e2:=eX.1.2;first|omega|(simp only [S.ag];omega)
theorem aaA(l:List (Int×Int×List (List UInt8×List Int)))(hp:S.tE l)(hf:Vg.Row.ok (Vg.PS.flat [.one (.slice [.int .i64, .int .i64, .slice [.str, .slice [.int .i64]]])]) l):NQ l:=by
 delta NQ q85 q86 aC z0 z1 an
 have gj:l.length≤9223372036854775807:=hf.1.1
 clear hf
 refine⟨?_,?_⟩
 · intro h1
   try simp only [dt] at h1
   with_reducible and_intros
   iterate 3 (rw [S.UC h1])
   rw [S.UC h1]
 intro h2
 try simp only [df] at h2
 refine⟨?_,?_⟩
 · refine⟨(nat_lit 0:Nat),?_⟩
   try dsimp only
   refine⟨?_,?_⟩
   · omega
   exact S.ū hp h2
 intro x3 h4
 refine⟨?_,?_⟩
 · intro h5
   try simp only [dt] at h5
   with_reducible and_intros
   iterate 2 omega
   exact hp.2 _ (S.fp (show x3<l.length by omega))
   · intro h6
     try simp only [nt] at h6
     with_reducible and_intros
     iterate 3 (rw [S.UD h5 h6])
     rw [S.UD h5 h6]
   intro h7
   try simp only [nf] at h7
   with_reducible and_intros
   iterate 2 omega
   refine⟨(x3+nat_lit 1),?_⟩
   try dsimp only
   with_reducible and_intros
   omega
   exact S.Ŭ h4 h5 h7
   simp only [S.ag,S.len];omega
 intro h8
 try simp only [df] at h8
 refine⟨?_,?_⟩
 · refine⟨0,?_⟩
   try dsimp only
   refine⟨?_,?_⟩
   · omega
   exact S.ŭ h4 h8
 intro x9 c5
 refine⟨?_,?_⟩
 · intro fM
   try simp only [dt] at fM
   with_reducible and_intros
   iterate 6 omega
   · intro dB
     try simp only [nt,df] at dB
     with_reducible and_intros
     iterate 3 (rw [S.UE c5 fM dB])
     rw [S.UE c5 fM dB]
   intro kA
   try simp only [nf,dt] at kA
   with_reducible and_intros
   iterate 2 omega
   refine⟨(x9+1),?_⟩
   try dsimp only
   with_reducible and_intros
   omega
   exact S.Ů c5 fM kA
   simp only [S.ag,S.len];omega
 intro eX
 try simp only [df] at eX
 with_reducible and_intros
 iterate 6 omega
 exact S.agm c5
 iterate 2
  · rw [S.Mu c5 eX];rfl
 rw [S.Mu c5 eX]
 rw [S.Mu c5 eX]
theorem aaB(s1:Int)(s2:Int)(hp:True)(hf:Vg.Row.ok (Vg.PS.flat [.agg [.int .i64, .int .i64]]) (s1,s2)):NR s1 s2:=by
 delta NR VH aC z0 z1
 have iY: -9223372036854775808≤s1∧s1≤9223372036854775807:=hf.1
 have iZ: -9223372036854775808≤s2∧s2≤9223372036854775807:=hf.2.1
 clear hf
 refine⟨?_,?_⟩
 · intro h1
   try simp only [V.pP,dt] at h1
   exact S.Ut h1
 intro h2
 try simp only [V.gh,df] at h2
 with_reducible and_intros
 iterate 2 omega
 · refine⟨(Int.toNat (s2-s1)),?_⟩
   try dsimp only
   with_reducible and_intros
   omega
   · rw [S.Kk (by omega)];omega
   exact S.ŧ h2
 intro x3 h4
 refine⟨?_,?_⟩
 · intro h5
   try simp only [dt] at h5
   with_reducible and_intros
   iterate 2
    · have q1:=S.Ul (s2-s1) (by omega);have q2:=S.Ũ (n:=(x3:Int)) h5;have q3:=S.ad8 (s2-s1);have q4:=S.Uu h4;have q5:=S.Ul (x3:Int) (by omega);omega
   iterate 2 omega
   refine⟨(Int.toNat ((↑x3:Int)/(2:Int))),?_⟩
   try dsimp only
   with_reducible and_intros
   omega
   exact S.Uv h5
   exact S.Mt h4 h5
   omega
 intro h6
 try simp only [df] at h6
 exact S.Sa h2 h4 h6
theorem aaC(l:List (Int×Int))(hp:True)(hf:Vg.Row.ok (Vg.PS.flat [.one (.slice [.int .i64, .int .i64])]) l):NS l:=by
 delta NS Iq q89 aC z0 z1 an
 have gj:l.length≤9223372036854775807:=hf.1.1
 clear hf
 with_reducible and_intros
 iterate 2 omega
 · refine⟨0,?_⟩
   try dsimp only
   refine⟨?_,?_⟩
   · simp only [S.ag,S.len] at *;omega
   exact S.n_0 l
 intro x1 h2
 refine⟨?_,?_⟩
 · intro h3
   try simp only [dt] at h3
   with_reducible and_intros
   omega
   · simp only [S.ag,S.len] at *;omega
   trivial
   omega
   · simp only [S.ag,S.len] at *;omega
   omega
   · simp only [S.ag,S.len] at *;omega
   trivial
   · intro h4
     try simp only [dt] at h4
     refine⟨?_,?_⟩
     · rw [S.UF h2 h3 h4]
     rw [S.UF h2 h3 h4]
   intro h5
   try simp only [df] at h5
   with_reducible and_intros
   omega
   · simp only [S.ag,S.len] at *;omega
   refine⟨(x1+1),?_⟩
   try dsimp only
   with_reducible and_intros
   omega
   exact S.an3 h2 h3 h5
   simp only [S.ag,S.len] at *;omega
 intro h6
 try simp only [df] at h6
 refine⟨?_,?_⟩
 · rw [S.UG h2 h6]
 rw [S.UG h2 h6]
theorem aaD(l:List (Int×Int×List (List UInt8×List Int)))(hp:S.small l)(hf:Vg.Row.ok (Vg.PS.flat [.one (.slice [.int .i64, .int .i64, .slice [.str, .slice [.int .i64]]])]) l):NT l:=by
 delta NT aC z0 z1 an
 have gj:l.length≤9223372036854775807:=hf.1.1
 clear hf
 refine⟨?_,?_⟩
 · refine⟨(nat_lit 0:Nat),?_⟩
   try dsimp only
   with_reducible and_intros
   omega
   simp [S.fY,S.b8]
   omega
 intro x1 h2
 refine⟨?_,?_⟩
 · intro h3
   try simp only [dt] at h3
   with_reducible and_intros
   iterate 2 omega
   · have :=S.Ii l x1;simp only [List.length_singleton,S.small] at *;omega
   iterate 2 omega
   refine⟨(x1+nat_lit 1),?_⟩
   try dsimp only
   with_reducible and_intros
   omega
   exact S.Kl h3
   omega
   simp only [S.ag,S.len] at *;omega
 intro h4
 try simp only [df] at h4
 exact S.Mv h4
theorem aaE(l:List UInt8)(hp:S.small l)(hf:Vg.Row.ok (Vg.PS.flat [.one (.slice [.int .u8])]) l):NU l:=by
 delta NU eS
 have gj:l.length≤9223372036854775807:=hf.1.1
 clear hf
 with_reducible and_intros
 · intro h1
   exact h1.symm
 · simp only [S.small,Vg.cq,ln] at *;omega
 rfl
theorem aaF(l:List (List UInt8×List Int))(hp:S.small l)(hf:Vg.Row.ok (Vg.PS.flat [.one (.slice [.str, .slice [.int .i64]])]) l):NV l:=by
 unfold NV
 have gj:l.length≤9223372036854775807:=hf.1.1
 clear hf
 with_reducible and_intros
 · intro h1
   exact h1.symm
 · simp only [S.small,Vg.cq,ln] at *;omega
 rfl
theorem aaG(a:List Int)(b:List Int)(hp:True)(hf:Vg.Row.ok (Vg.PS.flat [.one (.slice [.int .i64]), .one (.slice [.int .i64])]) (a,b)):NW a b:=by
 delta NW aC z0 z1 an
 have ya:a.length≤9223372036854775807:=hf.1.1
 have eF:b.length≤9223372036854775807:=hf.2.1.1
 clear hf
 refine⟨?_,?_⟩
 · intro h1
   try simp only [nt,df] at h1
   exact(decide_eq_false (S.Kn h1)).symm
 intro h2
 try simp only [nf,dt] at h2
 refine⟨?_,?_⟩
 · refine⟨(nat_lit 0:Nat),?_⟩
   try dsimp only
   refine⟨?_,?_⟩
   · omega
   exact S.UH h2
 intro x3 h4
 refine⟨?_,?_⟩
 · intro h5
   try simp only [dt] at h5
   with_reducible and_intros
   iterate 4 omega
   · intro h6
     try simp only [nt,df,tn] at h6
     exact(decide_eq_false (S.Ko 0 h6)).symm
   intro h7
   try simp only [nf,dt,tn] at h7
   with_reducible and_intros
   iterate 2 omega
   refine⟨(x3+nat_lit 1),?_⟩
   try dsimp only
   with_reducible and_intros
   omega
   exact S.Fx 0 h4 h5 h7
   simp only [S.ag,S.len,S.kh,S.jW] at *;omega
 intro h8
 try simp only [df] at h8
 exact(decide_eq_true (S.Km h4 h8)).symm
theorem aaH(a1:List UInt8)(a2:List Int)(b1:List UInt8)(b2:List Int)(hp:True)(hf:Vg.Row.ok (Vg.PS.flat [.agg [.str, .slice [.int .i64]], .agg [.str, .slice [.int .i64]]]) (a1,a2,b1,b2)):NX a1 a2 b1 b2:=by
 unfold NX
 have aiB:a1.length≤9223372036854775807:=hf.1
 have aiC:a2.length≤9223372036854775807:=hf.2.1.1
 have aiD:b1.length≤9223372036854775807:=hf.2.2.1
 have aiE:b2.length≤9223372036854775807:=hf.2.2.2.1.1
 clear hf
 with_reducible and_intros
 · intro h1
   try simp only [dt] at h1
   trivial
 · intro h2
   try simp only [df] at h2
   trivial
 simp only [S.tK,S.agO];cases decide (a1=b1)<;>rfl
theorem aaI(a:List (List UInt8×List Int))(b:List (List UInt8×List Int))(hp:True)(hf:Vg.Row.ok (Vg.TA.eI [.iP (.slice [.str, .slice [.int .i64]]), .iP (.slice [.str, .slice [.int .i64]]), .fn (.func 98) [] []]) (a,b))(hg:Vg.fJ.ok [] ()):NY a b:=by
 delta NY q90 aC z0 z1 an
 have ya:a.length≤9223372036854775807:=hf.1.1
 have eF:b.length≤9223372036854775807:=hf.2.1.1
 clear hf hg
 refine⟨?_,?_⟩
 · intro h1
   try simp only [nt,df] at h1
   exact(decide_eq_false (S.Kn h1)).symm
 intro h2
 try simp only [nf,dt] at h2
 refine⟨?_,?_⟩
 · refine⟨(nat_lit 0:Nat),?_⟩
   try dsimp only
   refine⟨?_,?_⟩
   · omega
   exact S.UH h2
 intro x3 h4
 refine⟨?_,?_⟩
 · intro h5
   try simp only [dt] at h5
   with_reducible and_intros
   iterate 4 omega
   trivial
   · intro h6
     try simp only [nt] at h6
     exact(decide_eq_false (S.Ko ([],[]) (S.Ű h6))).symm
   intro h7
   try simp only [nf] at h7
   with_reducible and_intros
   iterate 2 omega
   refine⟨(x3+nat_lit 1),?_⟩
   try dsimp only
   with_reducible and_intros
   omega
   exact S.Fx ([],[]) h4 h5 (S.ů h7)
   simp only [S.ag,S.len,S.kh,S.jW] at *;omega
 intro h8
 try simp only [df] at h8
 exact(decide_eq_true (S.Km h4 h8)).symm
theorem aaJ(a:List (List UInt8×List Int))(b:List (List UInt8×List Int))(hp:True)(hf:Vg.Row.ok (Vg.PS.flat [.one (.slice [.str, .slice [.int .i64]]), .one (.slice [.str, .slice [.int .i64]])]) (a,b)):NZ a b:=by
 unfold NZ
 have ya:a.length≤9223372036854775807:=hf.1.1
 have eF:b.length≤9223372036854775807:=hf.2.1.1
 clear hf
 refine⟨?_,?_⟩
 · trivial
 rfl
theorem aaK(y1:List (List UInt8))(y2:List (Int×Int×List (List UInt8×List Int)))(hp:True)(hf:Vg.Row.ok (Vg.PS.flat [.agg [.slice [.slice [.int .u8]], .slice [.int .i64, .int .i64, .slice [.str, .slice [.int .i64]]]]]) (y1,y2)):N0 y1 y2:=by
 delta N0 q91 Ir q93 aC z0 z1 an
 have kj:y1.length≤9223372036854775807:=hf.1.1
 have kl:y2.length≤9223372036854775807:=hf.2.1.1
 clear hf
 refine⟨?_,?_⟩
 · intro h1
   try simp only [V.pP,dt] at h1
   exact S.an4 h1
 intro h2
 try simp only [V.gh,df] at h2
 refine⟨?_,?_⟩
 · refine⟨(nat_lit 0:Nat),?_⟩
   try dsimp only
   refine⟨?_,?_⟩
   · omega
   exact⟨by omega,by omega,S.Nf _⟩
 intro x3 h4
 refine⟨?_,?_⟩
 · intro h5
   try simp only [dt] at h5
   with_reducible and_intros
   iterate 2 omega
   · intro h6
     try simp only [dt,tn] at h6
     exact S.an5 h5 h6
   intro h7
   try simp only [df,tn] at h7
   with_reducible and_intros
   iterate 2 omega
   refine⟨(x3+nat_lit 1),?_⟩
   try dsimp only
   with_reducible and_intros
   omega
   exact⟨h4.1,h4.2.1,S.CN h4.2.2 h5 (by omega)⟩
   simp only [S.ag,S.len,S.kh,S.jW] at *;omega
 intro h8
 try simp only [df] at h8
 refine⟨?_,?_⟩
 · refine⟨(nat_lit 0:Nat),?_⟩
   try dsimp only
   with_reducible and_intros
   omega
   rfl
   exact S.UI h4 h8
 intro x9 c5
 refine⟨?_,?_⟩
 · intro fM
   try simp only [dt] at fM
   with_reducible and_intros
   iterate 2 omega
   · intro dB
     try simp only [V.pP,nt,df,tn,dt] at dB
     exact S.AJ fM (S.an6 dB)
   intro kA
   try simp only [V.gh,nf,dt,tn,df] at kA
   with_reducible and_intros
   trivial
   · intro eX
     try simp only [nt,df,tn] at eX
     trivial
   · intro k9
     try simp only [nf,dt,tn] at k9
     trivial
   · intro EC
     try simp only [V.pP,nt,df,tn] at EC
     exact S.AJ fM (S.an7 c5 kA EC)
   intro Kx
   try simp only [V.gh,nf,dt,tn] at Kx
   with_reducible and_intros
   iterate 2 omega
   refine⟨(x9+nat_lit 1),?_⟩
   try dsimp only
   with_reducible and_intros
   omega
   exact S.Fy _ _
   exact S.Kp c5 fM (S.an8 c5 kA Kx)
   simp only [S.ag,S.len,S.kh,S.jW] at *;omega
 intro y7
 try simp only [df] at y7
 exact S.Np c5 y7
theorem aaL(y1:List (List UInt8))(y2:List (Int×Int×List (List UInt8×List Int)))(hp:True)(hf:Vg.Row.ok (Vg.PS.flat [.agg [.slice [.slice [.int .u8]], .slice [.int .i64, .int .i64, .slice [.str, .slice [.int .i64]]]]]) (y1,y2)):N1 y1 y2:=by
 unfold N1
 have kj:y1.length≤9223372036854775807:=hf.1.1
 have kl:y2.length≤9223372036854775807:=hf.2.1.1
 clear hf
 with_reducible and_intros
 trivial
 · intro h1
   try simp only [nt] at h1
   refine⟨?_,?_⟩
   · rw [S.xS h1]
   rw [S.xS h1]
 intro h2
 try simp only [nf] at h2
 refine⟨?_,?_⟩
 · rw [S.rE h2]
 rw [S.rE h2]
theorem aaM(y1:List (List UInt8))(y2:List (Int×Int×List (List UInt8×List Int)))(hp:True)(hf:Vg.Row.ok (Vg.PS.flat [.agg [.slice [.slice [.int .u8]], .slice [.int .i64, .int .i64, .slice [.str, .slice [.int .i64]]]]]) (y1,y2)):N2 y1 y2:=by
 delta N2 aC z0 z1 an
 have kj:y1.length≤9223372036854775807:=hf.1.1
 have kl:y2.length≤9223372036854775807:=hf.2.1.1
 clear hf
 refine⟨?_,?_⟩
 · intro h1
   try simp only [dt] at h1
   exact S.agn h1
 intro h2
 try simp only [df] at h2
 with_reducible and_intros
 iterate 4 omega
 exact S.ago h2
theorem aaN(y1:List (List UInt8))(y2:List (Int×Int×List (List UInt8×List Int)))(hp:S.nq y1 y2)(hf:Vg.Row.ok (Vg.PS.flat [.agg [.slice [.slice [.int .u8]], .slice [.int .i64, .int .i64, .slice [.str, .slice [.int .i64]]]]]) (y1,y2)):N3 y1 y2:=by
 delta N3 q94 aC Db z0 z1 an
 have kj:y1.length≤9223372036854775807:=hf.1.1
 have kl:y2.length≤9223372036854775807:=hf.2.1.1
 clear hf
 with_reducible and_intros
 iterate 2 omega
 · have :=hp.1;omega
 iterate 2 omega
 · have :=hp.2.1;omega
 · refine⟨(nat_lit 0:Nat),?_⟩
   try dsimp only
   with_reducible and_intros
   omega
   exact S.Nq _ _
   simp only [S.ag,S.len,S.kh,S.jW] at *;omega
 intro x1 h2
 refine⟨?_,?_⟩
 · intro h3
   try simp only [dt] at h3
   with_reducible and_intros
   iterate 2 omega
   exact S.Kr hp _
   omega
   exact(S.uz _ h3).1
   exact(S.uz _ h3).2
   iterate 2 omega
   refine⟨(x1+nat_lit 1),?_⟩
   try dsimp only
   with_reducible and_intros
   omega
   exact S.Kq _ h3
   · simp only [S.ag,S.len,S.kh,S.jW] at *;omega
   simp only [S.ag,S.len,S.kh,S.jW] at *;omega
 intro h4
 try simp only [df] at h4
 refine⟨?_,?_⟩
 · refine⟨(nat_lit 0:Nat),?_⟩
   try dsimp only
   with_reducible and_intros
   omega
   exact S.Nq _ _
   simp only [S.ag,S.len,S.kh,S.jW] at *;omega
 intro x5 h6
 refine⟨?_,?_⟩
 · intro h7
   try simp only [dt] at h7
   with_reducible and_intros
   iterate 2 omega
   exact(S.wz hp _).1
   omega
   exact(S.uz _ h7).1
   exact(S.uz _ h7).2
   · refine⟨((nat_lit 0:Nat),((Int.toNat (↑x5:Int)),(List.set (S.cE ((0:Int),(0:Int),[]) y2 x5) (Int.toNat (↑x5:Int)) (Prod.fst (List.getD y2 (Int.toNat (↑x5:Int)) ((0:Int),(0:Int),[])),Prod.fst (Prod.snd (List.getD y2 (Int.toNat (↑x5:Int)) ((0:Int),(0:Int),[]))),[])))),?_⟩
     try dsimp only
     with_reducible and_intros
     omega
     rfl
     omega
     rfl
     exact S.agp h7
     omega
   intro x8 h9
   refine⟨?_,?_⟩
   · intro c5
     try simp only [dt,tn] at c5
     with_reducible and_intros
     omega
     trivial
     omega
     iterate 2
      · have q:=h9.1.2.2.1;have q2:=h9.1.1;have q3:=h9.2;omega
     omega
     exact(S.wz hp _).2 _
     omega
     iterate 2
      · have e:x5=x8.2.1:=(by omega);subst e;first|exact c5|exact Int.ofNat_lt.1 c5
     omega
     · have q:=(S.wz hp x5).1;exact S.Sb q c5
     refine⟨((Prod.fst x8+nat_lit 1),((Prod.fst (Prod.snd x8)),(Prod.snd (Prod.snd x8)))),?_⟩
     try dsimp only
     with_reducible and_intros
     omega
     rfl
     omega
     · have e:x5=x8.2.1:=(by omega);subst e;exact S.uc _ _ _
     · have e:x5=x8.2.1:=(by omega);subst e;exact S.Sc h9.1 c5
     omega
     have e:x5=x8.2.1:=(by omega);subst e;exact S.Sd c5
   intro fM
   try simp only [df,tn] at fM
   with_reducible and_intros
   · have q:=h9.1.2.2.1;have q2:=h9.1.1;have q3:=h9.2;omega
   iterate 2 omega
   refine⟨(x5+nat_lit 1),?_⟩
   try dsimp only
   with_reducible and_intros
   omega
   · have e:x5=x8.2.1:=(by omega);subst e;exact S.UJ h9.1
   · simp only [S.ag,S.len,S.kh,S.jW] at *;omega
   simp only [S.ag,S.len,S.kh,S.jW] at *;omega
 intro dB
 try simp only [df] at dB
 refine⟨?_,?_⟩
 · exact S.Fz _ h4
 exact S.Fz _ dB
theorem aaO(l:List (Int×Int×List (List UInt8×List Int)))(i:Int)(m:Int)(s1:Int)(s2:Int)(s3:List (List UInt8×List Int))(hp:S.xR l i m)(hf:Vg.Row.ok (Vg.PS.flat [.one (.slice [.int .i64, .int .i64, .slice [.str, .slice [.int .i64]]]), .one (.int .i64), .one (.int .i64), .agg [.int .i64, .int .i64, .slice [.str, .slice [.int .i64]]]]) (l,i,m,s1,s2,s3)):N4 l i m s1 s2 s3:=by
 delta N4 aC z0 an
 have gj:l.length≤9223372036854775807:=hf.1.1
 have art: -9223372036854775808≤i∧i≤9223372036854775807:=hf.2.1
 have aru: -9223372036854775808≤m∧m≤9223372036854775807:=hf.2.2.1
 have iY: -9223372036854775808≤s1∧s1≤9223372036854775807:=hf.2.2.2.1
 have iZ: -9223372036854775808≤s2∧s2≤9223372036854775807:=hf.2.2.2.2.1
 have tR:s3.length≤9223372036854775807:=hf.2.2.2.2.2.1.1
 clear hf
 with_reducible and_intros
 exact hp.2.1
 rfl
 · obtain⟨q1,q2,q3,q4⟩:=hp;first|omega|(simp only [List.length_append,List.length_take,List.length_drop,List.length_singleton];omega)
 exact Nat.one_pos
 iterate 6
  · obtain⟨q1,q2,q3,q4⟩:=hp;first|omega|(simp only [List.length_append,List.length_take,List.length_drop,List.length_singleton];omega)
 · unfold S.qv;rw [show(i+m).toNat=i.toNat+m.toNat by have :=hp.2;omega]
theorem aaP(y1:List (List UInt8))(y2:List (Int×Int×List (List UInt8×List Int)))(hp:True)(hf:Vg.Row.ok (Vg.PS.flat [.agg [.slice [.slice [.int .u8]], .slice [.int .i64, .int .i64, .slice [.str, .slice [.int .i64]]]]]) (y1,y2)):N5 y1 y2:=by
 unfold N5
 have kj:y1.length≤9223372036854775807:=hf.1.1
 have kl:y2.length≤9223372036854775807:=hf.2.1.1
 clear hf
 with_reducible and_intros
 iterate 2 trivial
 rfl
theorem aaQ(y1:List (List UInt8))(y2:List (Int×Int×List (List UInt8×List Int)))(d:List UInt8)(hp:True)(hf:Vg.Row.ok (Vg.PS.flat [.agg [.slice [.slice [.int .u8]], .slice [.int .i64, .int .i64, .slice [.str, .slice [.int .i64]]]], .one (.slice [.int .u8])]) (y1,y2,d)):N6 y1 y2 d:=by
 delta N6 z0 z1 an
 have kj:y1.length≤9223372036854775807:=hf.1.1
 have kl:y2.length≤9223372036854775807:=hf.2.1.1
 have FE:d.length≤9223372036854775807:=hf.2.2.1.1
 clear hf
 with_reducible and_intros
 trivial
 · intro h1
   try simp only [dt] at h1
   with_reducible and_intros
   iterate 2 (rw [S.aee h1])
   rw [S.aee h1]
 intro h2
 try simp only [df] at h2
 refine⟨?_,?_⟩
 · intro h3
   try simp only [dt] at h3
   with_reducible and_intros
   iterate 2 (rw [S.aef h2 h3])
   rw [S.aef h2 h3]
 intro h4
 try simp only [df] at h4
 with_reducible and_intros
 exact S.tM _ _
 · simp only [S.small];omega
 · have :=(S.k8 y1 y2).1;simp only [List.length_singleton];omega
 iterate 2 (rw [S.aeg h2 h4])
 rw [S.aeg h2 h4]
theorem aaR(y1:List (List UInt8))(y2:List (Int×Int×List (List UInt8×List Int)))(hp:True)(hf:Vg.Row.ok (Vg.PS.flat [.agg [.slice [.slice [.int .u8]], .slice [.int .i64, .int .i64, .slice [.str, .slice [.int .i64]]]]]) (y1,y2)):N7 y1 y2:=by
 delta N7 V6 z0
 have kj:y1.length≤9223372036854775807:=hf.1.1
 have kl:y2.length≤9223372036854775807:=hf.2.1.1
 clear hf
 with_reducible and_intros
 iterate 2 trivial
 · intro h1
   try simp only [dt] at h1
   with_reducible and_intros
   iterate 2 (rw [S.aeh h1])
   rw [S.aeh h1]
 intro h2
 try simp only [df] at h2
 refine⟨?_,?_⟩
 · intro h3
   try simp only [dt] at h3
   with_reducible and_intros
   iterate 2 (rw [S.aei h2 h3])
   rw [S.aei h2 h3]
 intro h4
 try simp only [df] at h4
 with_reducible and_intros
 trivial
 · intro h5
   try simp only [nt,df] at h5
   with_reducible and_intros
   iterate 3 (exact absurd (by rw [S.aej h2]) h5)
 intro h6
 try simp only [nf,dt] at h6
 with_reducible and_intros
 exact S.tM _ _
 · have :=(S.k8 y1 y2).2.1;simp only [List.length_singleton];omega
 iterate 2 (rw [S.aek h2 h4])
 rw [S.aek h2 h4]
theorem asJ(y1:List (List UInt8))(y2:List (Int×Int×List (List UInt8×List Int)))(i:Int)(m:Int)(hp:True)(hf:Vg.Row.ok (Vg.PS.flat [.agg [.slice [.slice [.int .u8]], .slice [.int .i64, .int .i64, .slice [.str, .slice [.int .i64]]]], .one (.int .i64), .one (.int .i64)]) (y1,y2,i,m)):aqo y1 y2 i m:=by
 delta aqo xV q97 aC z0 z1
 have kj:y1.length≤9223372036854775807:=hf.1.1
 have kl:y2.length≤9223372036854775807:=hf.2.1.1
 have art: -9223372036854775808≤i∧i≤9223372036854775807:=hf.2.2.1
 have aru: -9223372036854775808≤m∧m≤9223372036854775807:=hf.2.2.2.1
 clear hf
 with_reducible and_intros
 trivial
 · intro h1
   try simp only [dt] at h1
   trivial
 · intro h2
   try simp only [df] at h2
   refine⟨?_,?_⟩
   · intro h3
     try simp only [dt] at h3
     trivial
   intro h4
   try simp only [df] at h4
   refine⟨?_,?_⟩
   · intro h5
     try simp only [dt] at h5
     trivial
   intro h6
   try simp only [df] at h6
   refine⟨?_,?_⟩
   · have :=(S.k8 y1 y2).2.1;omega
   have :=(S.k8 y1 y2).2.1;omega
 · intro h7
   try simp only [V.pP,dt] at h7
   with_reducible and_intros
   iterate 2 (rw [S.aqb h7])
   rw [S.aqb h7]
 intro h8
 try simp only [V.gh,df] at h8
 with_reducible and_intros
 iterate 5
  · have :=(S.k8 y1 y2).2.1;omega
 exact(S.aqc h8).1
 · intro h9
   try simp only [nt,df] at h9
   with_reducible and_intros
   iterate 3 (exact absurd (by rw [(S.aqc h8).2.1]) h9)
 intro c5
 try simp only [nf,dt] at c5
 with_reducible and_intros
 exact S.tM _ _
 exact(S.aqc h8).2.2
 iterate 2 (rw [S.aqd h8])
 rw [S.aqd h8]
theorem aaS(y1:List (List UInt8))(y2:List (Int×Int×List (List UInt8×List Int)))(hp:True)(hf:Vg.Row.ok (Vg.PS.flat [.agg [.slice [.slice [.int .u8]], .slice [.int .i64, .int .i64, .slice [.str, .slice [.int .i64]]]]]) (y1,y2)):N8 y1 y2:=by
 delta N8 q98 q99 aC z0
 have kj:y1.length≤9223372036854775807:=hf.1.1
 have kl:y2.length≤9223372036854775807:=hf.2.1.1
 clear hf
 with_reducible and_intros
 trivial
 exact S.tM _ _
 · refine⟨(S.b8 (S.ao y1 y2).2),?_⟩
   try dsimp only
   refine⟨?_,?_⟩
   · exact(S.qw y1 y2).eq
   exact S.aoa _ _
 intro x1 h2
 with_reducible and_intros
 exact S.aob h2
 trivial
 · intro h3
   try simp only [nt] at h3
   refine⟨?_,?_⟩
   · rfl
   exact S.ű h2 h3
 intro h4
 try simp only [nf] at h4
 with_reducible and_intros
 iterate 5
  · have q:=S.ael h2 h4;omega
 exact(S.C5 h2 h4 rfl).1
 · intro h5
   try simp only [nt,df] at h5
   refine⟨?_,?_⟩
   · exact absurd (S.C5 h2 h4 rfl).2.1 h5
   exact absurd (S.C5 h2 h4 rfl).2.1 h5
 intro h6
 try simp only [nf,dt] at h6
 refine⟨?_,?_⟩
 · exact(S.C5 h2 h4 rfl).2.2.1
 refine⟨(S.afg x1 (S.dw (S.b8 (S.aF (S.ao y1 y2).1 x1))).1.toNat),?_⟩
 try dsimp only
 with_reducible and_intros
 exact(S.C5 h2 h4 rfl).2.2.2.1
 exact(S.C5 h2 h4 rfl).2.2.2.2.1
 exact(S.C5 h2 h4 rfl).2.2.2.2.2
theorem aaT(y1:List (List UInt8))(y2:List (Int×Int×List (List UInt8×List Int)))(hp:True)(hf:Vg.Row.ok (Vg.PS.flat [.agg [.slice [.slice [.int .u8]], .slice [.int .i64, .int .i64, .slice [.str, .slice [.int .i64]]]]]) (y1,y2)):N9 y1 y2:=by
 delta N9 V7 aC Db z0 z1
 have kj:y1.length≤9223372036854775807:=hf.1.1
 have kl:y2.length≤9223372036854775807:=hf.2.1.1
 clear hf
 with_reducible and_intros
 trivial
 iterate 2 omega
 · have :=(S.k8 y1 y2).2.1;omega
 · refine⟨(nat_lit 0:Nat),?_⟩
   try dsimp only
   with_reducible and_intros
   omega
   rfl
   omega
 intro x1 h2
 refine⟨?_,?_⟩
 · intro h3
   try simp only [dt] at h3
   with_reducible and_intros
   iterate 2 omega
   exact(S.qx y1 y2 (k:=x1) (by omega)).2
   · have :=S.xT y1 y2 x1;simp only [List.length_singleton];omega
   omega
   · have :=(S.k8 y1 y2).2.1;omega
   refine⟨(x1+nat_lit 1),?_⟩
   try dsimp only
   with_reducible and_intros
   omega
   exact S.Ks h3
   · simp only [S.gL,S.ag] at *;omega
   simp only [S.gL,S.ag] at *;omega
 intro h4
 try simp only [df] at h4
 exact S.Nr h4
theorem asR(y1:List (List UInt8))(y2:List (Int×Int×List (List UInt8×List Int)))(a1:Int)(a2:Int)(a3:Int)(a4:List UInt8)(hp:True)(hf:Vg.Row.ok (Vg.PS.flat [.agg [.slice [.slice [.int .u8]], .slice [.int .i64, .int .i64, .slice [.str, .slice [.int .i64]]]], .agg [.int .i64, .int .i64, .int .i64, .slice [.int .u8]]]) (y1,y2,a1,a2,a3,a4)):aqw y1 y2 a1 a2 a3 a4:=by
 delta aqw z0 z1
 have kj:y1.length≤9223372036854775807:=hf.1.1
 have kl:y2.length≤9223372036854775807:=hf.2.1.1
 have aiB: -9223372036854775808≤a1∧a1≤9223372036854775807:=hf.2.2.1
 have aiC: -9223372036854775808≤a2∧a2≤9223372036854775807:=hf.2.2.2.1
 have aqU: -9223372036854775808≤a3∧a3≤9223372036854775807:=hf.2.2.2.2.1
 have avb:a4.length≤9223372036854775807:=hf.2.2.2.2.2.1.1
 clear hf
 refine⟨?_,?_⟩
 · intro h1
   try simp only [dt] at h1
   with_reducible and_intros
   trivial
   iterate 3
    · (simp only [S.agi];simp only [*];rfl)
 intro h2
 try simp only [df] at h2
 refine⟨?_,?_⟩
 · intro h3
   try simp only [dt] at h3
   with_reducible and_intros
   trivial
   iterate 3
    · (simp only [S.agi];simp only [*];rfl)
 intro h4
 try simp only [df] at h4
 refine⟨?_,?_⟩
 · intro h5
   try simp only [dt] at h5
   with_reducible and_intros
   trivial
   iterate 3
    · (simp only [S.agi];simp only [*];rfl)
 intro h6
 try simp only [df] at h6
 with_reducible and_intros
 trivial
 iterate 3
  · (simp only [S.agi];simp only [*];rfl)
theorem aug(l:List (Int×Int×Int×List UInt8))(hp:True)(hf:Vg.Row.ok (Vg.PS.flat [.one (.slice [.int .i64, .int .i64, .int .i64, .slice [.int .u8]])]) l):att l:=by
 delta att V8 Nu aC z0 z1 an
 have gj:l.length≤9223372036854775807:=hf.1.1
 clear hf
 refine⟨?_,?_⟩
 · refine⟨(nat_lit 0:Nat),?_⟩
   try dsimp only
   with_reducible and_intros
   omega
   iterate 2 rfl
   exact S.av7 l
 intro x1 h2
 refine⟨?_,?_⟩
 · intro h3
   try simp only [V.Jt,dt] at h3
   with_reducible and_intros
   iterate 2 omega
   · intro h4
     try simp only [dt,tn] at h4
     with_reducible and_intros
     iterate 2 omega
     trivial
   · intro h5
     try simp only [df,tn] at h5
     trivial
   iterate 2 omega
   refine⟨(x1+nat_lit 1),?_⟩
   try dsimp only
   with_reducible and_intros
   omega
   exact S.axS.1
   exact S.axS.2
   exact S.apB h3
   simp only [S.ag,S.len,S.kh,S.gL,S.pL,S.pD] at *;omega
 intro h6
 try simp only [V.xw,df] at h6
 refine⟨?_,?_⟩
 · rw [(S.awC h2 h6).1]
 rw [(S.awC h2 h6).1]
theorem ayB(y1:Int)(y2:List UInt8)(y3:List (Int×Int×Int×List UInt8))(hp:True)(hf:Vg.Row.ok (Vg.PS.flat [.agg [.int .i64, .str, .slice [.int .i64, .int .i64, .int .i64, .str]]]) (y1,y2,y3)):avQ y1 y2 y3:=by
 delta avQ z0 an
 have kj: -9223372036854775808≤y1∧y1≤9223372036854775807:=hf.1
 have kl:y2.length≤9223372036854775807:=hf.2.1
 have axX:y3.length≤9223372036854775807:=hf.2.2.1.1
 clear hf
 with_reducible and_intros
 · intro h1
   try simp only [dt] at h1
   refine⟨?_,?_⟩
   · intro h2
     try simp only [dt] at h2
     refine⟨?_,?_⟩
     · intro h3
       try simp only [dt] at h3
       trivial
     intro h4
     try simp only [df] at h4
     trivial
   intro h5
   try simp only [df] at h5
   trivial
 · intro h6
   try simp only [df] at h6
   trivial
 exact S.awF _ _ _
theorem ayC(y1:List (List UInt8))(y2:List (Int×Int×List (List UInt8×List Int)))(hp:True)(hf:Vg.Row.ok (Vg.PS.flat [.agg [.slice [.slice [.int .u8]], .slice [.int .i64, .int .i64, .slice [.str, .slice [.int .i64]]]]]) (y1,y2)):avR y1 y2:=by
 delta avR z0 an
 have kj:y1.length≤9223372036854775807:=hf.1.1
 have kl:y2.length≤9223372036854775807:=hf.2.1.1
 clear hf
 with_reducible and_intros
 trivial
 · intro h1
   try simp only [nt] at h1
   trivial
 · intro h2
   try simp only [nf] at h2
   trivial
 · intro h3
   try simp only [V.pP,nt,df] at h3
   with_reducible and_intros
   iterate 3 (rw [S.asp h3])
   rw [S.asp h3]
 intro h4
 try simp only [V.gh,nf,dt] at h4
 with_reducible and_intros
 exact(S.auJ h4.1).1
 exact(S.auJ h4.1).2
 · intro h5
   try simp only [nt,df] at h5
   with_reducible and_intros
   iterate 4 (exact absurd (S.awe y1).1 h5)
 intro h6
 try simp only [nf,dt] at h6
 with_reducible and_intros
 trivial
 rw [S.ar4 h4]
 rw [S.ar4 h4,(S.awe y1).2]
 rw [S.ar4 h4]
 rw [S.ar4 h4]
theorem ayD(v:Int)(q:Int)(hp:S.rj v=false∧q=0)(hf:Vg.Row.ok (Vg.TA.eI [.iP (.int .i64), .ref 50000 0, .ref 50001 0]) v)(hg:Vg.fJ.ok [.cells [.iP (.int .i64)], .cells [.nil]] (q,((),()))):avT v q:=by
 delta avT z0
 have aex: -9223372036854775808≤v∧v≤9223372036854775807:=hf.1
 have aCl: -9223372036854775808≤q∧q≤9223372036854775807:=hg.1.1
 clear hf hg
 refine⟨?_,?_⟩
 · intro h1
   try simp only [dt] at h1
   with_reducible and_intros
   trivial
   exact(S.ayO hp.1 []).1
   exact(S.ayO hp.1 []).2
 intro h2
 try simp only [df] at h2
 refine⟨?_,?_⟩
 · omega
 omega
theorem ayE(v:Int)(q:Int)(l:List UInt8)(hp:S.rj v=false∧q=0∧l.length≤35184372088832)(hf:Vg.Row.ok (Vg.TA.eI [.iP (.int .i64), .ref 50000 0, .ref 50001 0]) v)(hg:Vg.fJ.ok [.cells [.iP (.int .i64)], .cells [.own 50002], .row 5 [.int .u8]] (q,((),(l,())))):avU v q l:=by
 delta avU z0
 have aex: -9223372036854775808≤v∧v≤9223372036854775807:=hf.1
 have aCl: -9223372036854775808≤q∧q≤9223372036854775807:=hg.1.1
 have gj:l.length≤9223372036854775807:=hg.2.2.1.1
 clear hf hg
 refine⟨?_,?_⟩
 · intro h1
   try simp only [dt] at h1
   with_reducible and_intros
   omega
   exact(S.ayO hp.1 l).1
   exact(S.ayO hp.1 l).2
 intro h2
 try simp only [df] at h2
 refine⟨?_,?_⟩
 · omega
 omega
theorem ayF(d:List UInt8)(l:List UInt8)(hp:l.length≤35184372088832∧d.length≤35184372088832)(hf:Vg.Row.ok (Vg.TA.eI [.iP (.str), .ref 50000 0]) d)(hg:Vg.fJ.ok [.cells [.own 50001], .row 5 [.int .u8]] ((),(l,()))):avV d l:=by
 delta avV eS
 have FE:d.length≤9223372036854775807:=hf.1
 have gj:l.length≤9223372036854775807:=hg.2.1.1
 clear hf hg
 refine⟨?_,?_⟩
 · omega
 rfl
theorem ayG(y1:Int)(y2:List UInt8)(y3:List (Int×Int×Int×List UInt8))(hp:True)(hf:Vg.Row.ok (Vg.PS.flat [.agg [.int .i64, .str, .slice [.int .i64, .int .i64, .int .i64, .str]]]) (y1,y2,y3)):avZ y1 y2 y3:=by
 delta avZ tO aC z0 z1 an
 have kj: -9223372036854775808≤y1∧y1≤9223372036854775807:=hf.1
 have kl:y2.length≤9223372036854775807:=hf.2.1
 have axX:y3.length≤9223372036854775807:=hf.2.2.1.1
 clear hf
 with_reducible and_intros
 trivial
 · intro h1
   try simp only [nt] at h1
   refine⟨?_,?_⟩
   · rw [S.auK h1]
   rw [S.auK h1]
 intro h2
 try simp only [nf] at h2
 with_reducible and_intros
 · have q:=S.afr.1 h2;exact S.ar5 (by omega) (by omega)
 rfl
 · have :=S.jQ y1;omega
 · have q:=(S.afr.1 h2).2.2.1;omega
 · have q:=(S.agb (S.afr.1 h2).2.2.2).1;exact S.ar5 (by omega) (by omega)
 rfl
 · have :=S.jQ y1;have q:=(S.afr.1 h2).2.2.1;rw [List.length_append];omega
 · refine⟨(nat_lit 0:Nat),?_⟩
   try dsimp only
   with_reducible and_intros
   omega
   exact S.ayP _ _ _
   rfl
   exact⟨h2,Nat.zero_le _⟩
 intro x3 h4
 refine⟨?_,?_⟩
 · intro h5
   try simp only [dt] at h5
   with_reducible and_intros
   iterate 2 omega
   exact(S.ax0 h4 h5).1
   rfl
   · have :=S.asr h4;omega
   exact(S.ax0 h4 h5).2.1
   rfl
   · have q:=S.asr h4;have q2:=S.jQ (y3.getD (Int.toNat (x3:Int)) (0,0,0,[])).2.1;simp only [List.length_append];omega
   · have q:=S.asr h4;have q2:=S.jQ (y3.getD (Int.toNat (x3:Int)) (0,0,0,[])).2.1;have q3:=S.jQ (y3.getD (Int.toNat (x3:Int)) (0,0,0,[])).2.2.1;simp only [List.length_append];omega
   exact Nat.le_trans (Nat.le_of_eq (S.ax0 h4 h5).2.2) (by decide)
   iterate 2 omega
   refine⟨(x3+nat_lit 1),?_⟩
   try dsimp only
   with_reducible and_intros
   omega
   exact S.awf h5
   rfl
   exact⟨h4.1,by omega⟩
   simp only [S.ag,S.len];omega
 intro h6
 try simp only [df] at h6
 refine⟨?_,?_⟩
 · intro h7
   try simp only [nt,df] at h7
   refine⟨?_,?_⟩
   · trivial
   trivial
 intro h8
 try simp only [nf,dt] at h8
 refine⟨?_,?_⟩
 · rw [S.ag0 h2]
 rw [S.ag0 h2];exact S.ass h6
theorem ayH(r1:List UInt8)(r2:Int)(r3:Int)(hp:r1.length≤140737488355328)(hf:Vg.Row.ok (Vg.TA.eI [.ref 50000 0]) ())(hg:Vg.fJ.ok [.cells [.iP (.slice [.int .u8]), .iP (.int .i64), .iP (.int .i64)]] ((r1,r2,r3),())):av0 r1 r2 r3:=by
 delta av0 eS
 have at3:r1.length≤9223372036854775807:=hg.1.1.1
 have at4: -9223372036854775808≤r2∧r2≤9223372036854775807:=hg.1.2.1
 have at6: -9223372036854775808≤r3∧r3≤9223372036854775807:=hg.1.2.2.1
 clear hf hg
 with_reducible and_intros
 omega
 rfl
 exact(S.awE _ _ _).1
 iterate 2 rfl
theorem ayI(r1:List UInt8)(r2:Int)(r3:Int)(hp:r1.length≤140737488355328)(hf:Vg.Row.ok (Vg.TA.eI [.ref 50000 0]) ())(hg:Vg.fJ.ok [.cells [.iP (.slice [.int .u8]), .iP (.int .i64), .iP (.int .i64)]] ((r1,r2,r3),())):av1 r1 r2 r3:=by
 delta av1 eS
 have at3:r1.length≤9223372036854775807:=hg.1.1.1
 have at4: -9223372036854775808≤r2∧r2≤9223372036854775807:=hg.1.2.1
 have at6: -9223372036854775808≤r3∧r3≤9223372036854775807:=hg.1.2.2.1
 clear hf hg
 with_reducible and_intros
 omega
 rfl
 exact(S.awE _ _ _).2
 iterate 2 rfl
theorem ayJ(a:Int)(r1:List UInt8)(r2:Int)(r3:Int)(hp:r1.length≤140737488355328)(hf:Vg.Row.ok (Vg.TA.eI [.ref 50000 0, .ref 50001 0, .ref 50002 0]) ())(hg:Vg.fJ.ok [.cells [.iP (.int .i64)], .cells [.fn (.func 73) [] [.ref 50003 0]], .cells [.fn (.func 75) [] [.ref 50003 0]], .cells [.iP (.slice [.int .u8]), .iP (.int .i64), .iP (.int .i64)]] (a,((),((),((r1,r2,r3),()))))):av3 a r1 r2 r3:=by
 delta av3 We Wf eS
 have ya: -9223372036854775808≤a∧a≤9223372036854775807:=hg.1.1
 have at3:r1.length≤9223372036854775807:=hg.2.2.2.1.1.1
 have at4: -9223372036854775808≤r2∧r2≤9223372036854775807:=hg.2.2.2.1.2.1
 have at6: -9223372036854775808≤r3∧r3≤9223372036854775807:=hg.2.2.2.1.2.2.1
 clear hf hg
 with_reducible and_intros
 iterate 3 omega
 iterate 10 rfl
theorem ayZ(b:List UInt8)(hp:b.length≤140737488355328)(hf:Vg.Row.ok (Vg.PS.flat [.one (.slice [.int .u8])]) b):av6 b:=by
 delta av6 Wh Wj Wn FA aC eS z0 z1
 have eF:b.length≤9223372036854775807:=hf.1.1
 clear hf
 with_reducible and_intros
 iterate 3 omega
 · intro h1
   try simp only [dt] at h1
   with_reducible and_intros
   iterate 3 (rw [S.awd h1])
   rw [S.awd h1]
 intro h2
 try simp only [df] at h2
 refine⟨?_,?_⟩
 · refine⟨(nat_lit 0:Nat),?_⟩
   try dsimp only
   with_reducible and_intros
   omega
   iterate 9 rfl
   omega
   exact Int.not_lt.1 h2
 intro x3 h4
 refine⟨?_,?_⟩
 · intro h5
   try simp only [dt] at h5
   with_reducible and_intros
   omega
   · have q:=S.ax3 b x3;have q2:=h4.2;have q3:(x3:Int)<(S.pHd b).1.2.2:=h5;simp only [List.length_singleton];omega
   omega
   · have q2:=h4.2;have q3:(x3:Int)<(S.pHd b).1.2.2:=h5;omega
   refine⟨(x3+nat_lit 1),?_⟩
   try dsimp only
   with_reducible and_intros
   omega
   iterate 9 rfl
   exact S.ax2 h5
   omega
   have q:=S.ax2 h5;simp only [S.ag];omega
 intro h6
 try simp only [df] at h6
 with_reducible and_intros
 trivial
 · intro h7
   try simp only [nt,df] at h7
   with_reducible and_intros
   iterate 3 (rw [S.ayQ h2 h4.1 h6 h7])
   rw [S.ayQ h2 h4.1 h6 h7]
 intro h8
 try simp only [nf,dt] at h8
 with_reducible and_intros
 trivial
 · intro h9
   try simp only [nt] at h9
   with_reducible and_intros
   iterate 3 (rw [S.ayR h2 h4.1 h6 h8 h9])
   rw [S.ayR h2 h4.1 h6 h8 h9]
 intro c5
 try simp only [nf] at c5
 with_reducible and_intros
 iterate 3 (rw [S.ayS h2 h4.1 h6 h8 c5])
 rw [S.ayS h2 h4.1 h6 h8 c5]
theorem ay3(hp:True)(hf:Vg.Row.ok (Vg.PS.flat []) ()):awl:=by
 delta awl Wo pw Wp eS z0
 clear hf
 with_reducible and_intros
 iterate 2 trivial
 · simp only [Vg.cq,S.ax6,S.awj,S.awi,List.length_append,lc,ln];decide
 trivial
 · intro h1
   try simp only [dt] at h1
   with_reducible and_intros
   exact Nat.zero_le _
   iterate 2
    · simp only [Vg.cq,S.awi,List.length_append,lc,ln];decide
   · intro h2
     try simp only [dt] at h2
     refine⟨?_,?_⟩
     · intro h3
       try simp only [dt] at h3
       refine⟨?_,?_⟩
       · intro h4
         try simp only [dt] at h4
         refine⟨?_,?_⟩
         · intro h5
           try simp only [dt] at h5
           refine⟨?_,?_⟩
           · intro h6
             try simp only [dt] at h6
             trivial
           intro h7
           try simp only [df] at h7
           trivial
         intro h8
         try simp only [df] at h8
         trivial
       intro h9
       try simp only [df] at h9
       trivial
     intro c5
     try simp only [df] at c5
     trivial
   intro fM
   try simp only [df] at fM
   trivial
 · intro dB
   try simp only [df] at dB
   trivial
 simp only [Vg.cq,S.ax6,S.awj];have e:=S.ayX;have e2:=S.ayY;have e3:=S.ar9;simp only [decide_true,cond_true];simp only [List.append_assoc] at e;simp_all
theorem aA2(l:List (Int×Int×Int×List UInt8))(d:List UInt8)(hp:True)(hf:Vg.Row.ok (Vg.PS.flat [.one (.slice [.int .i64, .int .i64, .int .i64, .slice [.int .u8]]), .one (.slice [.int .u8])]) (l,d)):aAK l d:=by
 delta aAK Wq NO tP FB FC mU tQ vu aC z0 z1 an
 have gj:l.length≤9223372036854775807:=hf.1.1
 have FE:d.length≤9223372036854775807:=hf.2.1.1
 clear hf
 with_reducible and_intros
 iterate 3 trivial
 · intro h1
   try simp only [V.pP,dt] at h1
   refine⟨?_,?_⟩
   · trivial
   rfl
 intro h2
 try simp only [V.gh,df] at h2
 with_reducible and_intros
 iterate 3 trivial
 · intro h3
   try simp only [nt,df] at h3
   trivial
 · intro h4
   try simp only [nf,dt] at h4
   refine⟨?_,?_⟩
   · intro h5
     try simp only [nt,df] at h5
     trivial
   intro h6
   try simp only [nf,dt] at h6
   refine⟨?_,?_⟩
   · intro h7
     try simp only [nt,df] at h7
     trivial
   intro h8
   try simp only [nf,dt] at h8
   refine⟨?_,?_⟩
   · intro h9
     try simp only [nt,df] at h9
     trivial
   intro c5
   try simp only [nf,dt] at c5
   with_reducible and_intros
   iterate 2
    · obtain⟨g1,g2,s,r,g3,g4⟩:=S.grow l h2.1 rfl;have q:=S.ana l;have q2:=S.Ij (S.aea l).1 (S.cU (S.aea l).1 (S.aea l).2).1.2;simp only [(S.pf l).1,g1,g2,g3,g4] at *;omega
   · intro fM
     try simp only [nt,df] at fM
     trivial
   intro dB
   try simp only [nf,dt] at dB
   refine⟨?_,?_⟩
   · obtain⟨g1,g2,s,r,g3,g4⟩:=S.grow l h2.1 rfl;have q:=S.ana l;have q2:=S.Ij (S.aea l).1 (S.cU (S.aea l).1 (S.aea l).2).1.2;simp only [(S.pf l).1,g1,g2,g3,g4] at *;omega
   obtain⟨g1,g2,s,r,g3,g4⟩:=S.grow l h2.1 rfl;have q:=S.ana l;have q2:=S.Ij (S.aea l).1 (S.cU (S.aea l).1 (S.aea l).2).1.2;simp only [(S.pf l).1,g1,g2,g3,g4] at *;omega
 · intro kA
   try simp only [V.pP,nt,df] at kA
   obtain⟨g1,g2,s,r,g3,g4⟩:=S.grow l h2.1 rfl;simp [(S.pf l).1,g1,g2,g3,g4] at kA
 intro eX
 try simp only [V.gh,nf,dt] at eX
 refine⟨?_,?_⟩
 · refine⟨(nat_lit 0:Nat),?_⟩
   try dsimp only
   refine⟨?_,?_⟩
   · omega
   exact Nat.zero_le _
 intro x15 EC
 refine⟨?_,?_⟩
 · intro Kx
   try simp only [dt] at Kx
   with_reducible and_intros
   omega
   · obtain⟨g1,g2,s,r,g3,g4⟩:=S.grow l h2.1 rfl;simp only [(S.pf l).1,g1,g2,g3,g4,List.length_append,List.length_singleton] at *;omega
   omega
   exact Kx
   · intro y7
     try simp only [nt] at y7
     obtain⟨g1,g2,s,r,g3,g4⟩:=S.grow l h2.1 rfl;have q:=of_decide_eq_false ((S.awG _ _).symm.trans y7);simp only [(S.pf l).1,g1,g2,g3,g4] at q Kx;exact absurd (S.awP (by omega)) q
   intro Ky
   try simp only [nf] at Ky
   with_reducible and_intros
   omega
   · have q2:=S.Ij (S.cU (S.aea l).1 (S.aea l).2).1.1 (S.cU (S.aea l).1 (S.aea l).2).1.2;have q3:x15≤S.fL l:=EC;simp only [S.fL] at q3;omega
   refine⟨(x15+nat_lit 1),?_⟩
   try dsimp only
   with_reducible and_intros
   omega
   · obtain⟨g1,_⟩:=S.grow l h2.1 rfl;simp only [(S.pf l).1,g1] at Kx;simp only [S.axZ,S.fL,(S.pf l).1];omega
   obtain⟨g1,_⟩:=S.grow l h2.1 rfl;simp only [(S.pf l).1,g1] at Kx;simp only [S.ag,S.fL,(S.pf l).1];omega
 intro Sl
 try simp only [df] at Sl
 refine⟨?_,?_⟩
 · trivial
 rfl
end Go

end
