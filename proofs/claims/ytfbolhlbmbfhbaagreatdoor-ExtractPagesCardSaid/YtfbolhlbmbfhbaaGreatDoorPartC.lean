import Derived.Test.YtfbolhlbmbfhbaaGreatDoorPartB
import Derived.WalkKit
import Derived.ProofKit
import Derived.OpenShut
import Derived.SizedLaws
set_option linter.unusedVariables false
set_option linter.unusedSimpArgs false
set_option linter.unusedSectionVars false
set_option linter.defProp false
namespace Go.Vg
open Go
variable [HP]
inductive PS where
 |one (t:Ty)
 |agg (ts:List Ty)
 |var (ts:List Ty)
@[reducible] def PS.flat:M PS->M Ty
  |[]=>[]
  |.one t::ps=>t::PS.flat ps
  |.agg ts::ps|.var ts::ps=>ts++PS.flat ps
def PS.cells:M PS->M AV->Option (M AV)
 |[],[]=>some []
 |.one _::ps,a::as_=>match PS.cells ps as_ with
   |some l=>some (a::l)
   |none=>none
 |.agg ts::ps,.agg cs::as_=>bif Nat.beq cs.length ts.length then match PS.cells ps as_ with
   |some l=>some (cs++l)
   |none=>none
   else none
 |.var ts::ps,.cz Hq x 0::as_=>match fG Hq ts [x],PS.cells ps as_ with
   |some (y::_),some l=>some (ay ts y++l)
   |_,_=>none
 |_,_=>none
def zv(ts:M Ty)(cs:M AV):AV:=match kZ ts cs with
 |some x=>.cz ts x 0
 |none=>.cM
def PS.group:M PS->M AV->M AV
 |[],_=>[]
 |.one _::ps,cs=>cs.headD .cM::PS.group ps cs.tail
 |.agg ts::ps,cs=>.agg (cs.take ts.length)::PS.group ps (cs.drop ts.length)
 |.var ts::ps,cs=>zv ts (cs.take ts.length)::PS.group ps (cs.drop ts.length)
def Jo(ps:M PS)(bj:M AV):Option (Row (PS.flat ps)):=match PS.cells ps bj with
 |some cs=>kZ (PS.flat ps) cs
 |none=>none
def rC(ps:M PS)(x:Row (PS.flat ps)):M AV:=PS.group ps (ay (PS.flat ps) x)
def fg(ps:M PS)(f:Row (PS.flat ps)->Prop×AV×M AB):Ub:=λbj=>match Jo ps bj with
 |some x=>some (f x)
 |none=>none
def rD(ps:M PS)(μ:Row (PS.flat ps)->Nat)(m:Nat)(f:Row (PS.flat ps)->Prop×AV×M AB):Ub:=
 fg ps λx=>(μ x<m/\(f x).1,(f x).2)
variable {A:Nat->Prop}{w:World}{β:Nat->Value}{E:Env}{P:Program}{c:Code}{T:bX}{H:Type}{held:Bool}{sp:Nat->Bool}{enc:TypeId×Value->H}
theorem lh:∀(as_ bs:M AV) (vs:M Value),ae w A β vs (as_++bs)->∃us ws,vs=us++ws/\ae w A β us as_/\ae w A β ws bs
 |[],bs,vs,h=>⟨[],vs,rfl,by rfl,h⟩
 |a::as_,bs,vs,h=>by
  obtain⟨v,bY,rfl,h1,h2⟩:=h;obtain⟨us,ws,rfl,h3,h4⟩:=lh as_ bs bY h2;exact⟨v::us,ws,rfl,by exact⟨v,us,rfl,h1,h3⟩,h4⟩
theorem wH(as_:M AV)(vs:M Value)(h:ae w A β vs as_):vs.length=as_.length:=(dM as_ vs h).symm▸rfl
def tW:∀(ps:M PS) (bj cs:M AV) (args:M Value),PS.cells ps bj=some cs->ae w A β args bj->
  cs.length=(PS.flat ps).length/\∃vs,ae w A β vs cs/\∀gk,gk.length=cs.length->ae w A β vs gk->ae w A β args (PS.group ps gk)
 |[],[],cs,args,h,hr=>by
   simp only[PS.cells,Option.some.injEq] at h;subst h;exact⟨rfl,[],by rfl,λgk _ _=>by grind[PS.group]⟩
 |.one t::ps,a::as_,cs,args,h,hr=>by
   simp only[PS.cells] at h;split at h
   . rename_i l hl;simp only[Option.some.injEq] at h;subst h;simp only[ae] at hr;obtain⟨v,Jp,rfl,h1,h2⟩:=hr;obtain⟨g1,vs,g2,g3⟩:=tW ps as_ l Jp hl h2;refine⟨x!,v::vs,by simp only[ae];grind,λgk la qe=>?_⟩;cases gk with
     |nil=>grind
     |cons c gk=>
      simp only[ae] at qe;obtain⟨v',bY,e,r1,r2⟩:=qe;simp only[List.cons.injEq] at e;obtain⟨rfl,rfl⟩:=e;simp only[PS.group,List.headD,List.tail,ae];grind
   grind
 |.agg ts::ps,a::as_,cs,args,h,hr=>by
   cases a with
   |agg GZ=>
    simp only[PS.cells] at h;cases hb:Nat.beq GZ.length ts.length with
    |false=>grind
    |true=>
     rw[hb] at h;have hlen:=Nat.eq_of_beq_eq_true hb;simp only[cond_true] at h;split at h;rename_i l hl;simp only[Option.some.injEq] at h;subst h;simp only[ae] at hr;obtain⟨v,Jp,rfl,h1,h2⟩:=hr;simp only[aa] at h1;obtain⟨arr,rfl,h1⟩:=h1;obtain⟨g1,vs,g2,g3⟩:=tW ps as_ l Jp hl h2;refine⟨x!,arr.toList++vs,gp _ _ _ _ h1 g2,λgk la qe=>?_⟩;grind[lh,List.take_append_drop,wH,List.append_inj,PS.group,ae,aa];grind
   |_=>grind[PS.cells]
 |.var ts::ps,a::as_,cs,args,h,hr=>by
   obtain⟨v,Jp,rfl,h1,h2⟩:=hr;unfold PS.cells at h;split at h;rename_i e1 _;cases e1;rename_i e1 _;cases e1;rename_i e1 _;cases e1;rename_i ts0 ps0 Hq x as0 e1 e2;simp only[List.cons.injEq,PS.var.injEq] at e1 e2;obtain⟨e1,e3⟩:=e1;obtain⟨e2,e4⟩:=e2;subst e1 e2 e3 e4;split at h;rename_i y r l hy hl;simp only[Option.some.injEq] at h;subst h;obtain⟨b,o,GZ,g0,gA,gr,gd⟩:=h1;obtain⟨e,he⟩:=jm hy;subst e;simp only[List.cons.injEq] at he;obtain⟨rfl,he2⟩:=he;subst he2;obtain⟨g1,vs,g2,g3⟩:=tW ps as_ l Jp hl h2;refine⟨by simp[fo,g1,PS.flat],GZ++vs,gp _ _ _ _ (ia _ _ _ gd) g2,λgk la qe=>?_⟩
   have hlen:GZ.length=Hq.length:=by
    have:=wH _ _ (ia (β:=β) _ _ _ gd);rw[this,fo]
   rw[<-R? Hq.length gk] at qe;obtain⟨us,ws,e,q1,q2⟩:=lh _ _ _ qe
   have gf:(gk.take Hq.length).length=Hq.length:=by
    rw[Y!,la,H!,fo];omega
   have:=wH _ _ q1;obtain⟨rfl,rfl⟩:=List.append_inj e w!;refine⟨v,Jp,rfl,?_,g3 _ (by rw[List.length_drop,la,List.length_append,fo];omega) q2⟩;unfold zv;split;rename_i x hx;exact⟨b,o,GZ,g0,gA,gr,ng _ _ _ _ q1 hx⟩;trivial;cases h;cases h
 |.var _::_,[],cs,args,h,_|[],_::_,cs,args,h,_|.one _::_,[],cs,args,h,_|.agg _::_,[],cs,args,h,_=>by grind[PS.cells]
def uY(ps:M PS){bj:M AV}{args:M Value}{x:Row (PS.flat ps)}(h:Jo ps bj=some x)(hr:ae w A β args bj):
  ae w A β args (rC ps x)/\Row.ok (PS.flat ps) x:=by
 unfold Jo at h;split at h;rename_i cs ep;obtain⟨g1,vs,g2,g3⟩:=tW ps bj cs args ep hr;have hv:=ng _ _ _ _ g2 h;exact⟨g3 _ (by rw[fo,g1]) (ia _ _ _ hv),HC _ _ _ hv⟩;grind
def HD(hE:aW P E)(hm:P.follows .mixedOrders=true){f:FuncId}{fn:Func}(ps:M PS){F:Row (PS.flat ps)->Prop×AV×M AB}
  (L:Row (PS.flat ps)->Nat->Option bM) (hf:P.funcs[f]? =some fn) (hb:fn.body=some c)
  (h:∀x,(F x).1->Row.ok (PS.flat ps) x->K5 E (L x) c fn.ntmps fn.results.toList (rC ps x) (F x).2.1 (F x).2.2):Valid P E.jY f (fg ps F):=by
 intro w A β args bj pre res bs hA hG bm hs hp;unfold fg at hs;split at hs;rename_i x hx;obtain⟨g1,g2⟩:=uY ps hx bm
 have hv:Valid P E.jY f (λSD=>open Classical in if SD=rC ps x then some (F x) else none):=by
  refine U4 hE hm (λ_=>L x) hf hb λSD aJ0 aBL bs' iJ zw=>?_;grind
 exact hv w A β args (rC ps x) pre res bs hA hG g1 x! hp;grind
def Ď {G:Nat->Option GD}{f:FuncId}(ps:M PS)(μ:Row (PS.flat ps)->Nat){F:Row (PS.flat ps)->Prop×AV×M AB}
  (h:∀m,Valid P G f (rD ps μ m F)->Valid P G f (rD ps μ (m+1) F)):Valid P G f (fg ps F):=by
 have lI:∀m,Valid P G f (rD ps μ m F):=by
  intro m;induction m with
  |zero=>
   intro w A β args bj pre res bs hA hG bm hs hp;unfold rD fg at hs;grind
  |succ m ih=>grind
 intro w A β args bj pre res bs hA hG bm hs hp;unfold fg at hs;split at hs;rename_i x hx;refine lI (μ x+1) w A β args bj (μ x<μ x+1/\pre) res bs hA hG bm ?_ ⟨Nat.lt_succ_self _,hp⟩;simp_all[rD,fg]
 grind
theorem du.of {f:FuncId} {fn:Func}(hf:P.funcs[f]? =some fn)(hb:fn.body=some c)(hn:(fn.name== "runtime.NumGoroutine")=false):du P f:=by
 intro args w;simp_all[callFunc,Sem.run_bind,Result.andThen_ok,Option.isNone_some]
def Env.cons(f:Nat)(s:Ub)(E:Env):Env:={E with sig:=λg=>bif Nat.beq g f then some s else E.sig g}
theorem aW.cons(hE:aW P E){f:FuncId}{s:Ub}(h:Valid P E.jY f s)(hf:du P f):aW P (E.cons f s):=by
 refine⟨hE.eY,λg t hg=>?_,hE.qW,hE.hp,hE.cg⟩;simp[Env.cons] at hg;cases hb:Nat.beq g f with
 |true=>
  rw[hb] at hg;simp at hg;have:=D! hb;subst this;subst hg;exact⟨h,hf⟩
 |false=>
  rw[hb] at hg;exact hE.sig g t hg
theorem aW.none(G:Nat->Option GD)(hT:bz T P)(hP:∀Q,HP.is Q↔Q=P:=by exact λ_=>Iff.rfl):aW P {T:=T,sig:=λ_=>none,jY:=G}:=⟨hT,nofun,nofun,hP,nofun⟩
def HE(T:bX)(off:Nat):M Field->Bool
 |[]=>true
 |f::fs=>Nat.beq f.offset off&&(match T.find f.type with
  |some te=>HE T (off+te.size) fs
  |none=>false)
def Yr(T:bX):M Field->Nat
 |[]=>0
 |f::fs=>(match T.find f.type with
  |some te=>te.size
  |none=>0)+Yr T fs
def zx(T:bX):Nat->TypeId->Bool
 |0,_=>false
 |n+1,t=>match T.find t with
  |none=>false
  |some te=>match te.desc with
   |.slice e=>zx T n e&&(match T.find e with
     |some ee=>Nat.blt 0 ee.size
     |none=>false)
   |.struct fs=>HE T 0 fs.toList&&Nat.beq te.size (Yr T fs.toList)&&fs.toList.all (λf=>zx T n f.type)
   |.array k e=>zx T n e&&(match T.find e with
     |some ee=>Nat.beq te.size (k*ee.size)
     |none=>false)
   |_=>true
theorem bz.cells(hT:bz T P){t:TypeId}{te:TE}(h:T.find t=some te):P.cellsOf t=te.size:=by
 obtain⟨_,i,h1,h2,_⟩:=hT.ok t te h;grind[Program.cellsOf]
def uZ:∀(r1 r2:M Ty) (c1 c2:M Value) (x:Row r1) (y:Row r2),bw w A r1 c1 x->bw w A r2 c2 y->∃z:Row (r1++r2),bw w A (r1++r2) (c1++c2) z
 |[],r2,c1,c2,x,y,h1,h2=>by
   grind[bw]
 |t::ts,r2,c1,c2,x,y,h1,h2=>by
  obtain⟨v,vs,rfl,g1,g2⟩:=h1;obtain⟨z,hz⟩:=uZ ts r2 vs c2 _ y g2 h2;refine⟨Row.mk (Row.hd x) z,?_⟩;show bw w A (t::(ts++r2)) (v::(vs++c2)) (Row.mk (Row.hd x) z);grind[bw,xk,Bt]
def SE {row:M Ty}{sz:Nat}{a:Addr}(dH:0<sz):∀(k:Nat),(∀i,i<k->∃gk r,gk.length=sz/\(∀j,j<sz->w.cell? ((a.add (i*sz)).add j)=gk[j]?)/\bw w A row gk r)->
  ∃(l:M (Row row)) (cs:M Value),l.length=k/\cs.length=k*sz/\dn (bw w A row) cs l/\(∀j,j<k*sz->w.cell? (a.add j)=cs[j]?)
 |0,_=>⟨[],[],rfl,z!,by rfl,λj hj=>by omega⟩
 |k+1,h=>by
  obtain⟨l,cs,h1,h2,h3,h4⟩:=SE dH k λi hi=>h i w!;obtain⟨gk,r,g1,g2,g3⟩:=h k w!;refine⟨l++[r],cs++gk,x!,x!,jd l [r] cs gk h3 ⟨gk,[],z!,g3,by rfl⟩,λj hj=>?_⟩;grind[List.getElem?_append_right,Addr.add]
def Ox(hT:bz T P){n m:Nat}(cs:M Value)
  (ih:∀t row (cs:M Value) x,rowOf T n t=some row->zx T n t=true->DataW.trod enc P w 0 sp held m t cs=some x->∃r:Row row,bw w A row cs r):
  ∀(fs:M Field) (off:Nat) (row:M Ty),fs.foldr (λf acc=>Eg (rowOf T n f.type) acc) (some [])=some row->HE T off fs=true->(fs.all λf=>zx T n f.type)=true->
   (∀f∈fs,∃x,DataW.trod enc P w 0 sp held m f.type ((cs.drop f.offset).take (P.cellsOf f.type))=some x)->cs.length=off+Yr T fs->
   ∃r:Row row,bw w A row (cs.drop off) r
 |[],off,row,hr,_,_,_,hl=>by
   simp at hr;subst hr;simp_all[bw,Yr,a?]
 |f::fs,off,row,hr,hf,ha,hx,hl=>by
  simp at hr;generalize aDM:fs.foldr (λf acc=>Eg (rowOf T n f.type) acc) (some [])=rest at hr;unfold Eg at hr;split at hr;rename_i r1 r2 h1;simp at hr;subst hr;simp only[HE,Bool.and_eq_true] at hf;obtain⟨ď,Đ⟩:=hf;have ho:=Nat.eq_of_beq_eq_true ď;simp only[List.all_cons,Bool.and_eq_true] at ha;split at Đ;rename_i te iO;have hc:=hT.cells iO;obtain⟨x,Rn⟩:=hx f (List.mem_cons_self ..);obtain⟨y,hy⟩:=ih _ _ _ _ h1 ha.1 Rn;simp only[Yr,iO] at hl;obtain⟨z,hz⟩:=Ox hT cs ih fs (off+te.size) r2 aDM Đ ha.2 (λg hg=>hx g (List.mem_cons_of_mem _ hg)) w!;obtain⟨u,hu⟩:=uZ _ _ _ _ _ _ hy hz;grind[List.drop_drop,List.take_append_drop];grind;grind
def SF {r:M Ty}(cs:M Value)(sz:Nat):∀(k off:Nat),(∀i,i<k->∃x:Row r,bw w A r ((cs.drop (off+i*sz)).take sz) x)->cs.length=off+k*sz->
  ∃x:Row ((List.replicate k r).flatten),bw w A ((List.replicate k r).flatten) (cs.drop off) x
 |0,off,_,hl=>⟨(),by
  grind[bw,List.drop_eq_nil_of_le]⟩
 |k+1,off,h,hl=>by
  obtain⟨x,hx⟩:=h 0 w!
  obtain⟨y,hy⟩:=SF cs sz k (off+sz) (λi hi=>by
   obtain⟨z,hz⟩:=h (i+1) w!;refine⟨z,?_⟩;grind) x!
  obtain⟨u,hu⟩:=uZ _ _ _ _ _ _ hx hy;grind[List.drop_drop,List.take_append_drop]
def sI {t:Ty}{v:Value}{x:D t}(h:Rd w A t v x):bw w A [t] [v] (Row.mk x ()):=by
 grind[bw,xk]
def Dx(hT:bz T P)(hA:∀b,b<w.heap.size->A b):∀(n m:Nat) (t:TypeId) (row:M Ty) (cs:M Value) (x:DataW H×M MemPlace),rowOf T n t=some row->zx T n t=true->
  DataW.trod enc P w 0 sp held m t cs=some x->∃r:Row row,bw w A row cs r
 |0,m,t,row,cs,x,hr,_,_=>by grind[rowOf]
 |n+1,m,t,row,cs,x,hr,hf,h=>by
  unfold rowOf at hr;unfold zx at hf;split at hr;grind
  . rename_i te iO;rw[iO] at hf;obtain⟨hu,_⟩:=hT.ok t te iO;have ep:=hT.cells iO;simp only at hf;split at hr;rename_i k hd;simp only[A!] at hr;subst hr;rw[hd] at hu;obtain⟨z,rfl,_,hw⟩:=DataW.trod_int hu h
    have hz:lo k<=z/\z<=hi k:=by
     cases k<;>simpa[Lit.wf,IntKind.min,IntKind.max,IntKind.signed,IntKind.bits,lo,hi] using hw
    refine⟨Row.mk (DI.ofInt k z:D (.int k)) (),sI ?_⟩;simp_all[Rd,R8,trivial]
    rename_i hd;simp only[A!] at hr;subst hr;rw[hd] at hu;obtain⟨b,rfl,_⟩:=DataW.trod_bool hu h;exact⟨Row.mk (b:D .bool) (),sI (by rfl)⟩;rename_i hd;simp only[A!] at hr;subst hr;rw[hd] at hu;obtain⟨s,rfl,_,hs⟩:=DataW.trod_string hu h;refine⟨Row.mk (s.data.toList:D .str) (),sI ?_⟩;simp_all[Rd,trivial]
    . rename_i e hd;split at hr
      . rename_i r hre;simp only[A!] at hr;subst hr;rw[hd] at hu hf;simp only[B!] at hf;obtain⟨ď,Đ⟩:=hf;split at Đ
        . rename_i ee xi;have dH:0<ee.size:=by simp_all
          have U8:=hT.cells xi;rcases DataW.trod_slice hu h with⟨rfl,_⟩|⟨a,len,cap,elems,rest,m',_,rfl,_,hb,hl,hm,hlen,Rw,_⟩;refine⟨Row.mk (([]:M (Row r)):D (.slice r)) (),sI ?_⟩;simp only[Rd];exact⟨none,0,[],rfl,z!,z!,by rfl,z!⟩
          . rw[U8] at Rw
            obtain⟨l,cs,g1,g2,g3,g4⟩:=SE (w:=w) (A:=A) (row:=r) (a:=a) dH len λi hi=>by
             have h1:=Rw i hi;rw[List.getElem?_eq_getElem w!,Option.bind_eq_some_iff] at h1;obtain⟨gk,c1,c2⟩:=h1;obtain⟨_,d1,d2⟩:=World.cells?_some c1;obtain⟨y,hy⟩:=Dx hT hA n m' e r gk _ hre ď c2;grind
            refine⟨Row.mk (l:D (.slice r)) (),sI ?_⟩;simp only[Rd];refine⟨some a,cap,cs,by rw[g1],w!,hm,g3,λdi=>?_⟩
            have lF:0<len*ee.size:=by
             grind
            have h0:=g4 0 lF;obtain⟨b,o,s⟩:=a;simp only[Addr.add,P?,World.cell?] at h0
            have hs:s=none:=by
             cases s with
             |none=>rfl
             |some q=>grind
            subst hs;refine⟨b,o,rfl,hA b ?_,λj v hj=>?_⟩;grind;grind[List.getElem?_eq_some_iff,Addr.add]
        grind
      grind
    rename_i fs hd;rw[hd] at hu hf;simp only[B!] at hf;obtain⟨⟨ď,Đ⟩,hf3⟩:=hf;obtain⟨xs,m',_,_,hl,Mo,hx⟩:=DataW.trod_struct hu h
    have:=Ox (A:=A) hT cs (λt row cs x h1 h2 h3=>Dx hT hA n m' t row cs x h1 h2 h3) fs.toList 0 row hr ď hf3 (λf hf=>by
     grind[List.getElem?_of_mem,List.getElem?_eq_some_iff,List.getElem?_eq_getElem]) (by simp_all)
    grind;rename_i k e hd;rw[hd] at hu hf;split at hr;rename_i r hre;simp only[Option.some.injEq] at hr;subst hr;simp only[Bool.and_eq_true] at hf;obtain⟨ď,Đ⟩:=hf;split at Đ;rename_i ee xi;have U8:=hT.cells xi;obtain⟨xs,m',_,_,hl,Mo,hx⟩:=DataW.trod_array hu h
    have:=SF (w:=w) (A:=A) (r:=r) cs ee.size k 0 (λi hi=>by
     have h1:=hx i hi;rw[List.getElem?_eq_getElem w!,U8] at h1;obtain⟨y,hy⟩:=Dx hT hA n m' e r _ _ hre ď h1;grind) (by simp_all)
    grind;grind;grind;grind
end Go.Vg
namespace Go.Vg
open Go Go.ChangeShapes Go.WideShapes Go.ChangeAt Go.RowKit
variable [HP]
def PS.of(T:bX)(t:TypeId):Option PS:=match T.find t,rowOf T r6 t with
 |some te,some row=>bif zx T r6 t then(bif te.desc.nH then some (.agg row) else match row with
  |[u]=>some (.one u)
  |_=>none) else none
 |_,_=>none
def PS.ofs(T:bX):M TypeId->Option (M PS)
 |[]=>some []
 |t::ts=>match PS.of T t,PS.ofs T ts with
  |some p,some ps=>some (p::ps)
  |_,_=>none
def amG:∀(t:Ty) (x:D t),∃y,Xe t (GA t x)=some y
 |.int k,x=>⟨_,by simp[GA,Xe];rfl⟩
 |.bool,b=>⟨b,rfl⟩
 |.str,s=>⟨s,rfl⟩
 |.slice row,l=>by
   simp only[GA,Xe,fG]
   have :Ty.A8 row row=true:=by
    have :∀(r:M Ty),Ty.A8 r r=true:=λr=>BZ r;exact this row
   rw[dif_pos this];exact⟨_,rfl⟩
where
 đ:∀(t:Ty),Ty.beq t t=true
  |.int k=>by simp[Ty.beq]
  |.bool|.str=>rfl
  |.slice r=>by simp only[Ty.beq];exact BZ r
 BZ:∀(r:M Ty),Ty.A8 r r=true
  |[]=>rfl
  |t::ts=>by simp only[Ty.A8,đ t,BZ ts,Bool.and_self]
def xr:∀(ts:M Ty) (x:Row ts) (us:M Ty) (as_:M AV) (z:Row us),kZ us as_=some z->∃y,kZ (ts++us) (ay ts x++as_)=some y
 |[],x,us,as_,z,h=>⟨z,h⟩
 |t::ts,x,us,as_,z,h=>by
  obtain⟨d,hd⟩:=amG t (Row.hd x);obtain⟨y,hy⟩:=xr ts (Row.tl x) us as_ z h;refine⟨Row.mk d y,?_⟩;show kZ (t::(ts++us)) (GA t (Row.hd x)::(ay ts (Row.tl x)++as_))=_;simp only[kZ,hd,hy]
variable {A:Nat->Prop}{H:Type}{P:Program}{T:bX}{held:Bool}{sp:Nat->Bool}{w:World}{β:Nat->Value}{enc:TypeId×Value->H}
def Oy(hT:bz T P)(hA:∀b,b<w.heap.size->A b):∀(ts:M TypeId) (ps:M PS) (vs:M Value) (ds:M (DataW H)) (q:M MemPlace),PS.ofs T ts=some ps->
  (∀(j:Nat) t v,ts[j]? =some t->vs[j]? =some v->∃b,Value.okWide P w .any b t v)->
  DataW.TrodAll enc P w 0 sp held ts vs ds q->ds.length=ts.length/\∃bj cs z,ae w A β vs bj/\PS.cells ps bj=some cs/\kZ (PS.flat ps) cs=some z
 |[],ps,vs,ds,q,hp,_,h=>by
   simp only[PS.ofs,A!] at hp;subst hp;cases vs with
   |nil=>
    cases ds with
    |nil=>exact⟨rfl,[],[],(),by simp only[ae],rfl,rfl⟩
    |cons _ _=>simp[DataW.TrodAll] at h
   |cons _ _=>simp[DataW.TrodAll] at h
 |t::ts,ps,vs,ds,q,hp,Ol,h=>by
  simp only[PS.ofs] at hp;split at hp
  . rename_i p ps' h1 h2;simp only[A!] at hp;subst hp;match vs,ds,h with
    |v::vs,d::ds,h=>
     simp only[DataW.TrodAll] at h;obtain⟨q1,q2,g1,g2,_⟩:=h;obtain⟨k1,bj,cs,z,k2,k3,k4⟩:=Oy hT hA ts ps' vs ds q2 h2 (λj t' v' hj hv=>Ol (j+1) t' v' (by simpa using hj) (by simpa using hv)) g2;refine⟨by simp[k1],?_⟩;obtain⟨b,hv⟩:=Ol 0 t v rfl rfl;obtain⟨m,hm⟩:=g1;unfold PS.of at h1;split at h1
     . rename_i te row iO mO;cases hfl:zx T r6 t with
       |false=>rw[hfl] at h1;cases h1
       |true=>
        rw[hfl] at h1;simp only[K!] at h1;obtain⟨hu,_⟩:=hT.ok t te iO;obtain⟨r,hr⟩:=Dx (A:=A) hT hA r6 m t row _ _ mO hfl hm;have hrel:=ia (β:=β) _ _ _ hr;cases Uj:te.desc.nH with
        |true=>
         rw[Uj] at h1;simp only[K!,A!] at h1;subst h1
         have :∃arr:Array Value,v= .agg arr:=by
          unfold Value.okWide at hv;rw[hu] at hv;cases hd:te.desc with
          |struct fs=>rw[hd] at hv;obtain⟨arr,e,_⟩:=hv;exact⟨arr,e⟩
          |array k e=>rw[hd] at hv;obtain⟨arr,e,_⟩:=hv;exact⟨arr,e⟩
          |_=>rw[hd] at Uj;cases Uj
         obtain⟨arr,rfl⟩:=this;obtain⟨y,hy⟩:=xr row r _ _ z k4;refine⟨.agg (ay row r)::bj,ay row r++cs,y,?_,?_,hy⟩;simp only[ae,aa];exact⟨_,vs,rfl,⟨arr,rfl,hrel⟩,k2⟩;simp only[PS.cells,fo,k3,cU,K!]
        |false=>
         rw[Uj] at h1;simp only[N!] at h1;split at h1
         . rename_i u;simp only[A!] at h1;subst h1;obtain⟨y,hy⟩:=xr [u] r _ _ z k4
           have hc:v.cells.toList=[v]:=by
            unfold Value.okWide at hv;rw[hu] at hv;cases v with
            |agg arr=>
             exfalso;cases hd:te.desc<;>rw[hd] at hu hv Uj<;>simp_all[Cell.okWide,Cell.ok,TypeDesc.nH]
            |_=>rfl
           rw[hc] at hrel;simp only[ay,ae] at hrel;obtain⟨v',bY,e,e1,_⟩:=hrel;simp only[List.cons.injEq] at e;obtain⟨rfl,_⟩:=e;refine⟨GA u (Row.hd r)::bj,GA u (Row.hd r)::cs,y,?_,?_,hy⟩;simp only[ae];exact⟨_,vs,rfl,e1,k2⟩;simp only[PS.cells,k3]
         cases h1
     cases h1
    |[],_::_,h=>simp[DataW.TrodAll] at h
    |[],[],h=>simp[DataW.TrodAll] at h
    |_::_,[],h=>simp[DataW.TrodAll] at h
  cases hp
def Oz(hl:laidOutB P=true){W W':World}(hb:Below W.heap.size W W'):∀(ts:M TypeId) (vs:M Value) (ds:M (DataW H)) (q:M MemPlace),(∀t∈ts,P.readableRec t=true/\t<P.types.size)->
  DataW.TrodAll enc P W 0 (λ_=>true) true ts vs ds q->(∀x∈q,x.block<W.heap.size)->DataW.TrodAll enc P W' 0 (λb=>decide (b<W.heap.size)) true ts vs ds q
 |[],[],[],q,_,h,_=>h
 |t::ts,v::vs,d::ds,q,ht,h,hq=>by
  simp only[DataW.TrodAll] at h |-;obtain⟨q1,q2,g1,g2,rfl⟩:=h
  exact⟨q1,q2,Below.trod hl (ht t (G! ..)).1 (ht t (G! ..)).2 g1 hb (λx hx=>hq x (T! _ hx)),
   Oz hl hb ts vs ds q2 (λu hu=>ht u (F! _ hu)) g2 (λx hx=>hq x (X! _ hx)),rfl⟩
 |[],_::_,_,_,_,h,_|[],[],_::_,_,_,h,_|_::_,[],_,_,_,h,_|_::_,_::_,[],_,_,h,_=>by simp[DataW.TrodAll] at h
def RN(hT:bz T P)(hl:laidOutB P=true){G:Nat->Option GD}{f:FuncId}{fn:Func}{s:ChangeSpec}{ps:M PS}(hv:Valid P G f (fg ps λ_=>(True,.bool true,[])))
  (hps:PS.ofs T fn.params.toList=some ps) (amH:(fn.params.toList.all λt=>P.readableRec t&&decide (t<P.types.size))=true) {tb:TypeId} (uD:fn.resultTypes= #[tb]) (htb:P.underlying tb=some .bool)
  (hsv:s.vars=[]) (hs:∀(H:Type) (ds:M (DataW H)),ds.length=fn.params.toList.length->s.fn H ds= {results:=[.lit (.bool true)],args:=ds})
  {W:World} {base:Nat} {args:Array Value} {ds gs:M (DataW H)} {before:M MemPlace} (hG:∀i d,G i=some d->nb W (λb=>b<W.heap.size) i d)
  (Ey:∀(j:Nat) t v,fn.params[j]? =some t->args[j]? =some v->Value.okWide P W .any base t v)
  (hW:DataW.Whole enc P fn.params.toList s.vars false W args.toList ds gs before):
  Calls P f args W λe W'=>∃v,e= .returned v/\s.post enc P fn false true false false W args v W':=by
 have hW':=hW;obtain⟨p,q,hA,hV,rfl,AU,hnd⟩:=hW;rw[hsv] at hV
 have hV':gs=[]/\q=[]:=by
  cases gs with
  |nil=>exact⟨rfl,by simpa[DataW.TrodVars] using hV⟩
  |cons _ _=>simp[DataW.TrodVars] at hV
 obtain⟨rfl,rfl⟩:=hV';simp only[F?] at hW';obtain⟨hlen,bj,cs,z,k1,k2,k3⟩:=Oy (β:=λ_=>undef) (A:=λb=>b<W.heap.size) hT (λb hb=>hb) _ ps _ _ _ hps (λj t v hj hv=>⟨base,Ey j t v (by simpa using hj) (by simpa using hv)⟩) hA;have hc:=hv W (λb=>b<W.heap.size) (λ_=>undef) args.toList bj True (.bool true) [] (λb hb=>hb) hG k1 (by simp only[fg,Jo,k2,k3]) trivial;rw[Array.toArray_toList] at hc;refine hc.mono ?_;rintro e W' ⟨v,rfl,A',az,hp⟩;have hvt:=hp.res;simp only[aa] at hvt;subst hvt;have hb:Below W.heap.size W W':=⟨hp.os,hp.tape,hp.output,hp.size,λk hk=>hp.same k hk⟩;have gf:∀x∈p,x.block<W.heap.size:=λx hx=>by simpa using hW'.lt x hx
 rw[B?] at amH
 have bm:=Oz hl hb fn.params.toList args.toList ds p (λt ht=>by
  have:=amH t ht;simp only[B!,J!] at this;exact this) hA gf
 have Fm:=hs H ds hlen;refine⟨_,rfl,ds,[],p,[],p,[],hW',?_,?_,?_,hb.frame _,λh=>by cases h⟩;rw[uD];simp only[F?,Fm,Value.resultList];exact trodAll_mk1 (shut_bool htb true);simp only[F?,Fm];exact bm;rw[hsv];simp only[F?,Fm];rfl
end Go.Vg
namespace Go.V
variable {a b:Bool}
theorem HF:((bif a then true else b)=true)=(a=true\/b=true):=by grind
theorem pr:((bif a then true else b)=false)=(a=false/\b=false):=by grind
theorem amI:((bif a then b else false)=true)=(a=true/\b=true):=by grind
theorem MM:((bif a then b else false)=false)=(a=false\/b=false):=by grind
theorem dI {p A B:Prop}[Decidable p](h1:p->A)(h2:¬p->B):(decide p=true->A)/\(decide p=false->B):=⟨λh=>h1 (of_decide_eq_true h),λh=>h2 (of_decide_eq_false h)⟩
end Go.V
namespace Go.S
variable {α:Type}
theorem aw(l:M α)(n:Nat)(d:α)(h:n<l.length):l.take (n+1)=l.take n++[l.getD n d]:=by
 simp_all
theorem bu(l:M α)(n:Nat)(d:α)(h:n<l.length):l.getD n d∈l:=by
 grind
theorem aiE(l:M α)(z x:α)(n m:Nat)(hl:l.length=n)(hn:n<m):(l++List.replicate (m-n) z).set n x=l++[x]++List.replicate (m-(n+1)) z:=by
 rw[List.set_append_right _ _ w!,hl,Nat.sub_self,show m-n=(m-(n+1))+1 by omega,List.replicate_succ,List.set_cons_zero];simp
end Go.S
namespace Go.Vg
open Go
variable [HP]
def St.FH(G:Nat->Option GD)(n:Nat)(bj:M AV)(hs:M AB):St:=
 {St.init G n bj with h:=λk=>bif Nat.ble 50000 k&&Nat.blt k 60000 then hs[k-50000]? else none}
def zy:AB->Bool
 |.row _ _ _ true=>false
 |.fvar _ _=>false
 |_=>true
def kindOk:AB->Bool
 |.row _ _ _ false=>true
 |.cells _|.arr _ _|.bj _ _ _ _|.iy _ _ _ _ _|.ek _ _ _ _=>true
 |_=>false
def amJ:Option AB->Bool
 |some b=>kindOk b
 |none=>true
def Ē(r:bl)(k:Nat):Bool:=qQ k&&(match r.heap[k-50000]? with
 |some (some _)=>true
 |_=>false)
def lj(r:bl)(k:Nat):Bool:= !(Ē r k)
def u9(st:St)(k n e:Nat)(row:M Ty)(l:M (Row row)):St:=
 {st with
  t:=λi=>eA 70000 (st.t i)
  h:=λj=>bif Nat.beq j 70000 then some (.row e row (l.take n) false) else bif Nat.beq j k then none else match st.h j with
   |some b=>some (mN 70000 b)
   |none=>none}
def vc(st:St)(x:AV):St×AV:=match x with
 |.pre k n=>match st.h k with
   |some (.row e row l false)=>(u9 st k n e row l,.own 70000)
   |_=>(st,x)
 |_=>(st,x)
mutual
def zz(h:aJ)(s:M (Nat×Option Nat))(bad:Nat->Bool):AV->AV->M Prop×M Nat
 |.sl r l,.own k=>Fw h r l k
 |.agg xs,.agg ys|.bc xs,.bc ys=>o0 h s bad xs ys
 |.own i,y=>(NV s bad y (.own i),[])
 |x,y=>(NV s bad (ja h y).1 x,(ja h y).2)
def o0(h:aJ)(s:M (Nat×Option Nat))(bad:Nat->Bool):M AV->M AV->M Prop×M Nat
 |[],[]=>([],[])
 |x::xs,y::ys=>((zz h s bad x y).1++(o0 h s bad xs ys).1,(zz h s bad x y).2++(o0 h s bad xs ys).2)
 |_,_=>([False],[])
end
def wI(h:aJ)(s:M (Nat×Option Nat))(bad:Nat->Bool):Option AB->AB->M Prop×M Nat
 |some (.cells xs),.cells ys=>o0 h s bad ys xs
 |o,b=>(RF s bad o b,[])
def nX(h:aJ)(s:M (Nat×Option Nat))(bad:Nat->Bool):Nat->M (Option AB)->M Prop×M Nat
 |_,[]=>([],[])
 |i,some b::bs=>((wI h s bad (h (50000+i)) b).1++(nX h s bad (i+1) bs).1,(wI h s bad (h (50000+i)) b).2++(nX h s bad (i+1) bs).2)
 |i,none::bs=>nX h s bad (i+1) bs
def AG(h:aJ)(s:M (Nat×Option Nat))(bad:Nat->Bool)(K:Nat)(b:AB):M Prop×M Nat:=match ct s K with
 |some (some k)=>wI h s bad (h k) b
 |some none=>match b with
  |.row _ _ l false=>([[]=l],[])
  |_=>([False],[])
 |none=>([False],[])
def ve(h:aJ)(s:M (Nat×Option Nat))(bad:Nat->Bool):Nat->M AB->M Prop×M Nat
 |_,[]=>([],[])
 |j,b::bs=>((AG h s bad (60000+j) b).1++(ve h s bad (j+1) bs).1,(AG h s bad (60000+j) b).2++(ve h s bad (j+1) bs).2)
def HG(h:aJ):Nat->M (Option AB)->M (Nat×Option Nat)
 |_,[]=>[]
 |i,some (.cells ys)::bs=>(match h (50000+i) with
  |some (.cells xs)=>uP ys xs
  |_=>[])++HG h (i+1) bs
 |i,some (.ek _ (some j) _ _)::bs=>(match h (50000+i) with
  |some (.ek _ (some k) _ _)=>[(j,some k)]
  |_=>[])++HG h (i+1) bs
 |i,_::bs=>HG h (i+1) bs
def U9(h:aJ)(s:M (Nat×Option Nat)):Nat->M AB->M (Nat×Option Nat)
 |_,[]=>[]
 |j,.cells ys::bs=>(match ct s (60000+j) with
  |some (some k)=>match h k with
   |some (.cells xs)=>uP ys xs
   |_=>[]
  |_=>[])++U9 h s (j+1) bs
 |j,_::bs=>U9 h s (j+1) bs
def HH(acc:M (Nat×Option Nat)):M (Nat×Option Nat)->M (Nat×Option Nat)
 |[]=>acc
 |(k,x)::r=>bif Nat.ble 60000 k&&(match ct acc k with|none=>true|some _=>false) then HH ((k,x)::acc) r else HH acc r
def aDP(h:aJ)(x:AV)(r:bl):M (Nat×Option Nat):=HH [] (MJ r.res x++HG h 0 r.heap)
def aBV(h:aJ)(r:bl)(s:M (Nat×Option Nat)):M (Nat×Option Nat):=HH s (U9 h s 0 r.new)
def aKr(h:aJ)(x:AV)(r:bl):M (Nat×Option Nat):=aBV h r (aBV h r (aDP h x r))
def OA(h:aJ)(s:M (Nat×Option Nat))(x:AV)(r:bl):M Nat:=(zz h s (lj r) r.res x).2++((nX h s (lj r) 0 r.heap).2++(ve h s (lj r) 0 r.new).2)
def Va(h:aJ)(x:AV)(r:bl)(s:M (Nat×Option Nat)):Prop:=
 bif kN (eG s)&&(((eG s).all (lj r))&&((s.all λy=>Nat.ble 60000 y.1)&&(((OA h s x r).all λk=>!aq (eG s) k&&lj r k)&&(r.new.all kindOk&&r.heap.all amJ)))) then
  KO ((zz h s (lj r) r.res x).1++((nX h s (lj r) 0 r.heap).1++(ve h s (lj r) 0 r.new).1)) else False
def OB(T:bX)(st:St)(rs:M ResultVar)(r:bl):Prop:=match nT T st rs with
 |none=>False
 |some as_=>Va (vc st (ig as_)).1.h (vc st (ig as_)).2 r (aKr (vc st (ig as_)).1.h (vc st (ig as_)).2 r)
def asu(T:bX)(rs:M ResultVar)(r:bl)(e:Ex)(st:St):Prop:=match e with
 |.norm|.ret=>OB T st rs r
 |_=>False
def B0(E:Env)(L:Nat->Option bM)(c:Code)(n:Nat)(rs:M ResultVar)(bj:M AV)(hs:M AB)(r:bl):Prop:=
 bif Nat.ble bj.length n then sY E L c (asu E.T rs r) (St.FH E.jY n bj hs) else False
variable {G:Nat->Option GD}{bj as_:List AV}{hs:List AB}{n k:Nat}{A A' A0 A1 A2:Nat->Prop}{w w0 w1 w2:World}{β az GN:Nat->Value}{C:Ctx}{a:Act}{st:St}{v:Value}{x:AV}{b:AB}{s:List (Nat×Option Nat)}{P:Program}{T:bX}{fn:Func}{r:bl}{E:Env}{c:Code}{f:FuncId}{l:List CF}{xs args:List Value}{α:Type}{m:List Bool}
theorem OC{k:Nat}{ab:AB}(h:(St.FH G n bj hs).h k=some ab):∃i,k=50000+i/\hs[i]? =some ab:=by
 simp[St.FH] at h;cases hb:(Nat.ble 50000 k&&Nat.blt k 60000) with
 |false=>grind
 |true=>
  simp only[Bool.and_eq_true] at hb;have:=Nat.le_of_ble_eq_true hb.1;grind
def al.FH {G:Nat->Option GD}{args:M Value}{bj:M AV}{hs:M AB}{n:Nat}(hA:∀b,A b->b<w.heap.size)(hG:∀i d,G i=some d->nb w A i d)(hr:ae w A β args bj)(hn:bj.length<=n)
  (fl:∀i ab,hs[i]? =some ab->BR w A β (50000+i) ab) (yk:∀i j b,i<hs.length->j<hs.length->ah (β (50000+i))=some b->ah (β (50000+j))=some b->i=j):
  al ⟨w,A,HM β hs.length,G,β⟩ A β (St.FH G n bj hs) {tmps:=args.toArray++Array.replicate (n-args.toArray.size) undef,defers:=[]} w:=by
 have hI:=al.init (β:=β) (G:=G) (n:=n) hA hG hr hn
 have hk:∀k,((St.FH G n bj hs).h k).isSome->∃i,k=50000+i/\i<hs.length:=by
  grind[Option.isSome_iff_exists,OC,List.getElem?_eq_some_iff]
 refine⟨hI.defers,hI.size,hI.tmps,λk ab h=>?_,λk k' b h h' hb eO=>?_,hI.bound,⟨rfl,rfl,rfl,Nat.le_refl _,λb _ _=>rfl⟩,λb _ h=>.inl h,λb h=>h,λk b h hb=>?_,λi d h=>h,hG,λk _=>rfl⟩;grind[OC];grind;obtain⟨i,rfl,h1⟩:=hk k h;exact .inr ⟨i,h1,hb⟩
def amK(hnf:∀ab∈hs,zy ab=true)(fl:∀i ab,hs[i]? =some ab->BR w A β (50000+i) ab):∀b,HM β hs.length b->¬A b:=by
 rintro b ⟨i,hi,hb⟩;have hg:=C! hi;have h:=fl i _ hg;have hn:=hnf _ (List.getElem_mem hi);generalize hs[i]=ab at h hn;cases ab with
 |cells cs=>
  obtain⟨b',arr,e,h1,h2,h3,_⟩:=h;grind[ah,Option.some.injEq]
 |arr row l=>
  obtain⟨b',arr,e,h1,h2,h3,_⟩:=h;grind[ah,Option.some.injEq]
 |fvar _ _=>cases hn
 |mp b2 es ck=>
  obtain⟨h1,h2,h3⟩:=h;grind[ah,Option.some.injEq]
 |views _ _ _ _ _|dq _ _ _|bj _ _ _ _|ek _ _ _ _=>
  obtain⟨xs,h1,h2,_⟩:=h;grind
 |row e row l fr=>
  obtain⟨xs,h1,h2,h3⟩:=h;grind[zy]
 |iy e j row l i=>
  obtain⟨xs,v0,h1,h2,_⟩:=h;grind
theorem al.shrink(hB:al C A β st a w){k e:Nat}{row:M Ty}{l:M (Row row)}(hk:st.h k=some (.row e row l false))(hv:aa w A β v (.pre k n)):
  al C A (bg β 70000 v) (u9 st k n e row l) a w/\aa w A (bg β 70000 v) v (.own 70000):=by
 obtain⟨xs,o1,o2,o3⟩:=GY hB hk;have Fm:=fI l xs n o2
 have gU:w.ownsRow 0 e row.length v n (xs.take (n*row.length))/\n<=l.length/\ah v=ah (β k):=by
  simp only[aa] at hv;rcases hv with⟨h1,h2,h3⟩|⟨b,mm,cap,h1,h2,h3⟩;simp_all[World.ownsRow_nil]
  rcases o1.2 with⟨g1,_⟩|⟨g,jM,cur,g1,g2,g3,g4,g5,g6,g7⟩;grind;rw[h1] at g1;obtain⟨rfl,rfl,rfl⟩:=g1;refine⟨⟨?_,.inr ⟨b,cap,cur,h2,w!,g3,w!,g5,g6,?_⟩⟩,h3,by rw[h1,h2];rfl⟩;grind[List.length_take,Nat.min_eq_left,Nat.mul_le_mul_right];grind[Nat.min_eq_left,Nat.mul_le_mul_right]
 obtain⟨gU,hnl,hbv⟩:=gU
 have jv:v.oneCell'=true:=by
  simp only[aa] at hv;rcases hv with⟨_,h2,_⟩|⟨b,mm,cap,_,h2,_⟩<;>subst h2<;>rfl
 have hs:∀j,((u9 st k n e row l).h j).isSome->(j=70000/\bg β 70000 v j=v)\/(j≠70000/\j≠k/\(st.h j).isSome/\bg β 70000 v j=β j):=by
  intro j hj;by_cases h7:j=70000;subst h7;exact .inl ⟨rfl,by rfl⟩;simp only[u9,aL h7,cond_false] at hj;grind[cU,aL,bg]
 have Mg:∀j b,((u9 st k n e row l).h j).isSome->ah (bg β 70000 v j)=some b->∃j',(st.h j').isSome/\ah (β j')=some b/\((j=70000/\j'=k)\/(j≠70000/\j'=j/\j≠k)):=by
  grind
 refine⟨⟨hB.defers,hB.size,λi=>yZ 70000 v _ _ (hB.tmps i),λj ab hj=>?_,λj j' b h1 h2 g1 g2=>?_,hB.bound,hB.frame,hB.fk,hB.base,λj b h1 g1=>?_,hB.qc,hB.laid,λj hj=>?_⟩,?_⟩
 . by_cases h7:j=70000;subst h7;simp only[u9,cU,cond_true,Option.some.injEq] at hj;grind[bg,BR,List.length_take,Nat.min_eq_left]
   . simp only[u9,aL h7,N!] at hj;by_cases Rv:j=k;simp_all
     . rw[aL Rv] at hj;cases hh:st.h j with
       |none=>grind
       |some x=>
        rw[hh] at hj;simp only[N!,A!] at hj;subst hj
        exact xS (new:=[(70000,.cells [])]) (w':=w) (A':=A) (az:=bg β 70000 v) (λq hq=>by
         have :¬q=70000:=by rintro rfl;simp_all[ai]
         grind[bg]) (by grind[bg]) (λb _=>⟨rfl,id⟩) (λb hb=>⟨hb,rfl⟩) (hB.blocks j x hh)
 obtain⟨i,a1,a2,a3⟩:=Mg j b h1 g1;obtain⟨i',b1,b2,b3⟩:=Mg j' b h2 g2;have:=hB.apart i i' b a1 b1 a2 b2;omega;obtain⟨i,a1,a2,_⟩:=Mg j b h1 g1;exact hB.ot i b a1 a2;have :¬j=70000:=by rintro rfl;simp_all[qQ]
 simp only[bg,if_neg this];exact hB.held j hj;grind[aa,bg]
theorem Vb(hB:al C A β st a w)(hv:aa w A β v x):∃az,al C A az (vc st x).1 a w/\aa w A az v (vc st x).2:=by
 unfold vc;split;split;rename_i e row l hk;obtain⟨h1,h2⟩:=hB.shrink hk hv;grind;grind;grind
mutual
theorem zA(hB:al C A β st a w){s:M (Nat×Option Nat)}{bad:Nat->Bool}(hA:∀b,A b->A' b)(hK:Keyed bad s β az):∀(x y:AV) (v:Value),
  (∀p∈(zz st.h s bad x y).1,p)->(∀k∈(zz st.h s bad x y).2,∀b,ah (β k)=some b->A' b)->aa w A β v y->aa w A' az v x/\∀k∈(zz st.h s bad x y).2,(st.h k).isSome
 |x,y,v,h,hF,hr=>by
  generalize he:zz st.h s bad x y=r at h hF |-;unfold zz at he;split at he;rename_i r0 l0 k;subst he;exact HA hB hA r0 l0 k v h hF hr;rename_i xs ys;subst he;simp only[aa] at hr |-;obtain⟨arr,e1,e2⟩:=hr;obtain⟨g1,g2⟩:=oP hB hA hK xs ys _ h hF e2;exact⟨⟨arr,e1,g1⟩,g2⟩;rename_i xs ys;subst he;simp only[aa] at hr |-;obtain⟨arr,e1,e2⟩:=hr;obtain⟨g1,g2⟩:=oP hB hA hK xs ys _ h hF e2;exact⟨⟨arr,e1,g1⟩,g2⟩;subst he;exact⟨jb (λb hb=>⟨hA b hb,rfl⟩) _ _ (rB hK _ _ _ h hr),λk hk=>by cases hk⟩;subst he;obtain⟨g1,g2⟩:=ur hB hr hA hF;exact⟨rB hK _ _ _ h g1,λk hk=>by obtain⟨e,row,l,fr,hr⟩:=g2 k hk;simp[hr]⟩
theorem oP(hB:al C A β st a w){s:M (Nat×Option Nat)}{bad:Nat->Bool}(hA:∀b,A b->A' b)(hK:Keyed bad s β az):∀(xs ys:M AV) (vs:M Value),
  (∀p∈(o0 st.h s bad xs ys).1,p)->(∀k∈(o0 st.h s bad xs ys).2,∀b,ah (β k)=some b->A' b)->ae w A β vs ys->ae w A' az vs xs/\∀k∈(o0 st.h s bad xs ys).2,(st.h k).isSome
 |[],[],vs,_,_,hr=>by
   simp only[ae] at hr |-;exact⟨hr,λk hk=>by simp[o0] at hk⟩
 |x::xs,y::ys,vs,h,hF,hr=>by
  simp only[o0] at h hF |-;obtain⟨g1,g2⟩:=lW h;simp only[ae] at hr |-;obtain⟨v,bY,e,r1,r2⟩:=hr;obtain⟨q1,q2⟩:=zA hB hA hK x y v g1 (λk hk=>hF k (T! _ hk)) r1;obtain⟨q3,q4⟩:=oP hB hA hK xs ys bY g2 (λk hk=>hF k (X! _ hk)) r2;refine⟨⟨v,bY,e,q1,q3⟩,λk hk=>?_⟩;rcases I!.1 hk with hk|hk;exact q2 k hk;exact q4 k hk
 |[],_::_,vs,h,_,_|_::_,[],vs,h,_,_=>by simp only[o0] at h;exact(aR h).elim
end
theorem aDR {k:Nat}(hA:∀b,A b->A' b)(hk:kindOk b=true)(pZ:∀g,ah (β k)=some g->¬A g->¬A' g)(h:BR w A β k b):BR w A' β k b:=by
 have hK:bG w w A A':=λb hb=>⟨hA b hb,rfl⟩;cases b with
 |cells cs=>
  obtain⟨g,arr,e,h1,h2,h3,h4,h5⟩:=h;exact⟨g,arr,e,h1,h2,pZ g (by rw[h1];rfl) h3,cF hK _ _ h4,h5⟩
 |arr row l=>
  obtain⟨g,arr,e,h1,h2,h3,h4⟩:=h;exact⟨g,arr,e,h1,h2,pZ g (by rw[h1];rfl) h3,bx (λc x hx=>br hK row c x hx) l _ h4⟩
 |views _ _ _ _ _|dq _ _ _|fvar _ _|mp _ _ _=>grind[kindOk]
 |bj e sz n cs=>
  obtain⟨xs,h1,h2,h3⟩:=h;exact⟨xs,h1,λg hg=>pZ g hg (h2 g hg),λfm=>cF hK _ _ (h3 fm)⟩
 |ek e j xs i=>
  obtain⟨ys,h1,h2,h3⟩:=h;exact⟨ys,h1,λg hg=>pZ g hg (h2 g hg),h3⟩
 |iy e j row l i=>
  obtain⟨xs,v0,h1,h2,h3,h4⟩:=h;exact⟨xs,v0,h1,λg hg=>pZ g hg (h2 g hg),bx (λc x hx=>br hK row c x hx) l _ h3,h4⟩
 |row e row l fr=>
  cases fr with
  |true=>grind[kindOk]
  |false=>
   obtain⟨xs,x1,x2,x3⟩:=h;refine⟨xs,x1,bx (λc x hx=>br hK row c x hx) l xs x2,λb hb=>?_⟩;grind
def Lm(hB:al C A β st a w){s:M (Nat×Option Nat)}{bad:Nat->Bool}(hA:∀b,A b->A' b)(hK:Keyed bad s β az){k K:Nat}{b:AB}(hk:az K=β k)(OD:kindOk b=true)
  (h:∀p∈(wI st.h s bad (st.h k) b).1,p) (hF:∀q∈(wI st.h s bad (st.h k) b).2,∀g,ah (β q)=some g->A' g) (pZ:∀g,ah (β k)=some g->¬A g->¬A' g):BR w A' az K b:=by
 generalize he:wI st.h s bad (st.h k) b=r at h hF;unfold wI at he;split at he;rename_i xs ys pX;subst he;obtain⟨g,arr,e,h1,h2,h3,h4,h5⟩:=hB.blocks k _ pX;obtain⟨q1,_⟩:=oP hB hA hK ys xs _ h hF h4;exact⟨g,arr,e,hk.trans h1,h2,pZ g (by rw[h1];rfl) h3,q1,h5⟩;subst he;obtain⟨c,hc⟩:=yl h;rw[hc] at h;exact aDR hA OD x! (zr hK hk h (hB.blocks k c hc))
theorem zB(hB:al C A β st a w){bad:Nat->Bool}(hK:Keyed bad s β az){k:Nat}
  (h:∀p∈(wI st.h s bad (st.h k) b).1,p):(st.h k).isSome/\∀q∈(wI st.h s bad (st.h k) b).2,(st.h q).isSome:=by
 generalize he:wI st.h s bad (st.h k) b=r at h |-;unfold wI at he;split at he;rename_i xs ys pX;subst he;obtain⟨g,arr,e,h1,h2,h3,h4,h5⟩:=hB.blocks k _ pX;exact⟨x!,(oP (A':=λ_=>True) hB (λ_ _=>trivial) hK ys xs _ h (λ_ _ _ _=>trivial) h4).2⟩;subst he;obtain⟨c,hc⟩:=yl h;grind
def wJ {h:aJ}{s:M (Nat×Option Nat)}{bad:Nat->Bool}:∀(bs:M (Option AB)) (i j:Nat) (b:AB),bs[j]? =some (some b)->
  (∀p∈(wI h s bad (h (50000+(i+j))) b).1,p∈(nX h s bad i bs).1)/\∀p∈(wI h s bad (h (50000+(i+j))) b).2,p∈(nX h s bad i bs).2
 |some b0::bs,i,0,b,hb=>by
  grind[List.getElem?_cons_zero,Option.some.injEq,nX,List.mem_append_left]
 |some b0::bs,i,j+1,b,hb=>by
  simp[nX];have:=wJ (h:=h) (s:=s) (bad:=bad) bs (i+1) j b x!;grind
 |none::bs,i,0,b,hb=>by grind
 |none::bs,i,j+1,b,hb=>by
  simp[nX];have:=wJ (h:=h) (s:=s) (bad:=bad) bs (i+1) j b x!;grind
def B1 {h:aJ}{s:M (Nat×Option Nat)}{bad:Nat->Bool}:∀(bs:M (Option AB)) (i q:Nat),q∈(nX h s bad i bs).2->
  ∃(j:Nat) (b:AB),bs[j]? =some (some b)/\q∈(wI h s bad (h (50000+(i+j))) b).2
 |[],i,q,hq=>by grind[nX]
 |some b0::bs,i,q,hq=>by
  simp[nX,I!] at hq;rcases hq with hq|hq;exact⟨0,b0,rfl,hq⟩;obtain⟨j,b,h1,h2⟩:=B1 bs (i+1) q hq;exact⟨j+1,b,by simpa using h1,by rwa [show i+1+j=i+(j+1) by omega] at h2⟩
 |none::bs,i,q,hq=>by
  obtain⟨j,b,h1,h2⟩:=B1 bs (i+1) q hq;exact⟨j+1,b,by simpa using h1,by rwa [show i+1+j=i+(j+1) by omega] at h2⟩
def FI {h:aJ}{s:M (Nat×Option Nat)}{bad:Nat->Bool}:∀(bs:M AB) (i j:Nat) (b:AB),bs[j]? =some b->
  (∀p∈(AG h s bad (60000+(i+j)) b).1,p∈(ve h s bad i bs).1)/\∀p∈(AG h s bad (60000+(i+j)) b).2,p∈(ve h s bad i bs).2
 |b0::bs,i,0,b,hb=>by
  grind[List.getElem?_cons_zero,Option.some.injEq,ve,List.mem_append_left]
 |b0::bs,i,j+1,b,hb=>by
  simp[ve];have:=FI (h:=h) (s:=s) (bad:=bad) bs (i+1) j b x!;grind
def OE {h:aJ}{s:M (Nat×Option Nat)}{bad:Nat->Bool}:∀(bs:M AB) (i q:Nat),q∈(ve h s bad i bs).2->
  ∃(j:Nat) (b:AB),bs[j]? =some b/\q∈(AG h s bad (60000+(i+j)) b).2
 |[],i,q,hq=>by grind[ve]
 |b0::bs,i,q,hq=>by
  simp[ve,I!] at hq;rcases hq with hq|hq;exact⟨0,b0,rfl,hq⟩;obtain⟨j,b,h1,h2⟩:=OE bs (i+1) q hq;exact⟨j+1,b,by simpa using h1,by rwa [show i+1+j=i+(j+1) by omega] at h2⟩
theorem Vc(hT:bz T P)(hB:al C A β st a w)(h:nT T st fn.results.toList=some as_):∃v,(results fn a.tmps).run P w= .ok v w/\aa w A β v (ig as_):=by
 obtain⟨vs,p1,p2⟩:=tU hT hB fn.results.toList as_ h;have hl:=dM as_ vs p2;refine⟨if h:vs.toArray.size=1 then vs.toArray[0] else .tuple vs.toArray,?_,?_⟩;grind[Li,Array.mapM_eq_mapM_toList,Sem.run_bind,map_eq_pure_bind,Result.andThen_ok,Sem.run_pure]
 . match as_,vs,hl,p2 with
   |[x],[v],_,p2=>
     grind[ae,List.cons.injEq,ig]
   |[],[],_,p2=>
     grind[ig,aa,ae]
   |x::y::l,v::u::m,_,p2=>
    simp_all[dif_neg,ig,aa]
theorem Vd{pY:Nat->Value}(hB:al ⟨w0,A0,HM GN n,G,GN⟩ A pY st a w)
  (hn:r.heap.length=n) (al0:n<=100) (hA0:∀b,HM GN n b->¬A0 b) (Mp:∀b,A0 b->b<w0.heap.size) (Mf:aa w A pY v x) (h:Va st.h x r s):
  ∃A' az,Je w0 A0 GN n w v r A' az:=by
 unfold Va at h;cases hq:(kN (eG s)&&(((eG s).all (lj r))&&((s.all λy=>Nat.ble 60000 y.1)&&(((OA st.h s x r).all λk=>!aq (eG s) k&&lj r k)&&(r.new.all kindOk&&r.heap.all amJ))))) with
 |false=>grind
 |true=>
  rw[hq] at h;simp only[K!] at h;simp only[B!,B?] at hq;obtain⟨q1,q2,q3,q4,q5,q6⟩:=hq;obtain⟨c1,c2⟩:=lW (yg _ h);obtain⟨c2,c3⟩:=lW c2;let F:=OA st.h s x r
  let fm:Nat->Value:=λi=>match ct s i with
   |some (some k)=>pY k
   |some none=>tH
   |none=>pY i
  have h60:∀K y,ct s K=some y->60000<=K:=by
   have :∀(l:M (Nat×Option Nat)),(∀z∈l,Nat.ble 60000 z.1=true)->∀K y,ct l K=some y->60000<=K:=by
    intro l;induction l with
    |nil=>intro _ K y h;cases h
    |cons z l ih=>
     intro hl K y h;obtain⟨z1,z2⟩:=z;simp only[ct] at h;cases hb:Nat.beq K z1 with
     |true=>rw[D! hb];exact L! (hl _ (G! ..))
     |false=>rw[hb] at h;exact ih (λz hz=>hl z (F! _ hz)) K y h
   exact this s q3
  have amL:∀K,lj r K=false->qQ K=true/\ct s K=none/\∃ab,r.heap[K-50000]? =some (some ab):=by
   intro K hK;simp only[lj,Ē,Bool.not_eq_false',B!] at hK;obtain⟨k1,k2⟩:=hK;refine⟨k1,?_,?_⟩
   . cases hl:ct s K with
     |none=>rfl
     |some y=>
      have:=h60 K y hl;simp only[qQ,B!] at k1;have:=L! k1.2;omega
   split at k2;rename_i ab k9;exact⟨ab,k9⟩;cases k2
  have D7:Keyed (lj r) s pY fm:=⟨λK k h=>by simp only[fm,h],λK h=>by simp only[fm,h],λK h _=>by simp only[fm,h],λK h=>by simp only[fm,(amL K h).2.1]⟩
  have Ve:∀i ab,r.heap[i]? =some (some ab)->i<100/\lj r (50000+i)=false/\fm (50000+i)=pY (50000+i)/\pY (50000+i)=GN (50000+i):=by
   intro i ab hi;have gf:=(G?.1 hi).1
   have hip:qQ (50000+i)=true:=by
    simp only[qQ,B!];exact⟨Nat.ble_eq_true_of_le w!,Nat.ble_eq_true_of_le w!⟩
   have hb:lj r (50000+i)=false:=by
    simp only[lj,Ē,hip,Bool.true_and,p?,hi,Bool.not_true]
   exact⟨w!,hb,by simp only[fm,(amL _ hb).2.1],hB.held _ hip⟩
  have Vf:∀q∈F,(st.h q).isSome:=by
   intro q hq;simp only[F,OA,List.mem_append] at hq;rcases hq with hq|hq|hq;exact(zA (A':=λ_=>True) hB (λ_ _=>trivial) D7 r.res x v c1 (λ_ _ _ _=>trivial) Mf).2 q hq;obtain⟨j,b,h1,h2⟩:=B1 _ _ _ hq;have hm:=wJ (h:=st.h) (s:=s) (bad:=lj r) r.heap 0 j b h1;exact(zB hB D7 (λp hp=>c2 p (hm.1 p hp))).2 q h2;obtain⟨j,b,h1,h2⟩:=OE _ _ _ hq;have hm:=FI (h:=st.h) (s:=s) (bad:=lj r) r.new 0 j b h1;have hc:∀p∈(AG st.h s (lj r) (60000+(0+j)) b).1,p:=λp hp=>c3 p (hm.1 p hp);generalize hg:AG st.h s (lj r) (60000+(0+j)) b=g at hc h2;unfold AG at hg;split at hg;subst hg;exact(zB hB D7 hc).2 q h2;split at hg<;>(subst hg;cases h2);subst hg;cases h2
  have hFA:∀q∈F,∀b,ah (pY q)=some b->bL A pY F b:=λq hq b hb=>.inr ⟨q,hq,hb⟩;have hAA:∀b,A b->bL A pY F b:=λb hb=>.inl hb
  have pZ:∀k,(st.h k).isSome->k∉F->∀g,ah (pY k)=some g->¬A g->¬bL A pY F g:=by
   rintro k hk hkF g hg kK (hAg|⟨j,hj,hjg⟩);exact kK hAg;have:=hB.apart j k g (Vf j hj) hk hjg hg;subst this;exact hkF hj
  have amM:∀k,(k∈eG s\/lj r k=false)->k∉F:=by
   rintro k hk hF;have h4:=q4 k hF;rcases hk with hk|hk;have:=nR.2 hk;rw[this] at h4;simp at h4;rw[hk] at h4;simp at h4
  have Ru:∀i ab,r.heap[i]? =some (some ab)->BR w (bL A pY F) fm (50000+i) ab/\(st.h (50000+i)).isSome:=by
   intro i ab hi;obtain⟨_,hb,bI,_⟩:=Ve i ab hi;have hm:=wJ (h:=st.h) (s:=s) (bad:=lj r) r.heap 0 i ab hi;rw[o?] at hm;have hl:=zB (k:=50000+i) hB D7 (λp hp=>c2 p (hm.1 p hp));have OD:kindOk ab=true:=q6 _ (D? hi);exact⟨Lm hB hAA D7 bI OD (λp hp=>c2 p (hm.1 p hp)) (λq hq=>hFA q (by simp only[F,OA,I!];exact .inr (.inl (hm.2 q hq)))) (pZ _ hl.1 (amM _ (.inr hb))),hl.1⟩
  have hN1:∀j ab,r.new[j]? =some ab->BR w (bL A pY F) fm (60000+j) ab/\(fm (60000+j)=tH\/∃k,ct s (60000+j)=some (some k)/\fm (60000+j)=pY k/\(st.h k).isSome):=by
   intro j ab hj;have hm:=FI (h:=st.h) (s:=s) (bad:=lj r) r.new 0 j ab hj;rw[o?] at hm;have hc:∀p∈(AG st.h s (lj r) (60000+j) ab).1,p:=λp hp=>c3 p (hm.1 p hp);have hf:∀q∈(AG st.h s (lj r) (60000+j) ab).2,q∈F:=λq hq=>by simp only[F,OA,I!];exact .inr (.inr (hm.2 q hq))
   have OD:kindOk ab=true:=q5 _ (List.mem_of_getElem? hj);generalize hg:AG st.h s (lj r) (60000+j) ab=g at hc hf;unfold AG at hg;split at hg;rename_i k hk;subst hg;have bI:fm (60000+j)=pY k:=by simp only[fm,hk]
   have hl:=zB (k:=k) hB D7 hc;exact⟨Lm hB hAA D7 bI OD hc (λq hq=>hFA q (hf q hq)) (pZ _ hl.1 (amM _ (.inl (j5 s _ _ hk)))),.inr ⟨k,hk,bI,hl.1⟩⟩;rename_i hk;have bI:fm (60000+j)=tH:=by simp only[fm,hk]
   split at hg;subst hg;exact⟨U3 bI (aR hc),.inl bI⟩;subst hg;exact(aR hc).elim;subst hg;exact(aR hc).elim
  have uD:=(zA hB hAA D7 r.res x v c1 (λq hq=>hFA q (by simp only[F,OA,I!];exact .inl hq)) Mf).1
  have fH:∀k b,Bz r k->ah (fm k)=some b->∃k',(st.h k').isSome/\ah (pY k')=some b/\((lj r k=false/\k'=k)\/ct s k=some (some k')):=by
   rintro k b (⟨i,ab,rfl,_,hi⟩|⟨j,rfl,hj⟩) hb;obtain⟨_,h1,h2,_⟩:=Ve i ab hi;rw[h2] at hb;exact⟨_,(Ru i ab hi).2,hb,.inl ⟨h1,rfl⟩⟩;rcases(hN1 j _ (C! hj)).2 with h|⟨k,h1,h2,h3⟩;rw[h] at hb;simp[tH,ah] at hb;rw[h2] at hb;exact⟨k,h3,hb,.inr h1⟩
  refine⟨bL A pY F,fm,⟨hB.frame.os,hB.frame.tape,hB.frame.output,hB.frame.size,λb hb hM=>hB.frame.block b hb hM,λb hb=>⟨.inl (hB.base b hb),hB.frame.block b (Mp b hb) λhM=>hA0 b hM hb⟩,λb hb Nh=>?_,λb hb=>?_,uD,λi ab hi=>⟨(Ru i ab hi).1,(Ve i ab hi).2.2.1.trans (Ve i ab hi).2.2.2⟩,λj ab hj=>⟨(hN1 j ab hj).1,λb hb=>?_⟩,λk k' b h1 h2 g1 g2=>?_⟩⟩;rcases Nh with Nh|⟨j,hj,Bs⟩;exact hB.fk b hb Nh;rcases hB.ot j b (Vf j hj) Bs with h|h;exact absurd hb (Nat.not_lt.2 h);exact .inr h;rcases hb with hb|⟨j,hj,Bs⟩;exact hB.bound b hb;exact mh hB (Vf j hj) Bs;obtain⟨k,g1,g2,_⟩:=fH _ b (.inr ⟨j,rfl,(G?.1 hj).1⟩) hb;exact hB.ot k b g1 g2;obtain⟨j,a1,a2,a3⟩:=fH k b h1 g1;obtain⟨j',b1,b2,b3⟩:=fH k' b h2 g2;have:=hB.apart j j' b a1 b1 a2 b2;subst this;rcases a3 with⟨p1,p2⟩|p1<;>rcases b3 with⟨r1,r2⟩|r1;exact p2.symm.trans r2;have:=q2 j (j5 s _ _ r1);rw[p2,p1] at this;cases this;have:=q2 j (j5 s _ _ p1);rw[r2,r1] at this;cases this;exact zt s q1 k k' j p1 r1
def Ys(hT:bz T P)(hB:al ⟨w0,A0,HM GN n,G,GN⟩ A β st a w)
  (hn:r.heap.length=n) (al0:n<=100) (hA0:∀b,HM GN n b->¬A0 b) (Mp:∀b,A0 b->b<w0.heap.size) (h:OB T st fn.results.toList r):
  ∃v,(results fn a.tmps).run P w= .ok v w/\∃A' az,Je w0 A0 GN n w v r A' az:=by
 grind[OB,Vc,Vb,Vd]
variable {s:eC}
theorem RO(hE:aW P E)(hm:P.follows .mixedOrders=true){f:FuncId}{fn:Func}(L:M AV->M AB->Nat->Option bM)(hf:P.funcs[f]? =some fn)(hb:fn.body=some c)
  (hnf:∀bj hs r,s bj hs=some r->∀ab∈hs,zy ab=true)
  (h:∀bj hs r,s bj hs=some r->r.pre->B0 E (L bj hs) c fn.ntmps fn.results.toList bj hs r):aI P E.jY f s:=by
 intro w A β args bj hs r hA hG bm fl yk nY hp hlen B2;have U5:=h bj hs r nY hp;unfold B0 at U5;cases hn:Nat.ble bj.length fn.ntmps with
 |false=>grind
 |true=>
  rw[hn] at U5;refine calls_of_wp hf hb (gQ (C:=⟨w,A,HM β hs.length,E.jY,β⟩) ⟨hE,rfl⟩ hm c _ _ _ w _ U5 ⟨A,β,al.FH hA hG bm (L! hn) fl yk⟩ ?_);intro e bp a' w' hk _ hR;obtain⟨A',az,hB⟩:=hR
  have key:OB E.T bp fn.results.toList r->bodyPost P fn (λe w'=>∃v,e= .returned v/\∃A' az,Je w A β hs.length w' v r A' az) .ret a' w':=by
   intro hk;obtain⟨v,h1,A2,fm,h2⟩:=Ys hE.eY hB hlen B2 (amK (hnf bj hs r nY) fl) hA hk;exact⟨hB.defers,v,h1,v,rfl,A2,fm,h2⟩
  cases e with
  |norm=>exact key hk
  |ret=>exact key hk
  |exit i=>exact hk.elim
inductive TA where
 |dJ (t:Ty)
 |own (k:Nat)
 |ref (k off:Nat)
 |nil
 |kY
 |mf
 |agg (l:List TA)
 |fn (f:Fn) (first aO:List TA)
 |var (ts:List Ty)
mutual
@[reducible] def TA.tys:TA->M Ty
  |.dJ t=>[t]
  |.agg l=>TA.db l
  |.fn _ l m=>TA.db l++TA.db m
  |.var ts=>ts
  |_=>[]
@[reducible] def TA.db:M TA->M Ty
  |[]=>[]
  |t::ts=>TA.tys t++TA.db ts
end
mutual
def TA.get:TA->AV->Option (M AV)
 |.dJ _,a=>some [a]
 |.own k,.own k'=>bif Nat.beq k k' then some [] else none
 |.ref k o,.ref k' o'=>bif Nat.beq k k'&&Nat.beq o o' then some [] else none
 |.nil,.nil|.kY,.kY|.mf,.mf=>some []
 |.agg l,.agg cs=>TA.AH l cs
 |.fn f l m,.fn f' cs ds=>if f=f' then Eg (TA.AH l cs) (TA.AH m ds) else none
 |.var ts,.cz Hq x 0=>match fG Hq ts [x] with
   |some (y::_)=>some (ay ts y)
   |_=>none
 |_,_=>none
def TA.AH:M TA->M AV->Option (M AV)
 |[],[]=>some []
 |t::ts,a::as_=>Eg (TA.get t a) (TA.AH ts as_)
 |_,_=>none
end
mutual
def TA.put:TA->M AV->AV
 |.dJ _,cs=>cs.headD .cM
 |.own k,_=>.own k
 |.ref k o,_=>.ref k o
 |.nil,_=>.nil
 |.kY,_=>.kY
 |.mf,_=>.mf
 |.agg l,cs=>.agg (TA.qu l cs)
 |.fn f l m,cs=>.fn f (TA.qu l (cs.take (TA.db l).length)) (TA.qu m (cs.drop (TA.db l).length))
 |.var ts,cs=>zv ts cs
def TA.qu:M TA->M AV->M AV
 |[],_=>[]
 |t::ts,cs=>TA.put t (cs.take (TA.tys t).length)::TA.qu ts (cs.drop (TA.tys t).length)
end
inductive TB where
 |row (e:Nat) (row:List Ty)
 |cells (l:List TA)
 |arr (row:List Ty)
 |ek (e k:Nat)
@[reducible] def TB.D:TB->Type
  |.row _ r=>M (Row r)
  |.cells l=>Row (TA.db l)
  |.arr r=>M (Row r)
  |.ek _ _=>M Value×Nat
@[reducible] def fx:M TB->Type
  |[]=>Unit
  |b::bs=>TB.D b×fx bs
def TB.get:(b:TB)->AB->Option (TB.D b)
 |.row e r,.row e' r' l false=>bif Nat.beq e e' then fG r' r l else none
 |.cells ts,.cells cs=>match TA.AH ts cs with
   |some as_=>kZ (TA.db ts) as_
   |none=>none
 |.arr r,.arr r' l=>fG r' r l
 |.ek e k,.ek e' (some k') xs i=>bif Nat.beq e e'&&Nat.beq k k' then some (xs,i) else none
 |_,_=>none
def TB.put:(b:TB)->TB.D b->AB
 |.row e r,l=>.row e r l false
 |.cells ts,x=>.cells (TA.qu ts (ay (TA.db ts) x))
 |.arr r,l=>.arr r l
 |.ek e k,x=>.ek e (some k) x.1 x.2
def TB.ok:(b:TB)->TB.D b->Prop
 |.row _ r,l=>D.ok (.slice r) l
 |.cells ts,x=>Row.ok (TA.db ts) x
 |.arr _,_=>True
 |.ek _ _,x=>x.1.length<=maxLen
def fx.get:(bs:M TB)->M AB->Option (fx bs)
 |[],[]=>some ()
 |b::bs,h::hs=>match TB.get b h,fx.get bs hs with
  |some x,some y=>some (x,y)
  |_,_=>none
 |_,_=>none
def fx.put:(bs:M TB)->fx bs->M AB
 |[],_=>[]
 |b::bs,x=>TB.put b x.1::fx.put bs x.2
def fx.ok:(bs:M TB)->fx bs->Prop
 |[],_=>True
 |b::bs,x=>TB.ok b x.1/\fx.ok bs x.2
def bZ(ts:M TA)(bs:M TB)(F:Row (TA.db ts)->fx bs->bl):eC:=λbj hs=>match TA.AH ts bj with
 |some cs=>match kZ (TA.db ts) cs,fx.get bs hs with
  |some x,some y=>some (F x y)
  |_,_=>none
 |none=>none
def o8(s t:eC):eC:=λbj hs=>match s bj hs with
 |some r=>some r
 |none=>t bj hs
def OF {α:Type}{a b:Option (M α)}{c:M α}(h:Eg a b=some c):∃x y,a=some x/\b=some y/\c=x++y:=by
 cases a with
 |none=>grind[Eg]
 |some x=>
  cases b with
  |none=>grind[Eg]
  |some y=>grind[Eg,Option.some.injEq]
def Ln {as_ bs gk:M AV}{us vs:M Value}(h1:ae w A β us as_)(hl:gk.length=(as_++bs).length)(h:ae w A β (us++vs) gk):
  ae w A β us (gk.take as_.length)/\ae w A β vs (gk.drop as_.length):=by
 grind[lh,List.take_append_drop,wH,List.length_take,List.append_inj]
def Yt{ts Hq:M Ty}{x:Row Hq}{y:Row ts}{r:M (Row ts)}(h:aa w A β v (.cz Hq x 0))(hy:fG Hq ts [x]=some (y::r)):
  ∃vs,ae w A β vs (ay ts y)/\∀gk,gk.length=ts.length->ae w A β vs gk->aa w A β v (zv ts gk):=by
 obtain⟨b,o,GZ,g0,gA,gr,gd⟩:=h;obtain⟨e,he⟩:=jm hy;subst e;simp only[List.cons.injEq] at he;obtain⟨rfl,_⟩:=he;refine⟨GZ,ia _ _ _ gd,λgk hl hr=>?_⟩;unfold zv;split;rename_i z hz;exact⟨b,o,GZ,g0,gA,gr,ng _ _ _ _ hr hz⟩;trivial
mutual
theorem asw:∀(t:TA) (a:AV) (cs:M AV) (v:Value),TA.get t a=some cs->aa w A β v a->
  cs.length=(TA.tys t).length/\∃vs,ae w A β vs cs/\∀gk,gk.length=cs.length->ae w A β vs gk->aa w A β v (TA.put t gk)
 |t,a,cs,v,h,hr=>by
  unfold TA.get at h;split at h
  . simp only[A!] at h;subst h;refine⟨rfl,[v],by simp only[ae];exact⟨v,[],rfl,hr,rfl⟩,λgk hl qe=>?_⟩;match gk,hl with
    |[c],_=>
      simp only[ae] at qe;obtain⟨v',bY,e,r1,r2⟩:=qe;simp only[List.cons.injEq] at e;obtain⟨rfl,rfl⟩:=e;simpa only[TA.put,List.headD] using r1
  . rename_i k k';cases hb:Nat.beq k k' with
    |false=>rw[hb] at h;cases h
    |true=>
     rw[hb] at h;simp only[K!,A!] at h;subst h;have:=D! hb;subst this;exact⟨rfl,[],by simp[ae],λgk _ _=>by simpa only[TA.put] using hr⟩
  . rename_i k o k' o';cases hb:(Nat.beq k k'&&Nat.beq o o') with
    |false=>rw[hb] at h;cases h
    |true=>
     rw[hb] at h;simp only[K!,A!] at h;subst h;simp only[B!] at hb;have h1:=D! hb.1;have h2:=D! hb.2;subst h1;subst h2;exact⟨rfl,[],by simp[ae],λgk _ _=>by simpa only[TA.put] using hr⟩
  simp only[A!] at h;subst h;exact⟨rfl,[],by simp[ae],λgk _ _=>by simpa only[TA.put] using hr⟩;simp only[A!] at h;subst h;exact⟨rfl,[],by simp[ae],λgk _ _=>by simpa only[TA.put] using hr⟩;simp only[A!] at h;subst h;exact⟨rfl,[],by simp[ae],λgk _ _=>by simpa only[TA.put] using hr⟩;rename_i l ds;simp only[aa] at hr;obtain⟨arr,rfl,hr⟩:=hr;obtain⟨g1,vs,g2,g3⟩:=B3 l ds cs _ h hr;exact⟨g1,vs,g2,λgk hl qe=>by simp only[TA.put,aa];exact⟨arr,rfl,g3 gk hl qe⟩⟩;rename_i f l m f' ds es;split at h;rename_i hf;subst hf;obtain⟨x,y,hx,hy,rfl⟩:=OF h;simp only[aa] at hr;obtain⟨a1,a2,rfl,r1,r2⟩:=hr;obtain⟨g1,us,g2,g3⟩:=B3 l ds x _ hx r1;obtain⟨q1,vs,q2,q3⟩:=B3 m es y _ hy r2;refine⟨by simp[g1,q1],us++vs,gp _ _ _ _ g2 q2,λgk hl qe=>?_⟩;obtain⟨p1,p2⟩:=Ln g2 hl qe;simp only[TA.put,aa];rw[<-g1];refine⟨a1,a2,rfl,g3 _ ?_ p1,q3 _ ?_ p2⟩;simp at hl |-;omega;simp at hl |-;omega;cases h;rename_i ts Hq x;split at h;rename_i y r hy;simp only[A!] at h;subst h;obtain⟨vs,g1,g2⟩:=Yt hr hy;exact⟨fo _ _,vs,g1,λgk hl=>g2 gk (by rw[hl,fo])⟩;cases h;cases h
theorem B3:∀(ts:M TA) (as_ cs:M AV) (Nv:M Value),TA.AH ts as_=some cs->ae w A β Nv as_->
  cs.length=(TA.db ts).length/\∃vs,ae w A β vs cs/\∀gk,gk.length=cs.length->ae w A β vs gk->ae w A β Nv (TA.qu ts gk)
 |[],[],cs,Nv,h,hr=>by
   simp only[TA.AH,A!] at h;subst h;exact⟨rfl,[],by simp[ae],λgk _ _=>by simpa only[TA.qu] using hr⟩
 |t::ts,a::as_,cs,Nv,h,hr=>by
  simp only[TA.AH] at h;obtain⟨x,y,hx,hy,rfl⟩:=OF h;simp only[ae] at hr;obtain⟨v,vs1,rfl,r1,r2⟩:=hr;obtain⟨g1,us,g2,g3⟩:=asw t a x v hx r1;obtain⟨q1,vs,q2,q3⟩:=B3 ts as_ y vs1 hy r2;refine⟨by simp[g1,q1],us++vs,gp _ _ _ _ g2 q2,λgk hl qe=>?_⟩;obtain⟨p1,p2⟩:=Ln g2 hl qe;simp only[TA.qu,ae];rw[<-g1];refine⟨v,vs1,rfl,g3 _ ?_ p1,q3 _ ?_ p2⟩;simp at hl |-;omega;simp at hl |-;omega
 |[],_::_,cs,Nv,h,_|_::_,[],cs,Nv,h,_=>by simp[TA.AH] at h
end
def Dy {ts:M TA}{cs:M AV}{Nv:M Value}{x:Row (TA.db ts)}(h:TA.AH ts as_=some cs)(hx:kZ (TA.db ts) cs=some x)(hr:ae w A β Nv as_):
  ae w A β Nv (TA.qu ts (ay (TA.db ts) x))/\Row.ok (TA.db ts) x:=by
 obtain⟨g1,vs,g2,g3⟩:=B3 ts as_ cs Nv h hr;grind[ng,fo,ia,HC]
def asx:∀(b:TB) (ab:AB) (k:Nat) (y:TB.D b),TB.get b ab=some y->BR w A β k ab->BR w A β k (TB.put b y)/\TB.ok b y
 |b,ab,k,y,h,hr=>by
  unfold TB.get at h;split at h
  . rename_i e r e' r' l;cases hb:Nat.beq e e' with
    |false=>grind
    |true=>
     rw[hb] at h;have:=D! hb;subst this;obtain⟨er,hl⟩:=lV h;subst er;subst hl;refine⟨hr,?_⟩;obtain⟨xs,h1,h2,h3⟩:=hr;refine⟨?_,U6 (λc x hx=>HC _ c x hx) _ xs h2⟩;rcases h1.2 with⟨_,h⟩|⟨g,cap,cur,_,_,_,g4,g5,_⟩;omega;exact Z? g4 g5
  split at h;rename_i as_ has;obtain⟨g,arr,e,h1,h2,h3,h4,h5⟩:=hr;obtain⟨q1,q2⟩:=Dy has h h4;exact⟨⟨g,arr,e,h1,h2,h3,q1,h5⟩,q2⟩;cases h;obtain⟨er,hl⟩:=lV h;subst er;subst hl;exact⟨hr,trivial⟩
  . rename_i e0 k0 e' k' xs i;cases hb:(Nat.beq e0 e'&&Nat.beq k0 k') with
    |false=>rw[hb] at h;cases h
    |true=>
     rw[hb] at h;simp only[K!,A!] at h;subst h;simp only[B!] at hb;have h1:=D! hb.1;have h2:=D! hb.2;subst h1;subst h2;refine⟨hr,?_⟩;obtain⟨ys,h1,_⟩:=hr;rcases h1.2 with⟨_,h⟩|⟨g,cap,cur,_,_,_,g4,g5,_⟩;show xs.length<=maxLen;omega;exact Z? g4 g5
  grind
def HJ:∀(bs:M TB) (hs:M AB) (y:fx bs) (n:Nat),fx.get bs hs=some y->(∀i ab,hs[i]? =some ab->BR w A β (n+i) ab)->
  (fx.put bs y).length=hs.length/\(∀i ab,(fx.put bs y)[i]? =some ab->BR w A β (n+i) ab)/\fx.ok bs y
 |[],[],y,n,_,_=>⟨rfl,λi ab h=>by grind[fx.put],trivial⟩
 |b::bs,h::hs,y,n,hg,hr=>by
  simp[fx.get] at hg;split at hg;rename_i x z hx hz;simp at hg;subst hg;obtain⟨g1,g2⟩:=asx b h n x hx (hr 0 h rfl)
  obtain⟨q1,q2,q3⟩:=HJ bs hs z (n+1) hz λi ab hi=>by
   have:=hr (i+1) ab x!;grind
  refine⟨by grind[fx.put],λi ab hi=>?_,g2,q3⟩;grind[fx.put,List.getElem?_cons_zero,Option.some.injEq,hi];grind
 |[],_::_,y,n,h,_|_::_,[],y,n,h,_=>by grind[fx.get]
theorem adr:∀(bs:M TB) (y:fx bs),∀ab∈fx.put bs y,zy ab=true
 |[],_,ab,h=>by grind[fx.put]
 |b::bs,y,ab,h=>by
  simp[fx.put,O!] at h;rcases h with rfl|h;cases b<;>rfl;exact adr bs y.2 ab h
def RP(hE:aW P E)(hm:P.follows .mixedOrders=true){f:FuncId}{fn:Func}(ts:M TA)(bs:M TB){F:Row (TA.db ts)->fx bs->bl}
  (L:Row (TA.db ts)->fx bs->Nat->Option bM) (hf:P.funcs[f]? =some fn) (hb:fn.body=some c)
  (h:∀x y,(F x y).pre->Row.ok (TA.db ts) x->fx.ok bs y->B0 E (L x y) c fn.ntmps fn.results.toList (TA.qu ts (ay (TA.db ts) x)) (fx.put bs y) (F x y)):aI P E.jY f (bZ ts bs F):=by
 intro w A β args bj hs r hA hG bm fl yk nY hp hlen B2;unfold bZ at nY;split at nY;rename_i cs ep;split at nY;rename_i x y hx hy;simp only[Option.some.injEq] at nY;obtain⟨g1,g2⟩:=Dy ep hx bm;obtain⟨q1,q2,q3⟩:=HJ bs hs y 50000 hy fl
 have hv:aI P E.jY f (λSD iJ=>open Classical in if SD=TA.qu ts (ay (TA.db ts) x)/\iJ=fx.put bs y then some (F x y) else none):=by
  refine RO hE hm (λ_ _=>L x y) hf hb (λSD iJ r' aKv=>?_) λSD iJ r' aKv zw=>?_;grind[adr];grind
 have:=hv w A β args _ _ r hA hG g1 q2 (λi j b hi hj=>yk i j b w! w!) x! hp w! w!;grind;grind;grind
def aI.or{t:eC}(h1:aI P G f s)(h2:aI P G f t):aI P G f (o8 s t):=by
 intro w A β args bj hs r hA hG bm fl yk nY hp hlen B2;unfold o8 at nY;split at nY;rename_i r' qe;simp at nY;subst nY;exact h1 w A β args bj hs _ hA hG bm fl yk qe hp hlen B2;exact h2 w A β args bj hs r hA hG bm fl yk nY hp hlen B2
def Env.bS(f:Nat)(m:M Bool)(s:eC)(E:Env):Env:={E with qW:=λg=>bif Nat.beq g f then some (m,s) else E.qW g}
def aW.bS(hE:aW P E){f:FuncId}{m:M Bool}{s:eC}(h:aI P E.jY f s)(hf:du P f):aW P (E.bS f m s):=by
 refine⟨hE.eY,hE.sig,λg m' t hg=>?_,hE.hp,hE.cg⟩;simp[Env.bS] at hg;cases hb:Nat.beq g f with
 |true=>
  rw[hb] at hg;have:=D! hb;obtain⟨_,rfl⟩:=hg;subst this;exact⟨h,hf⟩
 |false=>
  rw[hb] at hg;exact hE.qW g m' t hg
def Env.Jq(f:Nat)(t:M AV->Option (Option Nat×CF))(E:Env):Env:={E with cg:=λg=>bif Nat.beq g f then some t else E.cg g}
def OG(ps:M PS)(F:Row (PS.flat ps)->CF)(bj:M AV):Option (Option Nat×CF):=match bj.getLast?,Jo ps bj.dropLast with
 |some (.ref k 0),some x=>some (some k,F x)
 |_,_=>none
def bv:AV->Bool
 |.bool b=>b
 |.tt=>true
 |_=>false
def isB:AV->Bool
 |.bool _=>true
 |_=>false
def bW:M CF->Z->Prop×Bool×Z
 |[],z=>(True,true,z)
 |F::l,z=>((F z).1/\isB (F z).2.1=true/\(bv (F z).2.1=true->(bW l (F z).2.2).1),bif bv (F z).2.1 then(bW l (F z).2.2).2.1 else false,bif bv (F z).2.1 then(bW l (F z).2.2).2.2 else(F z).2.2)
def Z.rows:Z->M U
 |.g _ _ l=>l
 |_=>[]
def Z.txt:Z->B8
 |.s t=>t
 |_=>[]
def runT:M CF->Z->B8
 |[],z=>z.txt
 |F::l,z=>bif bv (F z).2.1 then runT l (F z).2.2 else(F z).2.2.txt
theorem runT_eq:∀(l:M CF) (z:Z),runT l z=(bW l z).2.2.txt
 |[],_=>rfl
 |F::l,z=>by
  unfold runT bW;rw[runT_eq l];cases bv (F z).2.1<;>rfl
abbrev aB.run(l:M CF)(z:Z):Prop×Bool×Z:=bW l z
abbrev aB.Lo(n:Nat):M U:=List.replicate n []
abbrev aB.rows(z:Z):M U:=z.rows
def SG(b:Bool):AV:=.int .i64 (bif b then 0 else 6)
def HK(ei:Nat):eC:=λbj hs=>match bj,hs with
 |[.own 50000],[.dq _ _ l]=>some ⟨(bW l .n).1,SG (bW l .n).2.1,[none],[]⟩
 |[.own 50000],[.dq _ (some 50001) l,.cells [.str t]]=>some ⟨(bW l (.s t)).1,SG (bW l (.s t)).2.1,[none,some (.cells [.str (runT l (.s t))])],[]⟩
 |[.own 50000],[.dq _ (some 50001) l,.cells [.own 50002],.bj e 1 n cs]=>
   some ⟨cs=aB.K4 n/\(aB.run l (.g e ei (aB.Lo n))).1,SG (aB.run l (.g e ei (aB.Lo n))).2.1,[none,some (.cells [.own 50002]),some (.row e [.slice [.int .i64]] (aB.rows (aB.run l (.g e ei (aB.Lo n))).2.2) false)],[]⟩
 |_,_=>none
def aW.Jq(hE:aW P E){f:FuncId}{t:M AV->Option (Option Nat×CF)}(h:NB E.jY f t):aW P (E.Jq f t):=by
 refine⟨hE.eY,hE.sig,hE.qW,hE.hp,λg u hg=>?_⟩;simp[Env.Jq] at hg;cases hb:Nat.beq g f with
 |true=>
  rw[hb] at hg;have:=D! hb;simp at hg;subst this;subst hg;exact h
 |false=>
  rw[hb] at hg;exact hE.cg g u hg
def aiF{ps:M PS}{F:Row (PS.flat ps)->CF}(hP:∀Q,HP.is Q->Q=P)(hf:du P f)
  (h:∀(w:World) (A S:Nat->Prop) (β:Nat->Value) (b:Nat) (args:M Value) (x:Row (PS.flat ps)) (z:Z),(∀b,A b->b<w.heap.size)->(∀i d,G i=some d->nb w A i d)->ae w A β args (rC ps x)->Row.ok (PS.flat ps) x->
    (∀b,S b->¬A b/\b<w.heap.size)->HB w S (.pointer (some ⟨b,0,none⟩)) z->(F x z).1->
    Calls P f (args++[Value.pointer (some ⟨b,0,none⟩)]).toArray w λe w'=>∃v,e= .returned v/\∃A' S',tG w A S z w' A' S' (.pointer (some ⟨b,0,none⟩)) v (F x z).2):
  NB G f (OG ps F):=by
 intro w A β aO bj k C hG hr ht p hp;unfold OG at ht;split at ht;rename_i k0 x hl hx;obtain⟨rfl,rfl⟩:=ht;obtain⟨ys,rfl⟩:=List.getLast?_eq_some_iff.1 hl;rw[List.dropLast_concat] at hx;obtain⟨us,vs,hc,h1,h2⟩:=lh _ _ _ hr;obtain⟨v,bY,rfl,h3,h4⟩:=h2;subst h4;obtain⟨b,h5,rfl⟩:=h3;obtain⟨g1,g2⟩:=uY ps hx h1;have hpp:=(hp k0 rfl).trans h5;subst hpp;refine⟨rfl,.inr ⟨f, #[],aO,rfl,λQ hQ=>?_⟩⟩;have:=hP Q hQ;subst this;refine⟨hf,λw' A' z S hK hb hS hH qq=>?_⟩;have:=h w' A' S β b us x z hb (λi d hd=>(hG i d hd).mono hK) (cF hK _ _ g1) g2 hS hH qq;rw[<-hc] at this;simpa using this;grind
def tD:AV->Option (B8×B8×Bool)
 |.bc [.agg [.sl [.int .u8] a,.sl [.int .u8] b],.bool c]=>some (a,b,c)
 |_=>none
def gD:M CF->Prop×B8×B8×Bool
 |[]=>(True,[],[],false)
 |F::l=>match tD (F .n).2.1 with
  |some (a,b,c)=>((F .n).1/\(c=false->(gD l).1),bif c then(a,b,true) else(gD l).2)
  |none=>(False,[],[],false)
abbrev aB.first(l:M CF):Prop×B8×B8×Bool:=gD l
def Dz:eC:=λbj hs=>match bj,hs with
 |[.own 50000],[.dq _ none l]=>some ⟨(aB.first l).1,.bc [.agg [.sl [.int .u8] (aB.first l).2.1,.sl [.int .u8] (aB.first l).2.2.1],.bool (aB.first l).2.2.2],[none],[]⟩
 |_,_=>none
structure PF (w:World) (A:Nat->Prop) (w':World) (A':Nat->Prop):Prop where
 os:w'.os=w.os
 tape:w'.tape=w.tape
 output:w'.output=w.output
 size:w.heap.size<=w'.heap.size
 same:∀b,b<w.heap.size->w'.heap[b]? =w.heap[b]?
 mono:∀b,A b->A' b
 fk:∀b,b<w.heap.size->A' b->A b
 bound:∀b,A' b->b<w'.heap.size
theorem PF.zero(h:∀b,A b->b<w.heap.size):PF w A w A:=⟨rfl,rfl,rfl,P! _,λ_ _=>rfl,λ_ h=>h,λ_ _ h=>h,h⟩
theorem PF.trans(h:PF w A w1 A1)(g:PF w1 A1 w2 A2):PF w A w2 A2:=
 ⟨g.os.trans h.os,g.tape.trans h.tape,g.output.trans h.output,Z? h.size g.size,λb hb=>(g.same b (C? hb h.size)).trans (h.same b hb),λb hb=>g.mono b (h.mono b hb),
   λb hb ha=>h.fk b hb (g.fk b (C? hb h.size) ha),g.bound⟩
def PF.keeps(h:PF w A w1 A1)(hA:∀b,A b->b<w.heap.size):bG w w1 A A1:=λb hb=>⟨h.mono b hb,h.same b (hA b hb)⟩
theorem PF.more {t:Nat}(h:PF w A w1 A1)(h1:w2.os=w1.os)(h2:w2.tape=w1.tape)(h3:w2.output=w1.output)(h4:w1.heap.size<=w2.heap.size)(h5:∀b,b<w1.heap.size->b≠t->w2.heap[b]? =w1.heap[b]?)(ht:w.heap.size<=t):PF w A w2 A1:=
 ⟨h1.trans h.os,h2.trans h.tape,h3.trans h.output,Z? h.size h4,λb hb=>(h5 b (C? hb h.size) w!).trans (h.same b hb),h.mono,h.fk,λb hb=>C? (h.bound b hb) h4⟩
def asz{a b:B8}{c:Bool}(h:tD x=some (a,b,c))(hr:aa w A β v x):∃x1 x2,v= .tuple #[.agg #[x1,x2],.bool c]/\Rd w A (.slice [.int .u8]) x1 a/\Rd w A (.slice [.int .u8]) x2 b:=by
 unfold tD at h;split at h;simp only[Option.some.injEq,Prod.mk.injEq] at h;obtain⟨rfl,rfl,rfl⟩:=h;obtain⟨arr,rfl,y,ys,h1,⟨ar2,rfl,y1,ys1,g1,g2,y2,ys2,g3,g4,g5⟩,z,zs,h3,h4,h5⟩:=hr;simp only[ae] at h5 g5;subst h5;subst g5;subst h3;subst g3;have e1:arr= #[.agg ar2,z]:=by apply Array.ext';exact h1
 have e2:ar2= #[y1,y2]:=by apply Array.ext';exact g1
 subst e1;subst e2;rw[show z=_ from h4];exact⟨y1,y2,rfl,g2,g4⟩;cases h
theorem PF.step(hP:HP.is P)(h:PF w A w1 A1)(hA:∀b,A b->b<w.heap.size)(hc:na w A undef xs l)(hk:k<l.length)(hp:(gD (l.drop k)).1):
  ∃f a1 a2,∃x:B8×B8×Bool,xs[k]? =some (.func (.func f) a1 a2)/\du P f/\(x.2.2=false->(gD (l.drop (k+1))).1)/\(gD (l.drop k)).2=(bif x.2.2 then(x.1,x.2.1,true) else(gD (l.drop (k+1))).2)/\
   Calls P f (a1++a2) w1 λe w2=>∃x1 x2,e= .returned (.tuple #[.agg #[x1,x2],.bool x.2.2])/\∃A2,PF w1 A1 w2 A2/\Rd w2 A2 (.slice [.int .u8]) x1 x.1/\Rd w2 A2 (.slice [.int .u8]) x2 x.2.1:=by
 have hl:l[k]? =some l[k]:=C! hk
 have get:∀ {xs:M Value} {l:M CF} {k:Nat} {F:CF},na w A undef xs l->l[k]? =some F->∃v,xs[k]? =some v/\A9 w A undef v F:=by
  intro xs l;induction l generalizing xs with
  |nil=>intro k F _ h;cases h
  |cons G l ih=>
   intro k F h hk;cases xs with
   |nil=>exact h.elim
   |cons x xs=>
    cases k with
    |zero=>simp only[X?,A!] at hk;subst hk;exact⟨x,rfl,h.1⟩
    |succ k=>exact ih (k:=k) h.2 (by rw[r?] at hk;exact hk)
 obtain⟨v,hv,hC⟩:=get hc hl;have hd:l.drop k=l[k]::l.drop (k+1):=T? hk;rw[hd] at hp |-;generalize l[k]=F at hC hp hl hd |-;simp only[gD] at hp |-;split at hp;rename_i a b c ht;obtain⟨h0,pZ|⟨f,a1,a2,rfl,hC⟩⟩:=hC;exact absurd hp.1 (pZ _);obtain⟨hf,hC⟩:=hC P hP;refine⟨f,a1,a2,(a,b,c),hv,hf,hp.2,rfl,?_⟩;refine(hC w1 A1 .n (λ_=>False) (h.keeps hA) h.bound nofun trivial hp.1).mono λe w2 ⟨v,he,A2,S2,g⟩=>?_;obtain⟨x1,x2,rfl,r1,r2⟩:=asz ht (g.res λ_=>undef);exact⟨x1,x2,he,A2,⟨g.os,g.tape,g.output,g.size,λb hb=>g.same b hb nofun,g.mono,g.fk,g.bound⟩,r1,r2⟩;exact hp.elim
def aDU(P:Program)(f:FuncId):Prop:=∀(w:World) (A:Nat->Prop) (l:M CF) (xs:M Value) (b0 cap:Nat) (ad:Option Addr),(∀b,A b->b<w.heap.size)->(gD l).1->na w A undef xs l->l.length<=maxLen->
    (l≠ []->b0<w.heap.size/\w.rangeAt b0 0 xs)->(l≠ []->ad=some ⟨b0,0,none⟩)->
    Calls P f #[.slice ad l.length cap] w λe w'=>∃x1 x2,e= .returned (.tuple #[.agg #[x1,x2],.bool (gD l).2.2.2])/\∃A',PF w A w' A'/\Rd w' A' (.slice [.int .u8]) x1 (gD l).2.1/\Rd w' A' (.slice [.int .u8]) x2 (gD l).2.2.1
def HL(hw:aDU P f):aI P G f Dz:=by
 intro w A β args bj hs r hA hG bm fl yk iJ hp hlen B2;unfold Dz at iJ;split at iJ
 . rename_i e l;simp only[A!,aB.first] at iJ;subst iJ;obtain⟨v,vs,rfl,h1,h2⟩:=bm;simp only[ae] at h2;subst h2;rw[show v=β 50000 from h1.1];obtain⟨xs,o1,o2,o3⟩:=fl 0 _ rfl
   have key:∃ad cap b0,β 50000= .slice ad l.length cap/\l.length<=maxLen/\(l≠ []->b0<w.heap.size/\w.rangeAt b0 0 xs)/\(l≠ []->ad=some ⟨b0,0,none⟩):=by
    rcases je o1 with⟨g1,g2⟩|⟨b,cap,g1,g2,g3,g4⟩;have :l=[]:=U! g2;subst this;exact⟨none,0,0,g1,R! _,λh=>absurd rfl h,λh=>absurd rfl h⟩;refine⟨_,cap,b,g1,w!,λdi=>⟨?_,g4⟩,λ_=>rfl⟩;rcases o1.2 with⟨q,q0⟩|⟨g,jM,cur,q,_,hg,_⟩;exact absurd (U! q0) di;rw[show β 50000=_ from g1] at q;simp only[Value.slice.injEq,A!,Addr.mk.injEq,and_true] at q;rw[q.1];exact(M!.1 hg).1
   obtain⟨ad,cap,b0,k1,k2,k3,k4⟩:=key;rw[k1];refine(hw w A l xs b0 cap ad hA hp (o3 undef nofun) k2 k3 k4).mono ?_;rintro e' w' ⟨x1,x2,rfl,A',g,r1,r2⟩;refine⟨_,rfl,A',β,⟨g.os,g.tape,g.output,g.size,λb hb _=>g.same b hb,λb hb=>⟨g.mono b hb,g.same b (hA b hb)⟩,λb hb ha=>.inl (g.fk b hb ha),g.bound,?_,?_,nofun,?_⟩⟩;exact⟨_,rfl,_,_,rfl,⟨_,rfl,_,_,rfl,r1,_,_,rfl,r2,rfl⟩,_,_,rfl,rfl,rfl⟩
   . intro i ab h;match i,h with
     |0,h=>cases h
     |_+1,h=>cases h
   . rintro k k' b (⟨i,ab,_,_,h⟩|⟨j,_,h⟩) _ _ _
     . match i,h with
       |0,h=>cases h
       |_+1,h=>cases h
     simp at h
 cases iJ
def SH:∀(ts:M Ty) (x:Row ts),au (ay ts x)=[]
 |[],_=>rfl
 |t::ts,x=>by
  simp[ay,au,SH ts (Row.tl x),F?];cases t<;>rfl
def FJ:∀(cs:M AV) (n:Nat),au cs=[]->au (cs.take n)=[]/\au (cs.drop n)=[]
 |[],n,h=>by grind
 |c::cs,0,h=>⟨rfl,h⟩
 |c::cs,n+1,h=>by
  simp[au,List.append_eq_nil_iff] at h;obtain⟨g1,g2⟩:=FJ cs n h.2;exact⟨by simp[List.take_succ_cons,au,h.1,g1,F?],g2⟩
def sJ:∀(ps:M PS) (cs:M AV),au cs=[]->au (PS.group ps cs)=[]
 |[],_,_=>rfl
 |.one _::ps,[],h=>by
   exact sJ ps [] rfl
 |.one _::ps,c::cs,h=>by
   simp[au,List.append_eq_nil_iff] at h;simp[PS.group,List.headD,List.tail,au,h.1,d?];exact sJ ps cs h.2
 |.agg ts::ps,cs,h=>by
   obtain⟨g1,g2⟩:=FJ cs ts.length h;simp[PS.group,au,an,g1,d?];exact sJ ps _ g2
 |.var ts::ps,cs,h=>by
   obtain⟨g1,g2⟩:=FJ cs ts.length h;simp only[PS.group,au];have :an (zv ts (cs.take ts.length))=[]:=by unfold zv;split<;>rfl
   rw[this,d?];exact sJ ps _ g2
def Yu {ps:M PS}{x:Row (PS.flat ps)}(h:ae w A β args (rC ps x)):ae w A az args (rC ps x):=
 NK (sJ ps _ (SH _ x)) h
def aiG{b:Nat}(h:ae w A β args bj)(hb:β 50000= .pointer (some ⟨b,0,none⟩)):ae w A β (args++[.pointer (some ⟨b,0,none⟩)]) (bj++[.ref 50000 0]):=
 gp _ _ _ _ h ⟨_,[],rfl,⟨b,hb,rfl⟩,rfl⟩
def SI {S:Nat->Prop}{e:Nat}:∀ {xs:M Value} {l:M U},oZ w S e xs l->xs.length=l.length/\∀(i:Nat) (u:Value) (x:U),xs[i]? =some u->l[i]? =some x->
  w.ownsRow 0 e 1 u x.length (x.map (Value.int .i64))/\(∀n∈x,lo .i64<=n/\n<=hi .i64)/\∀b,ah u=some b->S b/\∀i' u',i'≠i->xs[i']? =some u'->ah u'≠some b
 |[],[],_=>⟨rfl,λi u x h=>by cases h⟩
 |v::vs,y::l,⟨h1,h2,h3,h4⟩=>by
  obtain⟨g1,g2⟩:=SI h4;refine⟨by simp[g1],λi u x hu hx=>?_⟩;match i,hu,hx with
  |0,hu,hx=>
   cases hu;cases hx;refine⟨h1,h2,λb hb=>⟨(h3 b hb).1,λi' u' hi mV=>?_⟩⟩;match i',hi,mV with
   |i'+1,_,mV=>exact(h3 b hb).2 u' (D? (by simpa using mV))
  |i+1,hu,hx=>
   obtain⟨q1,q2,q3⟩:=g2 i u x (by simpa using hu) (by simpa using hx);refine⟨q1,q2,λb hb=>⟨(q3 b hb).1,λi' u' hi mV=>?_⟩⟩;match i',hi,mV with
   |0,_,mV=>
    cases mV;intro hv;exact(h3 b hv).2 u (D? (by simpa using hu)) hb
   |i'+1,hi,mV=>exact(q3 b hb).2 i' u' w! (by simpa using mV)
def SJ {S:Nat->Prop}{e:Nat}:∀ {xs:M Value} {l:M U},xs.length=l.length->(∀(i:Nat) (u:Value) (x:U),xs[i]? =some u->l[i]? =some x->
  w.ownsRow 0 e 1 u x.length (x.map (Value.int .i64))/\(∀n∈x,lo .i64<=n/\n<=hi .i64)/\∀b,ah u=some b->S b/\∀i' u',i'≠i->xs[i']? =some u'->ah u'≠some b)->oZ w S e xs l
 |[],[],_,_=>trivial
 |v::vs,y::l,hl,h=>by
  obtain⟨h1,h2,h3⟩:=h 0 v y rfl rfl;refine⟨h1,h2,λb hb=>⟨(h3 b hb).1,λu hu=>?_⟩,SJ (by simpa using hl) λi u x hu hx=>?_⟩;obtain⟨i,hi,rfl⟩:=c? hu;exact(h3 b hb).2 (i+1) _ w! (by simp[hi]);obtain⟨q1,q2,q3⟩:=h (i+1) u x (by simpa using hu) (by simpa using hx);exact⟨q1,q2,λb hb=>⟨(q3 b hb).1,λi' u' hi mV=>(q3 b hb).2 (i'+1) u' w! (by simpa using mV)⟩⟩
 |[],_::_,hl,_|_::_,[],hl,_=>by grind
def SK:∀ {x:U},(∀n∈x,lo .i64<=n/\n<=hi .i64)->dn (bw w A [.int .i64]) (x.map (Value.int .i64)) x
 |[],_=>rfl
 |n::x,h=>⟨[_],_,rfl,⟨_,[],rfl,⟨rfl,h n (G! ..)⟩,rfl⟩,SK λm hm=>h m (F! _ hm)⟩
def SL:∀ {x:U} {zs:M Value},dn (bw w A [.int .i64]) zs x->zs=x.map (Value.int .i64)/\∀n∈x,lo .i64<=n/\n<=hi .i64
 |[],zs,h=>⟨h,nofun⟩
 |n::x,zs,⟨c1,c2,hc,⟨v,vs,h1,⟨h2,h3⟩,h4⟩,h5⟩=>by
  obtain⟨g1,g2⟩:=SL h5;subst hc h1 h4;have h2:v= .int .i64 n:=h2;grind
def asA {e g:Nat}(h:w.ownsRow 0 e 1 v n xs)(hb:ah v=some g):g<w.heap.size:=by
 rcases h.2 with⟨hn,_⟩|⟨g',cap,cur,hv,_,hg,_⟩;rw[hn] at hb;cases hb;rw[hv] at hb;cases hb;grind
def Yv{ps:M PS}{F:Row (PS.flat ps)->CF}(hP:∀Q,HP.is Q->Q=P)(hf:du P f)(hv:aI P G f s)
  (h:∀x z,(F x z).1->∃e ei l j y,z= .g e ei l/\(F x z).2.2= .g e ei (l.set j y)/\j<l.length/\(∃c,(F x z).2.1= .bool c)/\∀xs:M Value,xs.length=l.length->∃r,s (rC ps x++[.ref 50000 0]) [.cells [.own 50001],.ek e (some 50002) xs j,.row ei [.int .i64] (l.getD j []) false]=some r/\
    r.pre/\r.res=(F x z).2.1/\((r.heap=[some (.cells [.own 50001]),some (.ek e (some 50002) xs j),some (.row ei [.int .i64] y false)]/\r.new=[])\/(r.heap=[some (.cells [.own 50001]),some (.ek e (some 60000) xs j),none]/\r.new=[.row ei [.int .i64] y false]))):
  NB G f (OG ps F):=by
 refine aiF hP hf λw A S β b args x z hA hG bm Ol hS hH qq=>?_;obtain⟨e,ei,l,j,y,rfl,hz,hj,⟨c,hk⟩,h⟩:=h x z qq;obtain⟨b1,e0,v,xs,c1,c2,c3,c4,c5,c6,c7,c8⟩:=hH;simp only[Value.pointer.injEq,A!,Addr.mk.injEq,and_true] at c1;subst c1;obtain⟨Mo,XB⟩:=SI c8;obtain⟨r,hs,hp,hr,hh⟩:=h xs Mo;have hju:j<xs.length:=by omega
 obtain⟨u,hu⟩:∃u,u=xs[j]:=⟨_,rfl⟩;have hxj:xs[j]? =some u:=by grind
 have hlj:l[j]? =some (l.getD j []):=by grind
 obtain⟨u1,u2,u3⟩:=XB j u _ hxj hlj;let az:Nat->Value:=λk=>if k=50000 then .pointer (some ⟨b,0,none⟩) else if k=50001 then v else if k=50002 then u else undef
 have bI:az 50000= .pointer (some ⟨b,0,none⟩):=rfl;have Sd:az 50001=v:=rfl;have Ll:az 50002=u:=rfl;have hub:∀g,ah u=some g->g≠b:=λg hg Vh=>c7 u (D? hxj) (Vh▸hg);have huv:∀g,ah u=some g->ah v≠some g:=λg hg hv=>(c6 g hv).2.2 u (D? hxj) hg
 have hM:∀q,HM az 3 q↔q=b\/ah v=some q\/ah u=some q:=by
  intro q;constructor
  . rintro⟨i,hi,hq⟩;match i,hi,hq with
    |0,_,hq=>exact .inl (V? (show some b=some q from hq)).symm
    |1,_,hq=>exact .inr (.inl hq)
    |2,_,hq=>exact .inr (.inr hq)
  rintro(rfl|hq|hq);exact⟨0,by decide,rfl⟩;exact⟨1,by decide,hq⟩;exact⟨2,by decide,hq⟩
 have hMS:∀q,HM az 3 q->S q:=λq hq=>by
  rcases(hM q).1 hq with rfl|hq|hq;exact c3;exact(c6 q hq).1;exact(u3 q hq).1
 have aDV:u.oneCell'=true:=by obtain⟨_,_,_,mV⟩:=ib u1;rw[mV];rfl
 refine(hv w A az _ _ [.cells [.own 50001],.ek e (some 50002) xs j,.row ei [.int .i64] (l.getD j []) false] r hA hG (aiG (Yu bm) bI) ?_ ?_ hs hp (by rcases hh with⟨hh,_⟩|⟨hh,_⟩<;>rw[hh]<;>rfl) z!).mono ?_
 . intro i ab hi;match i,hi with
   |0,hi=>
    cases hi;exact⟨b,_,e0,bI,c2,(hS b c3).1,⟨_,[],rfl,⟨rfl,c4⟩,rfl⟩,by simpa using c4⟩
   |1,hi=>
    cases hi;exact⟨xs,by rw[Mo];exact c5,λq hq=>(hS q (c6 q hq).1).1,λ_ _=>rfl,λj' gz=>by cases gz;exact⟨hxj,aDV⟩⟩
   |2,hi=>
    cases hi;exact⟨_,u1,SK u2,λq hq=>(hS q (u3 q hq).1).1⟩
   |_+3,hi=>cases hi
 . intro i i' q hi fN hq D8;have e1:∀q,ah (az 50000)=some q->q=b:=λq hq=>(V? (show some b=some q from hq)).symm;match i,i',hi,fN,hq,D8 with
   |0,0,_,_,_,_|1,1,_,_,_,_|2,2,_,_,_,_=>rfl
   |0,1,_,_,hq,D8=>exact absurd (e1 q hq) (c6 q D8).2.1
   |1,0,_,_,hq,D8=>exact absurd (e1 q D8) (c6 q hq).2.1
   |0,2,_,_,hq,D8=>exact absurd (e1 q hq) (hub q D8)
   |2,0,_,_,hq,D8=>exact absurd (e1 q D8) (hub q hq)
   |1,2,_,_,hq,D8=>exact absurd hq (huv q D8)
   |2,1,_,_,hq,D8=>exact absurd D8 (huv q hq)
   |_+3,_,hi,_,_,_|_,_+3,_,hi,_,_=>exact absurd hi z!
 rintro e' w' ⟨v',he,A',fm,q⟩
 obtain⟨kj,k1,k2,k3,k4,k5,k6⟩:∃kj,BR w' A' fm 50001 (.ek e (some kj) xs j)/\BR w' A' fm kj (.row ei [.int .i64] y false)/\Bz r 50000/\Bz r 50001/\Bz r kj/\(kj≠50000/\kj≠50001/\(∀g,ah (fm kj)=some g->w.heap.size<=g\/HM az 3 g)):=by
  rcases hh with⟨hh,hn⟩|⟨hh,hn⟩;refine⟨50002,(q.kept 1 _ (by rw[hh];rfl)).1,(q.kept 2 _ (by rw[hh];rfl)).1,.inl ⟨0,_,rfl,by decide,by rw[hh];rfl⟩,.inl ⟨1,_,rfl,by decide,by rw[hh];rfl⟩,.inl ⟨2,_,rfl,by decide,by rw[hh];rfl⟩,by decide,by decide,λg hg=>?_⟩;rw[(q.kept 2 _ (by rw[hh];rfl)).2] at hg;exact .inr ((hM g).2 (.inr (.inr hg)));refine⟨60000,(q.kept 1 _ (by rw[hh];rfl)).1,(q.rows 0 _ (by rw[hn];rfl)).1,.inl ⟨0,_,rfl,by decide,by rw[hh];rfl⟩,.inl ⟨1,_,rfl,by decide,by rw[hh];rfl⟩,.inr ⟨0,rfl,by rw[hn];exact Nat.one_pos⟩,by decide,by decide,(q.rows 0 _ (by rw[hn];rfl)).2⟩
 have hk0:BR w' A' fm 50000 (.cells [.own 50001])/\fm 50000=az 50000:=q.kept 0 _ (by rcases hh with⟨hh,_⟩|⟨hh,_⟩<;>rw[hh]<;>rfl)
 have Ma:fm 50001=v:=by
  rcases hh with⟨hh,_⟩|⟨hh,_⟩;exact(q.kept 1 _ (by rw[hh];rfl)).2;exact(q.kept 1 _ (by rw[hh];rfl)).2
 obtain⟨⟨b2,arr,e2,d1,d2,d3,⟨u',us,d4,⟨d5,d6⟩,d7⟩,_⟩,d8⟩:=hk0
 have â:b2=b:=by
  have:=d1.symm.trans (d8.trans bI);simp only[Value.pointer.injEq,A!,Addr.mk.injEq,and_true] at this;exact this
 subst â;simp only[ae] at d7;subst d7;subst d5;rw[Ma] at d4 d6;have Ha:arr= #[v]:=by apply Array.ext';exact d4
 subst Ha;obtain⟨ys,o1,o2,o3,o4⟩:=k1;rw[Ma] at o1 o2;obtain⟨o5,o6⟩:=o4 kj rfl;obtain⟨zs,p1,p2,p3⟩:=k2;obtain⟨rfl,p4⟩:=SL p2;have p3:∀g,ah (fm kj)=some g->¬A' g:=λg hg=>by simpa using p3 g hg
 have hyl:ys.length=l.length:=by have:=o1.1;omega
 have hys:∀i,i≠j->ys[i]? =xs[i]? :=o3;have hA0:∀g,g<w.heap.size->A' g->A g\/HM az 3 g:=q.fk
 have oA:∀g,ah (fm kj)=some g->g≠b2/\ah v≠some g:=λg hg=>by
  refine⟨λVh=>?_,λhgv=>?_⟩;subst Vh;exact k6.1 (q.apart kj 50000 g k5 k3 hg (by rw[d1];rfl));exact k6.2.1 (q.apart kj 50001 g k5 k4 hg (by rw[Ma];exact hgv))
 have hko:∀i u2 g,i≠j->xs[i]? =some u2->ah u2=some g->S g/\g<w.heap.size/\¬HM az 3 g/\¬A' g/\ah (fm kj)≠some g:=λi u2 g hi sE hg=>by
  have hil:i<l.length:=by rw[<-Mo];exact(G?.1 sE).1
  obtain⟨_,_,q3⟩:=XB i u2 l[i] sE (C! hil);obtain⟨s1,s2⟩:=q3 g hg
  have hm:¬HM az 3 g:=λhm=>by
   rcases(hM g).1 hm with rfl|hm|hm;exact c7 u2 (D? sE) hg;exact(c6 g hm).2.2 u2 (D? sE) hg;exact s2 j u (λh=>hi h.symm) hxj hm
  refine⟨s1,(hS g s1).2,hm,λha=>(hA0 g (hS g s1).2 ha).elim (hS g s1).1 hm,λD5=>?_⟩;rcases k6.2.2 g D5 with h|h;have:=(hS g s1).2;omega;exact hm h
 refine⟨v',he,λg=>A' g/\(g<w.heap.size->A g),λg=>(S g/\¬A' g)\/ah (fm kj)=some g,?_,q.os,q.tape,q.output,q.size,λg hg hn=>q.same g hg λhm=>hn (hMS g hm),λg hg=>⟨(q.mono g hg).1,λ_=>hg⟩,λg hg ha=>ha.2 hg,λg hg=>q.bound g hg.1,?_,λUF=>?_,?_⟩;rw[hz];refine⟨rfl,rfl,λu0 ⟨b3,e3,g1,g2⟩=>?_⟩;simp only[Value.pointer.injEq,A!,Addr.mk.injEq,and_true] at g1;subst g1;rw[c2] at g2;simp only[A!,Obj.cells.injEq] at g2;have :u0=v:=by have:=g2.1;simpa using this.symm
 subst this;exact⟨b2,e2,rfl,d2⟩;rintro g (⟨h1,h2⟩|h);exact⟨.inl h1,λha=>h2 ha.1,C? (hS g h1).2 q.size⟩;refine⟨?_,λha=>p3 g h ha.1,asA p1 h⟩;rcases k6.2.2 g h with h|h;exact .inr h;exact .inl (hMS g h);have:=q.res;rw[hr,hk] at this;rw[hk];exact this;rw[hz];refine⟨b2,e2,v,ys,rfl,d2,.inl ⟨c3,d3⟩,d6,by rw[List.length_set];simpa[Mo] using o1,λg hg=>⟨.inl ⟨(c6 g hg).1,o2 g hg⟩,(c6 g hg).2.1,λu2 sE D5=>?_⟩,λu2 sE D5=>?_,SJ (by rw[List.length_set];exact hyl) λi un x2 sE Ć=>?_⟩;obtain⟨i,hi,rfl⟩:=c? sE;have fN:=C! hi;by_cases A3:i=j;subst A3;rw[o5,A!] at fN;rw[<-fN] at D5;exact(oA g D5).2 hg;rw[hys i A3] at fN;exact(c6 g hg).2.2 _ (D? fN) D5;obtain⟨i,hi,rfl⟩:=c? sE;have fN:=C! hi;by_cases A3:i=j;subst A3;rw[o5,A!] at fN;rw[<-fN] at D5;exact(oA b2 D5).1 rfl;rw[hys i A3] at fN;exact c7 _ (D? fN) D5;by_cases A3:i=j;subst A3;rw[o5] at sE;cases sE;rw[List.getElem?_set_self w!] at Ć;cases Ć;refine⟨p1,p4,λg hg=>⟨.inr hg,λi' u' fN mV yj=>?_⟩⟩;rw[hys i' fN] at mV;exact(hko i' u' g fN mV yj).2.2.2.2 hg;rw[hys i A3] at sE;rw[List.getElem?_set_ne (λh=>A3 h.symm)] at Ć;obtain⟨q1,q2,q3⟩:=XB i un x2 sE Ć;refine⟨dw q1 (λg hg=>?_),q2,λg hg=>⟨?_,λi' u' fN mV yj=>?_⟩⟩;obtain⟨_,s2,s3,_,_⟩:=hko i un g A3 sE hg;exact q.same g s2 s3;obtain⟨s1,_,_,s4,_⟩:=hko i un g A3 sE hg;exact .inl ⟨s1,s4⟩;by_cases aBW:i'=j;subst aBW;rw[o5] at mV;cases mV;exact(hko i un g A3 sE hg).2.2.2.2 yj;rw[hys i' aBW] at mV;exact(q3 g hg).2 i' u' fN mV yj
theorem Valid.cases{ps:M PS}{F F1 F2:Row (PS.flat ps)->Prop×AV×M AB}(h1:Valid P G f (fg ps F1))(h2:Valid P G f (fg ps F2))
  (h:∀x,(F x).1->((F1 x).1/\(F x).2=(F1 x).2)\/((F2 x).1/\(F x).2=(F2 x).2)):Valid P G f (fg ps F):=by
 intro w A β args bj pre res bs hA hG ha hs hp;unfold fg at hs;split at hs;rename_i x hx
 have key:∀F':Row (PS.flat ps)->Prop×AV×M AB,Valid P G f (fg ps F')->(F' x).1->(F x).2=(F' x).2->Calls P f args.toArray w λe w'=>∃v,e= .returned v/\∃A' az,my w A w' v res bs A' az:=by
  intro F' hv p1 e1;refine hv w A β args bj (F' x).1 res bs hA hG ha ?_ p1;unfold fg;grind
 grind;grind
theorem aI.cases {P:Program}{G:Nat->Option GD}{f:FuncId}{ts:M TA}{bs:M TB}{F F1 F2:Row (TA.db ts)->fx bs->bl}(h1:aI P G f (bZ ts bs F1))(h2:aI P G f (bZ ts bs F2))
  (h:∀x y,(F x y).pre->((F1 x y).pre/\F x y= {F1 x y with pre:=(F x y).pre})\/((F2 x y).pre/\F x y= {F2 x y with pre:=(F x y).pre})):aI P G f (bZ ts bs F):=by
 intro w A β args bj hs r hA hG ha fl yk nY hp hl B2;unfold bZ at nY;split at nY;rename_i cs ep;split at nY;rename_i x y hx hy;cases nY
 have key:∀F':Row (TA.db ts)->fx bs->bl,aI P G f (bZ ts bs F')->(F' x y).pre->F x y= {F' x y with pre:=(F x y).pre}->Calls P f args.toArray w λe w'=>∃v,e= .returned v/\∃A' az,Je w A β hs.length w' v (F x y) A' az:=by
  intro F' hv p1 e1;have e2:(F x y).heap=(F' x y).heap:=by rw[e1]
  refine(hv w A β args bj hs (F' x y) hA hG ha fl yk (by unfold bZ;simp only[ep,hx,hy]) p1 (by rw[<-e2];exact hl) B2).mono ?_;rintro e w' ⟨v,he,A',az,q⟩;refine⟨v,he,A',az,?_⟩;rw[e1];exact⟨q.os,q.tape,q.output,q.size,q.same,q.mono,q.fk,q.bound,q.res,q.kept,q.rows,q.apart⟩
 rcases h x y hp with⟨p1,e1⟩|⟨p1,e1⟩;exact key F1 h1 p1 e1;exact key F2 h2 p1 e1;cases nY;cases nY
def sZ(f:Func):Code:=f.body.getD .skip
def cS(f:Nat)(p:M PS)(F:Row (PS.flat p)->Prop×AV×M AB)(E:Env):Env:=Env.cons f (fg p F) E
def cH(f:Nat)(m:M Bool)(p:M TA)(q:M TB)(F:Row (TA.db p)->fx q->bl)(E:Env):Env:=Env.bS f m (bZ p q F) E
def nL:α->Nat->Option bM:=λ_ _=>none
def mG {β:Type}:α->β->Nat->Option bM:=λ_ _ _=>none
def FK(f:Func):Bool:=f.body.isSome&& !(f.name== "runtime.NumGoroutine")
abbrev Mq(p:Prop):Prop:=∃V:Prop,V/\V=p
def Mq.go {p:Prop}(h:Mq p):p:=h.elim λ_ h=>h.2▸h.1
def yn(h:FK fn=true):fn.body=some (sZ fn)/\(fn.name== "runtime.NumGoroutine")=false :=by
 unfold FK at h;unfold sZ;cases hb:fn.body with
 |none=>rw[hb] at h;cases h
 |some c=>rw[hb] at h;simpa using h
theorem du.kq(hf:P.funcs[f]? =some fn)(hb:FK fn=true):du P f:=du.of hf (yn hb).1 (yn hb).2
def vS(hE:aW P E)(hm:P.follows .mixedOrders=true)(p:M PS){F:Row (PS.flat p)->Prop×AV×M AB}(L:Row (PS.flat p)->Nat->Option bM)
  (hf:P.funcs[f]? =some fn) (hb:FK fn=true)
  (h:∀x,(F x).1->Row.ok (PS.flat p) x->Mq (K5 E (L x) (sZ fn) fn.ntmps fn.results.toList (rC p x) (F x).2.1 (F x).2.2)):Valid P E.jY f (fg p F):=
 HD hE hm p L hf (yn hb).1 λx a b=>(h x a b).go
def vH(hE:aW P E)(hm:P.follows .mixedOrders=true)(p:M TA)(q:M TB){F:Row (TA.db p)->fx q->bl}(L:Row (TA.db p)->fx q->Nat->Option bM)
  (hf:P.funcs[f]? =some fn) (hb:FK fn=true)
  (h:∀x y,(F x y).pre->Row.ok (TA.db p) x->fx.ok q y->Mq (B0 E (L x y) (sZ fn) fn.ntmps fn.results.toList (TA.qu p (ay (TA.db p) x)) (fx.put q y) (F x y))):aI P E.jY f (bZ p q F):=
 RP hE hm p q L hf (yn hb).1 λx y a b c=>(h x y a b c).go
def vH2(hE:aW P E)(o:Nat->Bool)(cl:Nat->Option Nat)(sp:Nat->Bool)(hm:P.follows .mixedOrders=true)(p:M TA)(q:M TB){F:Row (TA.db p)->fx q->bl}(L:Row (TA.db p)->fx q->Nat->Option bM)
  (hf:P.funcs[f]? =some fn) (hb:FK fn=true)
  (h:∀x y,(F x y).pre->Row.ok (TA.db p) x->fx.ok q y->Mq (B0 {E with iy:=o,cls:=cl,L6:=sp} (L x y) (sZ fn) fn.ntmps fn.results.toList (TA.qu p (ay (TA.db p) x)) (fx.put q y) (F x y))):aI P E.jY f (bZ p q F):=
 vH (E:={E with iy:=o,cls:=cl,L6:=sp}) ⟨hE.eY,hE.sig,hE.qW,hE.hp,hE.cg⟩ hm p q L hf hb h
def kS2(hm:P.follows .mixedOrders=true)(hE:aW P E)(o:Nat->Bool)(cl:Nat->Option Nat)(sp:Nat->Bool){p:M PS}{F:Row (PS.flat p)->Prop×AV×M AB}(L:Row (PS.flat p)->Nat->Option bM)
  (hf:P.funcs[f]? =some fn) (hb:FK fn=true)
  (h:∀x,(F x).1->Row.ok (PS.flat p) x->Mq (K5 {E with iy:=o,cls:=cl,L6:=sp} (L x) (sZ fn) fn.ntmps fn.results.toList (rC p x) (F x).2.1 (F x).2.2)):aW P (cS f p F E):=
 aW.cons hE (vS (E:={E with iy:=o,cls:=cl,L6:=sp}) ⟨hE.eY,hE.sig,hE.qW,hE.hp,hE.cg⟩ hm p L hf hb h) (du.kq hf hb)
def kS(hm:P.follows .mixedOrders=true)(hE:aW P E){p:M PS}{F:Row (PS.flat p)->Prop×AV×M AB}(L:Row (PS.flat p)->Nat->Option bM)
  (hf:P.funcs[f]? =some fn) (hb:FK fn=true)
  (h:∀x,(F x).1->Row.ok (PS.flat p) x->Mq (K5 E (L x) (sZ fn) fn.ntmps fn.results.toList (rC p x) (F x).2.1 (F x).2.2)):aW P (cS f p F E):=
 aW.cons hE (vS hE hm p L hf hb h) (du.kq hf hb)
def kR(hm:P.follows .mixedOrders=true)(hE:aW P E){p:M PS}{F:Row (PS.flat p)->Prop×AV×M AB}(μ:Row (PS.flat p)->Nat)(L:Row (PS.flat p)->Nat->Option bM)
  (hf:P.funcs[f]? =some fn) (hb:FK fn=true)
  (h:∀m x,μ x<m+1->(F x).1->Row.ok (PS.flat p) x->Mq (K5 (Env.cons f (rD p μ m F) E) (L x) (sZ fn) fn.ntmps fn.results.toList (rC p x) (F x).2.1 (F x).2.2)):aW P (cS f p F E):=
 aW.cons hE (Ď p μ λm ih=>HD (E:=Env.cons f (rD p μ m F) E) (aW.cons hE ih (du.kq hf hb)) hm p L hf (yn hb).1 λx hp hx=>(h m x hp.1 hp.2 hx).go) (du.kq hf hb)
def kH2(hm:P.follows .mixedOrders=true)(hE:aW P E)(o:Nat->Bool)(cl:Nat->Option Nat)(sp:Nat->Bool){p:M TA}{q:M TB}{F:Row (TA.db p)->fx q->bl}(L:Row (TA.db p)->fx q->Nat->Option bM)
  (hf:P.funcs[f]? =some fn) (hb:FK fn=true)
  (h:∀x y,(F x y).pre->Row.ok (TA.db p) x->fx.ok q y->Mq (B0 {E with iy:=o,cls:=cl,L6:=sp} (L x y) (sZ fn) fn.ntmps fn.results.toList (TA.qu p (ay (TA.db p) x)) (fx.put q y) (F x y))):aW P (cH f m p q F E):=
 aW.bS hE (vH (E:={E with iy:=o,cls:=cl,L6:=sp}) ⟨hE.eY,hE.sig,hE.qW,hE.hp,hE.cg⟩ hm p q L hf hb h) (du.kq hf hb)
def kH(hm:P.follows .mixedOrders=true)(hE:aW P E){p:M TA}{q:M TB}{F:Row (TA.db p)->fx q->bl}(L:Row (TA.db p)->fx q->Nat->Option bM)
  (hf:P.funcs[f]? =some fn) (hb:FK fn=true)
  (h:∀x y,(F x y).pre->Row.ok (TA.db p) x->fx.ok q y->Mq (B0 E (L x y) (sZ fn) fn.ntmps fn.results.toList (TA.qu p (ay (TA.db p) x)) (fx.put q y) (F x y))):aW P (cH f m p q F E):=
 aW.bS hE (vH hE hm p q L hf hb h) (du.kq hf hb)
def kX(hE:aW P E){p:M PS}{F:Row (PS.flat p)->Prop×AV×M AB}(hf:P.funcs[f]? =some fn)(hb:FK fn=true)(h:Valid P E.jY f (fg p F)):aW P (cS f p F E):=aW.cons hE h (du.kq hf hb)
def kXH(hE:aW P E){p:M TA}{q:M TB}{F:Row (TA.db p)->fx q->bl}(hf:P.funcs[f]? =some fn)(hb:FK fn=true)(h:aI P E.jY f (bZ p q F)):aW P (cH f m p q F E):=aW.bS hE h (du.kq hf hb)
def kV {F:Ub}(h:aW P E)(hs:E.sig f=some F):Valid P E.jY f F:=(h.sig f F hs).1
abbrev fS(p:M PS)(x:Row (PS.flat p)):Prop:=Row.ok (PS.flat p) x
abbrev aBX(p:M TA)(x:Row (TA.db p)):Prop:=Row.ok (TA.db p) x
abbrev hlen(l:M α):Prop:=l.length<=9223372036854775807
abbrev hint(x:Int):Prop:= -9223372036854775808<=x/\x<=9223372036854775807
def kS3(hm:P.follows .mixedOrders=true)(hE:aW P E)(o:Nat->Bool)(cl:Nat->Option Nat)(sp:Nat->Bool)(fz:Nat->Option (M (Option TypeId))){p:M PS}{F:Row (PS.flat p)->Prop×AV×M AB}(L:Row (PS.flat p)->Nat->Option bM)
  (hf:P.funcs[f]? =some fn) (hb:FK fn=true)
  (h:∀x,(F x).1->Row.ok (PS.flat p) x->Mq (K5 {E with iy:=o,cls:=cl,L6:=sp,L7:=fz} (L x) (sZ fn) fn.ntmps fn.results.toList (rC p x) (F x).2.1 (F x).2.2)):aW P (cS f p F E):=
 aW.cons hE (vS (E:={E with iy:=o,cls:=cl,L6:=sp,L7:=fz}) ⟨hE.eY,hE.sig,hE.qW,hE.hp,hE.cg⟩ hm p L hf hb h) (du.kq hf hb)
def kH3(hm:P.follows .mixedOrders=true)(hE:aW P E)(o:Nat->Bool)(cl:Nat->Option Nat)(sp:Nat->Bool)(fz:Nat->Option (M (Option TypeId))){p:M TA}{q:M TB}{F:Row (TA.db p)->fx q->bl}(L:Row (TA.db p)->fx q->Nat->Option bM)
  (hf:P.funcs[f]? =some fn) (hb:FK fn=true)
  (h:∀x y,(F x y).pre->Row.ok (TA.db p) x->fx.ok q y->Mq (B0 {E with iy:=o,cls:=cl,L6:=sp,L7:=fz} (L x y) (sZ fn) fn.ntmps fn.results.toList (TA.qu p (ay (TA.db p) x)) (fx.put q y) (F x y))):aW P (cH f m p q F E):=
 aW.bS hE (vH (E:={E with iy:=o,cls:=cl,L6:=sp,L7:=fz}) ⟨hE.eY,hE.sig,hE.qW,hE.hp,hE.cg⟩ hm p q L hf hb h) (du.kq hf hb)
end Go.Vg
namespace Go.S
variable {α β:Type}{l w W out:List Int}{e p u v a s1 s2 f:Int}{b m t g:B8}{x n i j:Nat}{c:Bool}{parts T r docs:List B8}{y y0 y1:UInt8}
def len(l:M α):Nat:=l.length
def ag(m n:Nat):Nat:=m-n
def gV(l:M α)(n:Nat):Prop:=n<=l.length
def cw(n m:Nat):Prop:=n<=m
def pP(l:M α):Int:=l.length
def small(l:M α):Prop:=l.length<=1099511627776
theorem qv(n:Int)(k:Nat)(h:0<=n):Vg.aT n ((2:Int)^k-1)=n%2^k:=by
 obtain⟨m,rfl⟩:=x? h
 have h1:((2:Int)^k-1).toNat=2^k-1:=by
  have :(1:Nat)<=2^k:=Nat.one_le_two_pow;have e:((2:Int)^k-1)=((2^k-1:Nat):Int):=by rw[Int.natCast_sub this];simp
  rw[e];rfl
 simp only[Vg.aT,Z!,h1,Nat.and_two_pow_sub_one_eq_mod];simp
theorem aiJ(n:Int)(h:0<=n):Vg.aT n 7=n%8:=by simpa using qv n 3 h
theorem ē(n:Int)(h:0<=n):Vg.aT n 15=n%16:=by simpa using qv n 4 h
theorem FL(n:Int)(h:0<=n):Vg.aT n 31=n%32:=by simpa using qv n 5 h
theorem OH(n:Int)(h:0<=n):Vg.aT n 63=n%64:=by simpa using qv n 6 h
theorem nm(n:Int)(h:0<=n):Vg.aT n 127=n%128:=by simpa using qv n 7 h
theorem gZ(a b:Int)(k:Nat)(ha:0<=a)(h0:0<=b)(h:b<2^k):Vg.cn (a*2^k) b=a*2^k+b:=by
 obtain⟨m,rfl⟩:=x? ha
 have h1:((m:Int)*2^k).toNat=m*2^k:=by
  rfl
 grind[Vg.cn,Int.toNat_natCast,Nat.mul_comm,Nat.two_pow_add_eq_or_of_lt,Int.mul_comm]
theorem B4(a b:Int):Vg.cn a b=Vg.cn b a:=by grind[Vg.cn]
theorem OI(n:Int)(h:0<=n)(h1:n<128):Vg.cn n 128=n+128:=by
 rw[B4,show(128:Int)=1*2^7 by rfl,gZ 1 n 7 w! h h1];omega
theorem RQ(p:α->Bool)(l:M α):(l.takeWhile p).length<=l.length:=by
 induction l with
 |nil=>simp
 |cons x l ih=>grind[List.takeWhile_cons]
theorem amP(b:B8)(x:Nat)(h:x<b.length):b.take x++[UInt8.ofNat (Int.toNat ((b.getD (Int.toNat (x:Int)) 0).toNat:Int))]=b.take (x+1):=by
 simp_all
abbrev H8:=Int×Int×Int×Int×Int×Int×Int×Int
def right(x n:Int):Int:=(x/2^n.toNat+x*2^(32-n).toNat%4294967296)%4294967296
def rotl(x k:Int):Int:=right x (-k)
def tX(x k:Int):Prop:= -32<k/\k<0/\0<=x/\x<4294967296
def jq(n:Int):Prop:=0<n/\n<32
def zC(p:B8)(i:Nat):Int:=(p.getD i 0).toNat
def word(p:B8)(i:Nat):Int:=zC p (4*i)*16777216+zC p (4*i+1)*65536+zC p (4*i+2)*256+zC p (4*i+3)
def aKC(x:Int):Int:=Vg.eN (Vg.eN (right x 7) (right x 18)) (x/2^Int.toNat 3)
def aKD(y:Int):Int:=Vg.eN (Vg.eN (right y 17) (right y 19)) (y/2^Int.toNat 10)
def amQ(w:U)(n:Nat):Int:=(((w.getD (n-16) 0+aKC (w.getD (n-15) 0))%4294967296+w.getD (n-7) 0)%4294967296+aKD (w.getD (n-2) 0))%4294967296
def zD(p:B8)(w:U)(n:Nat):Int:=if n<16 then word p n else amQ w n
def sched(p:B8):Nat->U
 |0=>[]
 |n+1=>sched p n++[zD p (sched p n) n]
def ba(p:B8)(n:Nat):U:=sched p n++List.replicate (64-n) 0
def AI:U:=[1116352408,1899447441,3049323471,3921009573,961987163,1508970993,2453635748,2870763221,3624381080,310598401,607225278,1426881987,1925078388,2162078206,2614888103,3248222580,3835390401,4022224774,264347078,604807628,770255983,1249150122,1555081692,1996064986,2554220882,2821834349,2952996808,3210313671,3336571891,3584528711,113926993,338241895,666307205,773529912,1294757372,1396182291,1695183700,1986661051,2177026350,2456956037,2730485921,2820302411,3259730800,3345764771,3516065817,3600352804,4094571909,275423344,430227734,506948616,659060556,883997877,958139571,1322822218,1537002063,1747873779,1955562222,2024104815,2227730452,2361852424,2428436474,2756734187,3204031479,3329325298]
def H0:H8:=(1779033703,3144134277,1013904242,2773480762,1359893119,2600822924,528734635,1541459225)
def aKE(a:Int):Int:=Vg.eN (Vg.eN (right a 2) (right a 13)) (right a 22)
def aKF(e:Int):Int:=Vg.eN (Vg.eN (right e 6) (right e 11)) (right e 25)
def ch(e f g:Int):Int:=Vg.eN (Vg.aT e f) (Vg.aT (4294967296-1-e) g)
def maj(a b c:Int):Int:=Vg.eN (Vg.eN (Vg.aT a b) (Vg.aT a c)) (Vg.aT b c)
def one(k w e f g h:Int):Int:=((((h+aKF e)%4294967296+ch e f g)%4294967296+k)%4294967296+w)%4294967296
def two(a b c:Int):Int:=(aKE a+maj a b c)%4294967296
def rnd(k w:Int)(s:H8):H8:=((one k w s.2.2.2.2.1 s.2.2.2.2.2.1 s.2.2.2.2.2.2.1 s.2.2.2.2.2.2.2+two s.1 s.2.1 s.2.2.1)%4294967296,s.1,s.2.1,s.2.2.1,
 (s.2.2.2.1+one k w s.2.2.2.2.1 s.2.2.2.2.2.1 s.2.2.2.2.2.2.1 s.2.2.2.2.2.2.2)%4294967296,s.2.2.2.2.1,s.2.2.2.2.2.1,s.2.2.2.2.2.2.1)
def gq(w:U)(s:H8):Nat->H8
 |0=>s
 |n+1=>rnd (AI.getD n 0) (w.getD n 0) (gq w s n)
def ads(s t:H8):H8:=((s.1+t.1)%4294967296,(s.2.1+t.2.1)%4294967296,(s.2.2.1+t.2.2.1)%4294967296,(s.2.2.2.1+t.2.2.2.1)%4294967296,
 (s.2.2.2.2.1+t.2.2.2.2.1)%4294967296,(s.2.2.2.2.2.1+t.2.2.2.2.2.1)%4294967296,(s.2.2.2.2.2.2.1+t.2.2.2.2.2.2.1)%4294967296,(s.2.2.2.2.2.2.2+t.2.2.2.2.2.2.2)%4294967296)
def block(s:H8)(p:B8):H8:=ads s (gq (sched p 64) s 64)
def proc(s:H8)(b:B8):Nat->H8
 |0=>s
 |n+1=>block (proc s b n) ((b.drop (64*n)).take 64)
def eQ(s:H8):U:=[s.1,s.2.1,s.2.2.1,s.2.2.2.1,s.2.2.2.2.1,s.2.2.2.2.2.1,s.2.2.2.2.2.2.1,s.2.2.2.2.2.2.2]
def ta(l:U):H8:=(l.getD 0 0,l.getD 1 0,l.getD 2 0,l.getD 3 0,l.getD 4 0,l.getD 5 0,l.getD 6 0,l.getD 7 0)
def b32(w:Int):B8:=[UInt8.ofNat (w/16777216%256).toNat,UInt8.ofNat (w/65536%256).toNat,UInt8.ofNat (w/256%256).toNat,UInt8.ofNat (w%256).toNat]
def oQ(s:H8)(n:Nat):B8:=((eQ s).take n).flatMap b32
def dig(s:H8):B8:=oQ s 8
def ik(n:Nat):Nat:=(119-n%64)%64
def len8(n:Int)(k:Nat):B8:=(List.range k).map λi=>UInt8.ofNat (n/2^(56-8*i)%256).toNat
def gu(rest:B8)(k:Nat):B8:=rest++[128]++List.replicate k 0
def pt(rest:B8)(n:Int)(k:Nat):B8:=gu rest (ik rest.length)++len8 (n*8) k
def tail(rest:B8)(n:Int):B8:=pt rest n 8
def blocks(b:B8):Nat:=b.length/64
def b8(s:H8)(b:B8):H8:=proc s b (blocks b)
def j6(b:B8):B8:=b.drop (64*blocks b)
def sum(b:B8):B8:=dig (b8 H0 (tail b b.length))
def xt(s:H8):Prop:=∀x∈eQ s,0<=x/\x<4294967296
def okW(l:U):Prop:=∀x∈l,0<=x/\x<4294967296
def cA(rest:B8)(k:Nat):Prop:=k<=ik rest.length
def qw(r:B8)(n:Int):Bool:=decide (0<=n)&&decide (n<=1099511627776)&&decide ((r.length:Int)=n%64)
def Vi(s:H8)(r:B8)(n:Int)(b:B8):Prop:=xt s/\r=[]/\n=0/\small b
def MN(s:H8)(r:B8)(n:Int):Prop:=xt s/\0<=n/\n<=1099511627776/\(r.length:Int)=n%64
def Vj(s:H8)(p:B8):Prop:=xt s/\p.length=64
def OJ(l:U)(p:B8):Prop:=okW l/\l.length=8/\p.length=64
def j7(b:B8)(k:Nat):B8:=b.drop (64*k)
def mR(b:B8)(k:Nat):Int:=(b.length:Int)*8/256^k
def lp(b:B8)(k:Nat):B8:=(len8 ((b.length:Int)*8) 8).drop (8-k)
theorem amR(a b c d:UInt8):Vg.cn (Vg.cn (Vg.cn ((a.toNat:Int)*2^Int.toNat 24%4294967296) ((b.toNat:Int)*2^Int.toNat 16%4294967296)) ((c.toNat:Int)*2^Int.toNat 8%4294967296)) (d.toNat:Int)=
  (a.toNat:Int)*16777216+(b.toNat:Int)*65536+(c.toNat:Int)*256+(d.toNat:Int):=by
 have ha:=a.toNat_lt;have hb:=b.toNat_lt;have hc:=c.toNat_lt;have hd:=d.toNat_lt
 have e1:(a.toNat:Int)*2^Int.toNat 24%4294967296=((a.toNat:Int))*2^24:=by grind
 have e2:(b.toNat:Int)*2^Int.toNat 16%4294967296=(b.toNat:Int)*2^16:=by grind
 have e3:(c.toNat:Int)*2^Int.toNat 8%4294967296=(c.toNat:Int)*2^8:=by grind
 rw[e1,e2,e3,gZ _ _ 24 w! w! w!];rw[show(a.toNat:Int)*2^24+(b.toNat:Int)*2^16=((a.toNat:Int)*256+b.toNat)*2^16 by omega,gZ _ _ 16 w! w! w!];rw[show((a.toNat:Int)*256+b.toNat)*2^16+(c.toNat:Int)*2^8=((a.toNat:Int)*65536+b.toNat*256+c.toNat)*2^8 by omega,gZ _ _ 8 w! w! w!];omega
theorem cV(p:B8):∀n,(sched p n).length=n
 |0=>rfl
 |n+1=>by simp[sched,cV p n]
theorem vf(p:B8)(n:Nat)(h:n<=64):(ba p n).length=64:=by grind[ba,cV]
theorem adt(p:B8):ba p 64=sched p 64:=by simp[ba]
theorem amS(p:B8)(n:Nat):0<=word p n/\word p n<4294967296:=by
 simp only[word,zC];have h1:=(p.getD (4*n) 0).toNat_lt;have h2:=(p.getD (4*n+1) 0).toNat_lt;have h3:=(p.getD (4*n+2) 0).toNat_lt;have h4:=(p.getD (4*n+3) 0).toNat_lt
 omega
theorem SM(p:B8):∀n,okW (sched p n)
 |0=>by simp[sched,okW]
 |n+1=>by
  intro x hx;simp[sched,I!,t?] at hx;rcases hx with hx|rfl;exact SM p n x hx;simp[zD];split;exact amS p n;simp[amQ];omega
theorem Yw(h:okW l)(i:Nat):0<=l.getD i 0/\l.getD i 0<4294967296:=by
 rw[E!];cases hg:l[i]? with
 |none=>simp
 |some x=>simpa using h x (D? hg)
theorem asB(p:B8)(n i:Nat):0<=(ba p n).getD i 0/\(ba p n).getD i 0<4294967296:=by
 refine Yw ?_ i;intro x hx;simp[ba,List.mem_append] at hx;rcases hx with hx|hx;exact SM p n x hx;grind
theorem Yx(p:B8)(n i:Nat)(k:Int)(h: -32<k/\k<0):tX ((ba p n).getD i 0) k:=⟨h.1,h.2,asB p n i⟩
theorem DA(p:B8)(n i:Nat)(h:i<n):(ba p n).getD i 0=(sched p n).getD i 0:=by
 grind[ba,List.getElem?_append_left,cV]
theorem Yy(p:B8)(n:Nat)(v:Int)(h:n<64)(hv:v=zD p (sched p n) n):(ba p n).set n v=ba p (n+1):=by
 grind[ba,sched,aiE,cV]
theorem asC(p:B8)(x:Nat)(h:x<16):List.set (ba p x) (0+Int.toNat (x:Int)*1)
  (Vg.cn (Vg.cn (Vg.cn (((List.getD p (Int.toNat (4*(x:Int))) 0).toNat:Int)*2^Int.toNat 24%4294967296) (((List.getD p (Int.toNat (4*(x:Int)+1)) 0).toNat:Int)*2^Int.toNat 16%4294967296))
    (((List.getD p (Int.toNat (4*(x:Int)+2)) 0).toNat:Int)*2^Int.toNat 8%4294967296)) ((List.getD p (Int.toNat (4*(x:Int)+3)) 0).toNat:Int))=ba p (x+1):=by
 rw[amR,show 0+Int.toNat (x:Int)*1=x by omega];refine Yy p x _ w! ?_;simp[zD,Q! h,word,zC,show Int.toNat (4*(x:Int))=4*x by omega,show Int.toNat (4*(x:Int)+1)=4*x+1 by omega,show Int.toNat (4*(x:Int)+2)=4*x+2 by omega,show Int.toNat (4*(x:Int)+3)=4*x+3 by omega]
theorem asD(p:B8)(x:Nat)(h:16<=x)(h1:x<64):List.set (ba p x) (0+Int.toNat (x:Int)*1)
  ((((List.getD (ba p x) (0+Int.toNat ((x:Int)-16)*1) 0+
    Vg.eN (Vg.eN (rotl (List.getD (ba p x) (0+Int.toNat ((x:Int)-15)*1) 0) (-7)) (rotl (List.getD (ba p x) (0+Int.toNat ((x:Int)-15)*1) 0) (-18))) (List.getD (ba p x) (0+Int.toNat ((x:Int)-15)*1) 0/2^Int.toNat 3))%4294967296+
    List.getD (ba p x) (0+Int.toNat ((x:Int)-7)*1) 0)%4294967296+
    Vg.eN (Vg.eN (rotl (List.getD (ba p x) (0+Int.toNat ((x:Int)-2)*1) 0) (-17)) (rotl (List.getD (ba p x) (0+Int.toNat ((x:Int)-2)*1) 0) (-19))) (List.getD (ba p x) (0+Int.toNat ((x:Int)-2)*1) 0/2^Int.toNat 10))%4294967296)=ba p (x+1):=by
 simp only[show 0+Int.toNat (x:Int)*1=x by omega,show 0+Int.toNat ((x:Int)-16)*1=x-16 by omega,show 0+Int.toNat ((x:Int)-15)*1=x-15 by omega,show 0+Int.toNat ((x:Int)-7)*1=x-7 by omega,show 0+Int.toNat ((x:Int)-2)*1=x-2 by omega,
  DA p x (x-16) w!,DA p x (x-15) w!,DA p x (x-7) w!,DA p x (x-2) w!]
 refine Yy p x _ w! ?_;simp only[zD,W! (by omega :¬x<16)];rfl
theorem asE(k w:Int)(s:H8)(h:xt s):xt (rnd k w s):=by
 simp[xt,eQ,O!,List.not_mem_nil,or_false,forall_eq_or_imp,forall_eq,rnd] at h |-;omega
theorem B5(w:U)(s:H8)(h:xt s):∀n,xt (gq w s n)
 |0=>h
 |n+1=>asE _ _ _ (B5 w s h n)
theorem aiL(s:H8)(p:B8):xt (block s p):=by
 simp[block,ads,xt,eQ,O!,List.not_mem_nil,or_false,forall_eq_or_imp,forall_eq];omega
theorem OK(s:H8)(b:B8)(h:xt s):∀n,xt (proc s b n)
 |0=>h
 |n+1=>aiL _ _
variable {s:H8}
theorem aD0(h:xt s)(k:Int)(hk: -32<k/\k<0):tX s.1 k:=⟨hk.1,hk.2,h _ (by simp[eQ])⟩
theorem aD1(h:xt s)(k:Int)(hk: -32<k/\k<0):tX s.2.2.2.2.1 k:=⟨hk.1,hk.2,h _ (by simp[eQ])⟩
theorem Jr:(64:Nat)=AI.length:=by decide
theorem Ĕ:xt H0:=by simp[xt,eQ,H0]
theorem asF {x k:Int}(h:tX x k):Vg.cn (x*2^Int.toNat (Vg.aT (k%18446744073709551616) 31)%4294967296) (x/2^Int.toNat ((32-Vg.aT (k%18446744073709551616) 31)%18446744073709551616))=rotl x k:=by
 obtain⟨h1,h2,h3,h4⟩:=h;have e1:Vg.aT (k%18446744073709551616) 31=32+k:=by grind[FL]
 rw[e1,show(32-(32+k))%18446744073709551616= -k by omega];obtain⟨n,hn⟩:∃n:Nat,n=(-k).toNat:=⟨_,rfl⟩;rw[show Int.toNat (32+k)=32-n by omega,<-hn];simp[rotl,right,<-hn,show(32- -k).toNat=32-n by omega];obtain⟨m,rfl⟩:=x? h3;have hm:m<2^32:=by omega
 have aPI:(2:Nat)^(32-n)*2^n=2^32:=by rw[<-Nat.pow_add];grind
 have hq:m/2^n<2^(32-n):=by
  simp_all[Nat.div_lt_iff_lt_mul,Nat.two_pow_pos]
 have aKG:m*2^(32-n)%4294967296=(m%2^n)*2^(32-n):=by
  grind[Nat.mul_comm,Nat.mul_mod_mul_right]
 have c1:((m:Int)*2^(32-n)%4294967296)=(((m%2^n:Nat):Int))*2^(32-n):=by
  have:=congrArg (Nat.cast (R:=Int)) aKG;grind
 have c2:((m:Int)/2^n)=((m/2^n:Nat):Int):=by simp
 rw[c1,c2,gZ _ _ (32-n) (Int.natCast_nonneg _) (Int.natCast_nonneg _) x!]
 have gf:(m%2^n)*2^(32-n)+m/2^n<4294967296:=by
  have h1:m%2^n<2^n:=Nat.mod_lt _ (Nat.two_pow_pos n);have h2:(m%2^n+1)*2^(32-n)<=2^n*2^(32-n):=Nat.mul_le_mul_right _ h1;grind
 grind
theorem asG {x k:Int}(h:tX x k):Vg.aT (k%18446744073709551616) 31=32+k:=by
 obtain⟨h1,h2,h3,h4⟩:=h;grind[FL]
theorem aiM{r:B8}{n:Int}(h:MN s r n):qw r n=true:=by
 obtain⟨_,h1,h2,h3⟩:=h;grind[qw]
theorem cW(r:B8)(k:Nat):(gu r k).length=r.length+1+k:=by grind[gu]
theorem Yz(r:B8):r++[UInt8.ofNat (Int.toNat 128)]=gu r 0:=by simp[gu]
theorem Lp(r:B8)(k:Nat):gu r k++[UInt8.ofNat (Int.toNat 0)]=gu r (k+1):=by
 grind[gu,List.append_assoc,List.replicate_succ']
theorem OL(n:Nat):ik n<64:=Nat.mod_lt _ w!
theorem OM {r:B8}{k:Nat}(h:cA r k)(h1:¬((gu r k).length:Int)%64=56):cA r (k+1):=by
 grind[cA,ik,cW]
theorem SN {r:B8}{k:Nat}(h:cA r k)(h1:((gu r k).length:Int)%64=56):k=ik r.length:=by
 grind[cA,ik,cW]
theorem Js(n:Int)(k:Nat):(len8 n k).length=k:=by simp[len8]
theorem jA(r:B8)(n:Int)(k:Nat):(pt r n k).length=r.length+1+ik r.length+k:=by simp[pt,cW,Js]
theorem amT(r:B8)(n:Int):pt r n 0=gu r (ik r.length):=by simp[pt,len8]
theorem YA(r:B8)(n:Int)(x:Nat)(h0:0<=n)(h1:n<=1099511627776)(hx:x<8):
  pt r n x++[UInt8.ofNat (Int.toNat (n%18446744073709551616*8%18446744073709551616/2^Int.toNat (56-8*(x:Int))%256))]=pt r n (x+1):=by
 rw[show n%18446744073709551616*8%18446744073709551616=n*8 by omega,show Int.toNat (56-8*(x:Int))=56-8*x by omega];grind[pt,len8,List.range_succ,List.append_assoc]
theorem Jt(s:H8)(k:Nat)(hk:k<=8):(oQ s k).length=4*k:=by
 match k,hk with
 |0,_|1,_|2,_|3,_|4,_|5,_|6,_|7,_|8,_=>rfl
theorem ON(s:H8)(x:Nat)(hx:x<8):oQ s x++b32 ((eQ s).getD x 0)=oQ s (x+1):=by
 have hl:x<(eQ s).length:=by simp_all[eQ]
 grind[oQ,aw,eQ]
theorem amU(s:H8):(dig s).length=32:=Jt s 8 w!
theorem OO(b:B8):(sum b).length=32:=amU _
theorem Ju(s:H8)(x y:B8):∀n,64*n<=x.length->proc s (x++y) n=proc s x n
 |0,_=>rfl
 |n+1,h=>by
  simp[proc];rw[Ju s x y n w!,List.drop_append_of_le_length w!,List.take_append_of_le_length (by rw[I?];omega)]
theorem OP(s:H8)(x y:B8)(a:Nat)(h:x.length=64*a):∀n,proc s (x++y) (a+n)=proc (proc s x a) y n
 |0=>Ju s x y a w!
 |n+1=>by
  simp[proc];rw[OP s x y a h n,show 64*(a+n)=x.length+64*n by omega,List.drop_append,a? w!,d?,p?]
theorem wK(b:B8):(j6 b).length=b.length%64:=by grind[j6,blocks]
theorem aiN(n:Nat):ik (n%64)=ik n:=by simp[ik]
theorem ĕ(b:B8)(n:Int):b8 (b8 H0 b) (tail (j6 b) n)=b8 H0 (tail b n):=by
 have hb:b=b.take (64*blocks b)++j6 b:=(R? _ b).symm;have hl:(b.take (64*blocks b)).length=64*blocks b:=by simp[blocks];omega
 have ht:tail b n=b.take (64*blocks b)++tail (j6 b) n:=by
  have :ik (j6 b).length=ik b.length:=by rw[wK,aiN]
  simp[tail,pt,gu,this];conv=>lhs;rw[hb]
  simp only[V!,H!];rw[<-H!,<-hb]
 have hk:blocks (tail b n)=blocks b+blocks (tail (j6 b) n):=by
  rw[ht];simp[blocks,H!] at *;omega
 simp[b8];rw[hk,ht,OP H0 _ _ (blocks b) hl,<-Ju H0 (b.take (64*blocks b)) (j6 b) (blocks b) w!,<-hb]
theorem asH(s:H8)(x:Nat)(hx:x<8):oQ s x++[UInt8.ofNat (Int.toNat (List.getD (eQ s) (Int.toNat (x:Int)) 0/2^Int.toNat 24%256)),UInt8.ofNat (Int.toNat (List.getD (eQ s) (Int.toNat (x:Int)) 0/2^Int.toNat 16%256)),
 UInt8.ofNat (Int.toNat (List.getD (eQ s) (Int.toNat (x:Int)) 0/2^Int.toNat 8%256)),UInt8.ofNat (Int.toNat (List.getD (eQ s) (Int.toNat (x:Int)) 0%256))]=oQ s (x+1):=ON s x hx
theorem asI(s:H8)(b:B8)(n:Nat):block ((proc s b n).1,(proc s b n).2.1,(proc s b n).2.2.1,(proc s b n).2.2.2.1,(proc s b n).2.2.2.2.1,(proc s b n).2.2.2.2.2.1,(proc s b n).2.2.2.2.2.2.1,(proc s b n).2.2.2.2.2.2.2) (List.take (Int.toNat 64) (j7 b n))=proc s b (n+1):=rfl
theorem aiO(b:B8)(x:Nat)(h:x<16):sched b x++[(((((b.getD (Int.toNat ((4*x:Nat):Int)) 0).toNat:Int)*16777216%4294967296+((b.getD (Int.toNat (((4*x:Nat):Int)+1)) 0).toNat:Int)*65536%4294967296)%4294967296+
  ((b.getD (Int.toNat (((4*x:Nat):Int)+2)) 0).toNat:Int)*256%4294967296)%4294967296+((b.getD (Int.toNat (((4*x:Nat):Int)+3)) 0).toNat:Int))%4294967296]=sched b (x+1):=by
 simp[sched,zD,Q! h,word,zC,show Int.toNat ((4*x:Nat):Int)=4*x by omega,show Int.toNat (((4*x:Nat):Int)+1)=4*x+1 by omega,show Int.toNat (((4*x:Nat):Int)+2)=4*x+2 by omega,show Int.toNat (((4*x:Nat):Int)+3)=4*x+3 by omega];have h1:=(b.getD (4*x) 0).toNat_lt;have h2:=(b.getD (4*x+1) 0).toNat_lt;have h3:=(b.getD (4*x+2) 0).toNat_lt;have h4:=(b.getD (4*x+3) 0).toNat_lt
 grind
theorem aiP(b:B8)(x:Nat)(h:16<=x):sched b x++[(((List.getD (sched b x) (Int.toNat ((x:Int)-16)) 0+
  Vg.eN (Vg.eN (right (List.getD (sched b x) (Int.toNat ((x:Int)-15)) 0) 7) (right (List.getD (sched b x) (Int.toNat ((x:Int)-15)) 0) 18)) (List.getD (sched b x) (Int.toNat ((x:Int)-15)) 0/2^Int.toNat 3))%4294967296+
  List.getD (sched b x) (Int.toNat ((x:Int)-7)) 0)%4294967296+
  Vg.eN (Vg.eN (right (List.getD (sched b x) (Int.toNat ((x:Int)-2)) 0) 17) (right (List.getD (sched b x) (Int.toNat ((x:Int)-2)) 0) 19)) (List.getD (sched b x) (Int.toNat ((x:Int)-2)) 0/2^Int.toNat 10))%4294967296]=sched b (x+1):=by
 simp only[show Int.toNat ((x:Int)-16)=x-16 by omega,show Int.toNat ((x:Int)-15)=x-15 by omega,show Int.toNat ((x:Int)-7)=x-7 by omega,show Int.toNat ((x:Int)-2)=x-2 by omega];simp only[sched,zD,W! (by omega :¬x<16)];rfl
theorem xor_not(h:0<=e/\e<4294967296):Vg.eN 4294967295 e=4294967296-1-e:=by
 obtain⟨n,rfl⟩:=x? h.1;have hn:n<2^32:=by omega
 have :(4294967295:Nat)^^^n=2^32-1-n:=by
  apply Nat.eq_of_testBit_eq;intro i;rw[show 2^32-1-n=2^32-(n+1) by omega,Nat.testBit_two_pow_sub_succ hn,Nat.testBit_xor,show(4294967295:Nat)=2^32-1 by rfl,Nat.testBit_two_pow_sub_one];by_cases hi:i<32;grind;have hz:n.testBit i=false:=Nat.testBit_lt_two_pow (Nat.lt_of_lt_of_le hn (Nat.pow_le_pow_right w! w!));grind
 grind[Vg.eN,Int.toNat_natCast,Int.toNat]
theorem asJ(h:okW l):xt (ta l):=by
 intro x hx;simp[eQ,ta,O!,List.not_mem_nil,or_false] at hx;rcases hx with rfl|rfl|rfl|rfl|rfl|rfl|rfl|rfl<;>exact Yw h _
theorem SO(b:B8)(n:Int):(tail b n).length=b.length+1+ik b.length+8:=jA b n 8
theorem amV(b:B8)(n:Int):(tail b n).length=64*blocks (tail b n):=by
 grind[blocks,SO,ik]
theorem aiQ(b:B8)(h:small b):(b.length:Int)%18446744073709551616*8%18446744073709551616=mR b 0:=by
 grind[small,mR]
theorem Vk(b:B8)(x:Nat):mR b x/256=mR b (x+1):=by
 grind[mR,Int.pow_succ,Int.ediv_ediv_of_nonneg,Int.le_of_lt,Int.pow_pos]
theorem RR(b:B8)(x:Nat)(hx:x<8): [UInt8.ofNat (Int.toNat (mR b x%256%256))]++lp b x=lp b (x+1):=by
 have hl:7-x<(len8 ((b.length:Int)*8) 8).length:=by grind[Js]
 have hd:=T? hl;simp[lp]
 have he:(len8 ((b.length:Int)*8) 8)[7-x]=UInt8.ofNat (Int.toNat (mR b x%256%256)):=by
  simp[len8,List.getElem_map,List.getElem_range,mR,Int.emod_emod];rw[show 56-8*(7-x)=8*x by omega,Int.pow_mul];rfl
 grind
theorem Ė(b:B8):lp b 8=len8 (pP b*8) 8:=rfl
theorem HN(b:B8)(k:Nat)(h:k<=8):(lp b k).length=k:=by grind[lp,Js]
theorem amW(T:B8)(x:Nat):List.take (Int.toNat (((64*x:Nat):Int)+64)-Int.toNat ((64*x:Nat):Int)) (List.drop (Int.toNat ((64*x:Nat):Int)) T)=(T.drop (64*x)).take 64:=by
 grind
theorem asK(s:H8)(x:Nat)(hx:x<8):oQ s x++[UInt8.ofNat (Int.toNat (List.getD (eQ s) (Int.toNat (x:Int)) 0/16777216%256)),UInt8.ofNat (Int.toNat (List.getD (eQ s) (Int.toNat (x:Int)) 0/65536%256%256)),
  UInt8.ofNat (Int.toNat (List.getD (eQ s) (Int.toNat (x:Int)) 0/256%256%256)),UInt8.ofNat (Int.toNat (List.getD (eQ s) (Int.toNat (x:Int)) 0%256%256))]=oQ s (x+1):=by
 grind[ON,b32,Int.toNat_natCast,Int.emod_emod]
def rb:Nat->Nat->B8
 |0,_=>[]
 |f+1,v=>if v<128 then [UInt8.ofNat v] else UInt8.ofNat (v%128+128)::rb f (v/128)
def num(v:Int):B8:=rb 9 v.toNat
def text(s:B8):B8:=num s.length++s
def fZ(v:Int):Bool:=decide (v<0) || decide (4611686018427387904<v)
def ml(b:B8)(v:Int):B8:=if fZ v then [] else b++num v
def yo(v:Int):Int:=if fZ v then 1 else 0
def tY(l:B8)(v:Int)(m:B8)(u:Int):Prop:=0<=u/\u<=v/\m++num u=l++num v
def HO(l:B8)(v:Int):Prop:=0<=v/\l.length<=70368744177664
def oR(l s:B8):Prop:=l.length<=35184372088832/\s.length<=35184372088832
def lead(b:B8):Nat:=(b.takeWhile λx=>decide (128<=x.toNat)).length
def dO:B8->Nat
 |[]=>0
 |x::l=>x.toNat%128+128*dO l
def first(b:B8):Int×Int×Int:=
 if 9<=lead b then(0,0,2)
 else if lead b=b.length then(0,0,4)
 else if dO (b.take (lead b+1))>4611686018427387904\/num (dO (b.take (lead b+1)))≠b.take (lead b+1) then(0,0,2)
 else(dO (b.take (lead b+1)),lead b+1,0)
def aM(b:B8)(gi:Int):B8×Int×Int:=
 if(first b).2.2≠0 then([],0,(first b).2.2)
 else if(first b).1>gi then([],0,2)
 else if(first b).1>b.length-(first b).2.1 then([],0,4)
 else((b.drop (first b).2.1.toNat).take (first b).1.toNat,(first b).2.1+(first b).1,0)
def dB(b:B8)(at':Int):Prop:=0<=at'/\at'<=b.length
def SP(at':Int)(x:Int×Int×Int):Int×Int×Int:=(x.1,if x.2.2=0 then at'+x.2.1 else 0,x.2.2)
def aP(b:B8)(at':Int):Int×Int×Int:=SP at' (first (b.drop at'.toNat))
def dP(b:B8)(p gi:Int):B8×Int×Int:=
 if(aP b p).2.2≠0 then([],0,(aP b p).2.2)
 else if gi<(aP b p).1 then([],0,2)
 else if(b.length:Int)-(aP b p).2.1<(aP b p).1 then([],0,4)
 else((b.take ((aP b p).2.1+(aP b p).1).toNat).drop (aP b p).2.1.toNat,(aP b p).2.1+(aP b p).1,0)
def inside(b:B8)(a:Int):Bool:=decide (0<=a)&&decide (a<=b.length)
def bU(b:B8)(a e:Int):Int:=if e=0/\inside b a=false then 1 else e
abbrev Rd:=B8×Int×Int
def ao(b:B8)(a e gi:Int):Rd×B8:=
 if bU b a e≠0 then((b,a,bU b a e),[])
 else if(dP b a gi).2.2≠0 then((b,a,(dP b a gi).2.2),[])
 else((b,(dP b a gi).2.1,0),(dP b a gi).1)
def af(b:B8)(a e:Int):Rd×Int:=
 if bU b a e≠0 then((b,a,bU b a e),0)
 else if(aP b a).2.2≠0 then((b,a,(aP b a).2.2),0)
 else((b,(aP b a).2.1,0),(aP b a).1)
def aD(b:B8)(a e:Int):Rd×B8:=
 if bU b a e≠0 then((b,a,bU b a e),[])
 else if(b.length:Int)-a<32 then((b,a,4),[])
 else((b,a+32,0),(b.drop a.toNat).take 32)
def done(b:B8)(a e:Int):Int:=if e≠0 then e else if inside b a=false then 1 else if a<b.length then 2 else 0
def j8(b:B8)(a:Int)(n:Nat):Prop:=n<=9/\a+n<=b.length/\∀x∈(b.drop a.toNat).take n,128<=x.toNat
def gR(b:B8)(a:Int)(n:Nat):Int:=(dO ((b.drop a.toNat).take n):Int)
def HQ(b:B8)(n:Nat):Prop:=n<=9/\n<=b.length/\∀x∈b.take n,128<=x.toNat
theorem Jv:∀(f v:Nat),(rb f v).length<=f
 |0,_=>by simp[rb]
 |f+1,v=>by
  have:=Jv f (v/128);simp[rb];split<;>simp<;>omega
theorem cO(v:Int):(num v).length<=9:=Jv 9 _
theorem OQ:∀(f g v:Nat),v<128^f->1<=f->f<=g->rb g v=rb f v
 |0,g,v,_,h,_=>by omega
 |f+1,0,v,_,_,h=>by omega
 |f+1,g+1,v,h,_,hg=>by
  simp[rb];split;rfl;by_cases hf:f=0;subst hf;omega;rw[OQ f g (v/128) w! w! w!]
theorem HR(v:Int)(h:v<128):num v=[UInt8.ofNat v.toNat]:=by
 simp_all[num,rb,Q!]
theorem adu(v:Int)(h:128<=v)(h1:v<=9223372036854775807):num v=UInt8.ofNat (v%128+128).toNat::num (v/128):=by
 simp[num];rw[rb,if_neg w!];grind[OQ]
theorem Lq:∀(l:B8) (h:l≠ []),dO l=0->(l.getLast h).toNat<128->(l.getLast h).toNat=0
 |[x],_,h,hx=>by grind[dO]
 |x::y::l,_,h,hx=>by
  simp[dO] at h;exact Lq (y::l) z! (by simp[dO];omega) hx
theorem SQ:∀(f:Nat) (l:B8) (h:l≠ []),l.length<=f->(∀x∈l.dropLast,128<=x.toNat)->(l.getLast h).toNat<128->(rb f (dO l)=l↔(l.length=1\/(l.getLast h).toNat≠0))
 |0,l,h,hl,_,_=>by
  grind
 |f+1,[x],_,_,_,hx=>by
  have hv:dO [x]=x.toNat:=by grind[dO]
  simp_all[rb,Q!]
 |f+1,x::y::l,_,hl,hd,hx=>by
  have Rn:128<=x.toNat:=hd x z!;have Ć:=x.toNat_lt;have ih:=SQ f (y::l) z! x! (λz hz=>hd z x!) hx;have e:dO (x::y::l)=x.toNat%128+128*dO (y::l):=rfl;rw[rb,e];by_cases hV:dO (y::l)=0;grind[Lq];have e1:(x.toNat%128+128*dO (y::l))%128+128=x.toNat:=by omega
  have e2:(x.toNat%128+128*dO (y::l))/128=dO (y::l):=by omega
  rw[e1,e2,UInt8.ofNat_toNat];grind[dO]
theorem Jw:∀(l:B8),dO l<128^l.length
 |[]=>by simp[dO]
 |x::l=>by
  have:=Jw l;simp[dO,N?,w?];omega
theorem EJ:∀(l m:B8),dO (l++m)=dO l+128^l.length*dO m
 |[],m=>by simp[dO]
 |x::l,m=>by
  simp[List.cons_append,dO,EJ l m,List.length_cons,Nat.pow_succ];grind
theorem YB(b:B8)(n:Nat)(h:∀x∈b.take n,128<=x.toNat)(hn:n<=b.length)(he:n=b.length\/(b.getD n 0).toNat<128):lead b=n:=by
 induction b generalizing n with
 |nil=>simp at hn;subst hn;rfl
 |cons x b ih=>
  cases n with
  |zero=>
   simp_all[List.getD_cons_zero,lead,List.takeWhile_cons,W!]
  |succ n=>
   have hx:=h x z!;have:=ih n (λy hy=>h y (by simp[hy])) (by simpa using hn) (by simpa using he);simp[lead,List.takeWhile_cons] at this |-;rw[Q! (by simpa using hx),N?,this]
theorem amX(b:B8)(n:Nat)(h:∀x∈b.take n,128<=x.toNat)(hn:n<=b.length):n<=lead b:=by
 induction b generalizing n with
 |nil=>grind
 |cons x b ih=>
  cases n with
  |zero=>omega
  |succ n=>
   simp_all[lead,List.takeWhile_cons,Q!,N?]
theorem ė(b:B8)(n:Nat)(hn:n<b.length):∃h,(b.take (n+1)).getLast h=b.getD n 0:=by
 refine⟨by intro h;simp_all,?_⟩;grind
theorem SR(b:B8)(n:Nat)(h:∀x∈b.take n,128<=x.toNat)(hn:n<b.length)(h9:n<9)(he:(b.getD n 0).toNat<128):
  first b=if((1<=n/\(b.getD n 0).toNat=0)\/dO (b.take (n+1))>4611686018427387904) then(0,0,2) else((dO (b.take (n+1)):Int),(n:Int)+1,0):=by
 have hl:=YB b n h w! (.inr he);obtain⟨di,amb⟩:=ė b n hn;have hlen:(b.take (n+1)).length=n+1:=by grind
 have hc:=SQ 9 (b.take (n+1)) di w! (by
  grind[List.dropLast_eq_take]) x!
 simp[first,hl,num,Int.toNat_natCast];grind
theorem amY(b:B8)(h:∀x∈b.take 9,128<=x.toNat)(hn:9<=b.length):first b=(0,0,2):=by
 simp_all[amX,first,Q!]
theorem Ę(b:B8)(n:Nat)(h:∀x∈b.take n,128<=x.toNat)(hn:n=b.length)(h9:n<9):first b=(0,0,4):=by
 have:=YB b n h w! (.inl hn);simp_all[first,W!,Q!]
theorem nZ(b:B8):0<=(first b).1/\(first b).1<=4611686018427387904/\0<=(first b).2.1/\(first b).2.1<=b.length/\((first b).2.2=0\/(first b).2.2=2\/(first b).2.2=4):=by
 have hl:=RQ (λx:UInt8=>decide (128<=x.toNat)) b;unfold first
 split;simp;split;simp;split;simp;simp[lead,not_or,Nat.not_lt] at *;grind
theorem aiR(h:HQ b x)(h1:x<b.length)(h2:x<9)(h3:128<=(b.getD x 0).toNat):HQ b (x+1):=by
 refine⟨w!,w!,λy hy=>?_⟩;rw[aw b x 0 h1] at hy;rcases List.mem_append.1 hy with hy|hy;exact h.2.2 y hy;grind
theorem aD2(h:HQ b 9):first b=(0,0,2):=amY b h.2.2 h.2.1
theorem amZ(h:HQ b x)(h1:x=b.length)(h2:x≠9):first b=(0,0,4):=Ę b x h.2.2 h1 (by have:=h.1;omega)
theorem aKH(h:dB b p):j8 b p 0:=by grind[dB,j8]
theorem hU(h:j8 b p x):x<=9/\p+x<=b.length:=⟨h.1,h.2.1⟩
theorem SS(b:B8)(p:Int)(x:Nat)(hp:0<=p):(b.drop p.toNat).getD x 0=b.getD (p+x).toNat 0:=by
 grind
theorem OR(hp:dB b p)(h:j8 b p x):HQ (b.drop p.toNat) x:=by
 simp[dB] at hp;exact⟨h.1,by rw[I?];have:=h.2.1;omega,h.2.2⟩
theorem aiS(hp:dB b p)(h:j8 b p x)(h1:p+x<b.length)(h2:x≠9)(h3:128<=(b.getD (p+x).toNat 0).toNat):j8 b p (x+1):=by
 have zw:=hp;simp[dB] at zw;have:=aiR (OR hp h) x! (by have:=h.1;omega) x!;exact⟨this.1,w!,this.2.2⟩
theorem am0(hp:dB b p)(h:j8 b p 9):aP b p=(0,0,2):=by
 grind[aP,aD2,OR,SP]
theorem YC{x:Nat}(hp:dB b p)(h:j8 b p x)(h1:(x:Int)=b.length-p)(h2:x≠9):aP b p=(0,0,4):=by
 have zw:=hp;simp[dB] at zw;have:=amZ (OR hp h) x! h2;grind[aP,SP]
theorem adv(hp:dB b p)(h:j8 b p x)(h1:p+x<b.length):
  Vg.cn (gR b p x) (Vg.aT ((b.getD (p+x).toNat 0).toNat:Int) 127*2^(7*(x:Int)).toNat)=gR b p (x+1):=by
 have zw:=hp;simp[dB] at zw;have hx:x<(b.drop p.toNat).length:=by grind
 rw[nm _ w!,B4,gZ _ _ _ w! (by simp[gR])];simp[gR];rw[aw _ x 0 hx,EJ,SS _ _ _ zw.1,Y!,Nat.min_eq_left w!];simp[dO,show(7*(x:Int)).toNat=7*x by omega,Nat.mul_zero,Nat.add_zero];simp_all[Int.natCast_add,Int.natCast_mul,Int.natCast_pow,Int.natCast_emod,Int.pow_mul,Int.mul_comm,Int.add_comm]
 simp[gR,show(7*(x:Int)).toNat=7*x by omega];grind[Jw,Nat.pow_le_pow_right,List.length_take,Int.natCast_pow,Int.pow_mul]
theorem aKI(b:B8)(p:Int):gR b p 0=0:=by rfl
theorem asL(h:x<=9):0<=gR b p x/\gR b p x<=9223372036854775807:=by
 have:=Jw ((b.drop p.toNat).take x);have e:(128:Nat)^((b.drop p.toNat).take x).length<=128^9:=Nat.pow_le_pow_right w! x!;grind[gR]
theorem adw(c:Int)(x:Nat)(h0:0<=c)(h1:c<=127)(hx:x<=8):0<=c*2^(7*(x:Int)).toNat/\c*2^(7*(x:Int)).toNat<=9223372036854775807:=by
 have iK:(2:Nat)^(7*(x:Int)).toNat<=2^56:=Nat.pow_le_pow_right w! w!;have e:(2:Int)^(7*(x:Int)).toNat=((2^(7*(x:Int)).toNat:Nat):Int):=by simp
 have hp:(2:Int)^(7*(x:Int)).toNat<=72057594037927936:=by omega
 have hq:(0:Int)<2^(7*(x:Int)).toNat:=Int.pow_pos w!;constructor;exact Int.mul_nonneg h0 w!;have:=Int.mul_le_mul h1 hp w! w!;omega
theorem am1(hp:dB b p)(h:j8 b p x)(h1:p+x<b.length)(h2:x≠9)(h3:(b.getD (p+x).toNat 0).toNat<128):
  aP b p=if((1<=x/\(b.getD (p+x).toNat 0).toNat=0)\/gR b p (x+1)>4611686018427387904) then(0,0,2) else(gR b p (x+1),p+(x+1),0):=by
 have zw:=hp;simp[dB] at zw;have:=SR (b.drop p.toNat) x h.2.2 x! (by have:=h.1;omega) x!;rw[SS _ _ _ zw.1] at this;simp[aP,this,gR];have e:(dO ((b.drop p.toNat).take (x+1))>4611686018427387904)↔((dO ((b.drop p.toNat).take (x+1)):Int)>4611686018427387904):=by omega
 simp[e];rw[apply_ite (SP p)];rfl
theorem am2(v:Int):1<=(num v).length:=by
 grind[num,rb]
theorem HS {l:B8}(h:tY l v m u):m.length+1<=l.length+9:=by
 have:=congrArg List.length h.2.2;grind[cO,am2,List.length_append]
theorem aiT {l:B8}(h:tY l v m u)(h1:127<u)(h2:v<=9223372036854775807):
  tY l v (m++[UInt8.ofNat (Vg.cn (Vg.aT u 127%256) 128).toNat]) (u/2^(7:Int).toNat):=by
 have h4:=h.2.1;have e:=adu u w! w!
 have e2:Vg.cn (Vg.aT u 127%256) 128=u%128+128:=by
  grind[nm,OI]
 have h3:=h.2.2;refine⟨x!,x!,?_⟩;grind
theorem am3 {l:B8}(h:tY l v m u)(h1:¬127<u):m++[UInt8.ofNat (u%256).toNat]=l++num v:=by
 have e:=HR u w!;rw[<-h.2.2,e];have:=h.1;grind
theorem adx {l:B8}(h:tY l v m u):0<=u:=h.1
theorem YD {b:B8}{p:Int}{x:Nat}(hp:dB b p)(h:j8 b p x)(h1:p+x<b.length)(h2:x≠9)(h3:(b.getD (p+x).toNat 0).toNat<128)
  (hc:(bif decide (1<(x:Int)+1) then bif decide (((b.getD (p+((x:Int)+1)-1).toNat 0).toNat:Int)=0) then true else decide (4611686018427387904<Vg.cn (gR b p x) (Vg.aT ((b.getD (p+x).toNat 0).toNat:Int) 127*2^(7*(x:Int)).toNat)) else decide (4611686018427387904<Vg.cn (gR b p x) (Vg.aT ((b.getD (p+x).toNat 0).toNat:Int) 127*2^(7*(x:Int)).toNat)))=c):
  aP b p=if c=true then(0,0,2) else(Vg.cn (gR b p x) (Vg.aT ((b.getD (p+x).toNat 0).toNat:Int) 127*2^(7*(x:Int)).toNat),p+(x+1),0):=by
 have hf:=am1 hp h h1 h2 h3;rw[<-hc,hf];rw[adv hp h h1,show p+((x:Int)+1)-1=p+x by omega];grind
theorem Jx {b:B8}{p:Int}{x:Nat}(hp:dB b p)(h:j8 b p x)(h1:p+x<b.length)(h2:x≠9)(h3:(b.getD (p+x).toNat 0).toNat<128)
  (hc:(bif decide (1<(x:Int)+1) then bif decide (((b.getD (p+((x:Int)+1)-1).toNat 0).toNat:Int)=0) then true else decide (4611686018427387904<Vg.cn (gR b p x) (Vg.aT ((b.getD (p+x).toNat 0).toNat:Int) 127*2^(7*(x:Int)).toNat)) else decide (4611686018427387904<Vg.cn (gR b p x) (Vg.aT ((b.getD (p+x).toNat 0).toNat:Int) 127*2^(7*(x:Int)).toNat)))=true):
  0=(aP b p).1/\0=(aP b p).2.1/\2=(aP b p).2.2:=by
 rw[YD hp h h1 h2 h3 hc];grind
theorem Jy {b:B8}{p:Int}{x:Nat}(hp:dB b p)(h:j8 b p x)(h1:p+x<b.length)(h2:x≠9)(h3:(b.getD (p+x).toNat 0).toNat<128)
  (hc:(bif decide (1<(x:Int)+1) then bif decide (((b.getD (p+((x:Int)+1)-1).toNat 0).toNat:Int)=0) then true else decide (4611686018427387904<Vg.cn (gR b p x) (Vg.aT ((b.getD (p+x).toNat 0).toNat:Int) 127*2^(7*(x:Int)).toNat)) else decide (4611686018427387904<Vg.cn (gR b p x) (Vg.aT ((b.getD (p+x).toNat 0).toNat:Int) 127*2^(7*(x:Int)).toNat)))=false):
  Vg.cn (gR b p x) (Vg.aT ((b.getD (p+x).toNat 0).toNat:Int) 127*2^(7*(x:Int)).toNat)=(aP b p).1/\p+(x+1)=(aP b p).2.1/\0=(aP b p).2.2:=by
 rw[YD hp h h1 h2 h3 hc];grind
theorem OS(hp:dB b p):0<=(aP b p).1/\(aP b p).1<=4611686018427387904/\0<=(aP b p).2.1/\(aP b p).2.1<=b.length/\((aP b p).2.2=0\/(aP b p).2.2=2\/(aP b p).2.2=4):=by
 have h:=nZ (b.drop p.toNat);grind[dB,List.length_drop,aP,SP]
theorem aiU(h:bU b a e=0):0<=a/\a<=b.length/\e=0:=by
 grind[bU,inside]
def gS(kind:UInt8)(parts:O):B8:=kind::parts.flatten
def n0(kind:UInt8)(parts:O)(k:Nat):B8:=gS kind (parts.take k)
def oS(parts:O):Prop:=parts.flatten.length<=35184372088832
def bA(kind:Nat)(b:B8):B8:=UInt8.ofNat kind::b
def kO(kind:Int)(b:B8):B8:=UInt8.ofNat (kind%256).toNat::b
def lX(kind:Nat)(b:B8):B8:=sum (bA kind b)
def pv(kind:Int)(b:B8):B8:=sum (kO kind b)
def leaf(b:B8):B8:=lX 0 b
def ę(l r:B8):B8:=lX 1 (l++r)
def Lr(l r:B8):Bool:=decide (l.length=32)&&decide (r.length=32)
def bo(l r:B8):B8:=if Lr l r then ę l r else []
def vg(l r:B8):Int:=if Lr l r then 0 else 1
def ax(b:B8):Prop:=b.length<1099511627776
theorem SU(k:Nat)(b:B8):(lX k b).length=32:=OO _
theorem aiV(h:oS parts)(hn:n<parts.length):(gS 0 (parts.take n)).length+(parts.getD n []).length<=140737488355328:=by
 have h1:(parts.take (n+1)).flatten.length<=parts.flatten.length:=by
  grind[List.take_append_drop,List.flatten_append,List.length_append]
 rw[aw parts n [] hn,List.flatten_append,List.length_append] at h1;grind[oS,gS,List.length_cons,List.flatten_cons,List.flatten_nil]
theorem Ě(k:UInt8)(h:oS parts)(hn:n<parts.length):(gS k (parts.take n)).length+(parts.getD n []).length<=140737488355328:=by
 have:=aiV h hn;grind[gS]
theorem aiW(k:UInt8)(p:O): [UInt8.ofNat (Int.toNat (k.toNat:Int))]=n0 k p 0:=by simp[n0,gS]
theorem Vl(k:UInt8)(p:O)(x:Nat)(h:x<p.length):n0 k p x++List.getD p (Int.toNat (x:Int)) []=n0 k p (x+1):=by
 grind[n0,gS,Int.toNat_natCast,aw,List.flatten_append]
theorem YE(k:UInt8)(p:O)(x:Nat)(h:¬x<p.length):n0 k p x=gS k p:=by
 grind[n0,List.take_of_length_le,Nat.not_lt]
def cu(c:Int):Bool:=decide (0<=c)&&(decide (c<=1114111)&&(decide (c<55296) || decide (57343<c)))
def eR(c:Int):Int:=if c<128 then 1 else if c<2048 then 2 else if c<65536 then 3 else 4
def u8(c:Int):UInt8:=UInt8.ofNat c.toNat
def more(c:Int):UInt8:=u8 (128+c%64)
def enc(c:Int):B8:=if c<128 then [u8 c] else if c<2048 then [u8 (192+c/64),more c] else if c<65536 then [u8 (224+c/4096),more (c/64),more c]
 else [u8 (240+c/262144),more (c/4096),more (c/64),more c]
def il(c:Int):B8:=if cu c then enc c else []
def AJ(c:Int):Int:=if cu c then 0 else 1
def dC(b:B8):Int:=((b.getD 0 0).toNat:Int)
def uN(b:B8):Nat:=if dC b<128 then 1 else if dC b/32=6 then 2 else if dC b/16=14 then 3 else if dC b/8=30 then 4 else 0
def uC(b:B8):Int:=if dC b/32=6 then dC b%32 else if dC b/16=14 then dC b%16 else dC b%8
def bN(b:B8):Nat->Int
 |0=>uC b
 |k+1=>bN b k*64+((b.getD (k+1) 0).toNat:Int)%64
def xu(b:B8)(n:Nat):Bool:=((b.drop 1).take (n-1)).all λx=>x.toNat/64==2
def bf(b:B8):Int×Int:=
 if uN b=1 then(dC b,1)
 else if uN b=0\/b.length<uN b\/xu b (uN b)=false\/cu (bN b (uN b-1))=false\/eR (bN b (uN b-1))≠uN b then(65533,1)
 else(bN b (uN b-1),uN b)
def wL:Nat->B8->U
 |0,_=>[]
 |f+1,b=>if b.isEmpty then [] else(bf b).1::wL f (b.drop (bf b).2.toNat)
def decode(b:B8):U:=wL b.length b
def qx:M (Int×Int):=[(65,90),(97,122),(192,214),(216,246),(248,255),(913,929),(931,937),(945,969),(1024,1119)]
def n4:M (Int×Int×Int):=[(65,90,32),(192,214,32),(216,222,32),(913,929,32),(931,937,32),(1024,1039,80),(1040,1071,32)]
def oa(c:Int)(s:Int×Int):Bool:=decide (s.1<=c)&&decide (c<=s.2)
def letter(c:Int):Bool:=qx.any (oa c)
def digit(c:Int):Bool:=decide (48<=c)&&decide (c<=57)
def aZ(c:Int):Int:=match n4.find? (λs=>oa c (s.1,s.2.1)) with
 |some s=>c+s.2.2
 |none=>c
def pQ(c:Int)(k:Nat):Prop:=k<=9/\∀s∈qx.take k,oa c s=false
def qy(c:Int)(k:Nat):Prop:=k<=7/\∀s∈n4.take k,oa c (s.1,s.2.1)=false
def pR(b:B8)(k:Nat):Prop:=(2<=uN b/\k+1<=uN b/\uN b<=b.length)/\∀x∈(b.drop 1).take k,x.toNat/64=2
def kP(b r:B8)(l:U):Prop:=l++decode r=decode b/\r.length+l.length<=b.length
theorem cr(b:B8)(m:Int)(h1:1<=m)(h:m<=b.length):(List.drop (Int.toNat 1) (List.take (Int.toNat m) b)).length=m.toNat-1:=by
 grind
theorem lq(b:B8)(m:Int)(x:Nat)(h:(x:Int)+1<m):List.getD (List.drop (Int.toNat 1) (List.take (Int.toNat m) b)) (Int.toNat (x:Int)) 0=b.getD (x+1) 0:=by
 grind
theorem ob(b:B8)(m:Int)(x:Nat)(h:(x:Int)+1<m):List.getD (List.drop (Int.toNat 1) (List.take (Int.toNat m) b)) x 0=b.getD (x+1) 0:=lq b m x h
theorem vj(h1:¬((b.getD (Int.toNat 0) 0).toNat:Int)<128)(h2:((b.getD (Int.toNat 0) 0).toNat:Int)/2^Int.toNat 5=6):uN b=2:=by
 have e:((b.getD (Int.toNat 0) 0).toNat:Int)=dC b:=rfl;grind[Int.toNat,uN]
theorem wM(h1:¬((b.getD (Int.toNat 0) 0).toNat:Int)<128)(h2:¬((b.getD (Int.toNat 0) 0).toNat:Int)/2^Int.toNat 5=6)(h3:((b.getD (Int.toNat 0) 0).toNat:Int)/2^Int.toNat 4=14):uN b=3:=by
 have e:((b.getD (Int.toNat 0) 0).toNat:Int)=dC b:=rfl;grind[Int.toNat,uN]
theorem wN(h1:¬((b.getD (Int.toNat 0) 0).toNat:Int)<128)(h2:¬((b.getD (Int.toNat 0) 0).toNat:Int)/2^Int.toNat 5=6)(h3:¬((b.getD (Int.toNat 0) 0).toNat:Int)/2^Int.toNat 4=14)
  (h4:((b.getD (Int.toNat 0) 0).toNat:Int)/2^Int.toNat 3=30):uN b=4:=by
 have e:((b.getD (Int.toNat 0) 0).toNat:Int)=dC b:=rfl;grind[Int.toNat,uN]
theorem uf1(h1:((b.getD (Int.toNat 0) 0).toNat:Int)<128):bf b=(((b.getD (Int.toNat 0) 0).toNat:Int),1):=by
 have hn:uN b=1:=by
  exact Q! h1
 simp[bf,hn,P?];rfl
theorem uf0(h1:¬((b.getD (Int.toNat 0) 0).toNat:Int)<128)(h2:¬((b.getD (Int.toNat 0) 0).toNat:Int)/2^Int.toNat 5=6)(h3:¬((b.getD (Int.toNat 0) 0).toNat:Int)/2^Int.toNat 4=14)
  (h4:¬((b.getD (Int.toNat 0) 0).toNat:Int)/2^Int.toNat 3=30):bf b=(65533,1):=by
 have hn:uN b=0:=by
  have e:((b.getD (Int.toNat 0) 0).toNat:Int)=dC b:=rfl;grind[Int.toNat,uN]
 grind[bf]
theorem Vm(hn:uN b=n)(h2:2<=n)(h:b.length<n\/xu b n=false\/cu (bN b (n-1))=false\/eR (bN b (n-1))≠n):bf b=(65533,1):=by
 grind[bf]
theorem uv(hn:uN b=n)(h2:2<=n)(h:(b.length:Int)<n):bf b=(65533,1):=Vm hn h2 (.inl w!)
theorem ě(hn:uN b=n)(h2:2<=n)(h:¬(b.length:Int)<n):pR b 0:=⟨w!,z!⟩
theorem aKJ(h2:((b.getD (Int.toNat 0) 0).toNat:Int)/2^Int.toNat 5=6):Vg.aT ((b.getD (Int.toNat 0) 0).toNat:Int) 31=bN b 0:=by
 rw[FL _ w!];have e:((b.getD (Int.toNat 0) 0).toNat:Int)=dC b:=rfl;grind[Int.toNat,bN,uC]
theorem aKK(h2:¬((b.getD (Int.toNat 0) 0).toNat:Int)/2^Int.toNat 5=6)(h3:((b.getD (Int.toNat 0) 0).toNat:Int)/2^Int.toNat 4=14):Vg.aT ((b.getD (Int.toNat 0) 0).toNat:Int) 15=bN b 0:=by
 rw[ē _ w!];have e:((b.getD (Int.toNat 0) 0).toNat:Int)=dC b:=rfl;grind[Int.toNat,bN,uC]
theorem aKL(h2:¬((b.getD (Int.toNat 0) 0).toNat:Int)/2^Int.toNat 5=6)(h3:¬((b.getD (Int.toNat 0) 0).toNat:Int)/2^Int.toNat 4=14):Vg.aT ((b.getD (Int.toNat 0) 0).toNat:Int) 7=bN b 0:=by
 rw[aiJ _ w!];have e:((b.getD (Int.toNat 0) 0).toNat:Int)=dC b:=rfl;grind[Int.toNat,bN,uC]
theorem YF(b:B8):∀k,k<=4->0<=bN b k/\bN b k*64^(4-k)<=536870911
 |0,_=>by grind[bN,uC]
 |k+1,h=>by
  have ih:=YF b k w!;simp[bN];have :k=0\/k=1\/k=2\/k=3:=by omega
  grind
theorem bO(h:pR b x):x<=3/\0<=bN b x/\bN b x<=536870911/\2<=uN b/\uN b<=4/\x+1<=uN b/\uN b<=b.length:=by
 have h4:uN b<=4:=by grind[uN]
 have hx:x<=3:=by have:=h.1;omega
 have:=YF b x w!
 have hp:(1:Int)<=64^(4-x):=by
  have :x=0\/x=1\/x=2\/x=3:=by omega
  grind
 have hm:bN b x*1<=bN b x*64^(4-x):=Int.mul_le_mul_of_nonneg_left hp this.1;exact⟨hx,this.1,w!,h.1.1,h4,h.1.2.1,h.1.2.2⟩
theorem Ĝ(h1:1<=x)(h:x<b.length)(m:Nat)(hm:x<=m):b.getD x 0∈(b.drop 1).take m:=by
 have gf:x-1<((b.drop 1).take m).length:=by grind
 have :((b.drop 1).take m)[x-1]=b.getD x 0:=by
  grind
 grind
theorem yp(hn:uN b=n)(h:pR b x)(hx:x+1<n)(hb:¬((b.getD (x+1) 0).toNat:Int)/2^Int.toNat 6=2):bf b=(65533,1):=by
 have eO:=bO h;grind[Vm,xu,List.all_eq_true,Ĝ]
theorem Vn(h:pR b x)(hb:((b.getD (x+1) 0).toNat:Int)/2^Int.toNat 6=2)(hx:x+1<uN b):pR b (x+1):=by
 refine⟨by have:=h.1;omega,λy hy=>?_⟩;have eO:=bO h;have hl:x<(b.drop 1).length:=by grind
 rw[aw _ x 0 hl] at hy;rcases List.mem_append.1 hy with hy|hy;exact h.2 y hy;grind
theorem ĝ(h:pR b x)(hx:x+1<uN b):Vg.cn (bN b x*2^Int.toNat 6) (Vg.aT ((b.getD (x+1) 0).toNat:Int) 63)=bN b (x+1):=by
 have:=bO h;rw[OH _ w!,show Int.toNat 6=6 by rfl,gZ _ _ 6 this.2.1 w! w!];rfl
theorem YG(h:pR b x)(hx:x+1=uN b):xu b (uN b)=true:=by
 simp only[xu,B?,<-hx,Nat.add_sub_cancel];intro y hy;simpa using h.2 y hy
theorem asM(hn:uN b=n)(h:pR b x)(hx:x+1=n)(hc:(bif !cu (bN b x) then true else !decide (eR (bN b x)=(n:Int)))=c):bf b=if c=true then(65533,1) else(bN b x,(n:Int)):=by
 have hb:=bO h;grind[YG,bf,Nat.add_sub_cancel]
theorem asN(c:Int):Vg.cn (c%64) 128=((more c).toNat:Int):=by
 grind[OI,more,u8,UInt8.toNat_ofNat']
variable {c n:Int}{m:List B8}{s:B8}
theorem eH(h:cu c=true):0<=c/\c<=1114111:=by
 simp_all[cu,B!,J!]
theorem Ğ(x:UInt8):UInt8.ofNat (Int.toNat (x.toNat:Int))=x:=by simp
theorem ady(c:Int)(h0:0<=c)(h:c<128): [UInt8.ofNat (Int.toNat (c%256))]=enc c:=by
 simp[enc,Q! h,u8,show c%256=c by omega]
theorem asO(d:Int)(h0:0<=d)(h:d<32):Vg.cn 192 d=192+d:=by
 rw[show(192:Int)=6*2^5 by rfl,gZ 6 d 5 w! h0 h]
theorem asP(d:Int)(h0:0<=d)(h:d<16):Vg.cn 224 d=224+d:=by
 rw[show(224:Int)=14*2^4 by rfl,gZ 14 d 4 w! h0 h]
theorem asQ(d:Int)(h0:0<=d)(h:d<8):Vg.cn 240 d=240+d:=by
 rw[show(240:Int)=30*2^3 by rfl,gZ 30 d 3 w! h0 h]
theorem asR(c:Int)(h0:0<=c)(h:128<=c/\c<2048): [UInt8.ofNat (Int.toNat (Vg.cn 192 (c/2^Int.toNat 6%256))),UInt8.ofNat (Int.toNat ((more c).toNat:Int))]=enc c:=by
 simp[enc,if_neg (by omega :¬c<128),if_pos h.2,Ğ,u8,show Int.toNat 6=6 by rfl];grind[asO]
theorem asS(c:Int)(h0:0<=c)(h:2048<=c/\c<65536): [UInt8.ofNat (Int.toNat (Vg.cn 224 (c/2^Int.toNat 12%256))),UInt8.ofNat (Int.toNat ((more (c/2^Int.toNat 6)).toNat:Int)),UInt8.ofNat (Int.toNat ((more c).toNat:Int))]=enc c:=by
 simp[enc,if_neg (by omega :¬c<128),if_neg (by omega :¬c<2048),if_pos h.2,Ğ,u8,show Int.toNat 6=6 by rfl,show Int.toNat 12=12 by rfl];grind[asP]
theorem asT(c:Int)(h0:0<=c)(h1:c<=1114111)(h:65536<=c): [UInt8.ofNat (Int.toNat (Vg.cn 240 (c/2^Int.toNat 18%256))),UInt8.ofNat (Int.toNat ((more (c/2^Int.toNat 12)).toNat:Int)),UInt8.ofNat (Int.toNat ((more (c/2^Int.toNat 6)).toNat:Int)),UInt8.ofNat (Int.toNat ((more c).toNat:Int))]=enc c:=by
 simp[enc,if_neg (by omega :¬c<128),if_neg (by omega :¬c<2048),if_neg (by omega :¬c<65536),Ğ,u8,show Int.toNat 6=6 by rfl,show Int.toNat 12=12 by rfl,show Int.toNat 18=18 by rfl];grind[asQ]
theorem rE(b:B8)(h:0<b.length):1<=(bf b).2/\(bf b).2<=b.length/\0<=(bf b).1/\(bf b).1<=1114111:=by
 unfold bf;split;have:=(b.getD 0 0).toNat_lt;grind[dC];split;omega;rename_i h1 h2;simp at h2;have:=eH h2.2.2.2.1;omega
theorem HT:∀(f g:Nat) (b:B8),b.length<=f->b.length<=g->wL f b=wL g b
 |0,0,b,_,_=>rfl
 |0,g+1,b,h,_=>by
  grind[List.eq_nil_of_length_eq_zero,wL]
 |f+1,0,b,_,h=>by
  grind[List.eq_nil_of_length_eq_zero,wL]
 |f+1,g+1,b,h1,h2=>by
  simp only[wL];cases hb:b.isEmpty with
  |true=>rfl
  |false=>
   have hl:0<b.length:=by
    grind
   have:=rE b hl;rw[HT f g _ (by rw[I?];omega) (by rw[I?];omega)]
theorem YH:decode []=[]:=rfl
theorem zE(b:B8)(h:0<b.length):decode b=(bf b).1::decode (b.drop (bf b).2.toNat):=by
 have hb:=rE b h;unfold decode;obtain⟨n,hn⟩:∃n,b.length=n+1:=⟨b.length-1,w!⟩;rw[hn];simp only[wL];have :b.isEmpty=false:=by grind
 rw[this];simp only[Bool.false_eq_true,if_false];rw[HT n _ _ x! (Nat.le_refl _)]
theorem aD3(b:B8):kP b b []:=⟨rfl,z!⟩
theorem Vo {r:B8}(h:kP b r l)(hr:0<(r.length:Int)):1<=(bf r).2/\(bf r).2<=r.length/\r.length+l.length<=b.length:=by
 have:=rE r w!;exact⟨this.1,this.2.1,h.2⟩
theorem SV {r:B8}(h:kP b r l)(hr:0<(r.length:Int)):kP b (r.drop (bf r).2.toNat) (l++[(bf r).1]):=by
 have hb:=rE r w!;refine⟨?_,?_⟩;rw[List.append_assoc,List.singleton_append,<-zE r w!];exact h.1;have:=h.2;grind
theorem YI {r:B8}(h:kP b r l)(hr:¬0<(r.length:Int)):l=decode b:=by
 have :r=[]:=List.eq_nil_of_length_eq_zero w!;have:=h.1;grind[YH]
theorem sK(b:B8):(decode b).length<=b.length:=by
 have :∀f (c:B8),(wL f c).length<=f:=by
  intro f;induction f with
  |zero=>grind[wL]
  |succ f ih=>grind[wL,bf]
 exact this _ _
theorem vk(a b:Bool):(bif a then b else false)=(a&&b):=by grind
theorem nine {x:Nat}(h:(x:Int)<9):x=0\/x=1\/x=2\/x=3\/x=4\/x=5\/x=6\/x=7\/x=8:=by omega
theorem OT{x:Nat}(h:(x:Int)<9):(bif decide (List.getD [65,97,192,216,248,913,931,945,1024] (Int.toNat (x:Int)) 0<=c) then decide (c<=List.getD [90,122,214,246,255,929,937,969,1119] (Int.toNat (x:Int)) 0) else false)=oa c (qx.getD x (0,0)):=by
 rcases nine h with rfl|rfl|rfl|rfl|rfl|rfl|rfl|rfl|rfl<;>simp[oa,qx,Z!,List.getD_cons_zero,List.getD_cons_succ,vk]
theorem ğ {c:Int}{x:Nat}(h:(x:Int)<9)(hc:(bif decide (List.getD [65,97,192,216,248,913,931,945,1024] (Int.toNat (x:Int)) 0<=c) then decide (c<=List.getD [90,122,214,246,255,929,937,969,1119] (Int.toNat (x:Int)) 0) else false)=true):true=letter c:=by
 grind[OT,letter,List.any_eq_true,bu,qx,List.length_cons,List.length_nil]
theorem Ġ {c:Int}{x:Nat}(hi:pQ c x)(h:(x:Int)<9)(hc:(bif decide (List.getD [65,97,192,216,248,913,931,945,1024] (Int.toNat (x:Int)) 0<=c) then decide (c<=List.getD [90,122,214,246,255,929,937,969,1119] (Int.toNat (x:Int)) 0) else false)=false):pQ c (x+1):=by
 rw[OT h] at hc;refine⟨w!,λs hs=>?_⟩;rw[aw qx x (0,0) (by grind[qx,List.length_cons,List.length_nil])] at hs;rcases List.mem_append.1 hs with hs|hs;exact hi.2 s hs;grind
theorem ġ{x:Nat}(hi:pQ c x)(h:¬(x:Int)<9):false=letter c:=by
 symm
 have hx:x=9:=by have:=hi.1;omega
 simp only[letter,List.any_eq_false];intro s hs;have:=hi.2 s (by simp_all[qx]);grind
theorem seven {x:Nat}(h:(x:Int)<7):x=0\/x=1\/x=2\/x=3\/x=4\/x=5\/x=6:=by omega
theorem SX{x:Nat}(h:(x:Int)<7):(bif decide (List.getD [65,192,216,913,931,1024,1040] (Int.toNat (x:Int)) 0<=c) then decide (c<=List.getD [90,214,222,929,937,1039,1071] (Int.toNat (x:Int)) 0) else false)=oa c ((n4.getD x (0,0,0)).1,(n4.getD x (0,0,0)).2.1)/\
  List.getD ([32,32,32,32,32,80,32]:U) (Int.toNat (x:Int)) 0=(n4.getD x (0,0,0)).2.2:=by
 rcases seven h with rfl|rfl|rfl|rfl|rfl|rfl|rfl<;>simp[oa,n4,Z!,List.getD_cons_zero,List.getD_cons_succ,vk,and_self]
theorem Ls {α:Type}(p:α->Bool)(d:α):∀(l:M α) (x:Nat),x<l.length->(∀s∈l.take x,p s=false)->p (l.getD x d)=true->l.find? p=some (l.getD x d)
 |[],x,h,_,_=>by grind
 |a::l,0,_,_,h=>by grind
 |a::l,x+1,hx,h1,h=>by
  have ha:=h1 a z!;rw[List.find?_cons,ha];exact Ls p d l x (by simpa using hx) (λs hs=>h1 s (by simp[hs])) h
theorem SY {c:Int}{x:Nat}(hi:qy c x)(h:(x:Int)<7)(hc:(bif decide (List.getD [65,192,216,913,931,1024,1040] (Int.toNat (x:Int)) 0<=c) then decide (c<=List.getD [90,214,222,929,937,1039,1071] (Int.toNat (x:Int)) 0) else false)=true):
  c+List.getD ([32,32,32,32,32,80,32]:U) (Int.toNat (x:Int)) 0=aZ c/\(c<=1071/\65<=c/\List.getD ([32,32,32,32,32,80,32]:U) (Int.toNat (x:Int)) 0<=80/\0<=List.getD ([32,32,32,32,32,80,32]:U) (Int.toNat (x:Int)) 0):=by
 have hat:=SX (c:=c) h;refine⟨?_,?_⟩;rw[hat.1] at hc;rw[hat.2];simp only[aZ];rw[Ls (λs=>oa c (s.1,s.2.1)) (0,0,0) n4 x x! hi.2 hc];rcases seven h with rfl|rfl|rfl|rfl|rfl|rfl|rfl<;>simp[List.getD] at hc |- <;>omega
theorem aiY {c:Int}{x:Nat}(hi:qy c x)(h:(x:Int)<7)(hc:(bif decide (List.getD [65,192,216,913,931,1024,1040] (Int.toNat (x:Int)) 0<=c) then decide (c<=List.getD [90,214,222,929,937,1039,1071] (Int.toNat (x:Int)) 0) else false)=false):qy c (x+1):=by
 rw[(SX h).1] at hc;refine⟨w!,λs hs=>?_⟩;rw[aw n4 x (0,0,0) (by grind[n4,List.length_cons,List.length_nil])] at hs;rcases List.mem_append.1 hs with hs|hs;exact hi.2 s hs;grind
theorem aiZ{x:Nat}(hi:qy c x)(h:¬(x:Int)<7):c=aZ c:=by
 have hx:x=7:=by have:=hi.1;omega
 simp[aZ];rw[List.find?_eq_none.2 (λs hs=>by rw[hi.2 s (by simp_all[n4])];simp)]
theorem yq {b:B8}{n x:Nat}{m:Int}(hn:uN b=n)(h:pR b x)(hx:x+1=n)(hc:cu (bN b x)=false\/¬eR (bN b x)=m)(hm:(n:Int)=m):bf b=(65533,1):=by
 have hb:=bO h;grind[Vm]
theorem yr {b:B8}{n x:Nat}{m:Int}(hn:uN b=n)(h:pR b x)(hx:x+1=n)(hc:cu (bN b x)=true/\eR (bN b x)=m)(hm:(n:Int)=m):bf b=(bN b x,m):=by
 have:=asM (c:=false) hn h hx x!;grind
theorem Ģ {A B:Prop}[Decidable A][Decidable B](h:A/\B):(bif decide A then decide B else false)=true:=by grind
theorem am4 {A B:Prop}[Decidable A][Decidable B](h:¬A\/¬B):(bif decide A then decide B else false)=false:=by
 grind
def o9(c:Int):Bool:=(decide (0<=c)&&decide (c<55296)) || (decide (57343<c)&&decide (c<1114112))
def dc(c a b:Int):Bool:=decide (a<=c)&&decide (c<=b)
def qz(a b:Int):Int:=if a<b then a else b
def adz(n:Int):Int:=[0,0,192,224,240].getD n.toNat 0
def pS(b:B8)(n:Int):Nat->Int
 |0=>dC b-adz n
 |k+1=>pS b n k*64+((b.getD (k+1) 0).toNat:Int)-128
def cc(b:B8)(n:Int):Int:=if(b.length:Int)<n then -1 else pS b n (n.toNat-1)
def DB(b:B8)(n:Int):Prop:=0<b.length/\1<=n/\n<=4
def sh(b:B8)(n:Int)(k:Nat):Prop:=(n<=b.length)/\1<=k/\k<=n
def sL(b:B8)(k:Nat):Bool:=o9 (cc b k)&&decide (enc (cc b k)=b.take k)
def im(b:B8):Nat->Int×Int
 |0=>(65533,1)
 |k+1=>if sL b (k+1) then(cc b (k+1:Nat),((k+1:Nat):Int)) else im b k
theorem OU(c:Int):o9 c=cu c:=by
 grind[o9,cu]
theorem Jz(h0:0<=c)(h1:c<256):u8 c=y↔c=(y.toNat:Int):=by
 constructor;grind[u8,UInt8.toNat_ofNat'];simp_all[u8]
theorem OV:more c=y↔128+c%64=(y.toNat:Int):=Jz w! w!
theorem aD4(h0:0<=c)(h1:c<=1114111):enc c=[y0]↔c<128/\c=(y0.toNat:Int):=by
 unfold enc;split;simp[List.cons.injEq,and_true,Jz h0 w!, *,true_and];grind
theorem aD5(h0:0<=c)(h1:c<=1114111):enc c=[y0,y1]↔128<=c/\c<2048/\192+c/64=(y0.toNat:Int)/\128+c%64=(y1.toNat:Int):=by
 unfold enc;split;grind;split;simp[List.cons.injEq,and_true,Jz (c:=192+c/64) w! w!,OV];omega;grind
theorem aD6{y2:UInt8}(h0:0<=c)(h1:c<=1114111):enc c=[y0,y1,y2]↔2048<=c/\c<65536/\224+c/4096=(y0.toNat:Int)/\128+c/64%64=(y1.toNat:Int)/\128+c%64=(y2.toNat:Int):=by
 unfold enc;split;grind;split;grind;split;simp[List.cons.injEq,and_true,Jz (c:=224+c/4096) w! w!,OV];omega;grind
theorem aD7{y2 y3:UInt8}(h0:0<=c)(h1:c<=1114111):enc c=[y0,y1,y2,y3]↔65536<=c/\240+c/262144=(y0.toNat:Int)/\128+c/4096%64=(y1.toNat:Int)/\128+c/64%64=(y2.toNat:Int)/\128+c%64=(y3.toNat:Int):=by
 unfold enc;split;grind;split;grind;split;grind;simp[List.cons.injEq,and_true,Jz (c:=240+c/262144) w! w!,OV];omega
def lr(b:B8)(k:Nat):Prop:=uN b=k/\k<=b.length/\(k=1\/(xu b k=true/\cu (bN b (k-1))=true/\eR (bN b (k-1))=(k:Int)))
theorem yu(b:B8)(k:Nat):sL b k=true↔cu (cc b k)=true/\enc (cc b k)=b.take k:=by
 simp_all[sL,OU,B!,J!]
theorem ģ{k:Nat}(h:b.length<k):sL b k=false:=by
 simp_all[cc,Q!,sL,o9]
theorem OW(b:B8):0<=dC b/\dC b<256:=by have:=(b.getD 0 0).toNat_lt;grind[dC]
theorem am5(x0:UInt8)(l:B8):(sL (x0::l) 1=true↔lr (x0::l) 1)/\cc (x0::l) 1=dC (x0::l):=by
 have hb:cc (x0::l) 1=dC (x0::l):=by
  rfl
 refine⟨?_,hb⟩;have hl:=OW (x0::l);rw[yu];show cu (cc (x0::l) 1)=true/\enc (cc (x0::l) 1)=[x0]↔_;rw[hb];have hr:cu (dC (x0::l))=true:=by grind[cu]
 rw[aD4 hl.1 w!,hr];simp[lr,uN,true_or,and_true,List.length_cons,true_and];have :dC (x0::l)=(x0.toNat:Int):=rfl;grind
theorem ai0(b:B8):uN b=2↔dC b/32=6:=by grind[uN]
theorem ai1(b:B8):uN b=3↔dC b/16=14:=by grind[uN]
theorem ai2(b:B8):uN b=4↔dC b/8=30:=by grind[uN]
theorem am6(c:Int):eR c=2↔128<=c/\c<2048:=by grind[eR]
theorem am7(c:Int):eR c=3↔2048<=c/\c<65536:=by grind[eR]
theorem am8(c:Int):eR c=4↔65536<=c:=by grind[eR]
theorem pT(c:Int):cu c=true↔0<=c/\c<=1114111/\(c<55296\/57343<c):=by simp[cu]
theorem aD8(x0 x1:UInt8)(l:B8):(sL (x0::x1::l) 2=true↔lr (x0::x1::l) 2)/\(lr (x0::x1::l) 2->cc (x0::x1::l) 2=bN (x0::x1::l) 1):=by
 have hb:cc (x0::x1::l) 2=((x0.toNat:Int)-192)*64+x1.toNat-128:=by
  rfl
 have hl:dC (x0::x1::l)=(x0.toNat:Int):=rfl
 have ha:dC (x0::x1::l)/32=6->bN (x0::x1::l) 1=(x0.toNat:Int)%32*64+(x1.toNat:Int)%64:=by
  simp_all[bN,uC,Q!]
 have hg:lr (x0::x1::l) 2↔(dC (x0::x1::l)/32=6/\(x1.toNat/64=2/\cu (bN (x0::x1::l) 1)=true/\eR (bN (x0::x1::l) 1)=2)):=by
  grind[lr,ai0,xu]
 grind[yu,pT,aD5,am6]
theorem aD9(x0 x1 x2:UInt8)(l:B8):(sL (x0::x1::x2::l) 3=true↔lr (x0::x1::x2::l) 3)/\(lr (x0::x1::x2::l) 3->cc (x0::x1::x2::l) 3=bN (x0::x1::x2::l) 2):=by
 have hb:cc (x0::x1::x2::l) 3=(((x0.toNat:Int)-224)*64+x1.toNat-128)*64+x2.toNat-128:=by
  rfl
 have hl:dC (x0::x1::x2::l)=(x0.toNat:Int):=rfl
 have ha:dC (x0::x1::x2::l)/16=14->bN (x0::x1::x2::l) 2=((x0.toNat:Int)%16*64+(x1.toNat:Int)%64)*64+(x2.toNat:Int)%64:=by
  grind[bN,uC]
 have hg:lr (x0::x1::x2::l) 3↔(dC (x0::x1::x2::l)/16=14/\((x1.toNat/64=2/\x2.toNat/64=2)/\cu (bN (x0::x1::x2::l) 2)=true/\eR (bN (x0::x1::x2::l) 2)=3)):=by
  grind[lr,ai1,xu]
 grind[yu,pT,aD6,am7]
theorem aEa(x0 x1 x2 x3:UInt8)(l:B8):(sL (x0::x1::x2::x3::l) 4=true↔lr (x0::x1::x2::x3::l) 4)/\(lr (x0::x1::x2::x3::l) 4->cc (x0::x1::x2::x3::l) 4=bN (x0::x1::x2::x3::l) 3):=by
 have hb:cc (x0::x1::x2::x3::l) 4=((((x0.toNat:Int)-240)*64+x1.toNat-128)*64+x2.toNat-128)*64+x3.toNat-128:=by
  rfl
 have hl:dC (x0::x1::x2::x3::l)=(x0.toNat:Int):=rfl
 have ha:dC (x0::x1::x2::x3::l)/8=30->bN (x0::x1::x2::x3::l) 3=(((x0.toNat:Int)%8*64+(x1.toNat:Int)%64)*64+(x2.toNat:Int)%64)*64+(x3.toNat:Int)%64:=by
  grind[bN,uC]
 have hg:lr (x0::x1::x2::x3::l) 4↔(dC (x0::x1::x2::x3::l)/8=30/\((x1.toNat/64=2/\x2.toNat/64=2/\x3.toNat/64=2)/\cu (bN (x0::x1::x2::x3::l) 3)=true/\eR (bN (x0::x1::x2::x3::l) 3)=4)):=by
  grind[lr,ai2,xu]
 rw[hg,yu];grind[pT,aD7,am8]
theorem vn(b:B8)(k:Nat)(hb:0<b.length)(h1:1<=k)(h4:k<=4):(sL b k=true↔lr b k)/\(lr b k->cc b k=bN b (k-1)\/(k=1/\cc b k=dC b)):=by
 by_cases hs:b.length<k;rw[ģ hs];exact⟨⟨λh=>absurd h (by decide),λh=>absurd h.2.1 w!⟩,λh=>absurd h.2.1 w!⟩
 . have :k=1\/k=2\/k=3\/k=4:=by omega
   match b,this with
   |[],_=>grind
   |x0::l,.inl h=>grind[am5]
   |x0::x1::l,.inr (.inl h)=>grind[aD8]
   |x0::x1::x2::l,.inr (.inr (.inl h))=>grind[aD9]
   |x0::x1::x2::x3::l,.inr (.inr (.inr h))=>grind[aEa]
   |[_],.inr (.inl h)|[_],.inr (.inr (.inl h))|[_,_],.inr (.inr (.inl h))|[_],.inr (.inr (.inr h))|[_,_],.inr (.inr (.inr h))|[_,_,_],.inr (.inr (.inr h))=>grind
theorem YJ{k:Nat}(h:lr b k)(h1:1<=k)(h4:k<=4)(hb:0<b.length):bf b=(cc b k,(k:Int)):=by
 have ht:=(vn b k hb h1 h4).2 h;obtain⟨hn,hl,hr⟩:=h;simp[bf,hn];by_cases hk:k=1
 . subst hk;rcases ht with ht|ht
   . obtain⟨x0,l,rfl⟩:∃x0 l,b=x0::l:=by cases b with
      |nil=>grind
      |cons x l=>grind
     rfl
   grind
 grind
theorem SZ {b:B8}(hb:0<b.length)(n:Nat):∀k,k<=4->(∀j,j<=k->1<=j->¬lr b j)->im b k=(65533,1)
 |0,_,_=>rfl
 |k+1,h4,h=>by
  simp[im]
  have :sL b (k+1)=false:=by
   cases ht:sL b (k+1) with
   |false=>rfl
   |true=>simp_all[absurd,vn,P!]
  rw[this];exact SZ hb n k w! (λj hj=>h j w!)
theorem FM {b:B8}(hb:0<b.length){n:Nat}(hg:lr b n)(h1:1<=n):∀k,k<=4->n<=k->im b k=(cc b n,(n:Int))
 |0,_,h=>by omega
 |k+1,h4,h=>by
  simp only[im];by_cases hk:n=k+1;subst hk;rw[(vn b (k+1) hb w! h4).1.2 hg,Q! rfl]
  . have :sL b (k+1)=false:=by
     cases ht:sL b (k+1) with
     |false=>rfl
     |true=>
      have:=(vn b (k+1) hb w! h4).1.1 ht;have h2:=this.1;have h3:=hg.1;omega
    rw[this];exact FM hb hg h1 k w! w!
theorem am9(b:B8):uN b<=4:=by grind[uN]
theorem B6(b:B8)(hb:0<b.length):im b 4=bf b:=by
 by_cases hg:lr b (uN b)/\1<=uN b;rw[FM hb hg.1 hg.2 4 (P! _) (am9 b),YJ hg.1 hg.2 (am9 b) hb]
 . rw[SZ hb 0 4 (Nat.le_refl _) (λj hj h1 h=>hg (by have:=h.1;grind))];simp[bf];by_cases h1:uN b=1;exfalso;apply hg
   exact⟨⟨rfl,w!,.inl h1⟩,w!⟩
   . rw[W! h1];rw[Q!];by_cases h0:uN b=0;omega
     . refine .inr ?_;by_cases hl:b.length<uN b;omega
       . refine .inr ?_;cases hc:xu b (uN b) with
         |false=>grind
         |true=>
          cases hr:cu (bN b (uN b-1)) with
          |false=>grind
          |true=>
           refine .inr (.inr λhs=>hg ⟨⟨rfl,w!,.inr ⟨hc,hr,hs⟩⟩,w!⟩)
theorem asU(c:Int)(h0:0<=c)(h:c<128): [UInt8.ofNat (Int.toNat (c%256))]=enc c:=ady c h0 h
theorem asV(c:Int)(h0:0<=c)(h:128<=c/\c<2048): [UInt8.ofNat (Int.toNat ((192+c/64)%256)),UInt8.ofNat (Int.toNat ((128+c%64)%256))]=enc c:=by
 simp[enc,if_neg (by omega :¬c<128),if_pos h.2,more,u8];grind
theorem asW(c:Int)(h0:0<=c)(h:2048<=c/\c<65536): [UInt8.ofNat (Int.toNat ((224+c/4096)%256)),UInt8.ofNat (Int.toNat ((128+c/64%64)%256)),UInt8.ofNat (Int.toNat ((128+c%64)%256))]=enc c:=by
 simp[enc,if_neg (by omega :¬c<128),if_neg (by omega :¬c<2048),if_pos h.2,more,u8];grind
theorem asX(c:Int)(h0:0<=c)(h1:c<=1114111)(h:65536<=c): [UInt8.ofNat (Int.toNat ((240+c/262144)%256)),UInt8.ofNat (Int.toNat ((128+c/4096%64)%256)),UInt8.ofNat (Int.toNat ((128+c/64%64)%256)),UInt8.ofNat (Int.toNat ((128+c%64)%256))]=enc c:=by
 simp only[enc,if_neg (by omega :¬c<128),if_neg (by omega :¬c<2048),if_neg (by omega :¬c<65536),more,u8];grind
theorem OX(c:Int):letter c=(dc c 65 90 || (dc c 97 122 || (dc c 192 214 || (dc c 216 246 || (dc c 248 255 || (dc c 913 929 || (dc c 931 937 || (dc c 945 969 || dc c 1024 1119)))))))):=by
 simp_all[letter,qx,oa,dc,List.any_cons,List.any_nil,Bool.or_false]
theorem DC(h:dc c 1024 1039=true):c+80=aZ c/\c<=1039/\1024<=c:=by
 simp[dc,Bool.and_eq_true,decide_eq_true_eq] at h;simp[aZ,n4,oa,List.find?_cons];grind
theorem DD(h:dc c 1024 1039=false)(hc:dc c 65 90=true\/dc c 192 214=true\/dc c 216 222=true\/dc c 913 929=true\/dc c 931 937=true\/dc c 1040 1071=true):c+32=aZ c/\c<=1071/\65<=c:=by
 have e:∀a b:Int,oa c (a,b)=dc c a b:=λ_ _=>rfl;simp[aZ,n4,List.find?_cons,e,h];grind[dc]
theorem B7(h:dc c 1024 1039=false)(hc:dc c 65 90=false/\dc c 192 214=false/\dc c 216 222=false/\dc c 913 929=false/\dc c 931 937=false/\dc c 1040 1071=false):c=aZ c:=by
 have e:∀a b:Int,oa c (a,b)=dc c a b:=λ_ _=>rfl;simp_all[aZ,n4,List.find?_cons,List.find?_nil]
theorem OY(b:B8)(n:Int):∀k,k<=4-> -(1000*128^k)<=pS b n k/\pS b n k<=1000*128^k
 |0,_=>by
  have:=OW b;grind[adz,pS]
 |k+1,h=>by
  have ih:=OY b n k w!;simp[pS];have hx:=(b.getD (k+1) 0).toNat_lt;have :k=0\/k=1\/k=2\/k=3:=by omega
  grind
theorem adA{k:Nat}(h:sh b n k)(hp:DB b n): -268435456000<=pS b n (k-1)/\pS b n (k-1)<=268435456000:=by
 obtain⟨h1,h2,h3⟩:=h;obtain⟨_,_,hp⟩:=hp;have:=OY b n (k-1) w!;have hk:k-1=0\/k-1=1\/k-1=2\/k-1=3:=by omega
 grind
theorem ai3{k:Nat}(h:sh b n k):pS b n (k-1)*64+((b.getD (Int.toNat (k:Int)) 0).toNat:Int)-128=pS b n (k+1-1):=by
 obtain⟨j,rfl⟩:∃j,k=j+1:=⟨k-1,by have:=h.2.1;omega⟩;rfl
theorem S0:((b.getD (Int.toNat 0) 0).toNat:Int)- [0,0,192,224,240].getD n.toNat 0=pS b n 0:=rfl
theorem ana{k:Nat}(h:sh b n k)(hk:¬(k:Int)<n):pS b n (k-1)=cc b n:=by
 have h1:=h.1;have h2:=h.2
 have :k=n.toNat:=by omega
 simp_all[cc,W!]
theorem YK {b:B8}(h:(b.length:Int)<n): -1=cc b n:=by simp_all[cc,Q!]
theorem ai4(hi:i<b.length):List.drop (Int.toNat (i:Int)) (List.take (Int.toNat (qz ((i:Int)+(j:Int)) (b.length:Int))) b)=(b.drop i).take j:=by
 simp[qz];split;grind[Int.toNat_natCast,List.drop_take,Nat.add_sub_cancel_left];grind[Int.toNat_natCast,List.take_length,List.take_of_length_le,List.length_drop]
theorem Ĥ(b:B8)(k:Nat):im b (k+1)=if o9 (cc b ((k+1:Nat):Int))=true/\enc (cc b ((k+1:Nat):Int))=b.take (k+1) then(cc b ((k+1:Nat):Int),((k+1:Nat):Int)) else im b k:=by
 simp_all[im,sL,B!,J!]
theorem ĥ(h:o9 c=true):0<=c/\c<=1114111:=by simp_all[OU,eH]
theorem asY(b:B8):kP b (b.drop 0) []:=⟨rfl,z!⟩
theorem rF {b:B8}{x1:Nat×U}{x4:Nat×Nat}(h2:kP b (b.drop x1.1) x1.2/\x1.1<=b.length)(h3:(x1.1:Int)<b.length)(h5:x4.1<=4/\(x1.1:Int)=x4.2)(h9:¬((x4.1+1:Nat):Int)<=4):
  1<=(im (b.drop x4.2) x4.1).2/\(x1.1:Int)+(im (b.drop x4.2) x4.1).2<=b.length/\
  kP b (b.drop (Int.toNat ((x1.1:Int)+(im (b.drop x4.2) x4.1).2))) (x1.2++[(im (b.drop x4.2) x4.1).1])/\x1.2.length+1<=b.length:=by
 have e1:x4.1=4:=by omega
 have e2:x4.2=x1.1:=by omega
 have hl:0<(b.drop x1.1).length:=by grind
 rw[e1,e2,B6 _ hl];have hb:=rE _ hl;have hs:=SV h2.1 w!;rw[List.drop_drop] at hs;have h6:=h2.1.2;grind
theorem S3{x1:Nat×U}{x4:Nat×Nat}(h3:(x1.1:Int)<b.length)(h5:x4.1<=4/\(x1.1:Int)=x4.2):
  im (b.drop x1.1) (x4.1+1)=bif (bif o9 (cc (b.drop (Int.toNat (x1.1:Int))) ((x4.1+1:Nat):Int)) then decide (enc (cc (b.drop (Int.toNat (x1.1:Int))) ((x4.1+1:Nat):Int))=List.drop (Int.toNat (x1.1:Int)) (List.take (Int.toNat (qz ((x1.1:Int)+((x4.1+1:Nat):Int)) (b.length:Int))) b)) else false)
   then(cc (b.drop (Int.toNat (x1.1:Int))) ((x4.1+1:Nat):Int),((x4.1+1:Nat):Int)) else im (b.drop x4.2) x4.1:=by
 rw[ai4 w!,Ĥ,show x4.2=x1.1 by omega,Int.toNat_natCast];grind
theorem ai5(c:Bool)(p q:α×β):(bif c then p else q).1=(bif c then p.1 else q.1):=by grind
theorem ai6(c:Bool)(p q:α×β):(bif c then p else q).2=(bif c then p.2 else q.2):=by grind
def gG(c:Int):Bool:=letter c || digit c
def lY(t:B8):U->B8
 |[]=>t
 |c::w=>if 64<t.length+(il (aZ c)).length then t else lY (t++il (aZ c)) w
def eS(w:U):B8:=lY [] w
def RS(w:U):Prop:=w.length<=1099511627776/\∀c∈w,cu c=true
def lu(w:U)(k:Nat)(t:B8):Prop:=lY t (w.drop k)=eS w/\k<=w.length/\t.length<=64
def mW(acc:U):U->M U
 |[]=>if acc.isEmpty then [] else [acc]
 |c::l=>if gG c then mW (acc++[c]) l else if acc.isEmpty then mW [] l else acc::mW [] l
def aS(b:B8):O:=(mW [] (decode b)).map eS
def kQ(d:U)(k:Nat)(T:O)(W:U):Prop:=
 T++(mW W (d.drop k)).map eS=(mW [] d).map eS/\k<=d.length/\T.length<=k/\W.length<=k/\(∀c∈W,c∈d)
def np(d:U)(k:Nat)(T:O):Prop:=
 T++(mW [] (d.drop k)).map eS=(mW [] d).map eS/\k<=d.length+1/\T.length<=k
def tZ(d:U)(i k:Nat):Prop:=i<=k/\k<=d.length/\∀c∈(d.drop i).take (k-i),gG c=true
def isTerm(s:B8):Bool:=decide (aS s=[s])
def dQ(l:O):Nat->Nat
 |0=>0
 |k+1=>if Op.bytesLess (l.getD k []) (l.getD (dQ l k) []) then k else dQ l k
def dR(l:O):Nat:=dQ l l.length
def uw(l:O)(k:Nat):Prop:=1<=k/\(k<=l.length\/k=1)
theorem Vp(c:Int):aZ c=c\/(65<=c/\c<=1071/\(aZ c=c+32\/aZ c=c+80)):=by
 cases h:dc c 1024 1039 with
 |true=>grind[DC]
 |false=>
  by_cases h2:dc c 65 90=true\/dc c 192 214=true\/dc c 216 222=true\/dc c 913 929=true\/dc c 931 937=true\/dc c 1040 1071=true;grind[DD];grind[B7]
theorem zF(h:cu c=true):cu (aZ c)=true:=by
 grind[Vp,pT]
theorem RT(b:B8):cu (bf b).1=true:=by
 grind[bf,OW,pT]
theorem oT(b:B8):∀c∈decode b,cu c=true:=by
 have :∀f (x:B8),∀c∈wL f x,cu c=true:=by
  intro f;induction f with
  |zero=>grind[wL]
  |succ f ih=>
   grind[wL,RT]
 exact this _ b
theorem pw(l:M α)(k:Nat)(d:α)(h:k<l.length):l.drop k=l.getD k d::l.drop (k+1):=by
 simp_all
theorem zG(w:U):lu w 0 []:=⟨rfl,R! _,z!⟩
theorem py {w:U}{k:Nat}{t:B8}(h:lu w k t)(hk:(k:Int)<w.length)(hs:¬(64:Int)<(t.length:Int)+((il (aZ (w.getD (Int.toNat (k:Int)) 0))).length:Int)):lu w (k+1) (t++il (aZ (w.getD (Int.toNat (k:Int)) 0))):=by
 obtain⟨h1,h2,h3⟩:=h;rw[Int.toNat_natCast] at *;rw[pw w k 0 w!] at h1;simp only[lY] at h1;rw[if_neg w!] at h1;exact⟨h1,w!,x!⟩
theorem pz {w:U}{k:Nat}{t:B8}(h:lu w k t)(hk:(k:Int)<w.length)(hs:(64:Int)<(t.length:Int)+((il (aZ (w.getD (Int.toNat (k:Int)) 0))).length:Int)):t=eS w:=by
 obtain⟨h1,h2,h3⟩:=h;grind[Int.toNat_natCast,pw,lY]
theorem rG{k:Nat}(h:lu w k t)(hk:¬(k:Int)<w.length):t=eS w:=by
 obtain⟨h1,h2,h3⟩:=h;rw[a? w!] at h1;exact h1
theorem yv(c:Int):(enc c).length<=4:=by grind[enc]
theorem ai7(c:Int):(il c).length<=4:=by grind[il,yv]
theorem yw{k:Nat}(h:RS w)(hk:(k:Int)<w.length):il (aZ (w.getD (Int.toNat (k:Int)) 0))=enc (aZ (w.getD (Int.toNat (k:Int)) 0))/\0<=aZ (w.getD (Int.toNat (k:Int)) 0)/\aZ (w.getD (Int.toNat (k:Int)) 0)<=1114111:=by
 have:=zF (h.2 _ (bu w k 0 w!));simp_all[il,P?,pT]
theorem aEb(d:U):kQ d 0 [] []:=⟨rfl,R! _,z!,z!,z!⟩
theorem ai8 {d:U}{k:Nat}(h:kQ d k T W)(hk:(k:Int)<d.length)(hw:gG (d.getD (Int.toNat (k:Int)) 0)=true):kQ d (k+1) T (W++[d.getD (Int.toNat (k:Int)) 0]):=by
 obtain⟨h1,h2,h3,h4,h5⟩:=h;rw[Int.toNat_natCast] at *;rw[pw d k 0 w!] at h1;simp only[mW] at h1;rw[if_pos hw] at h1;refine⟨h1,w!,w!,x!,λc hc=>?_⟩;grind
theorem anb {d:U}{k:Nat}(h:kQ d k T W)(hk:(k:Int)<d.length)(hw:gG (d.getD (Int.toNat (k:Int)) 0)=false)(hW:(0:Int)<W.length):kQ d (k+1) (T++[eS W]) []:=by
 obtain⟨h1,h2,h3,h4,h5⟩:=h;rw[pw d k 0 w!] at h1;simp[mW] at h1;refine⟨?_,w!,x!,z!,z!⟩;grind
theorem ai9 {d:U}{k:Nat}(h:kQ d k T W)(hk:(k:Int)<d.length)(hw:gG (d.getD (Int.toNat (k:Int)) 0)=false)(hW:¬(0:Int)<W.length):kQ d (k+1) T W:=by
 obtain⟨h1,h2,h3,h4,h5⟩:=h;have :W=[]:=List.eq_nil_of_length_eq_zero w!;subst this;rw[pw d k 0 w!] at h1;simp only[mW] at h1;rw[if_neg x!,if_pos z!] at h1;exact⟨h1,w!,w!,z!,z!⟩
theorem aja {b:B8}{k:Nat}{T:O}{W:U}(h:kQ (decode b) k T W)(hk:¬(k:Int)<(decode b).length)(hW:(0:Int)<W.length):T++[eS W]=aS b:=by
 obtain⟨h1,h2,h3,h4,h5⟩:=h;rw[List.drop_eq_nil_of_le w!] at h1;simp[mW] at h1;rw[if_neg x!] at h1;exact h1
theorem ajb {b:B8}{k:Nat}{T:O}{W:U}(h:kQ (decode b) k T W)(hk:¬(k:Int)<(decode b).length)(hW:¬(0:Int)<W.length):T=aS b:=by
 obtain⟨h1,h2,h3,h4,h5⟩:=h;have :W=[]:=U! w!;subst this;rw[a? w!] at h1;simp[mW,List.isEmpty_nil,P?,List.map_nil,F?] at h1;exact h1
theorem si {b:B8}{k:Nat}{T:O}{W:U}(h:kQ (decode b) k T W)(hb:b.length<=1099511627776):RS W/\T.length<=1099511627776/\W.length<=1099511627776/\k<=1099511627776:=by
 obtain⟨h1,h2,h3,h4,h5⟩:=h;have:=sK b;exact⟨⟨w!,λc hc=>oT b c (h5 c hc)⟩,w!,w!,w!⟩
theorem zH(d:U):np d 0 []:=⟨rfl,R! _,z!⟩
theorem FN {d:U}{k:Nat}(h:(k:Int)<d.length):tZ d k k:=⟨P! _,w!,z!⟩
theorem ajc {d:U}{k:Nat}(h:tZ d i k)(hk:(k:Int)<d.length)(hw:gG (d.getD (Int.toNat (k:Int)) 0)=true):tZ d i (k+1):=by
 obtain⟨h1,h2,h3⟩:=h;refine⟨w!,w!,λc hc=>?_⟩;rw[show k+1-i=(k-i)+1 by omega,aw _ _ 0 x!] at hc;grind
theorem OZ:∀(u acc rest:U),(∀c∈u,gG c=true)->mW acc (u++rest)=mW (acc++u) rest
 |[],acc,rest,_=>by simp
 |c::u,acc,rest,h=>by
  simp_all[U?,mW,Q!,OZ,V!]
theorem ajd {d:U}{i k:Nat}(h:np d i T)(hr:tZ d i k)(hs:¬(k:Int)<d.length\/gG (d.getD (Int.toNat (k:Int)) 0)=false)(hik:(i:Int)<k):
  np d (k+1) (T++[eS (List.take (Int.toNat (k:Int)-Int.toNat (i:Int)) (List.drop (Int.toNat (i:Int)) d))]):=by
 obtain⟨h1,h2,h3⟩:=h;obtain⟨r1,r2,r3⟩:=hr;refine⟨?_,w!,x!⟩;rw[<-List.take_append_drop (k-i) (d.drop i),OZ _ _ _ r3,List.nil_append,List.drop_drop,show i+(k-i)=k by omega] at h1
 have di:(List.take (k-i) (List.drop i d)).isEmpty=false:=by
  rw[List.isEmpty_eq_false_iff];intro h0;have:=congrArg List.length h0;grind
 by_cases hk:k<d.length;rw[pw d k 0 hk] at h1;simp_all[mW,W!,V!]
 rw[a? (show d.length<=k by omega)] at h1;rw[a? (show d.length<=k+1 by omega)];simp_all[mW,W!,List.isEmpty_nil,P?,List.map_nil,F?,K?]
theorem Ħ {d:U}{i k:Nat}(h:np d i T)(hi:(i:Int)<d.length)(hr:tZ d i k)(hs:¬(k:Int)<d.length\/gG (d.getD (Int.toNat (k:Int)) 0)=false)(hik:¬(i:Int)<k):np d (k+1) T:=by
 obtain⟨h1,h2,h3⟩:=h;have :i=k:=by have:=hr.1;omega
 subst this;rw[pw d i 0 w!] at h1;simp only[mW] at h1;rw[if_neg x!,if_pos z!] at h1;exact⟨h1,w!,w!⟩
theorem rH {b:B8}{i:Nat}{T:O}(h:np (decode b) i T)(hi:¬(i:Int)<(decode b).length):T=aS b:=by
 obtain⟨h1,h2,h3⟩:=h;rw[a? w!] at h1;simp[mW,List.isEmpty_nil,P?,List.map_nil,F?] at h1;exact h1
theorem zI{k:Nat}(hb:b.length<=1099511627776):RS (List.take (Int.toNat (k:Int)-Int.toNat (i:Int)) (List.drop (Int.toNat (i:Int)) (decode b))):=by
 have:=sK b;refine⟨x!,λc hc=>oT b c (List.mem_of_mem_drop (List.mem_of_mem_take hc))⟩
theorem aje(s:B8):(bif decide (((aS s).length:Int)=1) then decide (List.getD (aS s) (Int.toNat 0) []=s) else false)=isTerm s:=by
 unfold isTerm;match h:aS s with
 |[]=>simp
 |[x]=>grind
 |x::y::l=>grind
theorem B9 {l:O}:∀k,0<l.length->k<=l.length->dQ l k<l.length
 |0,h,_=>h
 |k+1,h,hk=>by
  simp[dQ];split;omega;exact B9 k h w!
theorem YL(l:O):dQ l 1=0:=by
 have :∀b:Bool,(if b=true then 0 else 0)=(0:Nat):=by grind
 exact this _
variable {l:List B8}
theorem ħ{k:Nat}(h:uw l k)(hk:¬(k:Int)<l.length):dQ l k=dR l:=by
 obtain⟨h1,h2⟩:=h;rcases h2 with h2|h2;rw[show k=l.length by omega];rfl;subst h2;by_cases h0:l.length=0;unfold dR;rw[h0,YL];rfl;rw[show 1=l.length by omega];rfl
theorem anc(h:letter c=true\/digit c=true):gG c=true:=by grind[gG]
theorem YM(h:letter c=false/\digit c=false):gG c=false:=by grind[gG]
theorem ajf(c:Int):(bif letter c then true else bif decide (48<=c) then decide (c<=57) else false)=gG c:=by
 grind[gG,digit,letter]
theorem YN(l:O)(x:Nat):(bif Op.bytesLess (List.getD l (Int.toNat (x:Int)) []) (List.getD l (Int.toNat ((dQ l x:Nat):Int)) []) then(x:Int) else((dQ l x:Nat):Int))=((dQ l (x+1):Nat):Int):=by
 rw[show dQ l (x+1)=if Op.bytesLess (l.getD x []) (l.getD (dQ l x) [])=true then x else dQ l x from rfl];grind
def xv:Nat->O->O
 |0,_=>[]
 |f+1,l=>if l.isEmpty then [] else l.getD (dR l) []::xv f (l.filter (λx=>!decide (x=l.getD (dR l) [])))
def sorted(l:O):O:=xv l.length l
def sM(l0 l out:O):Prop:=out++sorted l=sorted l0/\out.length+l.length<=l0.length
def j9(l:O)(s:B8)(k:Nat)(r:O):Prop:=r=(l.take k).filter (λx=>!decide (x=s))/\k<=l.length
def yx(l:O)(t:B8)(k:Nat):U:=((List.range k).filter (λi=>decide (l.getD i []=t))).map (λ(i:Nat)=>(i:Int))
def places(b t:B8):U:=yx (aS b) t (aS b).length
def lv(l:O)(t:B8)(k:Nat)(r:U):Prop:=r=yx l t k/\k<=l.length/\r.length<=k
def Ĩ(c:Int):Bool:=gG c&&decide (aZ c=c)
def ĩ(s:B8):Bool:=(decode s).all Ĩ&&(decide (0<((decode s).length:Int))&&decide ((s.length:Int)<=64))
theorem Ca(h:0<l.length):dR l<l.length:=B9 _ h (P! _)
theorem vo(h:0<l.length):(l.filter (λx=>!decide (x=l.getD (dR l) []))).length<l.length:=by
 have hm:=bu l (dR l) [] (Ca h);simp_all
theorem EK:∀(f g:Nat) (l:O),l.length<=f->l.length<=g->xv f l=xv g l
 |0,0,_,_,_=>rfl
 |0,g+1,l,h,_=>by
  have :l=[]:=U! w!;subst this;rfl
 |f+1,0,l,_,h=>by
  have :l=[]:=U! w!;subst this;rfl
 |f+1,g+1,l,h1,h2=>by
  simp only[xv];cases hl:l.isEmpty with
  |true=>rfl
  |false=>
   have hp:0<l.length:=by grind
   have:=vo hp;rw[W! z!,W! z!,EK f g _ w! w!]
theorem HU(h:0<l.length):sorted l=l.getD (dR l) []::sorted (l.filter (λx=>!decide (x=l.getD (dR l) []))):=by
 have hr:=vo h;unfold sorted;obtain⟨n,hn⟩:∃n,l.length=n+1:=⟨l.length-1,w!⟩;rw[hn];simp only[xv];have :l.isEmpty=false:=by grind
 rw[this,W! z!,EK n _ _ w! (P! _)]
theorem asZ(l:O):sM l l []:=⟨rfl,z!⟩
theorem ajg {out:O}(h:sM l m out)(hm:¬(0:Int)<m.length):out=sorted l:=by
 have :m=[]:=List.eq_nil_of_length_eq_zero w!;have h1:=h.1;grind[sorted,xv]
theorem as1(l:O)(s:B8):j9 l s 0 []:=⟨z!,R! _⟩
theorem Ī {l:O}{k:Nat}(h:j9 l s k r)(hk:(k:Int)<l.length)(hs:(!decide (l.getD (Int.toNat (k:Int)) []=s))=true):j9 l s (k+1) (r++[l.getD (Int.toNat (k:Int)) []]):=by
 rw[Z!] at *;refine⟨?_,w!⟩;rw[aw l k [] w!,List.filter_append,<-h.1,List.filter_cons,hs];simp
theorem ī {l:O}{k:Nat}(h:j9 l s k r)(hk:(k:Int)<l.length)(hs:(!decide (l.getD (Int.toNat (k:Int)) []=s))=false):j9 l s (k+1) r:=by
 rw[Z!] at *;refine⟨?_,w!⟩;rw[aw l k [] w!,List.filter_append,<-h.1,List.filter_cons,hs];simp
theorem ajh{k:Nat}(h:j9 l s k r):r.length<=k:=by
 rw[h.1];grind
theorem O0 {m out r:O}{k:Nat}(h:sM l m out)(hm:(0:Int)<m.length)(hr:j9 m (m.getD (Int.toNat ((dR m:Nat):Int)) []) k r)(hk:¬(k:Int)<m.length):sM l r (out++[m.getD (Int.toNat ((dR m:Nat):Int)) []])/\r.length<m.length:=by
 rw[Z!] at *;obtain⟨h1,h2⟩:=h;have :k=m.length:=by have:=hr.2;omega
 have e:r=m.filter (λx=>!decide (x=m.getD (dR m) [])):=by rw[hr.1,this,List.take_length]
 have hl:=vo (l:=m) w!;rw[HU w!] at h1;rw[e];refine⟨⟨?_,?_⟩,hl⟩;rw[V!];exact h1;rw[H!];simp only[N?,List.length_nil];omega
variable {r:List Int}
theorem lZ{k:Nat}(h:lv l t k r)(hk:(k:Int)<l.length)(hs:l.getD (Int.toNat (k:Int)) []=t):lv l t (k+1) (r++[(k:Int)]):=by
 rw[Int.toNat_natCast] at *;refine⟨?_,w!,by have:=h.2.2;grind⟩;rw[h.1];simp only[yx,List.range_succ,List.filter_append,List.map_append,List.filter_cons,hs,decide_true,if_true,List.filter_nil,List.map_cons,List.map_nil]
theorem l4{k:Nat}(h:lv l t k r)(hk:(k:Int)<l.length)(hs:¬l.getD (Int.toNat (k:Int)) []=t):lv l t (k+1) r:=by
 refine⟨?_,w!,by have:=h.2.2;omega⟩;rw[h.1];grind[yx,List.range_succ,decide_eq_false]
theorem rI(l:O)(t:B8):lv l t 0 []:=⟨rfl,R! _,P! _⟩
theorem nq {b t:B8}{k:Nat}{r:U}(h:lv (aS b) t k r)(hk:¬(k:Int)<(aS b).length):r=places b t:=by
 rw[h.1,show k=(aS b).length by have:=h.2.1;omega];rfl
theorem zJ(b:B8):(aS b).length<=b.length:=by
 have h0:∀(l acc:U),(mW acc l).length<=l.length+acc.length:=by
  intro l;induction l with
  |nil=>intro acc;simp[mW];cases acc<;>simp
  |cons c l ih=>
   grind[mW]
 grind[decode,sK,aS,List.length_map]
theorem HV {l':O}{s':B8}{k:Nat}{r:O}(h:j9 l' s' k r/\m=l'/\s=s'):j9 m s k r:=by grind
theorem S4(b:B8):∀k,(im b k).1≠65533->enc (im b k).1=b.take (im b k).2.toNat
 |0,h=>absurd rfl h
 |k+1,h=>by
  simp[im] at h |-;by_cases ht:sL b (k+1)=true;simp_all[Q!,yu]
  simp_all[W!,S4]
theorem YO(hb:0<b.length)(h:(bf b).1≠65533):enc (bf b).1=b.take (bf b).2.toNat:=by
 rw[<-B6 b hb] at h |-;grind[S4]
theorem Vq:∀(n:Nat) (b:B8),b.length<=n->(∀c∈decode b,c≠65533)->(decode b).flatMap enc=b:=by
 intro n;induction n with
 |zero=>intro b h _;have :b=[]:=U! w!
        subst this;rfl
 |succ n ih=>
  intro b h hc;by_cases h0:b.length=0;grind;have hb:=rE b w!;rw[zE b w!] at hc |-;rw[List.flatMap_cons,YO w! (hc _ z!),ih _ x! (λc h'=>hc c x!)];simp_all
theorem sk(h0:0<=c)(h1:c<256):((u8 c).toNat:Int)=c:=((Jz h0 h1).1 rfl).symm
theorem Cb(hr:cu c=true)(r:B8):cc (enc c++r) ((enc c).length:Nat)=c/\1<=(enc c).length/\(enc c).length<=4:=by
 have hb:=eH hr;unfold enc;split;grind[am5,u8,dC,sk];split;refine⟨?_,z!,z!⟩;show cc (u8 (192+c/64)::more c::r) 2=c;have h1:=sk (c:=192+c/64) w! w!;have h2:((more c).toNat:Int)=128+c%64:=sk (c:=128+c%64) w! w!
 have e:cc (u8 (192+c/64)::more c::r) 2=(((u8 (192+c/64)).toNat:Int)-192)*64+(more c).toNat-128:=by
  rfl
 omega;split;refine⟨?_,z!,z!⟩;show cc (u8 (224+c/4096)::more (c/64)::more c::r) 3=c;have h1:=sk (c:=224+c/4096) w! w!;have h2:((more (c/64)).toNat:Int)=128+c/64%64:=sk (c:=128+c/64%64) w! w!;have h3:((more c).toNat:Int)=128+c%64:=sk (c:=128+c%64) w! w!
 have e:cc (u8 (224+c/4096)::more (c/64)::more c::r) 3=((((u8 (224+c/4096)).toNat:Int)-224)*64+(more (c/64)).toNat-128)*64+(more c).toNat-128:=by
  rfl
 omega;refine⟨?_,z!,z!⟩;show cc (u8 (240+c/262144)::more (c/4096)::more (c/64)::more c::r) 4=c;have h1:=sk (c:=240+c/262144) w! w!;have h2:((more (c/4096)).toNat:Int)=128+c/4096%64:=sk (c:=128+c/4096%64) w! w!;have h3:((more (c/64)).toNat:Int)=128+c/64%64:=sk (c:=128+c/64%64) w! w!;have h4:((more c).toNat:Int)=128+c%64:=sk (c:=128+c%64) w! w!
 have e:cc (u8 (240+c/262144)::more (c/4096)::more (c/64)::more c::r) 4=(((((u8 (240+c/262144)).toNat:Int)-240)*64+(more (c/4096)).toNat-128)*64+(more (c/64)).toNat-128)*64+(more c).toNat-128:=by
  rfl
 omega
theorem Ĭ(hr:cu c=true)(r:B8):bf (enc c++r)=(c,((enc c).length:Int)):=by
 obtain⟨hb,h1,h4⟩:=Cb hr r;have hl:0<(enc c++r).length:=by grind
 have ht:sL (enc c++r) (enc c).length=true:=by
  grind[yu,List.take_left']
 have hg:=(vn _ _ hl h1 h4).1.1 ht;rw[<-B6 _ hl,FM hl hg h1 4 (P! _) h4,hb]
theorem Cc:∀(P:U),(∀c∈P,cu c=true)->decode (P.flatMap enc)=P
 |[],_=>rfl
 |c::P,h=>by
  have hr:=h c z!;have h1:=(Cb hr []).2.1;rw[List.flatMap_cons,zE _ x!,Ĭ hr];rw[Int.toNat_natCast,List.drop_left' rfl,Cc P (λx hx=>h x (by simp[hx]))]
theorem O1:∀(w:U) (t:B8),t.length+(w.flatMap λc=>il (aZ c)).length<=64->lY t w=t++w.flatMap λc=>il (aZ c)
 |[],t,_=>by simp[lY]
 |c::w,t,h=>by
  rw[List.flatMap_cons,List.length_append] at h;simp only[lY];rw[if_neg w!,O1 w _ x!,List.flatMap_cons,List.append_assoc]
theorem Cd:∀(w:U) (t:B8),∃p:U,(∀c∈p,c∈w)/\lY t w=t++p.flatMap λc=>il (aZ c)
 |[],t=>⟨[],z!,by simp[lY]⟩
 |c::w,t=>by
  simp[lY];split;exact⟨[],z!,z!⟩;obtain⟨p,h1,h2⟩:=Cd w (t++il (aZ c));refine⟨c::p,?_,x!⟩;grind
theorem DE:∀(w:U) (t:B8),t.length<=64->(lY t w).length<=64
 |[],t,h=>h
 |c::w,t,h=>by
  simp[lY];split;exact h;exact DE w _ (by rw[H!];omega)
theorem HW:∀(l acc:U),(∀c∈acc,gG c=true)->∀W∈mW acc l,∀c∈W,gG c=true/\(c∈acc\/c∈l)
 |[],acc,ha,W,hW,c,hc=>by
   grind[mW,List.mem_singleton]
 |x::l,acc,ha,W,hW,c,hc=>by
  simp[mW] at hW;by_cases hx:gG x=true;rw[Q! hx] at hW
  have:=HW l (acc++[x]) (λy hy=>by
   grind) W hW c hc
  grind
  have hn:∀W'∈mW [] l,∀c∈W',gG c=true/\(c∈acc\/c∈x::l):=λW' h' y hy=>by
   have:=HW l [] z! W' h' y hy;grind
  grind
theorem as2 {b:Int}(h:c<a\/b<c):dc c a b=false:=by
 grind[dc,Bool.and_eq_false_iff,decide_eq_false_iff_not]
theorem O2 {b:Int}:dc c a b=true↔a<=c/\c<=b:=by simp[dc]
theorem HX(c:Int):aZ (aZ c)=aZ c:=by
 have stay:∀x:Int,(97<=x/\x<192)\/(223<=x/\x<913)\/(938<=x/\x<1024)\/1072<=x->aZ x=x:=λx h=>by
  grind[B7,as2]
 cases h:dc c 1024 1039 with
 |true=>grind[DC]
 |false=>
  by_cases h2:dc c 65 90=true\/dc c 192 214=true\/dc c 216 222=true\/dc c 913 929=true\/dc c 931 937=true\/dc c 1040 1071=true;grind[DD,O2];grind[B7]
theorem Ce(c:Int):letter c=true↔(65<=c/\c<=90)\/(97<=c/\c<=122)\/(192<=c/\c<=214)\/(216<=c/\c<=246)\/(248<=c/\c<=255)\/(913<=c/\c<=929)\/(931<=c/\c<=937)\/(945<=c/\c<=969)\/(1024<=c/\c<=1119):=by
 simp_all[OX,e?,O2]
theorem JA(c:Int):gG c=true↔letter c=true\/(48<=c/\c<=57):=by simp[gG,digit]
theorem Lt(h:gG c=true):gG (aZ c)=true:=by
 cases h1:dc c 1024 1039 with
 |true=>grind[DC,JA,Ce]
 |false=>
  by_cases h2:dc c 65 90=true\/dc c 192 214=true\/dc c 216 222=true\/dc c 913 929=true\/dc c 931 937=true\/dc c 1040 1071=true;grind[DD,O2,JA,Ce];grind[B7]
theorem Cf{l:M α}{f g:α->M β}(h:∀x∈l,f x=g x):l.flatMap f=l.flatMap g:=by
 induction l with
 |nil=>rfl
 |cons a l ih=>grind
theorem HY(h:cu c=true):il c=enc c:=by simp_all[il,P?]
theorem aji(s:B8):ĩ s=isTerm s:=by
 rw[Bool.eq_iff_iff];simp only[ĩ,isTerm,B!,J!,B?,Ĩ];constructor;rintro⟨hg,h0,hl⟩
 have hf:=Vq s.length s (P! _) (λc hc e=>by
  grind[JA,Ce])
 have hw:mW [] (decode s)=[decode s]:=by
  have:=OZ (decode s) [] [] (λc hc=>(hg c hc).1);grind[mW]
 have he:(decode s).flatMap (λc=>il (aZ c))=s:=by
  grind[Cf,HY,oT]
 grind[aS,eS,O1];intro h
 have hlen:s.length<=64:=by
  have hm:s∈aS s:=by grind
  simp only[aS,g?] at hm;obtain⟨w,_,hw⟩:=hm;rw[<-hw];exact DE w [] z!
 have hm:s∈aS s:=by grind
 simp only[aS,g?] at hm;obtain⟨W,hW,hs⟩:=hm;have aq:=HW (decode s) [] z! W hW;obtain⟨p,hp,hpf⟩:=Cd W []
 have hr:∀c∈p,cu (aZ c)=true:=λc hc=>zF (oT s c (by
  grind))
 have Uh:s=(p.map aZ).flatMap enc:=by
  rw[<-hs];show lY [] W=_
  grind[List.flatMap_map,Cf,HY]
 have hd:decode s=p.map aZ:=by
  grind[Cc]
 grind[Lt,HX,decode,mW,List.length_pos_iff]
theorem eI:∀a:B8,Op.bytesLess a a=false
 |[]=>rfl
 |a::x=>by simp[Op.bytesLess,eI x]
theorem mz:∀a b c:B8,Op.bytesLess a b=true->Op.bytesLess b c=true->Op.bytesLess a c=true
 |_,[],_,h,_|_,_::_,[],_,h=>by grind[Op.bytesLess]
 |[],_::_,_::_,_,_=>rfl
 |a::x,b::y,c::z,h1,h2=>by
  simp[Op.bytesLess,e?,J!,B!,beq_iff_eq] at h1 h2 |-;rcases h1 with h1|⟨rfl,h1⟩;rcases h2 with h2|⟨rfl,h2⟩;rw[UInt8.lt_iff_toNat_lt] at *;omega;left;exact h1
  rcases h2 with h2|⟨rfl,h2⟩;left;exact h2
  right;exact⟨rfl,mz x y z h1 h2⟩
theorem pa:∀a b:B8,Op.bytesLess a b=true\/a=b\/Op.bytesLess b a=true
 |[],[]=>.inr (.inl rfl)
 |[],_::_=>.inl rfl
 |_::_,[]=>.inr (.inr rfl)
 |a::x,b::y=>by
  simp[Op.bytesLess,e?,J!,B!,beq_iff_eq,List.cons.injEq];by_cases h:a=b;subst h;rcases pa x y with h|h|h;exact .inl (.inr ⟨rfl,h⟩);exact .inr (.inl ⟨rfl,h⟩);exact .inr (.inr (.inr ⟨rfl,h⟩));have :a.toNat≠b.toNat:=λe=>h (UInt8.toNat_inj.1 e);by_cases h2:a.toNat<b.toNat;exact .inl (.inl (UInt8.lt_iff_toNat_lt.2 h2));exact .inr (.inr (.inl (UInt8.lt_iff_toNat_lt.2 w!)))
theorem DF {a:B8}(h:Op.bytesLess a b=true):Op.bytesLess b a=false:=by
 grind[mz,eI]
def vq(l:O):Prop:=l.Pairwise λa b=>Op.bytesLess a b=true
theorem zK:∀(l m:O),vq l->vq m->(∀x,x∈l↔x∈m)->l=m
 |[],[],_,_,_=>rfl
 |[],b::m,_,_,h=>by have:=(h b).2 z!;grind
 |a::l,[],_,_,h=>by have:=(h a).1 z!;grind
 |a::l,b::m,hl,hm,h=>by
  obtain⟨hl1,hl2⟩:=h?.1 hl;obtain⟨hm1,hm2⟩:=h?.1 hm
  have k9:a=b:=by
   rcases O!.1 ((h a).1 z!) with e|e;exact e;rcases O!.1 ((h b).2 z!) with e2|e2;exact e2.symm;have q1:=hm1 a e;have q2:=DF (hl1 b e2);rw[q1] at q2;cases q2
  subst k9
  have:=zK l m hl2 hm2 (λx=>by
   constructor;intro hx;rcases O!.1 ((h x).1 (by simp[hx])) with e|e;have:=hl1 x hx;rw[e,eI] at this;cases this;exact e;intro hx;rcases O!.1 ((h x).2 (by simp[hx])) with e|e;have:=hm1 x hx;rw[e,eI] at this;cases this;exact e)
  rw[this]
theorem O3(l:O):∀k,k<=l.length->∀i,i<k->Op.bytesLess (l.getD i []) (l.getD (dQ l k) [])=false
 |0,_,i,hi=>by omega
 |k+1,hk,i,hi=>by
  have ih:=O3 l k w!;rw[show dQ l (k+1)=if Op.bytesLess (l.getD k []) (l.getD (dQ l k) [])=true then k else dQ l k from rfl];by_cases h:Op.bytesLess (l.getD k []) (l.getD (dQ l k) [])=true;grind[eI,mz];grind
theorem O4:∀(n:Nat) (l:O),l.length<=n->vq (sorted l)/\∀x,x∈sorted l↔x∈l:=by
 intro n;induction n with
 |zero=>
  intro l h;have :l=[]:=U! w!;subst this;exact⟨List.Pairwise.nil,λx=>Iff.rfl⟩
 |succ n ih=>
  intro l h;by_cases h0:l.length=0;grind;have hp:0<l.length:=by omega
  have hr:=vo hp;obtain⟨i1,i2⟩:=ih (l.filter (λx=>!decide (x=l.getD (dR l) []))) w!;have hm:l.getD (dR l) []∈l:=bu l _ [] (Ca hp);rw[HU hp];refine⟨List.pairwise_cons.2 ⟨λx hx=>?_,i1⟩,λx=>?_⟩;have D1:=(i2 x).1 hx;simp at D1;obtain⟨i,hi,e⟩:=List.mem_iff_getElem.1 D1.1;have q:=O3 l l.length (Nat.le_refl _) i hi;grind[pa,dR,absurd,Op.bytesLess];grind
theorem l6(l:O):vq (sorted l):=(O4 _ l (P! _)).1
theorem jg(l:O)(x:B8):x∈sorted l↔x∈l:=(O4 _ l (P! _)).2 x
theorem ĭ(h1:vq m)(h2:∀x,x∈m↔x∈l):m=sorted l:=
 zK _ _ h1 (l6 l) (λx=>(h2 x).trans (jg l x).symm)
def bT:O->O
 |[]=>[]
 |a::l=>match bT l with
  |[]=>[a]
  |b::r=>if a=b then b::r else a::b::r
theorem ua:∀(l:O) (x:B8),x∈bT l↔x∈l
 |[],_=>Iff.rfl
 |a::l,x=>by
  have ih:=ua l x;simp only[bT];split;rename_i h;rw[h] at ih;rw[t?,O!];constructor;exact .inl;rintro(h|h);exact h;have:=ih.2 h;cases this;rename_i b r h;rw[h] at ih;split;rename_i e;subst e;rw[ih,O!];constructor;exact .inr;rintro(h2|h2);rw[<-ih,h2];simp;exact h2;rw[O!,ih,O!]
theorem EL:∀(l:O),(l.Pairwise λa b=>Op.bytesLess b a=false)->vq (bT l)
 |[],_=>List.Pairwise.nil
 |a::l,h=>by
  obtain⟨h1,h2⟩:=h?.1 h;have ih:=EL l h2;simp[bT];split;exact List.pairwise_singleton _ _;rename_i b r hb;rw[hb] at ih;split;omega;refine h?.2 ⟨λx hx=>?_,ih⟩;have zp:b∈l:=by rw[<-ua l,hb];simp
  have k9:Op.bytesLess a b=true:=by
   grind[pa]
  rcases List.mem_cons.1 hx with e|e;grind;exact mz _ _ _ k9 ((List.pairwise_cons.1 ih).1 x e)
theorem Mr(h1:m.Pairwise λa b=>Op.bytesLess b a=false)(h2:∀x,x∈m↔x∈l):bT m=sorted l:=
 ĭ (EL m h1) (λx=>(ua m x).trans (h2 x))
def lL(a b:B8):Int:=if Op.bytesLess a b then -1 else if Op.bytesLess b a then 1 else 0
theorem as4(a b:B8):decide (lL a b=0)=decide (a=b):=by
 unfold lL;rcases pa a b with h|h|h;grind[eI];grind[eI];grind[eI]
def oc(l:O)(k:Nat):Prop:=1<=k/\k<=l.length/\∀j,j+1<k->¬l.getD (j+1) []=l.getD j []
def jB(l:O)(x i k:Nat)(m:O):Prop:=1<=k/\x+k<=l.length/\1<=i/\i+1<=x+k/\m.length=l.length/\m.drop i=l.drop i/\m.take i=bT (l.take (x+k))
theorem YP(h:l≠ []):∃b r,bT l=b::r:=by
 cases hc:bT l with
 |nil=>
  cases l with
  |nil=>grind
  |cons a l=>have:=(ua (a::l) a).2 z!;grind
 |cons b r=>grind
theorem EM(a b:B8):∀p:O,bT (p++[a,b])=if a=b then bT (p++[a]) else bT (p++[a])++[b]
 |[]=>by
   grind[bT]
 |c::p=>by
  have ih:=EM a b p;obtain⟨h,r,e⟩:=YP (l:=p++[a]) z!;grind[bT]
theorem sm{n:Nat}(h:n+1<l.length):bT (l.take (n+2))=if l.getD n []=l.getD (n+1) [] then bT (l.take (n+1)) else bT (l.take (n+1))++[l.getD (n+1) []]:=by
 grind[aw,List.append_assoc,List.singleton_append,EM]
theorem JB {l:O}:∀k,k<=l.length->(∀j,j+1<k->¬l.getD (j+1) []=l.getD j [])->bT (l.take k)=l.take k
 |0,_,_=>by rfl
 |1,h,_=>by
  cases l with
  |nil=>rfl
  |cons a l=>rfl
 |k+2,hk,h=>by
  rw[sm w!,W! (λe=>h k w! e.symm),JB (k+1) w! (λj hj=>h j w!),<-aw l (k+1) [] w!]
theorem O5 {l:O}(h:(l.length:Int)<2):l=bT l:=by
 match l,h with
 |[],_=>rfl
 |[a],_=>rfl
 |a::b::l,h=>grind
theorem anf {l:O}(h:¬(l.length:Int)<2):oc l 1:=⟨P! _,w!,λj hj=>by omega⟩
theorem S5 {l:O}{k:Nat}(h:oc l k)(hk:(k:Int)<l.length)(hn:¬l.getD k []=l.getD (Int.toNat ((k:Int)-1)) []):oc l (k+1):=by
 obtain⟨h1,h2,h3⟩:=h;rw[show Int.toNat ((k:Int)-1)=k-1 by omega] at hn;refine⟨w!,w!,λj hj=>?_⟩;grind
theorem YQ{k:Nat}(h:oc l k)(hk:¬(k:Int)<l.length):l=bT l:=by
 obtain⟨h1,h2,h3⟩:=h;have e:=JB k h2 h3;grind
theorem adB {l:O}{x:Nat}(h:oc l x)(hx:(x:Int)<l.length)(he:l.getD x []=l.getD (Int.toNat ((x:Int)-1)) []):jB l x x 1 l:=by
 obtain⟨h1,h2,h3⟩:=h;rw[show Int.toNat ((x:Int)-1)=x-1 by omega] at he;refine⟨P! _,w!,h1,P! _,rfl,rfl,?_⟩;obtain⟨y,rfl⟩:∃y,x=y+1:=⟨x-1,w!⟩;rw[Nat.add_sub_cancel] at he;rw[show y+1+1=y+2 by omega,sm w!,Q! he.symm,JB (y+1) w! h3]
theorem S6{k:Nat}(h:jB l x i k m)(hk:x+k<l.length):m.getD (x+k) []=l.getD (x+k) []/\m.getD (x+k-1) []=l.getD (x+k-1) []:=by
 obtain⟨h1,h2,h3,h4,h5,h6,h7⟩:=h
 have key:∀j,i<=j->m.getD j []=l.getD j []:=λj hj=>by
  have:=congrArg (λq=>q.getD (j-i) []) h6;grind
 grind
theorem O6{k:Nat}(h:jB l x i k m)(hk:x+k<l.length)(he:m.getD (x+k) []=m.getD (x+k-1) []):jB l x i (k+1) m:=by
 have hg:=S6 h hk;obtain⟨h1,h2,h3,h4,h5,h6,h7⟩:=h;refine⟨w!,w!,h3,w!,h5,h6,?_⟩;rw[h7];obtain⟨n,hn⟩:∃n,x+k=n+1:=⟨x+k-1,w!⟩;rw[show x+(k+1)=n+2 by omega,hn,sm w!,if_pos];grind
theorem S7{k:Nat}(h:jB l x i k m)(hk:x+k<l.length)(he:¬m.getD (x+k) []=m.getD (x+k-1) []):jB l x (i+1) (k+1) (m.set i (m.getD (x+k) [])):=by
 have hg:=S6 h hk;obtain⟨h1,h2,h3,h4,h5,h6,h7⟩:=h;rw[hg.1];refine⟨w!,w!,w!,w!,x!,?_,?_⟩;rw[List.drop_set,if_pos w!];have:=congrArg (List.drop 1) h6;grind[List.drop_drop];have hi:i<(m.set i (l.getD (x+k) [])).length:=by grind
 rw[aw _ _ [] hi,List.take_set,List.set_eq_of_length_le x!,h7];rw[List.getD_eq_getElem?_getD,List.getElem?_set_self w!,Option.getD_some];obtain⟨n,hn⟩:∃n,x+k=n+1:=⟨x+k-1,w!⟩;rw[show x+(k+1)=n+2 by omega,hn,sm w!,if_neg];grind
theorem S8{k:Nat}(h:jB l x i k m)(hk:¬x+k<l.length):m.take i=bT l:=by
 obtain⟨h1,h2,h3,h4,h5,h6,h7⟩:=h;grind
def up(l:O):Prop:=l.Pairwise λa b=>Op.bytesLess b a=false
def fh(l:O):O:=l.mergeSort λa b=>!Op.bytesLess b a
theorem ajj(l:O):up (fh l):=by
 have:=List.pairwise_mergeSort (le:=λa b=>!Op.bytesLess b a) (λa b c h1 h2=>by
  grind[Bool.not_eq_true',pa,mz]) (λa b=>by
  grind[pa,DF,eI]) l
 exact this.imp (λh=>by grind)
theorem Cg(l:O):(fh l).Perm l:=List.mergeSort_perm l _
theorem Į(l:O):(fh l).length=l.length:=(Cg l).length_eq
theorem O7(l:O):bT (fh l)=sorted l:=Mr (ajj l) (λ_=>(Cg l).mem_iff)
def sp(n:Nat):Nat:=2^Nat.log2 (n-1)
def split(n:Int):Int:=if n<2\/1099511627776<n then 0 else((sp n.toNat:Nat):Int)
def jr(n k:Int)(t:Nat):Prop:=k=((2^t:Nat):Int)/\k<n
def xw:Nat->O->B8
 |0,_=>sum []
 |f+1,l=>if l.length=0 then sum [] else if l.length=1 then l.getD 0 [] else bo (xw f (l.take (sp l.length))) (xw f (l.drop (sp l.length)))
def root(l:O):B8:=xw l.length l
def cJ(l:O):Bool:=l.all λd=>decide ((d.length:Int)=32)
def sN(l:O)(k:Nat):Prop:=(∀d∈l.take k,(d.length:Int)=32)/\k<=l.length
def eJ(l:O):Prop:=cJ l=true/\l.length<=1099511627776
def jS(l:O):B8:=if cJ l then root l else []
def xx(l:O):Int:=if cJ l then 0 else 1
def leaves(l:O):O:=l.map leaf
def eT(l:O)(k:Nat):O:=(l.take k).map leaf
def cX(l:O):Prop:=l.length<=1099511627776/\∀b∈l,b.length<1099511627776
def comb(s:O):O:=s.take (s.length-2)++[bo (s.getD (s.length-2) []) (s.getD (s.length-1) [])]
def yy(s:O):Prop:=2<=s.length/\s.length<=1099511627776
def ub(l:O)(t a:Nat):B8:=root ((l.drop (2^t*a)).take (2^t))
def tc(l:O)(t j:Nat):O:=
 if j=0 then [] else if j%2=1 then tc l (t+1) (j/2)++[ub l t (j-1)] else tc l (t+1) (j/2)
termination_by j
def qA(l:O)(i:Nat)(s:O):Prop:=s=tc l 0 i/\i<=l.length
def pb(l:O)(i t j:Nat)(s:O):Prop:=
 s=tc l t j++[ub l t j]/\tc l 0 (i+1)=tc l t (j+1)/\2^t*(j+1)=i+1/\i<l.length
def qB(l s:O):Prop:=∃t j,s=tc l t j++[root (l.drop (2^t*j))]/\2^t*j<l.length/\l.length-2^t*j<=2^t
variable {t a:Nat}{s:List B8}{b:List Int}
theorem ang {m:Nat}(h1:2^t<=m)(h2:m<2^(t+1)):Nat.log2 m=t:=by
 grind[Nat.two_pow_pos,Nat.log2_eq_iff]
theorem į {n:Nat}(h1:2^t<n)(h2:n<=2^(t+1)):sp n=2^t:=by
 grind[sp,ang]
theorem iS {n:Nat}(h:2<=n):1<=sp n/\sp n<n:=by
 grind[sp,Nat.log2_self_le,Nat.two_pow_pos,Nat.log2]
theorem sn:∀(f g:Nat) (l:O),l.length<=f->l.length<=g->xw f l=xw g l
 |0,0,_,_,_=>rfl
 |0,g+1,l,h,_=>by
  simp_all[xw,Q!]
 |f+1,0,l,_,h=>by
  simp_all[xw,Q!]
 |f+1,g+1,l,h1,h2=>by
  simp only[xw];by_cases h0:l.length=0;grind;by_cases h3:l.length=1;grind;have:=iS (n:=l.length) w!;rw[if_neg h0,if_neg h0,if_neg h3,if_neg h3,sn f g _ x! x!,sn f g _ x! x!]
theorem S9(h:l.length=0):root l=sum []:=by
 unfold root;rw[h];rfl
theorem DG(h:l.length=1):root l=l.getD 0 []:=by
 simp_all[root,xw,W!,Q!]
theorem yz{k:Nat}(h:2<=l.length)(hk:sp l.length=k):root l=bo (root (l.take k)) (root (l.drop k)):=by
 have hb:=iS h;unfold root;obtain⟨n,hn⟩:∃n,l.length=n+1:=⟨l.length-1,w!⟩;have e1:=sn n (l.take (sp l.length)).length (l.take (sp l.length)) x! (Nat.le_refl _);have e2:=sn n (l.drop (sp l.length)).length (l.drop (sp l.length)) x! (Nat.le_refl _);grind[xw]
theorem cK(l:O):cJ l=true↔∀d∈l,d.length=32:=by
 simp[cJ,List.all_eq_true,decide_eq_true_eq];grind
theorem ajk:∀(n:Nat) (l:O),l.length<=n->cJ l=true->(root l).length=32:=by
 intro n;induction n with
 |zero=>grind[S9,OO]
 |succ n ih=>
  intro l h hd;by_cases h0:l.length=0;grind;by_cases h1:l.length=1;grind[DG,cK,bu];have hb:=iS (n:=l.length) w!;rw[yz w! rfl];have e1:=ih (l.take (sp l.length)) x! ((cK _).2 λd qR=>(cK l).1 hd d (List.mem_of_mem_take qR));have e2:=ih (l.drop (sp l.length)) x! ((cK _).2 λd qR=>(cK l).1 hd d (List.mem_of_mem_drop qR));simp[bo,Lr,e1,e2,decide_true,Bool.and_self,if_true];rfl
theorem uc(h:cJ l=true):(root l).length=32:=ajk _ l (P! _) h
theorem aEc(h:a<l.length):ub l 0 a=l.getD a []:=by
 grind[ub,DG]
theorem two_pos(t:Nat):0<2^t:=Nat.two_pow_pos t
theorem ajl(h:2^(t+1)*(a+1)<=l.length):bo (ub l t (2*a)) (ub l t (2*a+1))=ub l (t+1) a:=by
 have hp:=two_pos t;have e0:2^(t+1)*a=2^t*(2*a):=by rw[w?,Nat.mul_assoc]
 have e1:2^t*(2*a+1)=2^t*(2*a)+2^t:=by rw[Nat.mul_add,u?]
 have e2:2^(t+1)*(a+1)=2^t*(2*a)+(2^t+2^t):=by rw[Nat.mul_add,e0,u?,w?];omega
 have hl:((l.drop (2^(t+1)*a)).take (2^(t+1))).length=2^t+2^t:=by rw[Y!,I?];omega
 have Fm:sp ((l.drop (2^(t+1)*a)).take (2^(t+1))).length=2^t:=by exact į w! w!
 unfold ub;rw[yz (l:=(l.drop (2^(t+1)*a)).take (2^(t+1))) w! Fm];congr 2
 rw[List.take_take,e0,Nat.min_eq_left w!];rw[List.drop_take,j?,e0,e1];congr 1;omega
theorem Ch(l:O)(h:j%2=1):tc l t j=tc l (t+1) (j/2)++[ub l t (j-1)]:=by
 rw[tc,W! w!,Q! h]
theorem yA(l:O)(h:j%2=0):tc l t j=tc l (t+1) (j/2):=by
 by_cases h0:j=0;subst h0;rw[tc,Q! rfl,tc,Q! rfl];rw[tc,W! h0,W! w!]
theorem O8(l:O)(t:Nat):tc l t 0=[]:=by rw[tc,Q! rfl]
theorem HZ(l:O):∀(n t j:Nat),j<=n->(tc l t j).length<=j/\(0<j->0<(tc l t j).length):=by
 intro n;induction n with
 |zero=>grind[O8]
 |succ n ih=>
  intro t j h;by_cases h0:j=0;subst h0;rw[O8];simp;by_cases h1:j%2=1;rw[Ch l h1,H!];have:=ih (t+1) (j/2) w!;simp;omega
  rw[yA l w!];have:=ih (t+1) (j/2) w!;omega
theorem Ta(s:O)(a b:B8):comb (s++[a]++[b])=s++[bo a b]:=by
 unfold comb;have hl:(s++[a]++[b]).length=s.length+2:=by simp
 rw[hl,show s.length+2-2=s.length by omega,show s.length+2-1=s.length+1 by omega,V!,List.take_left'];simp[E!];rfl
theorem as5(l:O):qA l 0 []:=⟨(O8 l 0).symm,R! _⟩
theorem aEd{i:Nat}(h:qA l i s)(hi:(i:Int)<l.length):pb l i 0 i (s++[l.getD (Int.toNat (i:Int)) []]):=by
 rw[Z!];refine⟨?_,rfl,z!,w!⟩;rw[h.1,aEc w!]
theorem and_1:Vg.aT (j:Int) 1=((j%2:Nat):Int):=by
 have :Vg.aT (j:Int) 1=((j&&&1:Nat):Int):=rfl;grind
theorem JC{j:Nat}(h:pb l i t j s)(hj:Vg.aT (j:Int) 1=1):pb l i (t+1) (j/2) (comb s)/\j/2<j/\2<=s.length:=by
 rw[and_1] at hj;obtain⟨h1,h2,h3,h4⟩:=h;have hs:s=tc l (t+1) (j/2)++[ub l t (j-1)]++[ub l t j]:=by grind[Ch]
 have e3:2^(t+1)*(j/2+1)=2^t*(j+1):=by
  grind
 refine⟨⟨?_,?_,w!,h4⟩,w!,x!⟩;have e:=ajl (l:=l) (t:=t) (a:=j/2) w!;grind[Ta];rw[h2,yA l w!,show(j+1)/2=j/2+1 by omega]
theorem anh{j:Nat}(h:pb l i t j s)(hj:¬Vg.aT (j:Int) 1=1):qA l (i+1) s:=by
 rw[and_1] at hj;obtain⟨h1,h2,h3,h4⟩:=h;refine⟨?_,w!⟩;rw[h2,Ch l w!,show(j+1)/2=j/2 by omega,Nat.add_sub_cancel,<-yA l w!];omega
theorem ani(h:pb l i t j s):s.length<=l.length:=by
 obtain⟨h1,h2,h3,h4⟩:=h;have:=(HZ l j t j (P! _)).1;have hp:=two_pos t;have :j+1<=i+1:=by rw[<-h3];exact Nat.le_mul_of_pos_left _ hp
 grind
theorem as6(l:O):∀(n t m:Nat),m<=n->0<m->2^t*m=l.length->qB l (tc l t m):=by
 intro n;induction n with
 |zero=>omega
 |succ n ih=>
  intro t m h h0 he;by_cases h1:m%2=1;refine⟨t+1,m/2,?_,?_,?_⟩;have e:2^(t+1)*(m/2)=2^t*(m-1):=by rw[w?,Nat.mul_assoc];congr 1;omega
  rw[Ch l h1,e];unfold ub;rw[List.take_of_length_le];rw[List.length_drop,<-he,Nat.mul_sub,Nat.mul_one];grind;have e:2^(t+1)*(m/2)=2^t*(m-1):=by rw[Nat.pow_succ,Nat.mul_assoc];congr 1;omega
  rw[e,<-he];exact Nat.mul_lt_mul_of_pos_left w! (two_pos t);have e:2^(t+1)*(m/2)=2^t*(m-1):=by rw[w?,Nat.mul_assoc];congr 1;omega
  rw[e,<-he,Nat.mul_sub,u?,w?];omega;rw[yA l w!];exact ih (t+1) (m/2) w! w! (by rw[<-he,w?,Nat.mul_assoc];congr 1;omega)
theorem aEe {l:O}{i:Nat}(h:qA l i s)(hi:¬(i:Int)<l.length)(h0:¬(l.length:Int)=0):qB l s:=by
 have :i=l.length:=by have:=h.2;omega
 rw[h.1,this];exact as6 l l.length 0 l.length (P! _) w! z!
theorem anj(l:O):∀(n t j:Nat),j<=n->0<j->2^t*j<l.length->l.length-2^t*j<=2^t->qB l (comb (tc l t j++[root (l.drop (2^t*j))]))/\(comb (tc l t j++[root (l.drop (2^t*j))])).length<(tc l t j++[root (l.drop (2^t*j))]).length:=by
 intro n;induction n with
 |zero=>omega
 |succ n ih=>
  intro t j h h0 h1 h2;by_cases ho:j%2=1;have e:2^(t+1)*(j/2)=2^t*(j-1):=by rw[w?,Nat.mul_assoc];congr 1;omega
  have em:2^t*j=2^t*(j-1)+2^t:=by
   have :j=(j-1)+1:=by omega
   conv=>lhs;rw[this,Nat.mul_add,u?]
  have hl:(l.drop (2^t*(j-1))).length=2^t+(l.length-2^t*j):=by rw[I?];omega
  have Fm:sp (l.drop (2^t*(j-1))).length=2^t:=by exact į w! w!
  have er:bo (ub l t (j-1)) (root (l.drop (2^t*j)))=root (l.drop (2^t*(j-1))):=by
   rw[yz (l:=l.drop (2^t*(j-1))) w! Fm,j?,<-em];rfl
  rw[Ch l ho,Ta,er];refine⟨⟨t+1,j/2,by rw[e],w!,?_⟩,z!⟩;omega;have e:2^(t+1)*(j/2)=2^t*j:=by rw[w?,Nat.mul_assoc];congr 1;omega
  have:=ih (t+1) (j/2) w! w! (by rw[e];exact h1) w!;rw[e] at this;rw[yA l w!];exact this
theorem Tb(h:qB l s)(hs:(1:Int)<s.length):qB l (comb s)/\(comb s).length<s.length:=by
 obtain⟨t,j,h1,h2,h3⟩:=h
 have hj:0<j:=by
  grind[O8]
 rw[h1];exact anj l j t j (P! _) hj h2 h3
theorem ank(h:qB l s)(hs:¬(1:Int)<s.length):s.getD (Int.toNat 0) []=root l/\s.length=1:=by
 obtain⟨t,j,h1,h2,h3⟩:=h;have hl:s.length=(tc l t j).length+1:=by grind
 have hj:j=0:=by
  have:=(HZ l j t j (P! _)).2;omega
 simp_all[O8]
theorem anl(h:qB l s):s.length<=l.length:=by
 obtain⟨t,j,h1,h2,h3⟩:=h;have:=(HZ l j t j (Nat.le_refl _)).1;have hp:=two_pos t;have:=Nat.le_mul_of_pos_left j hp;grind
theorem as7(h:yy s):List.take (Int.toNat ((s.length:Int)-2+1)) (List.set s (Int.toNat ((s.length:Int)-2)) (bo (List.getD s (Int.toNat ((s.length:Int)-2)) []) (List.getD s (Int.toNat ((s.length:Int)-2+1)) [])))=comb s:=by
 have h1:=h.1;rw[show Int.toNat ((s.length:Int)-2+1)=s.length-2+1 by omega,show Int.toNat ((s.length:Int)-2)=s.length-2 by omega,show s.length-2+1=s.length-1 by omega];unfold comb;generalize bo (List.getD s (s.length-2) []) (List.getD s (s.length-1) [])=x;have hl:s.length-2<(s.set (s.length-2) x).length:=by grind
 rw[show s.length-1=s.length-2+1 by omega,aw _ _ [] hl,List.take_set,List.set_eq_of_length_le x!];grind
theorem YR(h:n<2\/1099511627776<n):0=split n:=by simp_all[split,Q!]
theorem Lu(h:¬n<2):jr n 1 0:=⟨rfl,w!⟩
theorem Ci {k:Int}(h:jr n k t)(hk:2*k<n):jr n (2*k) (t+1)/\1<=k:=by
 have hp:=two_pos t;obtain⟨h1,h2⟩:=h;refine⟨⟨?_,hk⟩,w!⟩;omega
theorem zL(h1:2<=n)(h2:n<=1099511627776):split n=((sp n.toNat:Nat):Int):=by simp_all[split,W!]
theorem EN {k:Int}(h:jr n k t)(h1:¬n<2)(h2:¬1099511627776<n)(hk:¬2*k<n):k=split n:=by
 have hp:=two_pos t;obtain⟨e1,e2⟩:=h;grind[zL,į,Nat.pow_succ]
theorem ka {k:Int}(h:jr n k t):1<=k/\k<n:=by
 have hp:=two_pos t;obtain⟨e1,e2⟩:=h;omega
theorem iq(h:eJ l)(h2:2<=l.length):
  (0<=split (l.length:Int)/\split (l.length:Int)<=(l.length:Int))/\(l.take (Int.toNat (split (l.length:Int)))).length<l.length/\eJ (l.take (Int.toNat (split (l.length:Int))))/\
    (l.drop (Int.toNat (split (l.length:Int)))).length<l.length/\eJ (l.drop (Int.toNat (split (l.length:Int))))/\
    ax (root (l.take (Int.toNat (split (l.length:Int))))++root (l.drop (Int.toNat (split (l.length:Int)))))/\
    pv 1 (root (l.take (Int.toNat (split (l.length:Int))))++root (l.drop (Int.toNat (split (l.length:Int)))))=root l:=by
 have hb:=iS h2;have e:split (l.length:Int)=((sp l.length:Nat):Int):=zL w! (by have:=h.2;omega);rw[e,Int.toNat_natCast];have p1:eJ (l.take (sp l.length)):=⟨(cK _).2 λd hd=>(cK l).1 h.1 d (List.mem_of_mem_take hd),by rw[List.length_take];have:=h.2;omega⟩;have p2:eJ (l.drop (sp l.length)):=⟨(cK _).2 λd hd=>(cK l).1 h.1 d (List.mem_of_mem_drop hd),by rw[List.length_drop];have:=h.2;omega⟩;have r1:=uc p1.1;have r2:=uc p2.1;refine⟨w!,x!,p1,x!,p2,?_,?_⟩;grind[ax,List.length_append];rw[yz h2 rfl];simp[bo,Lr,r1,r2,decide_true,Bool.and_self,if_true];rfl
theorem as8(l:O):sN l 0:=⟨z!,R! _⟩
theorem İ {l:O}{k:Nat}(h:sN l k)(hk:(k:Int)<l.length)(hd:((l.getD (Int.toNat (k:Int)) []).length:Int)=32):sN l (k+1):=by
 refine⟨λd qR=>?_,w!⟩;rw[aw l k [] w!] at qR;rcases List.mem_append.1 qR with qR|qR;exact h.1 d qR;grind
theorem ajm {l:O}{k:Nat}(hk:(k:Int)<l.length)(hd:¬((l.getD (Int.toNat (k:Int)) []).length:Int)=32):false=cJ l:=by
 grind[Int.toNat_natCast,cJ,List.all_eq_false,bu]
theorem ajn{k:Nat}(h:sN l k)(hk:¬(k:Int)<l.length):true=cJ l:=by
 simp[cJ,List.all_eq_true,decide_eq_true_eq];have h1:=h.1;grind[List.take_length]
theorem eU{k:Nat}(hk:(k:Int)<l.length):eT l k++[leaf (l.getD (Int.toNat (k:Int)) [])]=eT l (k+1):=by
 grind[Int.toNat_natCast,eT,aw]
theorem fT{k:Nat}(hk:¬(k:Int)<l.length):eT l k=leaves l:=by
 grind[eT,leaves,List.take_of_length_le]
theorem fU{k:Nat}(h:cX l)(hk:(k:Int)<l.length):ax (l.getD (Int.toNat (k:Int)) []):=by
 exact h.2 _ (bu l k [] w!)
theorem EO(l:O)(k:Nat):(eT l k).length<=l.length:=by grind[eT,List.length_map,List.length_take]
theorem MO{i i':Nat}(h:pb l i' t j s/\(i:Int)=(i':Int)):pb l i t j s:=by
 grind
theorem anm{j:Nat}(h:pb l i t j s)(hj:Vg.aT (j:Int) 1=1)(hp:eJ l):yy s:=by
 have:=ani h;exact⟨(JC h hj).2.2,by have:=hp.2;omega⟩
theorem YS(h:qA l i s):s.length<=l.length:=by
 rw[h.1];have:=(HZ l i 0 i (P! _)).1;have:=h.2;omega
theorem Tc {l:O}(h:(l.length:Int)=0):sum (Vg.pO UInt8)=root l:=(S9 w!).symm
def fL(l:U)(i:Nat):Int:=if i=0 then -1 else l.getD (i-1) 0
def O9(l:U)(i:Nat):Bool:=decide (fL l i<l.getD i 0)&&decide (l.getD i 0<1000)
def bq(l:U):Bool:=(List.range l.length).all (O9 l)
def mn(l:U)(k:Nat):Prop:=(∀i,i<k->O9 l i=true)/\k<=l.length
def dy(l:U)(k:Nat):B8:=num l.length++(List.range k).flatMap (λi=>num (l.getD i 0-fL l i-1))
def tf(l:U):B8:=dy l l.length
def l7(l:U):B8:=if bq l then tf l else []
def qC(l:U):Int:=if bq l then 0 else 1
def vr(l:U):B8:=if bq l then lX 2 (tf l) else []
def l8(l:U):B8:=lX 2 (tf l)
def xy(n a b:Int):Bool:=decide (a<=n)&&decide (n<b)
def so:U:=[]
def we(l:U):U:=if bq l then l else []
def Pa(l:U)(a b:Int):U:=(we l).filter (λn=>xy n a b)
def nr(l:U)(a b:Int)(r out:U):Prop:=out++r.filter (λn=>xy n a b)=Pa l a b/\out.length+r.length<=1000
def wO(a b:U)(k:Nat):Prop:=a.length=b.length/\a.take k=b.take k/\k<=a.length
def pA(a b:U):Bool:=decide (a=b)
def re(l:U)(n:Int):Bool:=decide (n∈l)
theorem kC(l:U):bq l=true↔∀i,i<l.length->O9 l i=true:=by
 grind[bq,List.all_eq_true]
theorem jC(l:U)(i:Nat):O9 l i=true↔fL l i<l.getD i 0/\l.getD i 0<1000:=by
 simp_all[O9,B!,J!]
theorem lM(l:U)(k:Nat):fL l (k+1)=l.getD k 0:=by
 rfl
theorem vt(l:U):fL l 0= -1:=rfl
theorem Vr {l:U}{k:Nat}(h:mn l k):∀i,i<k->(i:Int)<=l.getD i 0/\l.getD i 0<1000
 |0,hi=>by have:=(jC l 0).1 (h.1 0 hi);grind[vt]
 |i+1,hi=>by
  have:=(jC l (i+1)).1 (h.1 (i+1) hi);rw[lM] at this;have:=Vr h i w!;omega
variable {l a:List Int}{s t:B8}
theorem Td{k:Nat}(h:mn l k): -1<=fL l k/\fL l k<1000:=by
 cases k with
 |zero=>grind[vt]
 |succ k=>rw[lM];have:=Vr h k w!;omega
theorem ann(h:bq l=true):mn l l.length:=⟨(kC l).1 h,P! _⟩
theorem adC{k:Nat}(h:bq l=true)(hk:k<=l.length):mn l k:=⟨λi hi=>(kC l).1 h i w!,hk⟩
theorem od(h:bq l=true):l.length<=1000:=by
 by_cases h0:l.length=0;omega;have:=Vr (ann h) (l.length-1) w!;omega
theorem as9(l:U):mn l 0:=⟨λi hi=>by omega,R! _⟩
theorem ı{k:Nat}(h:mn l k)(hk:(k:Int)<l.length)(hg:¬l.getD (Int.toNat (k:Int)) 0<=fL l k/\¬1000<=l.getD (Int.toNat (k:Int)) 0):mn l (k+1):=by
 refine⟨λi hi=>?_,w!⟩;by_cases he:i=k;grind[jC];exact h.1 i w!
theorem ajo{k:Nat}(hk:(k:Int)<l.length)(hg:l.getD (Int.toNat (k:Int)) 0<=fL l k\/1000<=l.getD (Int.toNat (k:Int)) 0):false=bq l:=by
 grind[Int.toNat_natCast,jC,kC]
theorem ajp{k:Nat}(h:mn l k)(hk:¬(k:Int)<l.length):true=bq l:=by
 symm
 exact(kC l).2 λi hi=>h.1 i w!
theorem Pb{k:Nat}(hk:0<(k:Int)):l.getD (Int.toNat ((k:Int)-1)) 0=fL l k:=by
 simp only[fL];rw[W! w!,show Int.toNat ((k:Int)-1)=k-1 by omega]
theorem JD(l:U):dy l 0=num l.length:=by simp[dy]
theorem ud(l:U)(k:Nat):dy l k++num (l.getD k 0-fL l k-1)=dy l (k+1):=by
 grind[dy,List.range_succ,List.append_assoc]
theorem Cj(l:U):∀k,(dy l k).length<=9+9*k
 |0=>by grind[JD,cO]
 |k+1=>by
  rw[<-ud,H!];have:=Cj l k;have:=cO (l.getD k 0-fL l k-1);omega
theorem Te(h0:0<=v)(h:v<=4611686018427387904):ml (Vg.pO UInt8) v=num v:=by
 grind[fZ,Bool.or_eq_false_iff,decide_eq_false_iff_not,ml]
theorem DH{k:Nat}(h:bq l=true)(hk:(k:Int)<l.length):0<=l.getD (Int.toNat (k:Int)) 0-fL l k-1/\l.getD (Int.toNat (k:Int)) 0-fL l k<=1001/\0<=l.getD (Int.toNat (k:Int)) 0:=by
 rw[Z!];have h1:=(jC l k).1 ((kC l).1 h k w!);have h2:=Td (adC (k:=k) h w!);omega
theorem Pc{k:Nat}(h:bq l=true)(hk:(k:Int)<l.length):dy l k++ml (Vg.pO UInt8) (l.getD (Int.toNat (k:Int)) 0-fL l k-1)=dy l (k+1):=by
 grind[DH,Te,Int.toNat_natCast,ud]
theorem xz{k:Nat}(h:bq l=true)(hk:(k:Int)<l.length)(v:Int):(dy l k).length+(ml (Vg.pO UInt8) v).length<=20000/\(dy l k).length+(num v).length<=20000:=by
 have h1:=Cj l k;have h2:=od h;have h3:=cO v
 have h4:(ml (Vg.pO UInt8) v).length<=9:=by
  grind[ml]
 omega
theorem zM(h:bq l=true):(tf l).length<=20000:=by
 grind[Cj,od,tf]
theorem Vs{k:Nat}(hk:(k:Int)=0):dy l k++num (l.getD (Int.toNat 0) 0)=dy l (k+1):=by
 have :k=0:=by omega
 subst this;rw[<-ud,vt];congr 2;show l.getD 0 0=l.getD 0 0- -1-1;omega
theorem YT{k:Nat}(hk:¬(k:Int)=0):dy l k++num (l.getD (Int.toNat (k:Int)) 0-l.getD (Int.toNat ((k:Int)-1)) 0-1)=dy l (k+1):=by
 rw[Pb w!,Z!,ud]
theorem ajq(h:bq l=true):dy l l.length=l7 l:=by simp[l7,h,P?];rfl
theorem ata(a:U)(s1 s2:Int):nr a s1 s2 (we a) []:=by
 refine⟨rfl,?_⟩;grind[we,od]
theorem ajr{n:Int}(h:nr a s1 s2 (n::r) out)(hn:xy n s1 s2=true):nr a s1 s2 r (out++[n]):=by
 obtain⟨h1,h2⟩:=h;refine⟨x!,x!⟩
theorem ano{n:Int}(h:nr a s1 s2 (n::r) out)(hn:xy n s1 s2=false):nr a s1 s2 r out:=by
 obtain⟨h1,h2⟩:=h;rw[List.filter_cons,if_neg x!] at h1;exact⟨h1,x!⟩
theorem ajs(h:nr a s1 s2 [] out):out=Pa a s1 s2:=by
 have:=h.1;grind
theorem atb {a:U}(h:(a.length:Int)=b.length):wO a b 0:=⟨w!,z!,R! _⟩
theorem Ĳ{k:Nat}(h:wO a b k)(hk:(k:Int)<a.length)(he:a.getD (Int.toNat (k:Int)) 0=b.getD (Int.toNat (k:Int)) 0):wO a b (k+1):=by
 rw[Int.toNat_natCast] at he;obtain⟨h1,h2,h3⟩:=h;exact⟨h1,by grind[aw],w!⟩
theorem ajt{k:Nat}(he:¬a.getD (Int.toNat (k:Int)) 0=b.getD (Int.toNat (k:Int)) 0):false=pA a b:=by
 grind[pA,decide_eq_false_iff_not]
theorem aju {a:U}(h:¬(a.length:Int)=b.length):false=pA a b:=by
 grind[pA,decide_eq_false_iff_not]
theorem ajv{k:Nat}(h:wO a b k)(hk:¬(k:Int)<a.length):true=pA a b:=by
 obtain⟨h1,h2,h3⟩:=h;simp_all[pA,J!,i?]
abbrev bB:=B8×U
abbrev Lk:=B8×B8×B8
def Ms(a b:B8):Bool:=Op.bytesLess a b || decide (a=b)
def fE(d:M bB)(i:Nat):B8:=(d.getD i ([],[])).1
def jD(d:M bB)(i:Nat):U:=(d.getD i ([],[])).2
def aY(d:M bB):Prop:=d.length<=1048576/\∀e∈d,e.1.length<=1099511627776
def Ck(d:M bB)(i:Nat):Bool:= !(decide (0<i)&&Ms (fE d i) (fE d (i-1)))&&(!decide ((jD d i).length=0)&&(bq (jD d i)&&isTerm (fE d i)))
def aQ(d:M bB):Bool:=(List.range d.length).all (Ck d)
def Lv(d:M bB)(k:Nat):Prop:=(∀i,i<k->Ck d i=true)/\k<=d.length
def eE(a b c:B8):Bool:=decide ((a.length:Int)<=64)&&(decide ((b.length:Int)<=64)&&decide ((c.length:Int)=32))
def mH(a b c:B8):B8:=text a++text b++c
def dK(a b c:B8):B8:=if eE a b c then mH a b c else []
def kD(a b c:B8):Int:=if eE a b c then 0 else 1
def ĳ(b:B8):Rd×B8:=ao b 0 0 64
def Vt(b:B8):Rd×B8:=ao (ĳ b).1.1 (ĳ b).1.2.1 (ĳ b).1.2.2 64
def vu(b:B8):Rd×B8:=aD (Vt b).1.1 (Vt b).1.2.1 (Vt b).1.2.2
def bh(b:B8):Lk×Int:=
 if done (vu b).1.1 (vu b).1.2.1 (vu b).1.2.2=0 then(((ĳ b).2,(Vt b).2,(vu b).2),0) else(([],[],[]),done (vu b).1.1 (vu b).1.2.1 (vu b).1.2.2)
def FO(b:B8):Lk×Int:=
 if(aM b 64).2.2≠0 then(([],[],[]),(aM b 64).2.2)
 else if(aM (b.drop (aM b 64).2.1.toNat) 64).2.2≠0 then(([],[],[]),(aM (b.drop (aM b 64).2.1.toNat) 64).2.2)
 else if((b.drop ((aM b 64).2.1+(aM (b.drop (aM b 64).2.1.toNat) 64).2.1).toNat).length:Int)<32 then(([],[],[]),4)
 else if 32<((b.drop ((aM b 64).2.1+(aM (b.drop (aM b 64).2.1.toNat) 64).2.1).toNat).length:Int) then(([],[],[]),2)
 else(((aM b 64).1,(aM (b.drop (aM b 64).2.1.toNat) 64).1,b.drop ((aM b 64).2.1+(aM (b.drop (aM b 64).2.1.toNat) 64).2.1).toNat),0)
def l9(d:M bB)(i:Nat):B8:=
 mH (if i=0 then [] else fE d (i-1)) (if i<d.length then fE d i else []) (l8 (if i=0 then [] else jD d (i-1)))
def e9(d:M bB)(k:Nat):O:=(List.range k).map (l9 d)
def fu(d:M bB):O:=e9 d (d.length+1)
def bD(d:M bB):O:=if aQ d then fu d else []
def dE(d:M bB):Int:=if aQ d then 0 else 1
def pc(d:M bB):B8:=root (leaves (fu d))
def xA(d:M bB):B8:=if aQ d then pc d else []
def eu(d:M bB)(t:B8):Nat->Int
 |0=> -1
 |k+1=>if Ms (fE d k) t then(k:Int) else eu d t k
def bJ(d:M bB)(t:B8):Int:=if aQ d then eu d t d.length else -1
def kT(d:M bB)(t:B8):Bool:=decide (0<=bJ d t)&&decide (fE d (bJ d t).toNat=t)
def nu(d:M bB)(t:B8):U:=if kT d t then jD d (bJ d t).toNat else []
def iT(a b:M bB):Bool:=decide (a=b)
def mo(a b:M bB)(k:Nat):Prop:=a.length=b.length/\a.take k=b.take k/\k<=a.length
def dS(docs:O)(s1 s2:Int):Bool:=
 docs.all (λb=>decide ((b.length:Int)<=2000))&&(decide ((docs.length:Int)<=1000)&&(decide (0<=s1)&&(decide (s1<=s2)&&decide (s2<=(docs.length:Int)))))
def qD(docs:O)(k:Nat):Prop:=(∀b∈docs.take k,b.length<=2000)/\k<=docs.length
def wP(b t:B8):Bool:=decide (0<((places b t).length:Int))
theorem zN(d:M bB):aQ d=true↔∀i,i<d.length->Ck d i=true:=by
 grind[aQ,List.all_eq_true]
theorem aKN(d:M bB):Lv d 0:=⟨λi hi=>by omega,R! _⟩
variable {d:List bB}
theorem adD{k:Nat}(hk:(k:Int)<d.length)(h:Ck d k=false):false=aQ d:=by
 grind[zN]
theorem anp{k:Nat}(h:Lv d k)(hk:(k:Int)<d.length)(he:Ck d k=true):Lv d (k+1):=by
 refine⟨λi hi=>?_,w!⟩;by_cases e:i=k;grind;exact h.1 i w!
theorem atc{k:Nat}(h:Lv d k)(hk:¬(k:Int)<d.length):true=aQ d:=by
 symm;exact(zN d).2 λi hi=>h.1 i w!
theorem ajw{k:Nat}(h:aY d):(d.getD k ([],[])).1.length<=1099511627776:=by
 by_cases hk:k<d.length;exact h.2 _ (bu d k _ hk);grind
theorem vv(d:M bB)(i:Nat):Ck d i=true↔(i=0\/Ms (fE d i) (fE d (i-1))=false)/\(jD d i).length≠0/\bq (jD d i)=true/\isTerm (fE d i)=true:=by
 simp_all[Ck,B!,Q?,Bool.and_eq_false_iff,q?,id]
theorem Pd(d:M bB)(i:Nat):Ck d i=false↔(0<i/\Ms (fE d i) (fE d (i-1))=true)\/(jD d i).length=0\/bq (jD d i)=false\/isTerm (fE d i)=false:=by
 grind[vv]
theorem Pe:∀(w:U) (t:B8),t.length<=64->(lY t w).length<=64
 |[],t,h=>h
 |c::w,t,h=>by
  simp[lY];split;exact h;exact Pe w _ (by rw[H!];omega)
theorem Cm(h:isTerm s=true):s.length<=64:=by
 simp[isTerm,decide_eq_true_eq] at h;have hm:s∈aS s:=by grind
 simp[aS,g?] at hm;obtain⟨w,_,hw⟩:=hm;rw[<-hw];exact Pe w [] z!
theorem vw(h:aQ d=true)(hi:i<d.length):(fE d i).length<=64/\bq (jD d i)=true:=by
 grind[vv,zN,Cm]
theorem Cn(b:B8)(a e m:Int):(ao b a e m).1.1=b:=by grind[ao]
theorem ajx(h:bq l=true):vr l=l8 l/\(l8 l).length=32:=by
 refine⟨by simp[vr,h,P?];rfl,SU _ _⟩
theorem Co(h:aQ d=true){k:Nat}:eE (if k=0 then [] else fE d (k-1)) (if k<d.length then fE d k else []) (l8 (if k=0 then [] else jD d (k-1)))=true\/d.length<k:=by
 by_cases hk:d.length<k;omega;refine .inl ?_;have e3:(l8 (if k=0 then [] else jD d (k-1))).length=32:=SU _ _;simp only[eE,e3,Bool.and_eq_true,decide_eq_true_eq];refine⟨?_,?_,rfl⟩;by_cases h0:k=0;grind;grind[vw];by_cases h0:k<d.length;grind[vw];grind
theorem atd(h:aQ d=true){k:Nat}(hk:k<=d.length):dK (if k=0 then [] else fE d (k-1)) (if k<d.length then fE d k else []) (vr (if k=0 then [] else jD d (k-1)))=l9 d k:=by
 have hp:bq (if k=0 then [] else jD d (k-1))=true:=by
  by_cases h0:k=0;rw[Q! h0];rfl;rw[W! h0];exact(vw h (i:=k-1) w!).2
 rw[(ajx hp).1];rcases Co h (k:=k) with hl|hl;simp[dK,hl,P?];rfl;omega
theorem Lw(d:M bB)(k:Nat):e9 d k++[l9 d k]=e9 d (k+1):=by
 grind[e9,List.range_succ]
theorem FP(d:M bB)(k:Nat):(e9 d k).length=k:=by simp[e9]
theorem zO {a b c:B8}(h:eE a b c=true):(mH a b c).length<=200:=by
 simp[eE,Bool.and_eq_true,decide_eq_true_eq] at h;grind[cO,mH,text,List.length_append]
theorem kF(hp:aY d)(h:aQ d=true):cX (fu d)/\eJ (leaves (fu d)):=by
 have hl:(fu d).length=d.length+1:=FP d _;have hd:=hp.1;refine⟨⟨w!,λb hb=>?_⟩,⟨?_,?_⟩⟩;simp[fu,e9,List.mem_map,List.mem_range] at hb;obtain⟨i,hi,rfl⟩:=hb;rcases Co h (k:=i) with hk|hk;grind[zO,l9];omega;rw[cK];intro x hx;simp[leaves,List.mem_map] at hx;obtain⟨b,_,rfl⟩:=hx;rfl;grind[leaves,List.length_map]
theorem H2 {d:M bB}{t:B8}:∀k,-1<=eu d t k/\eu d t k<k
 |0=>by grind[eu]
 |k+1=>by
  have:=H2 (d:=d) (t:=t) k;grind[eu]
theorem Ĵ{k:Nat}(h:Ms (fE d k) t=true):(k:Int)=eu d t (k+1):=by
 simp_all[eu,Q!]
theorem ĵ{k:Nat}(h:Ms (fE d k) t=false):eu d t k=eu d t (k+1):=by
 simp_all[eu,W!]
variable {b a:List bB}
theorem ke {a:M bB}(h:(a.length:Int)=b.length):mo a b 0:=⟨w!,z!,R! _⟩
theorem YU{k:Nat}(h:mo a b k)(hk:(k:Int)<a.length)(he:a.getD k ([],[])=b.getD k ([],[])):mo a b (k+1):=by
 obtain⟨h1,h2,h3⟩:=h;exact⟨h1,by grind[aw],w!⟩
theorem Ķ{k:Nat}(he:¬a.getD k ([],[])=b.getD k ([],[])):false=iT a b:=by
 grind[iT,decide_eq_false_iff_not]
theorem gv {a:M bB}(h:¬(a.length:Int)=b.length):false=iT a b:=by
 grind[iT,decide_eq_false_iff_not]
theorem ķ{k:Nat}(h:mo a b k)(hk:¬(k:Int)<a.length):true=iT a b:=by
 obtain⟨h1,h2,h3⟩:=h;simp_all[iT,J!,i?]
theorem wQ(docs:O):qD docs 0:=⟨z!,R! _⟩
theorem Ph {docs:O}{k:Nat}(h:qD docs k)(hk:(k:Int)<docs.length)(hl:((docs.getD k []).length:Int)<=2000):qD docs (k+1):=by
 refine⟨λb hb=>?_,w!⟩;rw[aw docs k [] w!] at hb;rcases List.mem_append.1 hb with hb|hb;exact h.1 b hb;grind
theorem Tf {docs:O}{k:Nat}(hk:(k:Int)<docs.length)(hl:2000<((docs.getD k []).length:Int)):false=dS docs s1 s2:=by
 have :docs.all (λb=>decide ((b.length:Int)<=2000))=false:=by
  grind
 simp[dS,this,Bool.false_and]
theorem Tg{k:Nat}(h:qD docs k)(hk:¬(k:Int)<docs.length):docs.all (λb=>decide ((b.length:Int)<=2000))=true:=by
 have h1:=h.1;grind[List.take_of_length_le]
theorem YV:∀(a b:B8),Ms b a= !Op.bytesLess a b
 |[],[]=>rfl
 |[],b::y=>by rfl
 |a::x,[]=>by rfl
 |a::x,b::y=>by
  have ih:=YV x y;simp[Ms] at ih;simp[Ms,Op.bytesLess];grind
theorem ate(h:aQ d=true){k:Nat}(hk:k<=d.length):
  dK (bif decide ((k:Int)<(d.length:Int)) then bif decide (0<(k:Int)) then(List.getD d (Int.toNat ((k:Int)-1)) ([],[])).1 else [] else bif decide (0<(k:Int)) then(List.getD d (Int.toNat ((k:Int)-1)) ([],[])).1 else [])
   (bif decide ((k:Int)<(d.length:Int)) then(List.getD d (Int.toNat (k:Int)) ([],[])).1 else bif decide (0<(k:Int)) then [] else [])
   (vr (bif decide (0<(k:Int)) then(List.getD d (Int.toNat ((k:Int)-1)) ([],[])).2 else []))=l9 d k:=by
 rw[<-atd h hk];have e1:Int.toNat ((k:Int)-1)=k-1:=by omega
 rw[e1,Int.toNat_natCast];by_cases h0:k=0;grind[fE,jD,List.eq_nil_of_length_eq_zero];have h2:(0:Int)<(k:Int):=by omega
 by_cases h1:k<d.length;have h3:(k:Int)<(d.length:Int):=by omega
 simp only[M? h2,M? h3,W! h0,Q! h1,K!];rfl;have h3:¬(k:Int)<(d.length:Int):=by omega
 simp only[M? h2,f? h3,W! h0,W! h1,K!,N!];rfl
theorem anq(h:aQ d=true):eu d t d.length=bJ d t:=by simp_all[bJ,P?]
theorem H3(h:dE d=0):aQ d=true:=by
 grind[aQ,dE,absurd]
theorem aKO(h:¬dE d=0):aQ d=false:=by
 grind[aQ,absurd,dE]
theorem Lx {l:B8}(h1:l.length<=1000)(h2:s.length<=1000):oR l s:=⟨w!,w!⟩
theorem yB:(text s).length<=s.length+9:=by
 grind[cO,text,List.length_append]
theorem sO(a b c:B8):eE a b c=true↔a.length<=64/\b.length<=64/\c.length=32:=by
 simp[eE,B!,J!];omega
theorem ĸ {a b c:B8}(h:64<(a.length:Int)\/64<(b.length:Int)\/¬(c.length:Int)=32):eE a b c=false:=by
 grind[sO]
theorem Cp {a b c:B8}(h:¬64<(a.length:Int)/\¬64<(b.length:Int)/\(c.length:Int)=32):eE a b c=true:=(sO a b c).2 w!
theorem Th(h:aQ d=false): -1=bJ d t/\false=kT d t:=by
 grind[bJ,kT]
theorem atf(d:M bB)(t:B8)(x:Nat):(bif Op.bytesLess (List.getD d (Int.toNat (x:Int)) ([],[])).1 t || decide ((List.getD d (Int.toNat (x:Int)) ([],[])).1=t) then(x:Int) else eu d t x)=eu d t (x+1):=by
 grind[Int.toNat_natCast,Ms,fE,eu,Ĵ,ĵ]
theorem anr(h:aQ d=true):(bif decide (0<=eu d t d.length) then decide ((List.getD d (Int.toNat (eu d t d.length)) ([],[])).1=t) else false)=kT d t:=by
 simp[kT,bJ,h,P?];cases decide (0<=eu d t d.length)<;>rfl
theorem EP(b:B8)(m:Int)(h:(aM b m).2.2=0):0<=(aM b m).2.1/\(aM b m).2.1<=b.length:=by
 grind[first,aM]
theorem adE(d:M bB)(x:Nat):
  (bif decide ((x:Int)-1+1<(d.length:Int)) then bif decide (0<=(x:Int)-1) then(List.getD d (Int.toNat ((x:Int)-1)) ([],[])).1 else [] else bif decide (0<=(x:Int)-1) then(List.getD d (Int.toNat ((x:Int)-1)) ([],[])).1 else [])=(if x=0 then [] else fE d (x-1))/\
  (bif decide ((x:Int)-1+1<(d.length:Int)) then(List.getD d (Int.toNat ((x:Int)-1+1)) ([],[])).1 else bif decide (0<=(x:Int)-1) then [] else [])=(if x<d.length then fE d x else [])/\
  (bif decide ((x:Int)-1+1<(d.length:Int)) then bif decide (0<=(x:Int)-1) then l8 (List.getD d (Int.toNat ((x:Int)-1)) ([],[])).2 else l8 (Vg.pO Int) else bif decide (0<=(x:Int)-1) then l8 (List.getD d (Int.toNat ((x:Int)-1)) ([],[])).2 else l8 (Vg.pO Int))=l8 (if x=0 then [] else jD d (x-1)):=by
 have e1:Int.toNat ((x:Int)-1)=x-1:=by omega
 have e2:Int.toNat ((x:Int)-1+1)=x:=by omega
 rw[e1,e2];have c1:decide ((x:Int)-1+1<(d.length:Int))=decide (x<d.length):=by grind
 have c2:decide (0<=(x:Int)-1)= !decide (x=0):=by grind
 rw[c1,c2];by_cases h0:x=0
 . subst h0;by_cases h1:0<d.length
   . simp only[M? h1,Q! h1,decide_true,Bool.not_true,K!,N!,P?];all_goals first|exact⟨rfl,rfl,rfl⟩|(refine⟨?_,?_,?_⟩<;>first|trivial|rfl)
   grind
 . by_cases h1:x<d.length
   . simp[M? h1,Q! h1,f? h0,Bool.not_false,K!,W! h0];all_goals first|exact⟨rfl,rfl,rfl⟩|(refine⟨?_,?_,?_⟩<;>first|trivial|rfl)
   . simp only[f? h1,W! h1,f? h0,Bool.not_false,N!,K!,W! h0];all_goals first|exact⟨rfl,rfl,rfl⟩|(refine⟨?_,?_,?_⟩<;>first|trivial|rfl)
theorem MP(h:kT d t=true):0<=bJ d t/\bJ d t<(d.length:Int)/\(List.getD d (Int.toNat (bJ d t)) ([],[])).2=nu d t:=by
 have h1:=h;simp[kT,Bool.and_eq_true,decide_eq_true_eq] at h1;refine⟨h1.1,?_,by simp[nu,h,if_true];rfl⟩;unfold bJ;split;simp_all[H2]
 omega
def b9(docs:O)(a:Int)(k:Nat):O:=(List.range k).flatMap λ(i:Nat)=>sorted (aS (docs.getD (a+i).toNat []))
def cx(docs:O)(a:Int)(t:B8)(k:Nat):U:=((List.range k).filter λ(i:Nat)=>wP (docs.getD (a+i).toNat []) t).map λ(i:Nat)=>a+i
def cB(docs:O)(a b:Int):O:=sorted (b9 docs a (b-a).toNat)
def mS(docs:O)(a b:Int)(k:Nat):M bB:=((cB docs a b).take k).map λt=>(t,cx docs a t (b-a).toNat)
def make(docs:O)(a b:Int):M bB:=(cB docs a b).map λt=>(t,cx docs a t (b-a).toNat)
def gJ(docs:O)(a b:Int):Prop:=0<=a/\a<=b/\b<=docs.length/\docs.length<=1000/\∀d∈docs,d.length<=4000
def fV(a b:Int)(k:Nat):Prop:=a+k<=b
theorem Ti:∀(f:Nat) (l:O),(xv f l).length<=l.length
 |0,l=>by simp[xv]
 |f+1,l=>by
  simp only[xv];split;simp;rename_i h;have h0:0<l.length:=by cases l;simp at h;simp
  have:=Ti f (l.filter (λx=>!decide (x=l.getD (dR l) [])));have:=vo h0;rw[N?];omega
theorem aX(l:O):(sorted l).length<=l.length:=Ti _ l
variable {a b:Int}{l:List B8}
theorem YW(hp:gJ docs a b)(i:Nat):(docs.getD i []).length<=4000:=by
 by_cases h:i<docs.length;exact hp.2.2.2.2 _ (bu docs i [] h);grind
theorem Pj(hp:gJ docs a b)(i:Nat):small (docs.getD i []):=by
 grind[YW,small]
theorem ans(docs:O)(a:Int): []=b9 docs a 0:=rfl
theorem wR(docs:O)(a:Int)(k:Nat):b9 docs a k++sorted (aS (docs.getD (Int.toNat (a+(k:Int))) []))=b9 docs a (k+1):=by
 grind[b9,List.range_succ]
theorem Cq(hp:gJ docs a b)(i:Nat):(sorted (aS (docs.getD i []))).length<=4000:=by
 grind[YW,zJ,aX]
theorem bk {docs:O}{a b:Int}(hp:gJ docs a b):∀k,(b9 docs a k).length<=4000*k
 |0=>by simp[b9]
 |k+1=>by
  rw[<-wR,H!];have:=bk hp k;have:=Cq hp (Int.toNat (a+(k:Int)));omega
theorem ajy(docs:O)(a:Int)(t:B8): []=cx docs a t 0:=rfl
theorem Cr {docs:O}{a:Int}{k:Nat}(h:wP (docs.getD (Int.toNat (a+(k:Int))) []) t=true):cx docs a t k++[a+(k:Int)]=cx docs a t (k+1):=by
 simp only[cx,List.range_succ,List.filter_append,l?,List.filter_cons,h,P?,List.filter_nil,K?,List.map_nil]
theorem FQ {docs:O}{a:Int}{k:Nat}(h:wP (docs.getD (Int.toNat (a+(k:Int))) []) t=false):cx docs a t k=cx docs a t (k+1):=by
 grind[cx,List.range_succ]
theorem Ly(docs:O)(a:Int)(t:B8)(k:Nat):(cx docs a t k).length<=k:=by
 grind[cx,List.length_map,List.length_filter_le,wP,List.range,List.length_range]
theorem yC{k:Nat}(h:fV a b k)(hk:¬a+(k:Int)<b):sorted (b9 docs a k)=cB docs a b/\k=(b-a).toNat:=by
 unfold fV at h;have :k=(b-a).toNat:=by omega
 exact⟨by rw[this];rfl,this⟩
theorem H4 {docs:O}{a b:Int}{k:Nat}(hk:k<(cB docs a b).length)(hj:j=(b-a).toNat)(ht:(cB docs a b).getD k []=t):mS docs a b k++[(t,cx docs a t j)]=mS docs a b (k+1):=by
 grind[mS,aw,cB]
theorem YX(docs:O)(a b:Int)(k:Nat):(mS docs a b k).length<=k:=by
 grind[mS,List.length_map,List.length_take]
theorem Lz{k:Nat}(h:¬k<(cB docs a b).length):mS docs a b k=make docs a b:=by
 grind[mS,make,List.take_of_length_le]
theorem cC{k:Nat}(h:fV a b k)(hp:a<=b):(k:Int)<=b-a:=by grind[fV]
variable {b:B8}
theorem Pl(h0:0<=a)(h1:a<=b.length):inside b a=true:=by
 grind[inside]
theorem Cs(h:e≠0):bU b a e=e:=by
 grind[bU]
theorem FT(h0:0<=a)(h1:a<=b.length):bU b a 0=0:=by
 grind[bU,Pl]
theorem JE(h:e≠0):done b a e=e:=by simp_all[done,Q!]
theorem ant(h0:0<=a)(h1:a<=b.length):done b a 0=if a<b.length then 2 else 0:=by
 simp_all[done,W!,Pl]
theorem Ĺ(b:B8):(first b).2.2=0->0<=(first b).1/\0<=(first b).2.1:=by
 grind[first]
theorem Ct{m:Int}(h0:0<=p)(h1:p<=b.length):
  dP b p m=((aM (b.drop p.toNat) m).1,(if(aM (b.drop p.toNat) m).2.2=0 then p+(aM (b.drop p.toNat) m).2.1 else 0),(aM (b.drop p.toNat) m).2.2):=by
 have hl:((b.drop p.toNat).length:Int)=b.length-p:=by grind
 have hb:=Ĺ (b.drop p.toNat);have g1:(aP b p).1=(first (b.drop p.toNat)).1:=rfl;have g3:(aP b p).2.2=(first (b.drop p.toNat)).2.2:=rfl;by_cases he:(first (b.drop p.toNat)).2.2=0;have g2:(aP b p).2.1=p+(first (b.drop p.toNat)).2.1:=Q! he;have eO:=hb he
 have F:aM (b.drop p.toNat) m=if m<(first (b.drop p.toNat)).1 then([],0,2) else if(b.length:Int)-(p+(first (b.drop p.toNat)).2.1)<(first (b.drop p.toNat)).1 then([],0,4) else(((b.drop p.toNat).drop (first (b.drop p.toNat)).2.1.toNat).take (first (b.drop p.toNat)).1.toNat,(first (b.drop p.toNat)).2.1+(first (b.drop p.toNat)).1,0):=by
  unfold aM;rw[if_neg (by simp[he]),hl];by_cases h2:m<(first (b.drop p.toNat)).1;rw[if_pos h2,if_pos h2];rw[if_neg h2,if_neg h2];by_cases h3:(b.length:Int)-(p+(first (b.drop p.toNat)).2.1)<(first (b.drop p.toNat)).1;rw[if_pos h3,if_pos w!];rw[if_neg h3,if_neg w!]
 rw[F];unfold dP;rw[g3,g1,g2,if_neg (by simp[he])];by_cases h2:m<(first (b.drop p.toNat)).1;simp only[if_pos h2];rfl;simp only[if_neg h2];by_cases h3:(b.length:Int)-(p+(first (b.drop p.toNat)).2.1)<(first (b.drop p.toNat)).1;simp only[if_pos h3];rfl;simp only[if_neg h3,if_true];have a1:(p+(first (b.drop p.toNat)).2.1).toNat=p.toNat+(first (b.drop p.toNat)).2.1.toNat:=by omega
 have a2:(p+(first (b.drop p.toNat)).2.1+(first (b.drop p.toNat)).1).toNat-(p.toNat+(first (b.drop p.toNat)).2.1.toNat)=(first (b.drop p.toNat)).1.toNat:=by omega
 have a3:p+(first (b.drop p.toNat)).2.1+(first (b.drop p.toNat)).1=p+((first (b.drop p.toNat)).2.1+(first (b.drop p.toNat)).1):=by omega
 rw[j?,a1,List.drop_take,a2,a3];simp_all[aM,first,Q!,dP,W!]
theorem ajz(b:B8):bh b=FO b:=by
 have hl:(0:Int)<=b.length:=by omega
 have s0:bU b 0 0=0:=FT w! hl;have g0:=Ct (b:=b) (p:=0) (m:=64) w! hl;rw[show(0:Int).toNat=0 by rfl,List.drop_zero] at g0
 have r1:ĳ b=if(aM b 64).2.2≠0 then((b,0,(aM b 64).2.2),[]) else((b,(aM b 64).2.1,0),(aM b 64).1):=by
  simp_all[ĳ,ao,W!,aM]
 unfold bh FO;by_cases e1:(aM b 64).2.2=0;rw[if_neg w!] at r1;have b1:=EP b 64 e1;have s1:bU b (aM b 64).2.1 0=0:=FT b1.1 b1.2;have g1:=Ct (b:=b) (p:=(aM b 64).2.1) (m:=64) b1.1 b1.2;generalize hn:(aM b 64).2.1=n1 at *;generalize hf:aM (b.drop n1.toNat) 64=f2 at *
 have r2:Vt b=if f2.2.2≠0 then((b,n1,f2.2.2),[]) else((b,n1+f2.2.1,0),f2.1):=by
  simp_all[Vt,ao,W!]
 by_cases e2:f2.2.2=0;rw[if_neg w!] at r2;have b2:=EP (b.drop n1.toNat) 64 x!;rw[hf,List.length_drop] at b2;have s2:bU b (n1+f2.2.1) 0=0:=FT w! w!;have hdl:((b.drop (n1+f2.2.1).toNat).length:Int)=b.length-(n1+f2.2.1):=by grind
 have r3:vu b=if(b.length:Int)-(n1+f2.2.1)<32 then((b,n1+f2.2.1,4),[]) else((b,n1+f2.2.1+32,0),(b.drop (n1+f2.2.1).toNat).take 32):=by
  simp_all[vu,aD,W!]
 by_cases h4:(b.length:Int)-(n1+f2.2.1)<32;simp_all[Q!,JE,ne_eq,not_true_eq_false,s?,P?]
 rw[if_neg h4] at r3;grind[ant];rw[if_pos e2] at r2
 have r3:vu b=((b,n1,f2.2.2),[]):=by
  simp_all[vu,aD,Cs,Q!]
 simp_all[JE,ne_eq,not_true_eq_false,not_false_eq_true,s?,P?]
 rw[Q! e1] at r1
 have r2:Vt b=((b,0,(aM b 64).2.2),[]):=by
  simp_all[Vt,ao,Cs,Q!]
 have r3:vu b=((b,0,(aM b 64).2.2),[]):=by
  simp_all[vu,aD,Cs,Q!]
 simp_all[JE,ne_eq,not_false_eq_true,s?,P?]
theorem yD(b t:B8):wP b t=true↔t∈aS b:=by
 unfold wP;rw[decide_eq_true_iff];simp only[places,yx,List.length_map];constructor;intro h;have h1:0<((List.range (aS b).length).filter (λi=>decide ((aS b).getD i []=t))).length:=by omega
 obtain⟨i,hi⟩:=List.exists_mem_of_length_pos h1;grind;intro h;obtain⟨i,hi,he⟩:=List.getElem_of_mem h
 have :i∈(List.range (aS b).length).filter (λi=>decide ((aS b).getD i []=t)):=by
  grind
 grind
def gK(docs:O)(a:Int)(k:Nat):O:=sorted (aS (docs.getD (a+(k:Int)).toNat []))
def A4(docs:O)(a:Int)(k j:Nat)(s:B8):U:=cx docs a s k++if s∈(gK docs a k).take j then [a+(k:Int)] else []
theorem aEf(docs:O)(a:Int)(s:B8):A4 docs a 0 0 s=[]:=by rfl
theorem LA(h:vq l):l.Nodup:=h.imp λ{a b} k9 di=>by
 grind[eI]
theorem Cu(hj:j<l.length)(s:B8):s∈l.take (j+1)↔s∈l.take j\/s=l.getD j []:=by
 grind[List.take_add_one,List.getElem?_eq_getElem]
theorem YY(h:l.Nodup)(hj:j<l.length):l.getD j []∉l.take j:=by
 grind[List.getElem?_eq_getElem,List.getElem_of_mem,List.length_take,List.pairwise_iff_getElem]
theorem anu{k:Nat}(hj:j<(gK docs a k).length):A4 docs a k (j+1) ((gK docs a k).getD j [])=A4 docs a k j ((gK docs a k).getD j [])++[a+(k:Int)]:=by
 have h1:(gK docs a k).getD j []∉(gK docs a k).take j:=YY (LA (l6 (aS (docs.getD (a+(k:Int)).toNat [])))) hj;have h2:=(Cu hj ((gK docs a k).getD j [])).2 (.inr rfl);simp_all[A4,Q!,W!,F?]
theorem ajA {docs:O}{a:Int}{k:Nat}(hj:j<(gK docs a k).length)(hs:s≠(gK docs a k).getD j []):A4 docs a k (j+1) s=A4 docs a k j s:=by
 simp_all[A4,gK,Q!,Cu,W!]
theorem ajB {docs:O}{a:Int}{k:Nat}(hj:¬j<(gK docs a k).length)(s:B8):A4 docs a k j s=A4 docs a (k+1) 0 s:=by
 simp[A4,List.take_zero,List.not_mem_nil,s?,F?];rw[i? w!];by_cases h:s∈gK docs a k;rw[Q! h];exact Cr ((yD _ _).2 ((jg _ _).1 h))
 . rw[W! h,F?];refine FQ ?_;cases hh:wP (docs.getD (Int.toNat (a+(k:Int))) []) s with
   |false=>rfl
   |true=>exact absurd ((jg _ _).2 ((yD _ _).1 hh)) h
theorem anv(docs:O)(a:Int)(k j:Nat)(s:B8):(A4 docs a k j s).length<=k+1:=by
 grind[Ly,A4,List.length_append]
theorem FU(docs:O)(a:Int)(x:B8):∀k,x∈b9 docs a k↔cx docs a x k≠ []
 |0=>by simp[b9,cx]
 |k+1=>by
  rw[<-wR,I!,FU docs a x k,jg,<-yD];cases h:wP (docs.getD (Int.toNat (a+(k:Int))) []) x with
  |true=>rw[<-Cr h];simp
  |false=>grind[FQ]
def lx(docs:O)(a b:Int):M bB×Int:=if dS docs a b then(make docs a b,0) else([],1)
abbrev Sg:=Int×Int×Int×B8
def ma(a b:Int):Bool:=decide (0<=a)&&(decide (a<b)&&decide (b<=1000))
def Pm(d:M bB)(a b:Int)(i:Nat):Bool:=decide (((Pa (jD d i) a b).length:Int)=((jD d i).length:Int))
def eF(a b:Int)(d:M bB):Bool:=(ma a b&&aQ d)&&(List.range d.length).all (Pm d a b)
def wS(a b:Int)(d:M bB)(k:Nat):Prop:=ma a b=true/\aQ d=true/\(∀i,i<k->Pm d a b i=true)/\k<=d.length
def tg(a b:Int)(d:M bB):(Int×Int×Int×B8)×Int:=if eF a b d then((a,b,(d.length:Int)+1,pc d),0) else((0,0,0,[]),1)
def RU(a b:Int)(d:M bB):Int×Int×Int×B8:=(a,b,((fu d).length:Int),pc d)
def oB(a b n:Int)(r:B8):Bool:=ma a b&&(decide (1<=n)&&(decide (n<=1099511627776)&&decide ((r.length:Int)=32)))
def eM(docs:O)(a b:Int):Bool:=dS docs a b&&decide (a<b)
def sg(l:M Sg)(i:Nat):Sg:=l.getD i (0,0,0,[])
def Cv(l:M Sg)(i:Nat):Bool:=oB (sg l i).1 (sg l i).2.1 (sg l i).2.2.1 (sg l i).2.2.2&& !(decide (0<i)&& !decide ((sg l i).1=(sg l (i-1)).2.1))
def rf(l:M Sg)(n:Int):Bool:=
 if l.length=0 then decide (n=0)
 else(List.range l.length).all (Cv l)&&(decide ((l.length:Int)<=64)&&(decide ((sg l 0).1=0)&&decide ((sg l (l.length-1)).2.1=n)))
variable {b:Int}
theorem atg {l:U}(h:bq l=true)(h0:l.length≠0):(Pa l a b).length=l.length↔a<=l.getD 0 0/\l.getD (l.length-1) 0<b:=by
 have hs:∀n,n<l.length->∀i,i<=n->l.getD i 0<=l.getD n 0:=by
  intro n;induction n with
  |zero=>grind
  |succ n ih=>
   intro hn i hi;by_cases e:i=n+1;grind;grind[jC,kC,lM]
 simp only[Pa,we,h,P?];rw[List.length_filter_eq_length_iff];constructor;intro lI;have h1:=lI _ (bu l 0 0 w!);have h2:=lI _ (bu l (l.length-1) 0 w!);simp_all[xy,B!,J!]
 rintro⟨h1,h2⟩ x hx;obtain⟨i,hi,rfl⟩:=List.mem_iff_getElem.1 hx;have e:l[i]=l.getD i 0:=by grind
 have q1:=hs i hi 0 (R! _);have q2:=hs (l.length-1) w! i w!;simp[xy,B!,J!];omega
theorem aEg(h1:ma a b=true)(h2:aQ d=true):wS a b d 0:=⟨h1,h2,λi hi=>by omega,R! _⟩
theorem ajC{k:Nat}(h:wS a b d k)(hk:(k:Int)<d.length)(he:Pm d a b k=true):wS a b d (k+1):=by
 refine⟨h.1,h.2.1,λi hi=>?_,w!⟩;by_cases e:i=k;grind;exact h.2.2.1 i w!
theorem anw{k:Nat}(hk:(k:Int)<d.length)(he:Pm d a b k=false):false=eF a b d:=by
 grind[eF]
theorem anx{k:Nat}(h:wS a b d k)(hk:¬(k:Int)<d.length):true=eF a b d:=by
 simp[eF,h.1,h.2.1,Bool.true_and,B?,List.mem_range];intro i hi;exact h.2.2.1 i w!
theorem ath(h:ma a b=false\/aQ d=false):false=eF a b d:=by
 rcases h with h|h<;>simp[eF,h,Bool.false_and,Bool.and_false]
theorem ajD(h:eF a b d=true):aQ d=true:=by
 simp_all[eF,B!]
theorem ajE{k:Nat}(h:aQ d=true)(hk:(k:Int)<d.length):0<(jD d k).length/\(jD d k).length<=1000:=by
 have hq:=(vv d k).1 ((zN d).1 h k w!);grind[od]
theorem ĺ(h:eF a b d=false):tg a b d=((0,0,0,[]),1):=by grind[tg]
theorem LB(h:eF a b d=true):tg a b d=((a,b,(d.length:Int)+1,pc d),0)/\dE d=0/\xA d=pc d:=by
 have hd:=ajD h;simp_all[tg,P?,dE,xA]
def c9(docs:O)(a b:Int):(Int×Int×M bB)×Int:=if eM docs a b then((a,b,make docs a b),0) else((0,0,[]),1)
def zP(a1 a2:Int)(a3:M bB)(b1 b2:Int)(b3:M bB):Bool:=decide (a1=b1)&&(decide (a2=b2)&&decide (a3=b3))
def rowAt(l:M Sg)(k:Nat):Int:=if k=0 then 0 else(sg l (k-1)).2.1
def ym(l:M Sg)(k:Nat):Prop:=(∀i,i<k->Cv l i=true)/\k<=l.length/\l.length<=64/\(0<k->(sg l 0).1=0)
theorem LC {r d:O}(h:i<=m.length):(m.take i++r++d).take i=m.take i:=by
 grind
theorem Vu {b:B8}(h:small b):small (aS b):=by
 grind[zJ,small]
theorem Vv(h:small l):small (fh l):=by
 grind[small,fh,List.length_mergeSort]
theorem Pn(a b:Bool):(Bool.rec false b a:Bool)=(a&&b):=by cases a<;>rfl
theorem anz(h:¬(lx docs a b).2=0):c9 docs a b=((0,0,[]),1)/\(lx docs a b).2=1:=by
 unfold lx at *;by_cases hf:dS docs a b=true;grind;grind[c9,eM,dS]
theorem anA(h:(lx docs a b).2=0):dS docs a b=true/\lx docs a b=(make docs a b,0):=by
 grind[lx]
theorem anB(h:a=b):c9 docs a b=((0,0,[]),1):=by
 grind[c9,eM]
theorem anC {docs:O}{a b:Int}(h:(lx docs a b).2=0)(di:¬a=b):c9 docs a b=((a,b,(lx docs a b).1),0):=by
 obtain⟨h1,h2⟩:=anA h;unfold c9 eM
 have hp:a<=b:=by
  simp_all[dS,B!,J!]
 grind
def vz(l:M Sg)(k:Nat):Bool:=decide ((sg l k).1=rowAt l k)&&oB (sg l k).1 (sg l k).2.1 (sg l k).2.2.1 (sg l k).2.2.2
variable {l:List Sg}
theorem anD(h:(64:Int)<l.length):false=rf l n:=by
 grind[rf]
theorem ati(h:¬(64:Int)<l.length):ym l 0:=⟨λi hi=>by omega,R! _,w!,λh=>by omega⟩
theorem Po(l:M Sg):rowAt l 0=0:=rfl
theorem YZ(l:M Sg)(k:Nat):rowAt l (k+1)=(sg l k).2.1:=by rfl
theorem Tj{k:Nat}(h:0<k):Cv l k=vz l k:=by
 grind[Cv,vz,rowAt]
theorem Pq:Cv l 0=oB (sg l 0).1 (sg l 0).2.1 (sg l 0).2.2.1 (sg l 0).2.2.2:=by simp[Cv]
theorem ajF{k:Nat}(hc:ym l k)(hk:(k:Int)<l.length)(h:vz l k=false):false=rf l n:=by
 unfold rf;by_cases h0:k=0;subst h0;unfold vz at h;rw[Po] at h;by_cases h1:(sg l 0).1=0
 have :(List.range l.length).all (Cv l)=false:=by
  rw[List.all_eq_false];exact⟨0,x!,by grind[Pq]⟩
 grind;grind
 have :(List.range l.length).all (Cv l)=false:=by
  rw[List.all_eq_false];exact⟨k,x!,by grind[Tj]⟩
 grind
theorem Ļ{k:Nat}(hc:ym l k)(hk:(k:Int)<l.length)(h:vz l k=true):ym l (k+1):=by
 refine⟨λi hi=>?_,w!,hc.2.2.1,λ_=>?_⟩;by_cases e:i=k;by_cases h0:i=0;unfold vz at h;grind[Pq];grind[Tj];exact hc.1 i w!;by_cases h0:k=0;subst h0;unfold vz at h;rw[Bool.and_eq_true,decide_eq_true_eq] at h;exact h.1;exact hc.2.2.2 w!
theorem ajG{k:Nat}(hc:ym l k)(hk:¬(k:Int)<l.length):decide (rowAt l k=n)=rf l n:=by
 obtain⟨h1,h2,h3,h4⟩:=hc;have JF:k=l.length:=by omega
 subst JF;unfold rf;by_cases h0:l.length=0;rw[if_pos h0,h0,Po,decide_eq_decide];omega;have e2:decide ((l.length:Int)<=64)=true:=decide_eq_true w!;have e3:decide ((sg l 0).1=0)=true:=decide_eq_true (h4 w!);simp_all[Bool.true_and,rowAt,if_neg]
theorem atj(h:kT d t=false): []=nu d t:=by grind[nu]
theorem atk(h:kT d t=true):small (List.getD d (Int.toNat (bJ d t)) ([],[])).2:=by
 obtain⟨h0,h1,_⟩:=MP h
 have hr:aQ d=true:=by
  grind[aQ,bJ]
 have:=ajE (d:=d) (k:=Int.toNat (bJ d t)) hr w!;grind[small,jD]
theorem Y0{k:Nat}(h:¬(sg l k).1=rowAt l k\/oB (sg l k).1 (sg l k).2.1 (sg l k).2.2.1 (sg l k).2.2.2=false):vz l k=false:=by
 grind[vz]
theorem ļ{k:Nat}(h:(sg l k).1=rowAt l k/\oB (sg l k).1 (sg l k).2.1 (sg l k).2.2.1 (sg l k).2.2.2=true):vz l k=true:=by
 grind[vz,decide_eq_true]
def zQ(e:bB):Bool:=decide ((200:Int)<e.1.length) || decide ((200:Int)<e.2.length)
def mT(d:M bB):Bool:=d.any zQ || decide ((100:Int)<d.length)
def Cw(d:M bB)(k:Nat):Prop:=(∀e∈d.take k,zQ e=false)/\k<=d.length
def sq(docs:O):Bool:=docs.any (λb=>decide ((2500:Int)<b.length)) || decide ((40:Int)<docs.length)
def Cx(docs:O)(k:Nat):Prop:=(∀b∈docs.take k,b.length<=2500)/\k<=docs.length
theorem aKP(d:M bB):Cw d 0:=⟨z!,R! _⟩
theorem take_one(l:M α)(k:Nat)(x:α)(hk:k<l.length):l.take (k+1)=l.take k++[l.getD k x]:=by
 simp_all
theorem anE{k:Nat}(h:Cw d k)(hk:(k:Int)<d.length)(he:zQ (d.getD k ([],[]))=false):Cw d (k+1):=by
 refine⟨λe hm=>?_,w!⟩;rw[take_one d k ([],[]) w!,List.mem_append] at hm;rcases hm with hm|hm;exact h.1 e hm;grind
theorem atl{k:Nat}(hk:(k:Int)<d.length)(he:zQ (d.getD k ([],[]))=true):true=mT d:=by
 grind[mT]
theorem atm{k:Nat}(h:Cw d k)(hk:¬(k:Int)<d.length):decide ((100:Int)<d.length)=mT d:=by
 unfold mT
 have :d.any zQ=false:=by
  rw[List.any_eq_false];intro e he;have:=h.1 e (by grind[List.take_of_length_le]);grind
 grind
theorem aKQ(d:O):Cx d 0:=⟨z!,R! _⟩
variable {d:List B8}
theorem anF{k:Nat}(h:Cx d k)(hk:(k:Int)<d.length)(he:¬(2500:Int)<(d.getD k []).length):Cx d (k+1):=by
 refine⟨λe hm=>?_,w!⟩;rw[take_one d k [] w!,List.mem_append] at hm;rcases hm with hm|hm;exact h.1 e hm;grind
theorem atn{k:Nat}(hk:(k:Int)<d.length)(he:(2500:Int)<(d.getD k []).length):true=sq d:=by
 grind[sq]
theorem ato{k:Nat}(h:Cx d k)(hk:¬(k:Int)<d.length):decide ((40:Int)<d.length)=sq d:=by
 unfold sq
 have :d.any (λb=>decide ((2500:Int)<b.length))=false:=by
  rw[List.any_eq_false];intro e he;have:=h.1 e (by grind[List.take_of_length_le]);grind
 grind
theorem rJ{t:Int}(h:eM docs f t=true):gJ docs f t:=by
 simp[eM,dS,Bool.and_eq_true,List.all_eq_true,decide_eq_true_eq] at h;obtain⟨⟨h1,h2,h3,h4,h5⟩,h6⟩:=h;exact⟨h3,h4,h5,w!,λd hd=>by grind⟩
theorem Y1(a b:Int)(d:M bB):zP a b d a b d=true:=by simp[zP]
variable {d:List bB}
theorem adF(h:eF a b d=true):tg a b d=((a,b,(d.length:Int)+1,pc d),0):=by grind[tg]
theorem zR(a b:Int)(d:M bB):RU a b d=(a,b,(d.length:Int)+1,pc d):=by simp[RU,fu,e9]
theorem kg(l:O):cJ (leaves l)=true:=by
 rw[cK];intro d hd;simp[leaves,g?] at hd;obtain⟨b,_,rfl⟩:=hd;rfl
theorem anG(h:eF a b d=true)(hp:aY d):oB a b ((d.length:Int)+1) (pc d)=true:=by
 have hw:ma a b=true:=by
  simp_all[eF,B!]
 have hr:(pc d).length=32:=uc (kg (fu d));unfold oB;rw[hw,hr];have:=hp.1;grind
theorem MQ:∀(l acc:U),∀W∈mW acc l,W≠ []
 |[],acc,W,hW=>by
   grind[mW]
 |x::l,acc,W,hW=>by
  simp[mW] at hW;split at hW;exact MQ l _ W hW;split at hW;exact MQ l _ W hW;rename_i h;rcases O!.1 hW with e|hW;subst e;intro e;rw[e] at h;exact h rfl;exact MQ l _ W hW
theorem Y2 {b:B8}(h:t∈aS b):isTerm t=true:=by
 rw[<-aji];simp[aS,g?] at h;obtain⟨W,hW,hs⟩:=h;have aq:=HW (decode b) [] z! W hW;have di:=MQ (decode b) [] W hW
 have hrW:∀c∈W,cu (aZ c)=true:=λc hc=>zF (oT b c (by
  grind))
 have hlen:t.length<=64:=by rw[<-hs];exact DE W [] z!
 obtain⟨p,hp,hpf,hpn⟩:∃p:U,(∀c∈p,c∈W)/\lY [] W=p.flatMap (λc=>il (aZ c))/\p≠ []:=by
  cases W with
  |nil=>grind
  |cons c w=>
   obtain⟨p,h1,h2⟩:=Cd w ([]++il (aZ c));have hl:(il (aZ c)).length<=4:=by grind[HY,Cb]
   refine⟨c::p,λx hx=>?_,?_,z!⟩;grind;grind[lY,List.length_nil]
 have hr:∀c∈p,cu (aZ c)=true:=λc hc=>hrW c (hp c hc)
 have Uh:t=(p.map aZ).flatMap enc:=by
  rw[<-hs];show lY [] W=_
  grind[List.flatMap_map,Cf,HY]
 have hd:decode t=p.map aZ:=by
  rw[Uh]
  exact Cc _ (λc hc=>by
   obtain⟨c',h',rfl⟩:=g?.1 hc;exact hr c' h')
 simp only[ĩ,B!,J!,B?,Ĩ,hd];refine⟨λc hc=>?_,?_,w!⟩;obtain⟨c',h',rfl⟩:=g?.1 hc;exact⟨Lt (aq c' (hp c' h')).1,HX c'⟩;have:=List.length_pos_iff.2 hpn;simp;omega
theorem wT{k:Nat}{i:Int}:i∈cx docs a t k↔a<=i/\i<a+(k:Int)/\wP (docs.getD i.toNat []) t=true:=by
 simp[cx,List.mem_map,List.mem_filter,List.mem_range];constructor;grind;rintro⟨h1,h2,h3⟩;refine⟨(i-a).toNat,⟨w!,?_⟩,w!⟩;grind
theorem Vw(docs:O)(a:Int)(t:B8)(k:Nat):(cx docs a t k).Pairwise (· < ·):=by
 refine List.pairwise_map.2 ?_;refine List.Pairwise.filter _ ?_;exact(List.pairwise_lt_range (n:=k)).imp λ{x y} h=>by omega
theorem ajH {l:U}(h:l.Pairwise (· < ·))(hb:∀x∈l,0<=x/\x<1000):bq l=true:=by
 rw[kC];intro i hi;rw[jC];have hm:=hb _ (bu l i 0 hi);refine⟨?_,hm.2⟩;cases i with
 |zero=>simp only[fL,Q!];omega
 |succ i=>
  rw[lM];have:=(List.pairwise_iff_getElem.1 h) i (i+1) w! hi w!;rw[E!,E!,C! hi,C! (show i<l.length by omega)];exact this
theorem DJ(docs:O)(a b:Int):(make docs a b).length=(cB docs a b).length:=by simp[make]
theorem Vx(h:i<(cB docs a b).length):fE (make docs a b) i=(cB docs a b).getD i []:=by
 unfold fE make;rw[List.getD_eq_getElem?_getD,List.getElem?_map,List.getElem?_eq_getElem h,List.getD_eq_getElem?_getD,List.getElem?_eq_getElem h];rfl
theorem Vy(h:i<(cB docs a b).length):jD (make docs a b) i=cx docs a ((cB docs a b).getD i []) (b-a).toNat:=by
 unfold jD make;rw[List.getD_eq_getElem?_getD,List.getElem?_map,List.getElem?_eq_getElem h,List.getD_eq_getElem?_getD,List.getElem?_eq_getElem h];rfl
theorem sP:t∈cB docs a b↔cx docs a t (b-a).toNat≠ []:=by
 grind[cB,jg,FU]
theorem Cy(hp:gJ docs a b):aQ (make docs a b)=true:=by
 rw[zN];intro i hi;rw[DJ] at hi;rw[vv,Vx hi,Vy hi];have hm:=bu (cB docs a b) i [] hi;have di:=sP.1 hm;have h1:=hp.1;have h3:=hp.2.2.1;have h4:=hp.2.2.2.1;refine⟨?_,?_,?_,?_⟩;by_cases h0:i=0;omega;right;rw[Vx w!];have hi2:vq (cB docs a b):=l6 _;have:=(List.pairwise_iff_getElem.1 hi2) (i-1) i w! hi w!;rw[YV,List.getD_eq_getElem?_getD,List.getD_eq_getElem?_getD,List.getElem?_eq_getElem hi,List.getElem?_eq_getElem (show i-1<(cB docs a b).length by omega)];simpa using this;grind;grind[ajH,Vw,wT];obtain⟨x,hx⟩:=List.exists_mem_of_ne_nil _ di;grind[wT,Y2,yD]
theorem Ľ(hp:gJ docs a b)(hn:(cB docs a b).length<=1048576):aY (make docs a b):=by
 refine⟨by grind[DJ],λe he=>?_⟩;simp[make,List.mem_map] at he;obtain⟨t,ht,rfl⟩:=he;obtain⟨x,hx⟩:=List.exists_mem_of_ne_nil _ (sP.1 ht);grind[Y2,yD,wT,Cm]
theorem anH(hp:gJ docs a b)(k9:a<b):eF a b (make docs a b)=true:=by
 have h1:=hp.1;have h2:=hp.2.2.1;have h3:=hp.2.2.2.1;unfold eF;rw[Cy hp]
 have hw:ma a b=true:=by
  unfold ma;simp;omega
 rw[hw,Bool.true_and,Bool.true_and,List.all_eq_true];intro i hi;rw[List.mem_range] at hi;have hr:=(vv _ _).1 ((zN _).1 (Cy hp) i hi);unfold Pm;rw[decide_eq_true_eq];have h:=(atg hr.2.2.1 hr.2.1 (a:=a) (b:=b)).2 ?_;omega;rw[DJ] at hi
 have hd:∀x∈jD (make docs a b) i,a<=x/\x<b:=λx hx=>by
  rw[Vy hi] at hx;have:=wT.1 hx;omega
 exact⟨(hd _ (bu _ 0 0 w!)).1,(hd _ (bu _ _ 0 w!)).2⟩
theorem Vz {n:Nat}(h:n<=64)(r:B8):first (num (n:Int)++r)=((n:Int),1,0):=by
 have e:num (n:Int)=[UInt8.ofNat n]:=HR n w!;have hn:(UInt8.ofNat n).toNat=n:=by grind[UInt8.toNat_ofNat']
 have hl:lead (num (n:Int)++r)=0:=by
  grind[lead,List.singleton_append,List.takeWhile,decide,decide_eq_false]
 grind[first,dO,List.take,UInt8.ofNat]
theorem ER {a:B8}(h:a.length<=64)(r:B8):aM (text a++r) 64=(a,1+(a.length:Int),0):=by
 have e:text a++r=num (a.length:Int)++(a++r):=by simp[text]
 have el:num (a.length:Int)=[UInt8.ofNat a.length]:=HR _ w!;have hf:=Vz (n:=a.length) h (a++r);unfold aM;rw[e,hf,if_neg z!,if_neg w!,if_neg x!];simp[el]
theorem anI {a:B8}(h:a.length<=64):(text a).length=1+a.length:=by
 grind[num,UInt8.ofNat,HR,text]
theorem ľ {b:B8}(h:(first b).2.2=0):num (first b).1=b.take (first b).2.1.toNat/\(first b).2.1<=b.length:=by
 unfold first at h |-
 split at h;cases h;rename_i h1;split at h;cases h;rename_i h2;split at h;cases h;rename_i h3;rw[W! h1,W! h2,W! h3];have q:lead b<=b.length:=List.Sublist.length_le (List.takeWhile_sublist _);refine⟨?_,by simp;omega⟩;have :num (dO (b.take (lead b+1)))=b.take (lead b+1):=Classical.byContradiction λe=>h3 (.inr e);congr 1
theorem anJ {a b c:B8}(h:eE a b c=true):bh (mH a b c)=((a,b,c),0):=by
 simp[eE,B!,J!] at h;rw[ajz];have h1:=ER (a:=a) w! (text b++c);have h2:=ER (a:=b) w! c;have l1:=anI (a:=a) w!;have l2:=anI (a:=b) w!;have hB:mH a b c=text a++(text b++c):=by simp[mH]
 have d1:(text a++(text b++c)).drop (1+(a.length:Int)).toNat=text b++c:=by
  rw[show(1+(a.length:Int)).toNat=(text a).length by omega];simp
 have d2:(text a++(text b++c)).drop (1+(a.length:Int)+(1+(b.length:Int))).toNat=c:=by
  rw[show(1+(a.length:Int)+(1+(b.length:Int))).toNat=(text a).length+(text b).length by omega,<-j?];simp
 unfold FO;rw[hB,h1,if_neg z!];simp only[d1,h2,d2];rw[if_neg z!,if_neg w!,if_neg w!]
abbrev aG:=Int×Int×M bB
def aA(l:M aG)(i:Nat):aG:=l.getD i (0,0,[])
def dT(d:M bB):O:=d.map (·.1)
def aBY(l:M aG):O:=l.flatMap λs=>dT s.2.2
def uT(l:M aG):O:=sorted (aBY l)
def wU(t:B8)(d:M bB):U:=(d.filter λe=>decide (e.1=t)).flatMap (·.2)
def JG(l:M aG)(t:B8):U:=l.flatMap λs=>wU t s.2.2
def VA(l:M aG):M bB:=(uT l).map λt=>(t,JG l t)
def vA(s:aG):Bool:=eF s.1 s.2.1 s.2.2
def anK(l:M aG)(i:Nat):Bool:=decide ((aA l (i+1)).1=(aA l i).2.1)
def VB(l:M aG):Bool:=(List.range (l.length-1)).all (anK l)
def anL(l:M aG):Prop:=l.length<=1000/\∀s∈l,aY s.2.2
def adG(l:M aG):(Int×Int×M bB)×Int:=
 if l.length=0 then((0,0,[]),1)
 else if l.all vA=false then((0,0,[]),1)
 else if VB l=false then((0,0,[]),7)
 else(((aA l 0).1,(aA l (l.length-1)).2.1,VA l),0)
theorem VC(d:M bB):(dT d).length=d.length:=by simp[dT]
theorem VD(d:M bB)(i:Nat):(dT d).getD i []=fE d i:=by
 grind[dT,fE]
theorem ajI {a b:B8}(h:Ms a b=false):Op.bytesLess b a=true:=by
 grind[Ms,Bool.or_eq_false_iff,decide_eq_false_iff_not,pa,absurd]
theorem Cz(h:aQ d=true):vq (dT d):=by
 have hs:∀n i,i<n->n<d.length->Op.bytesLess (fE d i) (fE d n)=true:=by
  intro n;induction n with
  |zero=>omega
  |succ n ih=>
   grind[vv,zN,ajI,mz]
 unfold vq;grind[List.pairwise_iff_getElem,dT,fE,VD,List.getElem?_eq_getElem,VC]
theorem anM(l:M aG):vq (uT l):=l6 _
theorem zS(h:t∉dT d):wU t d=[]:=by
 have :d.filter (λe=>decide (e.1=t))=[]:=by
  rw[List.filter_eq_nil_iff];intro e he;simp;intro e2;exact h (by rw[<-e2];exact g?.2 ⟨e,he,rfl⟩)
 grind[wU]
theorem DK:∀ {d:M bB},vq (dT d)->∀ {i:Nat},i<d.length->wU (fE d i) d=jD d i
 |[],_,i,hi=>by rfl
 |e::d,h,0,_=>by
  have h1:=List.pairwise_cons.1 h;have hn:e.1∉dT d:=λhm=>by have:=h1.1 _ hm;grind[eI]
  have:=zS hn;grind[wU,fE,jD]
 |e::d,h,i+1,hi=>by
  have h1:=h?.1 h
  have hm:fE d i∈dT d:=by
   rw[<-VD,List.getD_eq_getElem?_getD,List.getElem?_eq_getElem (by grind[VC])];grind
  have di:¬e.1=fE d i:=λhe=>by have h5:=h1.1 _ hm;grind[eI]
  have ih:=DK (d:=d) h1.2 (i:=i) x!;have e1:fE (e::d) (i+1)=fE d i:=rfl;have e2:jD (e::d) (i+1)=jD d i:=rfl;simp_all[wU,List.filter_cons,decide_eq_true_eq,if_neg]
variable {l x:List aG}
theorem DL(h:i<l.length):aA l i∈l:=bu l i _ h
theorem Y3(h:aQ d=true)(t:B8):(wU t d).length<=1000:=by
 by_cases hm:t∈dT d;obtain⟨i,hi,e⟩:=List.mem_iff_getElem.1 hm;have e2:fE d i=t:=by rw[<-VD,E!,C! hi];exact e
 grind[VC,DK,Cz,od,vw];grind[zS]
abbrev Sp:=Int×Int
def mc(l:M Sp)(i:Nat):Sp:=l.getD i (0,0)
def lg(n:Int):Int:=(Nat.log2 n.toNat:Nat)
def aEh(a b:Int):Int:=if a<0\/b<0\/b<=a then -1 else lg (b-a)
def anN(l:M Sp)(i:Nat):Int:=aEh (mc l i).1 (mc l i).2
def JH(l:M Sp):Nat->Int×Bool
 |0=>(0,false)
 |k+1=>if anN l k<=anN l (k+1) then((k:Int),true) else JH l k
def zT(l:M Sp):Int×Bool:=JH l (l.length-1)
def H5(l:M Sp)(i:Nat):M Sp:=l.take i++[((mc l i).1,(mc l (i+1)).2)]++l.drop (i+2)
def yE:Nat->M Sp->M Sp
 |0,l=>l
 |n+1,l=>if(zT l).2 then yE n (H5 l (zT l).1.toNat) else l
def yF(l:M Sp):M Sp:=yE l.length l
def fM(l:M aG):M Sp:=l.map λs=>(s.1,s.2.1)
theorem adH(l:M Sp):∀k,0<=(JH l k).1/\((JH l k).2=true->(JH l k).1<k)
 |0=>⟨Int.le_refl _,λh=>by cases h⟩
 |k+1=>by
  have:=adH l k;grind[JH]
theorem anO {l:M Sp}(h:(zT l).2=true):0<=(zT l).1/\(zT l).1+1<l.length:=by
 have:=adH l (l.length-1);grind[zT]
theorem ajJ {l:M Sp}(h:i+1<l.length):(H5 l i).length+1=l.length:=by
 grind[H5,List.length_append,List.length_take,List.length_drop,List.length_singleton]
def bK(docs:O)(l:M Sp):M aG:=l.map λs=>(s.1,s.2,make docs s.1 s.2)
def dU(l:M aG)(i:Nat):Int:=if i=0 then 0 else(aA l (i-1)).2.1
def jE(docs:O)(l:M aG)(i:Nat):Bool:=
 decide ((aA l i).1=dU l i)&&(eM docs (aA l i).1 (aA l i).2.1&&decide ((aA l i).2.2=make docs (aA l i).1 (aA l i).2.1))
def bQ(docs:O)(l:M aG):Bool:=dS docs 0 0&&(decide ((l.length:Int)<=64)&&(List.range l.length).all (jE docs l))
def ak(docs:O)(l:M aG):O×M aG:=if bQ docs l then(docs,l) else([],[])
def ec(l:M aG):Int:=dU l l.length
def jF(docs:O)(l:M aG):Int:=ec (ak docs l).2
def fW(docs:O)(l:M aG)(doc:B8):(O×M aG)×Int:=
 if(2000:Int)<doc.length then(ak docs l,1)
 else if(1000:Int)<=(ak docs l).1.length then(ak docs l,3)
 else(((ak docs l).1++[doc],(ak docs l).2),0)
def fy(docs:O)(l:M aG):(O×M aG)×Int:=
 if jF docs l=(ak docs l).1.length then(ak docs l,5)
 else if(64:Int)<=(ak docs l).2.length then(ak docs l,3)
 else(((ak docs l).1,(ak docs l).2++[(jF docs l,((ak docs l).1.length:Int),make (ak docs l).1 (jF docs l) (ak docs l).1.length)]),0)
def Pt(l:M aG)(i m:Nat)(s:aG):M aG:=l.take i++[s]++l.drop (i+m)
def ES(docs:O)(l:M aG)(i m:Nat):aG:=((aA l i).1,(aA l (i+m-1)).2.1,make docs (aA l i).1 (aA l (i+m-1)).2.1)
def adI(l:M aG)(i m:Int):Bool:=decide (m<2) || (decide (i<0) || (decide ((l.length:Int)<m) || decide ((l.length:Int)-m<i)))
def adJ(docs:O)(l:M aG)(i m:Int):(O×M aG)×Int:=
 if adI (ak docs l).2 i m then(ak docs l,1)
 else(((ak docs l).1,Pt (ak docs l).2 i.toNat m.toNat (ES (ak docs l).1 (ak docs l).2 i.toNat m.toNat)),0)
def Pu(docs:O)(l:M aG):O×M aG:=((ak docs l).1,bK (ak docs l).1 (yF (fM (ak docs l).2)))
def Pv(s:aG):Sg:=RU s.1 s.2.1 s.2.2
def bV(docs:O)(l:M aG):M Sg:=(ak docs l).2.map Pv
def vB(docs:O)(l:M aG)(k:Nat):Prop:=dS docs 0 0=true/\l.length<=64/\(∀i,i<k->jE docs l i=true)/\k<=l.length
def gE(docs:O):Int->M Sp->Bool
 |_,[]=>true
 |a,s::r=>decide (s.1=a)&&(eM docs s.1 s.2&&gE docs s.2 r)
def eV:Int->M Sp->Int
 |a,[]=>a
 |_,s::r=>eV s.2 r
theorem rK(docs:O):∀(a:Int) (l m:M Sp),gE docs a (l++m)=(gE docs a l&&gE docs (eV a l) m)
 |a,[],m=>by rfl
 |a,s::r,m=>by simp[U?,gE,eV];rw[rK docs s.2 r m,Bool.and_assoc,Bool.and_assoc]
theorem nv:∀(a:Int) (l m:M Sp),eV a (l++m)=eV (eV a l) m
 |_,[],_=>rfl
 |_,s::r,m=>by exact nv s.2 r m
theorem ux(h:eM docs a b=true):a<b/\0<=a/\b<=docs.length/\docs.length<=1000/\∀d∈docs,d.length<=2000:=by
 simp[eM,dS,Bool.and_eq_true,List.all_eq_true,decide_eq_true_eq] at h;grind
theorem DN(h:dS docs 0 0=true)(h1:0<=a)(h2:a<b)(h3:b<=docs.length):eM docs a b=true:=by
 simp[eM,dS,Bool.and_eq_true,List.all_eq_true,decide_eq_true_eq] at h |-;grind
theorem anP(h:eM docs a b=true):dS docs 0 0=true:=by
 simp_all[eM,dS,B!,B?,J!,Int.le_refl]
theorem H6 {docs:O}:∀ {l:M Sp} {a:Int},gE docs a l=true->a<=eV a l/\(l≠ []->eM docs a (eV a l)=true)/\(eV a l<=docs.length\/l=[])
 |[],a,_=>⟨Int.le_refl _,λh=>absurd rfl h,.inr rfl⟩
 |s::r,a,h=>by
  simp[gE,Bool.and_eq_true,decide_eq_true_eq] at h;obtain⟨h1,h2,h3⟩:=h;have ih:=H6 h3;have h4:=ux h2;grind[eV,DN,anP]
theorem uy {docs:O}:∀ {l:M Sp} {a:Int},gE docs a l=true->∀s∈l,eM docs s.1 s.2=true
 |[],_,_,s,hs=>by grind
 |t::r,a,h,s,hs=>by
  simp[gE,B!,J!] at h;rcases O!.1 hs with rfl|hs;exact h.2.1;exact uy h.2.2 s hs
theorem Pw:∀(l:M aG),eV 0 (fM l)=ec l:=by
 intro l;unfold ec dU;by_cases h:l.length=0;have :l=[]:=List.eq_nil_of_length_eq_zero h;subst this;rfl;obtain⟨m,s,rfl⟩:∃m s,l=m++[s]:=⟨l.dropLast,l.getLast x!,(List.dropLast_concat_getLast _).symm⟩
 have e:aA (m++[s]) ((m++[s]).length-1)=s:=by
  grind[aA,List.length_append,List.length_singleton,Nat.add_sub_cancel]
 rw[e];simp[fM,l?,K?,List.map_nil];rw[nv];rfl
theorem xB(docs:O)(l:M Sp):fM (bK docs l)=l:=by
 simp[fM,bK,v?];have :((λ(s:aG)=>(s.1,s.2.1))∘λ(s:Sp)=>((s.1,s.2,make docs s.1 s.2):aG))=id:=by rfl
 simp_all
theorem wV(docs:O)(l m:M Sp):bK docs (l++m)=bK docs l++bK docs m:=by simp[bK]
theorem Px(l m:M aG):fM (l++m)=fM l++fM m:=by simp[fM]
theorem zU(l:M aG):(fM l).length=l.length:=by simp[fM]
theorem nx(docs:O)(l:M Sp):(bK docs l).length=l.length:=by simp[bK]
theorem FV {m:M aG}(h:i<l.length):aA (l++m) i=aA l i:=by
 grind[aA,List.getElem?_append_left]
theorem Ŀ(l:M aG)(s:aG):aA (l++[s]) l.length=s:=by
 simp_all[aA,E!,List.getElem?_append_right,P!,Nat.sub_self]
theorem Y4 {docs:O}:∀(n:Nat) (l:M aG),l.length=n->((∀i,i<l.length->jE docs l i=true)↔gE docs 0 (fM l)=true/\l=bK docs (fM l))
 |0,l,h=>by
  have :l=[]:=U! h;subst this;exact⟨λ_=>⟨rfl,rfl⟩,λ_ i hi=>by omega⟩
 |n+1,l,h=>by
  obtain⟨m,s,rfl⟩:∃m s,l=m++[s]:=⟨l.dropLast,l.getLast x!,(List.dropLast_concat_getLast _).symm⟩;have hm:m.length=n:=by grind
  have ih:=Y4 (docs:=docs) n m hm
  have e1:∀i,i<m.length->jE docs (m++[s]) i=jE docs m i:=λi hi=>by
   have h2:dU (m++[s]) i=dU m i:=by
    unfold dU;by_cases h0:i=0;omega;rw[if_neg h0,if_neg h0,FV w!]
   grind[jE,FV]
  have e2:dU (m++[s]) m.length=ec m:=by
   unfold ec dU;by_cases h0:m.length=0;omega;rw[if_neg h0,if_neg h0,FV w!]
  have e3:jE docs (m++[s]) m.length=true↔s.1=ec m/\eM docs s.1 s.2.1=true/\s.2.2=make docs s.1 s.2.1:=by
   grind[jE,Ŀ]
  have e4:gE docs 0 (fM (m++[s]))=true↔gE docs 0 (fM m)=true/\s.1=ec m/\eM docs s.1 s.2.1=true:=by
   rw[Px,rK,Pw,B!];simp_all[fM,K?,List.map_nil,gE,Bool.and_true,B!,J!]
  have e5:m++[s]=bK docs (fM (m++[s]))↔m=bK docs (fM m)/\s.2.2=make docs s.1 s.2.1:=by
   rw[Px,wV];constructor;intro h;have h5:=List.append_inj h (by rw[nx,zU]);have h6:=h5.2;simp only[bK,fM,List.map_cons,List.map_nil,List.cons.injEq,and_true] at h6;grind;rintro⟨h5,h6⟩;congr 1
   simp only[bK,fM,List.map_cons,List.map_nil,List.cons.injEq,and_true];grind
  grind
theorem H7:bQ docs l=true↔dS docs 0 0=true/\l.length<=64/\gE docs 0 (fM l)=true/\l=bK docs (fM l):=by
 unfold bQ;rw[Bool.and_eq_true,Bool.and_eq_true,decide_eq_true_eq,List.all_eq_true,<-Y4 (docs:=docs) l.length l rfl];grind
theorem atp:bQ [] []=true:=by decide
theorem Y5(docs:O)(l:M aG):bQ (ak docs l).1 (ak docs l).2=true:=by
 unfold ak;by_cases h:bQ docs l=true;grind;simp_all[if_neg,atp]
theorem rL(h:bQ docs l=true):ak docs l=(docs,l):=by simp_all[ak,Q!]
theorem aEi{l:M Sp}(h1:dS docs 0 0=true)(h2:l.length<=64)(h3:gE docs 0 l=true):bQ docs (bK docs l)=true:=
 H7.2 ⟨h1,by grind[nx],by grind[xB],by rw[xB]⟩
theorem JI:∀(l acc:U),2*(mW acc l).length<=l.length+1+(if acc.isEmpty then 0 else 1)
 |[],acc=>by grind[mW]
 |c::l,acc=>by
  simp[mW,List.length_cons];by_cases hc:gG c=true;have:=JI l (acc++[c]);grind;have:=JI l [];grind
theorem Y6(b:B8):2*(aS b).length<=b.length+1:=by
 have h:=JI (decode b) [];grind[sK,aS,List.length_map]
theorem Tk {docs:O}(h:∀d∈docs,d.length<=2000)(a:Int):∀k,(b9 docs a k).length<=1000*k
 |0=>by simp[b9]
 |k+1=>by
  rw[<-wR,List.length_append];have:=Tk h a k;have h2:=aX (aS (docs.getD (Int.toNat (a+(k:Int))) []));have h3:=Y6 (docs.getD (Int.toNat (a+(k:Int))) []);grind
theorem Y7(h:eM docs a b=true):aY (make docs a b):=by
 have hg:=ux h;grind[Ľ,rJ,Tk,aX,b9,cB]
theorem ŀ(h:a<=b)(h2:b<=c):cx docs a t (b-a).toNat++cx docs b t (c-b).toNat=cx docs a t (c-a).toNat:=by
 have e:List.range (c-a).toNat=List.range (b-a).toNat++(List.range (c-b).toNat).map ((b-a).toNat+ ·):=by
  rw[<-List.range_add];congr 1;omega
 simp only[cx];rw[e,List.filter_append,l?,List.filter_map,v?]
 have hq:((λ(i:Nat)=>wP (docs.getD (a+(i:Int)).toNat []) t)∘λx=>(b-a).toNat+x)=λ(i:Nat)=>wP (docs.getD (b+(i:Int)).toNat []) t:=by
  funext i;simp only[Function.comp];rw[show(a+(((b-a).toNat+i:Nat):Int))=b+(i:Int) by omega]
 rw[hq];simp;omega
theorem Y8(docs:O)(a b:Int):dT (make docs a b)=cB docs a b:=by
 simp[dT,make,v?];have :((λ(e:bB)=>e.1)∘λt=>((t,cx docs a t (b-a).toNat):bB))=id:=by rfl
 simp_all
theorem H9(hp:gJ docs a b)(t:B8):wU t (make docs a b)=cx docs a t (b-a).toNat:=by
 by_cases hm:t∈cB docs a b;obtain⟨i,hi,e⟩:=List.mem_iff_getElem.1 hm;have e3:fE (make docs a b) i=t:=by grind[Vx]
 grind[DK,Cz,Cy,DJ,Vy];grind[zS,Y8,sP]
theorem CA {docs:O}{t:B8}:∀ {m:M Sp} {a:Int},gE docs a m=true->JG (bK docs m) t=cx docs a t (eV a m-a).toNat
 |[],a,_=>by grind[JG,bK,eV,cx]
 |s::r,a,h=>by
  simp[gE,B!,J!] at h;obtain⟨h1,h2,h3⟩:=h;have ih:=CA (t:=t) h3;have h4:=ux h2;have h5:=H6 h3;simp[JG,bK,K?,List.flatMap_cons,eV] at ih |-;rw[ih,H9 (rJ h2),<-h1];exact ŀ w! h5.1
theorem atq:t∈uT l↔∃s∈l,t∈dT s.2.2:=by
 rw[uT,jg,aBY,List.mem_flatMap]
variable {m S:List Sp}
theorem Ł(h:gE docs a m=true)(hm:m≠ []):VA (bK docs m)=make docs a (eV a m):=by
 have hK:uT (bK docs m)=cB docs a (eV a m):=by
  refine zK _ _ (anM _) (l6 _) λt=>?_;rw[sP,<-CA h,atq];constructor;rintro⟨s,hs,ht⟩ he;simp only[JG,List.flatMap_eq_nil_iff] at he;have h1:=he s hs;simp only[bK,List.mem_map] at hs;obtain⟨p,hp,rfl⟩:=hs;grind[Y8,H9,rJ,uy,sP];intro di;obtain⟨x,hx⟩:=List.exists_mem_of_ne_nil _ di;grind[JG,dT,zS]
 grind[VA,make,List.map_congr_left,CA]
theorem zV(h:gE docs a m=true)(hm:m≠ []):(mc m 0).1=a:=by
 cases m with
 |nil=>grind
 |cons s r=>
  simp[gE,B!,J!] at h;exact h.1
theorem Ia:∀(m:M Sp) (a:Int),m≠ []->eV a m=(mc m (m.length-1)).2
 |[],_,h=>absurd rfl h
 |[s],a,_=>rfl
 |s::t::r,a,_=>by
  have:=Ia (t::r) s.2 z!;simp only[eV,N?,mc] at this |-;rw[this];rfl
theorem zW(docs:O)(m:M Sp)(i:Nat)(h:i<m.length):aA (bK docs m) i=((mc m i).1,(mc m i).2,make docs (mc m i).1 (mc m i).2):=by
 simp[aA,bK,mc,E!,E?,C! h,Option.map_some,Option.getD_some]
theorem FW {docs:O}:∀ {m:M Sp} {a:Int},gE docs a m=true->∀i,i+1<m.length->(mc m (i+1)).1=(mc m i).2
 |[],_,_,i,hi=>by rfl
 |s::r,a,h,0,hi=>by
  simp[gE,Bool.and_eq_true,decide_eq_true_eq] at h;have :r≠ []:=by grind
  exact zV h.2.2 this
 |s::r,a,h,i+1,hi=>by
  simp[gE,Bool.and_eq_true,decide_eq_true_eq] at h;exact FW h.2.2 i x!
theorem anQ(h:gE docs a m=true)(hl:m.length<=1000):anL (bK docs m):=by
 refine⟨by grind[nx],λs hs=>?_⟩;simp only[bK,List.mem_map] at hs;obtain⟨p,hp,rfl⟩:=hs;grind[Y7,uy]
theorem LD(h:gE docs a m=true):∀s∈bK docs m,vA s=true:=by
 intro s hs;simp only[bK,g?] at hs;obtain⟨p,hp,rfl⟩:=hs;have h1:=uy h p hp;exact anH (rJ h1) (ux h1).1
theorem anR(h:gE docs a m=true)(hm:m≠ []):adG (bK docs m)=((a,eV a m,make docs a (eV a m)),0):=by
 have hl:0<m.length:=List.length_pos_iff.2 hm;unfold adG;rw[nx,if_neg w!];have h1:(bK docs m).all vA=true:=List.all_eq_true.2 (LD h);rw[h1,if_neg (by decide)]
 have h2:VB (bK docs m)=true:=by
  unfold VB;rw[List.all_eq_true];intro i hi;rw[List.mem_range,nx] at hi;simp[anK,decide_eq_true_eq];grind[zW,FW]
 rw[h2,W! (by decide),zW _ _ _ hl,zW _ _ _ w!,zV h hm,<-Ia m a hm,Ł h hm]
variable {m:Nat}
theorem Ib(h:gE docs 0 S=true)(hm:0<m)(hi:i+m<=S.length):
  gE docs (mc S i).1 ((S.drop i).take m)=true/\eV (mc S i).1 ((S.drop i).take m)=(mc S (i+m-1)).2/\(S.drop i).take m≠ []/\
  gE docs 0 (S.take i++[((mc S i).1,(mc S (i+m-1)).2)]++S.drop (i+m))=true/\eV 0 (S.take i++[((mc S i).1,(mc S (i+m-1)).2)]++S.drop (i+m))=eV 0 S:=by
 have e:S=S.take i++((S.drop i).take m++S.drop (i+m)):=by
  rw[<-j?,R?,R?]
 have hl:((S.drop i).take m).length=m:=by rw[Y!,I?];omega
 have di:(S.drop i).take m≠ []:=by intro e;rw[e] at hl;simp at hl;omega
 have h1:=h;rw[e,rK,rK,B!,B!] at h1;obtain⟨h2,h3,h4⟩:=h1
 have ef:(mc ((S.drop i).take m) 0)=mc S i:=by
  simp[mc,E!];rw[List.getElem?_take_of_lt hm,List.getElem?_drop];rfl
 have el:(mc ((S.drop i).take m) (m-1))=mc S (i+m-1):=by
  simp[mc,E!];rw[List.getElem?_take_of_lt w!,List.getElem?_drop,show i+(m-1)=i+m-1 by omega]
 have h5:=zV h3 di;rw[ef] at h5;have h6:=Ia _ (eV 0 (S.take i)) di;rw[hl,el] at h6;rw[<-h5] at h3 h4 h6;have h7:=(H6 h3).2.1 di;rw[h6] at h7 h4;refine⟨h3,h6,di,?_,?_⟩;rw[rK,rK,h2];simp[gE,nv,eV,h4,<-h5,h7,Bool.and_true,decide_true];conv=>rhs;rw[e,nv,nv]
 rw[nv,nv];simp[eV];rw[<-h5,h6]
theorem zX(docs:O)(l:M Sp)(i:Nat):(bK docs l).take i=bK docs (l.take i):=by simp[bK,List.map_take]
theorem zY(docs:O)(l:M Sp)(i:Nat):(bK docs l).drop i=bK docs (l.drop i):=by simp[bK,List.map_drop]
theorem ł(docs:O)(hm:0<m)(hi:i+m<=S.length):
  Pt (bK docs S) i m (ES docs (bK docs S) i m)=bK docs (S.take i++[((mc S i).1,(mc S (i+m-1)).2)]++S.drop (i+m)):=by
 unfold Pt ES;rw[zX,zY,zW _ _ _ w!,zW _ _ _ w!,wV,wV];rfl
theorem anS(h:gE docs 0 S=true)(hm:0<m)(hi:i+m<=S.length):
  adG (((bK docs S).drop i).take m)=(ES docs (bK docs S) i m,0):=by
 have hc:=Ib h hm hi;grind[zY,zX,anR,ES,zW]
theorem anT(h:gE docs 0 S=true)(hm:0<m)(hi:i+m<=S.length)(hl:S.length<=1000):
  anL (((bK docs S).drop i).take m):=by
 have hc:=Ib h hm hi;grind[zY,zX,anQ,List.length_take,List.length_drop]
theorem ajK(h:gE docs 0 S=true)(hi:i+1<S.length):gE docs 0 (H5 S i)=true/\eV 0 (H5 S i)=eV 0 S:=by
 have hc:=Ib (m:=2) h w! (by omega :i+2<=S.length);exact⟨hc.2.2.2.1,hc.2.2.2.2⟩
theorem LF {docs:O}:∀(n:Nat) {S:M Sp},gE docs 0 S=true->gE docs 0 (yE n S)=true/\eV 0 (yE n S)=eV 0 S/\(yE n S).length<=S.length
 |0,S,h=>⟨h,rfl,P! _⟩
 |n+1,S,h=>by
  simp[yE];by_cases hb:(zT S).2=true;rw[if_pos hb];have h1:=anO hb;have h2:=ajK h (i:=(zT S).1.toNat) w!;have h3:=LF n h2.1;have h4:=ajJ (l:=S) (i:=(zT S).1.toNat) w!;exact⟨h3.1,by rw[h3.2.1,h2.2],w!⟩;grind
abbrev Ń:=O×M aG
abbrev Py:=Int×Int×Int×B8
def FX(docs:O)(l:M aG)(a b c:Int)(d:B8):Ń×Int:=
 if a=0 then fW docs l d else if a=1 then fy docs l else if a=2 then adJ docs l b c else(Pu docs l,0)
def Y9(l:M Py)(i:Nat):Py:=l.getD i (0,0,0,[])
def MS(x:Ń)(l:M Py):Nat->Ń
 |0=>x
 |k+1=>if(2500:Int)<(Y9 l k).2.2.2.length then MS x l k else(FX (MS x l k).1 (MS x l k).2 (Y9 l k).1 (Y9 l k).2.1 (Y9 l k).2.2.1 (Y9 l k).2.2.2).1
def adK(l:M Py):Ń:=MS ([],[]) l (min l.length 40)
structure RI (docs:List B8) (l:List aG) (S:List Sp):Prop where
 fair:dS docs 0 0=true
 le:S.length<=64
 row:gE docs 0 S=true
 eq:l=bK docs S
theorem RI.right(h:RI docs l S):bQ docs l=true:=by
 rw[h.eq];exact aEi h.fair h.le h.row
theorem RI.of(h:bQ docs l=true):RI docs l (fM l):=by
 have:=H7.1 h;exact⟨this.1,by grind[zU],this.2.2.1,this.2.2.2⟩
theorem Ic(docs:O)(l:M aG):RI (ak docs l).1 (ak docs l).2 (fM (ak docs l).2):=RI.of (Y5 docs l)
theorem RI.Za(h:RI docs l S):ec l=eV 0 S:=by
 rw[<-Pw,h.eq,xB]
theorem RI.bd(h:RI docs l S):0<=ec l/\ec l<=docs.length/\docs.length<=1000/\l.length=S.length:=by
 have h1:=H6 h.row;rw[h.Za]
 have h2:docs.length<=1000:=by
  have:=h.fair;simp[dS,B!,J!] at this;omega
 refine⟨h1.1,?_,h2,by rw[h.eq,nx]⟩;grind[eV]
theorem RI.flush(h:RI docs l S)(h1:¬ec l=docs.length)(h2:¬(64:Int)<=l.length):
  RI docs (l++[(ec l,(docs.length:Int),make docs (ec l) docs.length)]) (S++[(ec l,(docs.length:Int))])/\eM docs (ec l) docs.length=true:=by
 have hb:=h.bd;have hf:=DN h.fair (a:=ec l) (b:=docs.length) hb.1 w! w!;refine⟨⟨h.fair,x!,?_,?_⟩,hf⟩;rw[rK,h.row,<-h.Za];simp_all[gE,decide_true,Bool.and_true]
 rw[wV,<-h.eq];rfl
theorem anU{i m:Int}(h:adI l i m=false):2<=m/\0<=i/\i+m<=l.length/\i.toNat+m.toNat<=l.length/\0<m.toNat:=by
 grind[adI,Bool.or_eq_false_iff,decide_eq_false_iff_not]
theorem RI.cut(h:RI docs l S)(hm:0<m)(hi:i+m<=l.length):
  RI docs (Pt l i m (ES docs l i m)) (S.take i++[((mc S i).1,(mc S (i+m-1)).2)]++S.drop (i+m))/\adG ((l.drop i).take m)=(ES docs l i m,0)/\anL ((l.drop i).take m)/\(Pt l i m (ES docs l i m)).length+m=l.length+1/\ec (Pt l i m (ES docs l i m))=ec l:=by
 have hb:=h.bd;have hc:=Ib h.row hm (by omega :i+m<=S.length)
 have hl:(S.take i++[((mc S i).1,(mc S (i+m-1)).2)]++S.drop (i+m)).length+m=S.length+1:=by
  grind
 have hle:=h.le;have e:=ł docs hm (by omega :i+m<=S.length)
 have R:RI docs (Pt l i m (ES docs l i m)) (S.take i++[((mc S i).1,(mc S (i+m-1)).2)]++S.drop (i+m)):=by
  rw[h.eq,e];exact⟨h.fair,w!,hc.2.2.2.1,rfl⟩
 refine⟨R,?_,?_,?_,?_⟩;rw[h.eq];exact anS h.row hm w!;rw[h.eq];exact anT h.row hm w! w!;have:=R.bd.2.2.2;omega;rw[R.Za,h.Za,hc.2.2.2.2]
theorem RI.settle(h:RI docs l S):RI docs (bK docs (yF S)) (yF S)/\eV 0 (yF S)=eV 0 S/\(yF S).length<=S.length:=by
 have hs:=LF S.length h.row;have hle:=h.le;exact⟨⟨h.fair,by grind[yF],hs.1,rfl⟩,hs.2.1,hs.2.2⟩
theorem keeps(h:bQ docs l=true)(b c:Int)(d:B8)(h0:a≠0):
  (FX docs l a b c d).1.1=docs/\(a=1->ec l<=ec (FX docs l a b c d).1.2/\((64:Int)<=l.length\/ec (FX docs l a b c d).1.2=docs.length))/\
  (a≠1->ec (FX docs l a b c d).1.2=ec l/\(FX docs l a b c d).1.2.length<=l.length):=by
 have hg:=rL h;have R:=RI.of h;have Fe:=R.bd;unfold FX;rw[if_neg h0];by_cases h1:a=1;unfold fy jF;by_cases e1:ec l=(docs.length:Int);grind;by_cases e2:(64:Int)<=l.length;grind;have:=(R.flush e1 e2).1.Za
 have h3:ec (l++[(ec l,(docs.length:Int),make docs (ec l) docs.length)])=docs.length:=by
  rw[this,nv];rfl
 grind;rw[if_neg h1];by_cases h2:a=2;unfold adJ;by_cases hb:adI l b c=true;grind;have hb:=anU (by simpa using hb);have hc:=R.cut hb.2.2.2.2 hb.2.2.2.1;grind;rw[if_neg h2];have hs:=R.settle;refine⟨by grind[Pu],λh=>absurd h h1,λ_=>?_⟩;simp[Pu,hg];refine⟨by rw[hs.1.Za,hs.2.1,R.Za],?_⟩;grind[nx,zU]
def gL(docs:O)(l:M aG):Nat:=(ak docs l).2.length
def pL(l:M Py):Nat:=(adK l).2.length
def pD(l:M Py):Nat:=(adK l).1.length
def oU(l:M aG)(i:Nat):Nat:=(aA l i).2.2.length
def fX(l:M α)(k:Nat):Prop:=k<=l.length
def JJ(a b:U):Bool:=decide (a=b)
def Ie(a b:U)(k:Nat):Prop:=a.length=b.length/\a.take k=b.take k/\k<=a.length
def CB(x1:B8)(x2:U)(y1:B8)(y2:U):Bool:=decide (x1=y1)&&decide (x2=y2)
def Pz(docs:O)(l:M aG)(k:Nat):Prop:=docs.length<=1000/\l.length<=64/\qD docs k
def wW(docs:O)(l:M aG):Prop:=docs.length<=1000000/\l.length<=1000000/\(∀b∈docs,small b)/\∀s∈l,small s.2.2/\∀e∈s.2.2,small e.2
def dX(z:α)(l:M α)(k:Nat):M α:=l.take k++List.replicate (l.length-k) z
def wX(x r:M aG)(i j:Nat):Prop:=i<x.length/\j<=(aA x i).2.2.length/\r.length=x.length/\∀d,r.set i ((aA r i).1,(aA r i).2.1,d)=(dX (0,0,[]) x i).set i ((aA x i).1,(aA x i).2.1,d)
def anV(docs:O)(l:M Sp):Prop:=l.length<=1000000/\∀s∈l,gJ docs s.1 s.2
def fv(docs:O)(l:M aG)(k:Nat):M Sg:=(bV docs l).take k
def sr(docs:O)(l:M aG):Bool:=l.any (λs=>mT s.2.2) || (sq docs || decide ((100:Int)<l.length))
def CC(l:M aG)(k:Nat):Prop:=(∀s∈l.take k,mT s.2.2=false)/\k<=l.length
theorem Zb {s:aG}(h:vA s=true):aQ s.2.2=true:=by
 simp_all[vA,eF,B!]
theorem anW{a b:M α}(h:(a.length:Int)=b.length):a.length=b.length/\a.take 0=b.take 0/\0<=a.length:=⟨w!,z!,R! _⟩
theorem Tl{a b:M α}(z:α){k:Nat}(h:a.length=b.length/\a.take k=b.take k/\k<=a.length)(hk:(k:Int)<a.length)(he:a.getD k z=b.getD k z):a.length=b.length/\a.take (k+1)=b.take (k+1)/\k+1<=a.length:=by
 grind[aw]
theorem Zc{a b:M α}{k:Nat}(h:a.length=b.length/\a.take k=b.take k/\k<=a.length)(hk:¬(k:Int)<a.length):a=b:=by
 grind
theorem Zd{a b:M α}(h:¬(a.length:Int)=b.length):¬a=b:=λe=>h (by rw[e])
theorem Ze{a b:M α}(z:α){k:Nat}(h:¬a.getD k z=b.getD k z):¬a=b:=λe=>h (by rw[e])
theorem aKR {docs:O}{l:M aG}(h:1000<(docs.length:Int)\/64<(l.length:Int)):false=bQ docs l:=by
 symm
 rw[<-Bool.not_eq_true];intro hc;obtain⟨h1,h2,_⟩:=H7.1 hc;simp[dS,B!,J!] at h1;omega
theorem aKS {docs:O}{k:Nat}(hk:(k:Int)<docs.length)(h:2000<((docs.getD k []).length:Int)):false=bQ docs l:=by
 grind[H7,Tf]
theorem anX{k:Nat}(h:Pz docs l k)(hk:¬(k:Int)<docs.length):vB docs l 0:=by
 refine⟨?_,h.2.1,λi hi=>by omega,R! _⟩;have h1:=h.1;simp only[dS,B!,J!];exact⟨Tg h.2.2 hk,w!,w!,w!,w!⟩
theorem MT{k:Nat}(hk:(k:Int)<l.length)(h:jE docs l k=false):false=bQ docs l:=by
 symm
 rw[<-Bool.not_eq_true];intro hc;simp_all[bQ,B!,B?,List.mem_range]
theorem Zf{k:Nat}(h:vB docs l k)(hk:(k:Int)<l.length)(h1:jE docs l k=true):vB docs l (k+1):=
 ⟨h.1,h.2.1,λi hi=>by
   by_cases e:i=k;grind;exact h.2.2.1 i w!,w!⟩
theorem adL{k:Nat}(h:vB docs l k)(hk:¬(k:Int)<l.length):true=bQ docs l:=by
 have h2:=h.2.1;simp[bQ,B!,B?,List.mem_range,J!];exact⟨h.1,w!,λi hi=>h.2.2.1 i w!⟩
theorem aKT {docs:O}{l:M aG}{k:Nat}(h:¬(aA l k).1=dU l k\/(aA l k).2.1<=dU l k\/(docs.length:Int)<(aA l k).2.1):jE docs l k=false:=by
 rw[<-Bool.not_eq_true];intro hc;simp[jE,B!,J!] at hc;obtain⟨h1,h2,_⟩:=hc;have:=ux h2;omega
theorem aBZ {docs:O}{l:M aG}{k:Nat}(hk:vB docs l k)(h:(aA l k).1=dU l k/\¬(aA l k).2.1<=dU l k/\¬(docs.length:Int)<(aA l k).2.1):
  eM docs (aA l k).1 (aA l k).2.1=true:=by
 refine DN hk.1 ?_ w! w!
 have :∀i,i<=k->0<=dU l i:=by
  intro i hi;unfold dU;split;omega;have:=hk.2.2.1 (i-1) w!;simp[jE,Bool.and_eq_true,decide_eq_true_eq] at this;have:=ux this.2.1;omega
 grind
theorem aKU {docs:O}{l:M aG}{k:Nat}(hk:vB docs l k)(h:(aA l k).1=dU l k/\¬(aA l k).2.1<=dU l k/\¬(docs.length:Int)<(aA l k).2.1)
  (h2:¬(c9 docs (aA l k).1 (aA l k).2.1).2=0\/iT (c9 docs (aA l k).1 (aA l k).2.1).1.2.2 (aA l k).2.2=false):jE docs l k=false:=by
 have hf:=aBZ hk h;have hb:c9 docs (aA l k).1 (aA l k).2.1=(((aA l k).1,(aA l k).2.1,make docs (aA l k).1 (aA l k).2.1),0):=by grind[c9]
 rw[hb] at h2;rcases h2 with h2|h2;omega;simp[iT,q?] at h2;rw[<-Bool.not_eq_true];intro hc;simp_all[jE,B!,J!]
theorem aKV {docs:O}{l:M aG}{k:Nat}(hk:vB docs l k)(h:(aA l k).1=dU l k/\¬(aA l k).2.1<=dU l k/\¬(docs.length:Int)<(aA l k).2.1)
  (h2:(c9 docs (aA l k).1 (aA l k).2.1).2=0/\iT (c9 docs (aA l k).1 (aA l k).2.1).1.2.2 (aA l k).2.2=true):jE docs l k=true:=by
 have hf:=aBZ hk h;simp_all[c9,aA,make,iT,J!,jE,B!]
theorem Tm(l:M aG)(k:Nat):(aA l k).2.1=dU l (k+1):=by rfl
theorem Zg(h:bQ docs l=false):ak docs l=([],[]):=by grind[ak]
theorem aEj {l:M aG}(h:(l.length:Int)=0):0=ec l:=by simp_all[ec,dU,Q!]
theorem aEk {l:M aG}(h:¬(l.length:Int)=0):(aA l ((l.length:Int)-1).toNat).2.1=ec l:=by
 simp_all[ec,dU,W!]
theorem adM(z:α)(l:M α):List.replicate (Int.toNat ((l.length:Nat):Int)) z=dX z l 0:=by rfl
theorem DO(z:α){l:M α}{k:Nat}(h:(k:Int)<l.length):(k:Int)<(dX z l k).length/\k<(dX z l k).length:=by
 grind[dX,List.length_append,List.length_take,List.length_replicate]
theorem ń(z:α){l:M α}{k:Nat}(h:k<=l.length):(dX z l k).length=l.length:=by
 grind[dX,List.length_append,List.length_take,List.length_replicate]
theorem Zh(z:α){l:M α}{k:Nat}(h:(k:Int)<l.length):(dX z l k).set k (l.getD k z)=dX z l (k+1):=by
 have e:l.length-k=(l.length-(k+1))+1:=by omega
 grind[dX,aw,List.set_append_right,List.length_take,min,List.append_assoc]
theorem ajL(z:α){l:M α}{k:Nat}(h:¬(k:Int)<l.length):dX z l k=l:=by
 simp_all[dX,i?]
theorem aEl{k:Nat}(h:(k:Int)<x.length):wX x ((dX (0,0,[]) x k).set k ((aA x k).1,(aA x k).2.1,[])) k 0:=by
 have hl:=ń ((0,0,[]):aG) (l:=x) (k:=k) w!;refine⟨w!,Nat.zero_le _,x!,λd=>?_⟩;grind[aA,dX,set,List.getElem?_set_self,List.set_set]
theorem anY {r:M aG}(h:wX x r i j):r.set i ((aA r i).1,(aA r i).2.1,(aA x i).2.2)=dX (0,0,[]) x (i+1):=by
 rw[h.2.2.2];exact Zh ((0,0,[]):aG) (l:=x) (k:=i) (by have:=h.1;omega)
theorem Zi(h:wW docs l)(k:Nat):small (docs.getD k []):=by
 by_cases hk:k<docs.length;exact h.2.2.1 _ (bu docs k [] hk);grind[List.getElem?_eq_none,small]
theorem FY(h:wW docs l)(k:Nat):small (aA l k).2.2/\∀j,small ((aA l k).2.2.getD j ([],[])).2:=by
 by_cases hk:k<l.length;have h1:=h.2.2.2 _ (DL hk);grind[aA,bu,List.getElem?_eq_none,small];simp_all[aA,List.getD_eq_getElem?_getD,List.getElem?_eq_none,small]
theorem Dk(z:α)(l:M α)(j:Nat):l.set j (l.getD j z)=l:=by
 apply List.ext_getElem?;grind
theorem atr {a b:bB}(h:CB a.1 a.2 b.1 b.2=true):a=b:=by
 simp[CB,Bool.and_eq_true,decide_eq_true_eq] at h;grind
theorem ats {a b:bB}(h:CB a.1 a.2 b.1 b.2=false):¬a=b:=by
 grind[CB]
theorem ajM{l:M α}{k:Nat}(h:small l)(hk:(k:Int)<l.length):(k:Int)+1<=9223372036854775807:=by grind[small]
theorem ajN {x r:M aG}{i j:Nat}(h:wX x r i j)(hj:(j:Int)<((aA x i).2.2.length:Int)):wX x r i (j+1):=⟨h.1,w!,h.2.2⟩
theorem ajO {x:M aG}{i j:Nat}(hj:(j:Int)<((aA x i).2.2.length:Int)):ag (oU x i) (j+1)<ag (oU x i) j:=by
 grind[ag,oU]
theorem ajP(h:aQ d=true):∀e∈d,e.2.length<=1000:=by
 intro e he;obtain⟨j,hj,rfl⟩:=List.mem_iff_getElem.1 he;have h1:=DK (Cz h) hj;grind[Y3,fE,jD,List.getElem?_eq_getElem]
theorem RI.seg(h:RI docs l S):∀s∈l,vA s=true/\aY s.2.2/\s=(s.1,s.2.1,make docs s.1 s.2.1)/\eM docs s.1 s.2.1=true:=by
 intro s hs;rw[h.eq] at hs;have h1:=LD h.row s hs;simp only[bK,List.mem_map] at hs;obtain⟨p,hp,rfl⟩:=hs;have hf:=uy h.row p hp;grind[Y7]
theorem RI.small {docs:O}{l:M aG}{S:M Sp}(h:RI docs l S):wW docs l:=by
 have hb:=h.bd;have hle:=h.le;refine⟨w!,w!,λb hb=>?_,λs hs=>?_⟩;have:=h.fair;simp[dS,Bool.and_eq_true,List.all_eq_true,decide_eq_true_eq] at this;grind[Go.S.small];obtain⟨h1,h2,_⟩:=h.seg s hs;refine⟨by have:=h2.1;grind[Go.S.small],λe he=>?_⟩;grind[ajP,Zb,Go.S.small]
theorem LG(docs:O)(l:M aG):wW (ak docs l).1 (ak docs l).2:=(Ic docs l).small
theorem sQ(docs:O)(l:M aG):(ak docs l).1.length<=1000/\(ak docs l).2.length<=64/\0<=ec (ak docs l).2/\ec (ak docs l).2<=(ak docs l).1.length:=by
 have h:=Ic docs l;have hb:=h.bd;have hle:=h.le;omega
theorem yG(docs:O)(l:M aG){k:Nat}(hk:k<(ak docs l).2.length):vA (aA (ak docs l).2 k)=true/\aY (aA (ak docs l).2 k).2.2:=
 have h:=(Ic docs l).seg _ (DL hk)
 ⟨h.1,h.2.1⟩
variable {d b:B8}
theorem aKW(h:(2000:Int)<d.length):fW docs l d=(ak docs l,1):=by simp_all[fW,Q!]
theorem aKX(h:¬(2000:Int)<d.length)(h1:(1000:Int)<=(ak docs l).1.length):fW docs l d=(ak docs l,3):=by simp_all[fW,W!,Q!]
theorem aKY(h:¬(2000:Int)<d.length)(h1:¬(1000:Int)<=(ak docs l).1.length):fW docs l d=(((ak docs l).1++[d],(ak docs l).2),0):=by simp_all[fW,W!]
theorem aKZ {docs:O}{l:M aG}(h:ec (ak docs l).2=((ak docs l).1.length:Int)):fy docs l=(ak docs l,5):=by simp_all[fy,jF,Q!]
theorem aK0 {docs:O}{l:M aG}(h:¬ec (ak docs l).2=((ak docs l).1.length:Int))(h1:(64:Int)<=(ak docs l).2.length):fy docs l=(ak docs l,3):=by simp_all[fy,jF,W!,Q!]
theorem aB0 {docs:O}{l:M aG}(h:¬ec (ak docs l).2=((ak docs l).1.length:Int)):
  c9 (ak docs l).1 (ec (ak docs l).2) ((ak docs l).1.length:Nat)=((ec (ak docs l).2,((ak docs l).1.length:Int),make (ak docs l).1 (ec (ak docs l).2) ((ak docs l).1.length:Nat)),0):=by
 have hb:=sQ docs l;have hf:=DN (Ic docs l).fair hb.2.2.1 (by omega :ec (ak docs l).2<((ak docs l).1.length:Int)) (Int.le_refl _);grind[c9]
theorem aK1 {docs:O}{l:M aG}(h:¬ec (ak docs l).2=((ak docs l).1.length:Int))(h1:¬(64:Int)<=(ak docs l).2.length):
  fy docs l=(((ak docs l).1,(ak docs l).2++[(c9 (ak docs l).1 (ec (ak docs l).2) ((ak docs l).1.length:Nat)).1]),0):=by
 simp_all[aB0,fy,jF,W!]
theorem Zj{k:Nat}(h:(k:Int)<(ak docs l).2.length):
  fv docs l k++[(tg (aA (ak docs l).2 k).1 (aA (ak docs l).2 k).2.1 (aA (ak docs l).2 k).2.2).1]=fv docs l (k+1):=by
 have hg:=yG docs l (k:=k) w!;have hr:eF (aA (ak docs l).2 k).1 (aA (ak docs l).2 k).2.1 (aA (ak docs l).2 k).2.2=true:=hg.1;have hk:k<(bV docs l).length:=by grind[bV,List.length_map]
 unfold fv;rw[aw (bV docs l) k (0,0,0,[]) hk];rw[List.getD_eq_getElem?_getD,List.getElem?_eq_getElem hk];simp[bV,List.getElem_map,Option.getD_some,Pv];grind[adF,ak,aA,List.getElem?_eq_getElem,zR]
theorem adN{k:Nat}(h:¬(k:Int)<(ak docs l).2.length):fv docs l k=bV docs l:=by
 grind[fv,List.take_of_length_le,bV,List.length_map]
theorem Ig(docs:O)(l:M aG)(k:Nat):(fv docs l k).length<=64:=by
 grind[sQ,fv,bV,List.length_take,List.length_map]
theorem aK2{l:M aG}(h:dS docs 0 0=false\/64<(l.length:Int)):false=bQ docs l:=by
 grind[H7]
theorem anZ{k:Nat}:
  (bif decide ((k:Int)=0) then
    bif !decide ((aA l (k:Int).toNat).1=0) then true
    else
     bif decide (0<(k:Int)) then
      bif !decide ((aA l (k:Int).toNat).1=(aA l ((k:Int)-1).toNat).2.1) then true
      else !eM docs (aA l (k:Int).toNat).1 (aA l (k:Int).toNat).2.1
     else !eM docs (aA l (k:Int).toNat).1 (aA l (k:Int).toNat).2.1
  else
   bif decide (0<(k:Int)) then
    bif !decide ((aA l (k:Int).toNat).1=(aA l ((k:Int)-1).toNat).2.1) then true
    else !eM docs (aA l (k:Int).toNat).1 (aA l (k:Int).toNat).2.1
   else !eM docs (aA l (k:Int).toNat).1 (aA l (k:Int).toNat).2.1)= !(decide ((aA l k).1=dU l k)&&eM docs (aA l k).1 (aA l k).2.1):=by
 by_cases h:k=0;simp_all[dU,P?]
 simp[dU,if_neg h];grind
theorem atu{k:Nat}(h:(!(decide ((aA l k).1=dU l k)&&eM docs (aA l k).1 (aA l k).2.1))=true):jE docs l k=false:=by
 grind[Bool.not_eq_true',jE,Bool.and_assoc]
theorem aB1{k:Nat}(h:(!(decide ((aA l k).1=dU l k)&&eM docs (aA l k).1 (aA l k).2.1))=false):(aA l k).1=dU l k/\eM docs (aA l k).1 (aA l k).2.1=true:=by
 grind
theorem aEm{k:Nat}(h:zP (aA l k).1 (aA l k).2.1 (aA l k).2.2 (aA l k).1 (aA l k).2.1 (make docs (aA l k).1 (aA l k).2.1)=false):jE docs l k=false:=by
 have :¬(aA l k).2.2=make docs (aA l k).1 (aA l k).2.1:=λe=>by grind[Y1]
 simp_all[jE,f?,Bool.and_false]
theorem atv {docs:O}{l:M aG}{k:Nat}(h1:(aA l k).1=dU l k/\eM docs (aA l k).1 (aA l k).2.1=true)(h:zP (aA l k).1 (aA l k).2.1 (aA l k).2.2 (aA l k).1 (aA l k).2.1 (make docs (aA l k).1 (aA l k).2.1)=true):jE docs l k=true:=by
 simp[zP,Bool.and_eq_true,decide_eq_true_eq] at h;simp[jE,Bool.and_eq_true,decide_eq_true_eq];grind
theorem ajQ{k:Nat}(h:k<=gL docs l)(h1:¬(k:Int)<(ak docs l).2.length):dU (ak docs l).2 k=jF docs l:=by
 grind[gL,jF,ec]
theorem RI.with{L:M Sp}(h:RI docs l L):anV docs L:=by
 have:=h.le;exact⟨w!,λs hs=>rJ (uy h.row s hs)⟩
theorem ajR{k:Nat}(h:(k:Int)<(ak docs l).2.length):
  fv docs l k++[RU (aA (ak docs l).2 k).1 (aA (ak docs l).2 k).2.1 (aA (ak docs l).2 k).2.2]=fv docs l (k+1):=by
 have hr:eF (aA (ak docs l).2 k).1 (aA (ak docs l).2 k).2.1 (aA (ak docs l).2 k).2.2=true:=(yG docs l (k:=k) w!).1;grind[Zj,adF,zR]
theorem aK3(l:M aG):CC l 0:=⟨z!,R! _⟩
theorem an0{k:Nat}(h:CC l k)(hk:(k:Int)<l.length)(h1:mT (aA l k).2.2=false):CC l (k+1):=by
 refine⟨?_,w!⟩;rw[aw l k (0,0,[]) w!];intro s hs;rcases I!.1 hs with hs|hs;exact h.1 s hs;rw[t?.1 hs];exact h1
theorem atw{k:Nat}(hk:(k:Int)<l.length)(h1:mT (aA l k).2.2=true):true=sr docs l:=by
 grind[mT,List.any_eq_true,DL,sr]
theorem atx{k:Nat}(h:CC l k)(hk:¬(k:Int)<l.length):(bif sq docs then true else decide ((100:Int)<l.length))=sr docs l:=by
 have :l.any (λs=>mT s.2.2)=false:=by
  rw[<-Bool.not_eq_true,List.any_eq_true];rintro⟨s,hs,h1⟩;have:=h.1 s (by grind[List.take_of_length_le]);grind
 grind[sr]
theorem Zk(h:bQ docs l=true):jF docs l=ec l:=by grind[jF,rL]
theorem Ņ(h:bQ docs l=true):rf (bV docs l) (jF docs l)=true:=by
 have R:=RI.of h;have hg:=rL h;have hle:=R.le;have hlen:(bV docs l).length=l.length:=by grind[bV,List.length_map]
 have Fm:=zU l;rw[Zk h]
 have hsg:∀i,i<l.length->sg (bV docs l) i=Pv (aA l i):=λi hi=>by
  simp[sg,bV,hg,aA,E!,E?,C! hi,Option.map_some,Option.getD_some]
 have hse:∀i,i<l.length->aA l i=((mc (fM l) i).1,(mc (fM l) i).2,make docs (mc (fM l) i).1 (mc (fM l) i).2):=λi hi=>by
  have:=zW docs (fM l) i w!;rw[<-R.eq] at this;omega
 unfold rf;rw[hlen];by_cases h0:l.length=0;have :l=[]:=List.eq_nil_of_length_eq_zero h0;subst this;rfl;rw[if_neg h0];have di:fM l≠ []:=λe=>by grind
 simp;refine⟨λi hi=>?_,w!,?_,?_⟩;have hr:=(R.seg _ (DL hi));have hr1:eF (aA l i).1 (aA l i).2.1 (aA l i).2.2=true:=hr.1;simp[Cv,Bool.and_eq_true,Bool.not_eq_true',Bool.and_eq_false_iff,decide_eq_false_iff_not,Bool.not_eq_false',decide_eq_true_eq];rw[hsg i hi];refine⟨?_,?_⟩;grind[Pv,zR,anG];by_cases U1:0<i;rw[hsg (i-1) w!];simp[Pv];rw[zR,zR,hse i hi,hse (i-1) w!];have:=FW R.row (i-1) w!;grind;omega;rw[hsg 0 w!];simp[Pv];rw[zR,hse 0 w!];exact zV R.row di;rw[hsg (l.length-1) w!];simp[Pv];rw[zR,hse (l.length-1) w!,R.Za,Ia _ _ di,Fm]
abbrev Hd:=Int×B8×M Sg
def cG(n:Int)(g:B8)(l:M Sg):Bool:=decide (0<=n)&&(decide (n<=1000)&&(decide ((g.length:Int)=32)&&rf l n))
def dD(docs:O)(l:M aG):Bool:=bQ docs l&&decide (jF docs l=(docs.length:Int))
def hX(docs:O)(l:M aG):Hd×Int:=if dD docs l then(((docs.length:Int),root (leaves docs),bV docs l),0) else((0,[],[]),7)
def FZ(s:Sg):B8:=num s.2.1++num s.2.2.1++s.2.2.2
def jh(l:M Sg):B8:=l.flatMap FZ
def hB(n:Int)(g:B8)(l:M Sg):B8:=num n++g++num l.length++jh l
def hW(n:Int)(g:B8)(l:M Sg):B8×Int:=if cG n g l then(hB n g l,0) else([],1)
def th(b:B8)(f:Int):Sg×Int×Int:=
 if(first b).2.2≠0 then((0,0,0,[]),0,(first b).2.2)
 else if(first (b.drop (first b).2.1.toNat)).2.2≠0 then((0,0,0,[]),0,(first (b.drop (first b).2.1.toNat)).2.2)
 else if(b.length:Int)<(first b).2.1+(first (b.drop (first b).2.1.toNat)).2.1+32 then((0,0,0,[]),0,4)
 else((f,(first b).1,(first (b.drop (first b).2.1.toNat)).1,(b.drop ((first b).2.1+(first (b.drop (first b).2.1.toNat)).2.1).toNat).take 32),(first b).2.1+(first (b.drop (first b).2.1.toNat)).2.1+32,0)
abbrev Hs:=M Sg×Int×Int×Int
def kL(b:B8)(p:Int):Nat->Hs
 |0=>([],0,p,0)
 |k+1=>if(kL b p k).2.2.2≠0 then kL b p k
  else if(th (b.drop (kL b p k).2.2.1.toNat) (kL b p k).2.1).2.2≠0 then((kL b p k).1,(kL b p k).2.1,(kL b p k).2.2.1,(th (b.drop (kL b p k).2.2.1.toNat) (kL b p k).2.1).2.2)
  else((kL b p k).1++[(th (b.drop (kL b p k).2.2.1.toNat) (kL b p k).2.1).1],(th (b.drop (kL b p k).2.2.1.toNat) (kL b p k).2.1).1.2.1,(kL b p k).2.2.1+(th (b.drop (kL b p k).2.2.1.toNat) (kL b p k).2.1).2.1,0)
def F0(b:B8)(n:Int)(g:B8)(s:Hs):Hd×Int:=
 if s.2.2.2≠0 then((0,[],[]),s.2.2.2)
 else if s.2.2.1<b.length\/cG n g s.1=false then((0,[],[]),2)
 else((n,g,s.1),0)
def hR(b:B8):Hd×Int:=
 if(first b).2.2≠0 then((0,[],[]),(first b).2.2)
 else if(b.length:Int)<(first b).2.1+32 then((0,[],[]),4)
 else if(first (b.drop ((first b).2.1+32).toNat)).2.2≠0 then((0,[],[]),(first (b.drop ((first b).2.1+32).toNat)).2.2)
 else if 64<(first (b.drop ((first b).2.1+32).toNat)).1 then((0,[],[]),2)
 else F0 b (first b).1 ((b.drop (first b).2.1.toNat).take 32) (kL b ((first b).2.1+32+(first (b.drop ((first b).2.1+32).toNat)).2.1) (first (b.drop ((first b).2.1+32).toNat)).1.toNat)
theorem Tn:∀(f v:Nat),v<128^f->1<=f->∃(m:B8) (x:UInt8),rb f v=m++[x]/\(∀y∈m,128<=y.toNat)/\x.toNat<128/\dO (m++[x])=v/\(1<=m.length->x.toNat≠0)
 |0,v,_,h=>by omega
 |f+1,v,h,_=>by
  by_cases hv:v<128;have e:(UInt8.ofNat v).toNat=v:=by grind[UInt8.toNat_ofNat']
  refine⟨[],UInt8.ofNat v,by simp_all[rb,if_pos],z!,w!,?_,z!⟩;grind[dO];have hf:f≠0:=by grind
  obtain⟨m,x,h1,h2,h3,h4,h5⟩:=Tn f (v/128) w! w!;have e:(UInt8.ofNat (v%128+128)).toNat=v%128+128:=by grind[UInt8.toNat_ofNat']
  refine⟨UInt8.ofNat (v%128+128)::m,x,?_,?_,h3,?_,λ_=>?_⟩;simp_all[rb,W!]
  grind;grind[dO];grind[List.eq_nil_of_length_eq_zero,dO]
theorem DP(h:0<=v)(h1:v<=4611686018427387904)(r:B8):first (num v++r)=(v,((num v).length:Int),0):=by
 obtain⟨m,x,e,h2,h3,h4,h5⟩:=Tn 9 v.toNat w! w!;have hl:m.length+1<=9:=by grind[Jv]
 have e':num v=m++[x]:=e;have g1:(m++[x]++r).take m.length=m:=by grind
 have g2:(m++[x]++r).getD m.length 0=x:=by
  grind
 have g3:(m++[x]++r).take (m.length+1)=m++[x]:=by grind
 have:=SR (m++[x]++r) m.length x! z! w! x!;rw[g2,g3,h4] at this;rw[e',this,if_neg];simp;omega
 rintro(⟨q1,q2⟩|q);exact h5 q1 q2;omega
theorem wY(h:(first b).2.2=0):b=num (first b).1++b.drop (first b).2.1.toNat/\(first b).2.1=((num (first b).1).length:Int):=by
 obtain⟨q1,q2⟩:=ľ h;have h0:=nZ b;grind[List.take_append_drop,List.length_take]
theorem JK {b:Int}(h:oB a b c d=true):0<=a/\a<b/\b<=1000/\1<=c/\c<=1099511627776/\d.length=32:=by
 simp[oB,ma,B!,J!] at h;omega
variable {l:List Sg}
theorem rM(h:rf l n=true):l.length<=64/\(∀i,i<l.length->oB (sg l i).1 (sg l i).2.1 (sg l i).2.2.1 (sg l i).2.2.2=true)/\(0<l.length->(sg l 0).1=0)/\(∀i,i+1<l.length->(sg l (i+1)).1=(sg l i).2.1):=by
 unfold rf at h;split at h;grind;simp at h;obtain⟨h1,h2,h3,h4⟩:=h;refine⟨w!,λi hi=>?_,λ_=>h3,λi hi=>?_⟩;simp_all[Cv,Bool.and_eq_true]
 have:=h1 (i+1) hi;simp_all[Cv,B!,Q?,Bool.and_eq_false_iff,q?,Bool.not_eq_false',J!]
theorem ji:cG n g l=true↔0<=n/\n<=1000/\g.length=32/\rf l n=true:=by
 simp[cG,Bool.and_eq_true,decide_eq_true_eq];grind
theorem atA {s:Sg}(h:oB s.1 s.2.1 s.2.2.1 s.2.2.2=true)(r:B8):th (FZ s++r) s.1=(s,((FZ s).length:Int),0):=by
 have hg:=JK h;have e1:FZ s++r=num s.2.1++(num s.2.2.1++(s.2.2.2++r)):=by simp[FZ]
 have f1:=DP (v:=s.2.1) w! w! (num s.2.2.1++(s.2.2.2++r));have f2:=DP (v:=s.2.2.1) w! w! (s.2.2.2++r);have d1:(num s.2.1++(num s.2.2.1++(s.2.2.2++r))).drop (((num s.2.1).length:Int)).toNat=num s.2.2.1++(s.2.2.2++r):=by simp_all
 have d2:(num s.2.1++(num s.2.2.1++(s.2.2.2++r))).drop (((num s.2.1).length:Int)+((num s.2.2.1).length:Int)).toNat=s.2.2.2++r:=by
  rw[show(((num s.2.1).length:Int)+((num s.2.2.1).length:Int)).toNat=(num s.2.1).length+(num s.2.2.1).length by omega,<-j?,List.drop_left,List.drop_left]
 unfold th;rw[e1,f1];simp only[d1,f2,d2];rw[if_neg z!,if_neg z!,if_neg (by simp;omega),List.take_left' hg.2.2.2.2.2];simp[FZ,List.length_append];omega
theorem To(h:(th b f).2.2=0):b=FZ (th b f).1++b.drop (th b f).2.1.toNat/\(th b f).2.1=((FZ (th b f).1).length:Int)/\(th b f).1.1=f:=by
 unfold th at h |-;split at h;grind;rename_i h1;split at h;grind;rename_i h2;split at h;cases h;rename_i h3;rw[if_neg h1,if_neg h2,if_neg h3];obtain⟨p1,p2⟩:=wY (b:=b) (Classical.byContradiction h1);obtain⟨q1,q2⟩:=wY (b:=b.drop (first b).2.1.toNat) (Classical.byContradiction h2);generalize hm:(first b).2.1=m at *;generalize hk:(first (b.drop m.toNat)).2.1=k at *;have e1:b.drop (m+k).toNat=(b.drop m.toNat).drop k.toNat:=by rw[List.drop_drop];congr 1;omega
 have e2:b.drop (m+k+32).toNat=(b.drop (m+k).toNat).drop 32:=by rw[j?];congr 1;omega
 have hl:((b.drop (m+k).toNat).take 32).length=32:=by rw[Y!,I?];omega
 refine⟨?_,?_,rfl⟩;simp only[FZ];rw[V!,V!,e2,R?,e1,<-q1];exact p1;simp[FZ,H!,hl];omega
theorem adO {l:M Sg}(hg:∀i,i<l.length->oB (sg l i).1 (sg l i).2.1 (sg l i).2.2.1 (sg l i).2.2.2=true)(h0:0<l.length->(sg l 0).1=0)(hc:∀i,i+1<l.length->(sg l (i+1)).1=(sg l i).2.1)(a r:B8):
  ∀k,k<=l.length->kL (a++(jh l++r)) (a.length:Int) k=(l.take k,(if k=0 then 0 else(sg l (k-1)).2.1),((a.length+(jh (l.take k)).length:Nat):Int),0)
 |0,_=>by rfl
 |k+1,hk=>by
  have ih:=adO hg h0 hc a r k w!;have JF:k<l.length:=by omega
  have et:l.take (k+1)=l.take k++[sg l k]:=aw l k _ JF
  have ed:l=l.take k++(sg l k::l.drop (k+1)):=by
   have :l.drop k=sg l k::l.drop (k+1):=by
    rw[T? JF];congr 1;rw[sg,E!,C! JF];rfl
   rw[<-this];exact(R? k l).symm
  have es:jh l=jh (l.take k)++(FZ (sg l k)++jh (l.drop (k+1))):=by
   grind[jh,sg]
  have hdr:(a++(jh l++r)).drop ((a.length+(jh (l.take k)).length:Nat):Int).toNat=FZ (sg l k)++(jh (l.drop (k+1))++r):=by
   rw[Z!,es,<-j?,List.drop_left,V!,List.drop_left,V!]
  have hf:(if k=0 then(0:Int) else(sg l (k-1)).2.1)=(sg l k).1:=by
   grind
  have hs:=atA (hg k JF) (jh (l.drop (k+1))++r);simp only[kL,ih,hdr,hf,hs];rw[W! z!,W! z!,W! w!,et];simp only[Nat.add_sub_cancel,jh,List.flatMap_append,List.flatMap_cons,List.flatMap_nil,F?,H!];congr 3
  omega
theorem ņ(h:cG n g l=true):hR (hB n g l)=((n,g,l),0):=by
 obtain⟨h1,h2,h3,h4⟩:=ji.1 h;obtain⟨r1,r2,r3,r4⟩:=rM h4;have e:hB n g l=num n++(g++(num l.length++jh l)):=by simp[hB]
 have f1:=DP h1 w! (g++(num l.length++jh l));have f2:=DP (v:=(l.length:Int)) w! w! (jh l);have d1:(num n++(g++(num l.length++jh l))).drop (((num n).length:Int)).toNat=g++(num l.length++jh l):=by rw[Z!,List.drop_left]
 have d2:(num n++(g++(num l.length++jh l))).drop (((num n).length:Int)+32).toNat=num l.length++jh l:=by
  rw[show(((num n).length:Int)+32).toNat=(num n).length+g.length by omega,<-j?,List.drop_left,List.drop_left]
 have pX:=adO r2 r3 r4 (num n++(g++num l.length)) [] l.length (P! _);have ea:num n++(g++num l.length)++(jh l++[])=num n++(g++(num l.length++jh l)):=by simp
 have el:(((num n++(g++num (l.length:Int))).length:Nat):Int)=((num n).length:Int)+32+((num (l.length:Int)).length:Int):=by simp;omega
 rw[ea,el,List.take_length] at pX;unfold hR;rw[e,f1];simp only[d1,d2,f2];rw[if_neg z!,if_neg (by simp;omega),if_neg z!,if_neg w!,List.take_left' h3,Int.toNat_natCast,pX];unfold F0;rw[if_neg z!,if_neg];rw[h];rintro(q|q);simp at q;omega;cases q
theorem adP {b:B8}{p:Int}(hp:0<=p):∀k,(kL b p k).2.2.2=0->p<=(kL b p k).2.2.1/\b.drop p.toNat=jh (kL b p k).1++b.drop (kL b p k).2.2.1.toNat/\(kL b p k).1.length=k
 |0,_=>by simp[kL,jh]
 |k+1,h=>by
  have ih:=adP (b:=b) hp k;rw[kL] at h |-;generalize kL b p k=s at *;by_cases h1:s.2.2.2=0;rw[W! (λe=>e h1)] at h |-;by_cases h2:(th (b.drop s.2.2.1.toNat) s.2.1).2.2=0;rw[W! (λe=>e h2)];obtain⟨i1,i2,i3⟩:=ih h1;obtain⟨q1,q2,q3⟩:=To h2;generalize th (b.drop s.2.2.1.toNat) s.2.1=g at *;refine⟨by simp;omega,?_,by simp[i3]⟩;have e:b.drop (s.2.2.1+g.2.1).toNat=(b.drop s.2.2.1.toNat).drop g.2.1.toNat:=by rw[j?];congr 1;omega
  have e2:jh (s.1++[g.1])=jh s.1++FZ g.1:=by simp[jh]
  rw[e,e2,List.append_assoc,<-q1];exact i2;grind;grind
theorem Ň(h:(hR b).2=0):cG (hR b).1.1 (hR b).1.2.1 (hR b).1.2.2=true/\hB (hR b).1.1 (hR b).1.2.1 (hR b).1.2.2=b:=by
 unfold hR at h |-;split at h;omega;rename_i h1;split at h;cases h;rename_i h2;split at h;omega;rename_i h3;split at h;cases h;rename_i h4;rw[if_neg h1,if_neg h2,if_neg h3,if_neg h4];unfold F0 at h |-;split at h;omega;rename_i h5;split at h;cases h;rename_i h6;rw[if_neg h5,if_neg h6];obtain⟨p1,p2⟩:=wY (b:=b) (Classical.byContradiction h1);obtain⟨q1,q2⟩:=wY (b:=b.drop ((first b).2.1+32).toNat) (Classical.byContradiction h3);have b1:=nZ (b.drop ((first b).2.1+32).toNat);generalize hm:(first b).2.1=m at *;generalize hw:(first (b.drop (m+32).toNat)).1=w at *;generalize hk:(first (b.drop (m+32).toNat)).2.1=k at *;obtain⟨i1,i2,i3⟩:=adP (b:=b) (p:=m+32+k) w! w.toNat (Classical.byContradiction h5);refine⟨?_,?_⟩;grind;have e0:b.drop (kL b (m+32+k) w.toNat).2.2.1.toNat=[]:=List.drop_eq_nil_of_le w!;rw[e0,List.append_nil] at i2;have e1:b.drop (m+32).toNat=(b.drop m.toNat).drop 32:=by rw[List.drop_drop];congr 1;omega
 have e2:b.drop (m+32+k).toNat=(b.drop (m+32).toNat).drop k.toNat:=by rw[j?];congr 1;omega
 simp only[hB];rw[i3,<-i2,show((w.toNat:Nat):Int)=w by omega,e2,V!,V!,<-q1,e1,R?];exact p1.symm
theorem an1(h:(hR b).2≠0):(hR b).1=(0,[],[]):=by
 grind[hR,F0]
theorem Zl {a b:Hd}(ha:cG a.1 a.2.1 a.2.2=true)(hb:cG b.1 b.2.1 b.2.2=true):(hB a.1 a.2.1 a.2.2=hB b.1 b.2.1 b.2.2)↔a=b:=by
 grind[ņ]
def ti(n:Int)(g:B8)(l:M Sg)(k:Nat):B8:=num n++g++num l.length++jh (l.take k)
def ET(n:Int)(g:B8)(l:M Sg)(k:Nat):Prop:=cG n g l=true/\k<=l.length
def vC(b:B8)(a e f:Int):(Int×Int)×Sg:=
 (((aD b (af b (af b a e).1.2.1 (af b a e).1.2.2).1.2.1 (af b (af b a e).1.2.1 (af b a e).1.2.2).1.2.2).1.2.1,
   (aD b (af b (af b a e).1.2.1 (af b a e).1.2.2).1.2.1 (af b (af b a e).1.2.1 (af b a e).1.2.2).1.2.2).1.2.2),
  f,(af b a e).2,(af b (af b a e).1.2.1 (af b a e).1.2.2).2,
  (aD b (af b (af b a e).1.2.1 (af b a e).1.2.2).1.2.1 (af b (af b a e).1.2.1 (af b a e).1.2.2).1.2.2).2)
abbrev Ps:=(Int×Int)×Int×M Sg
def qE(b:B8)(a e:Int):Nat->Ps
 |0=>((a,e),0,[])
 |k+1=>((vC b (qE b a e k).1.1 (qE b a e k).1.2 (qE b a e k).2.1).1,(vC b (qE b a e k).1.1 (qE b a e k).1.2 (qE b a e k).2.1).2.2.1,
   (qE b a e k).2.2++[(vC b (qE b a e k).1.1 (qE b a e k).1.2 (qE b a e k).2.1).2])
def iz(b:B8):(Int×B8×Int)×Int×Int:=
 (((af b 0 0).2,(aD b (af b 0 0).1.2.1 (af b 0 0).1.2.2).2,
   (af b (aD b (af b 0 0).1.2.1 (af b 0 0).1.2.2).1.2.1 (aD b (af b 0 0).1.2.1 (af b 0 0).1.2.2).1.2.2).2),
  (af b (aD b (af b 0 0).1.2.1 (af b 0 0).1.2.2).1.2.1 (aD b (af b 0 0).1.2.1 (af b 0 0).1.2.2).1.2.2).1.2.1,
  (af b (aD b (af b 0 0).1.2.1 (af b 0 0).1.2.2).1.2.1 (aD b (af b 0 0).1.2.1 (af b 0 0).1.2.2).1.2.2).1.2.2)
def jL(b:B8)(k:Nat):Ps:=qE b (iz b).2.1 (iz b).2.2 k
def pN(b:B8):Nat:=(iz b).1.2.2.toNat
theorem DQ(b:B8)(a e:Int):(af b a e).1.1=b/\(aD b a e).1.1=b:=by
 grind[af,aD]
theorem Zm(h:e≠0):bU b a e=e:=by simp_all[bU,W!]
theorem Ih(h:0<=a)(h1:a<=b.length):bU b a 0=0:=by
 simp_all[bU,W!,inside,Bool.and_eq_false_iff,q?]
theorem adQ(h:e≠0):af b a e=((b,a,e),0):=by
 simp_all[af,Zm,Q!]
theorem adR(h:e≠0):aD b a e=((b,a,e),[]):=by
 simp_all[aD,Zm,Q!]
theorem JL(h:0<=a)(h1:a<=b.length)(h2:(first (b.drop a.toNat)).2.2=0):af b a 0=((b,a+(first (b.drop a.toNat)).2.1,0),(first (b.drop a.toNat)).1):=by
 have e:(aP b a).2.2=0:=h2;unfold af;rw[Ih h h1,if_neg (λq=>q rfl),if_neg (λq=>q e)];simp_all[aP,SP,if_true]
theorem VE(h:0<=a)(h1:a<=b.length)(h2:(first (b.drop a.toNat)).2.2≠0):af b a 0=((b,a,(first (b.drop a.toNat)).2.2),0):=by
 have e:(aP b a).2.2≠0:=h2;unfold af;rw[Ih h h1,if_neg (λq=>q rfl),if_pos e];rfl
theorem an2(h:0<=a)(h1:a+32<=b.length):aD b a 0=((b,a+32,0),(b.drop a.toNat).take 32):=by
 unfold aD;rw[Ih h w!,if_neg (λq=>q rfl),if_neg w!]
theorem an3 {b:B8}(h:0<=a)(h1:a<=b.length)(h2:(b.length:Int)<a+32):aD b a 0=((b,a,4),[]):=by
 unfold aD;rw[Ih h h1,if_neg (λq=>q rfl),if_pos w!]
theorem an4(h:e≠0):(vC b a e f).1=(a,e):=by
 grind[vC,adQ,adR]
theorem atB(h:0<=a)(h1:a<=b.length)(h2:(th (b.drop a.toNat) f).2.2=0):
  vC b a 0 f=((a+(th (b.drop a.toNat) f).2.1,0),(th (b.drop a.toNat) f).1)/\a+(th (b.drop a.toNat) f).2.1<=b.length:=by
 unfold th at h2 |-;split at h2;grind;rename_i q1;split at h2;grind;rename_i q2;split at h2;grind;rename_i q3;rw[if_neg q1,if_neg q2,if_neg q3];have q1':=Classical.byContradiction q1;have q2':=Classical.byContradiction q2;have b0:=nZ (b.drop a.toNat);have b1:=nZ ((b.drop a.toNat).drop (first (b.drop a.toNat)).2.1.toNat);have r1:=JL h h1 q1';rw[List.length_drop] at q3;generalize hn:(first (b.drop a.toNat)).2.1=n at *;have ed:(b.drop a.toNat).drop n.toNat=b.drop (a+n).toNat:=by rw[List.drop_drop];congr 1;omega
 rw[ed] at q2' b1 q3 |-;have r2:=JL (b:=b) (a:=a+n) w! w! q2';generalize hm:(first (b.drop (a+n).toNat)).2.1=m at *;have ed2:(b.drop a.toNat).drop (n+m).toNat=b.drop (a+n+m).toNat:=by rw[j?];congr 1;omega
 have r3:=an2 (b:=b) (a:=a+n+m) w! w!;unfold vC;simp only[r1,r2,r3,ed2];refine⟨?_,w!⟩;congr 2
 omega
theorem atC(h:0<=a)(h1:a<=b.length)(h2:(th (b.drop a.toNat) f).2.2≠0):(vC b a 0 f).1.2=(th (b.drop a.toNat) f).2.2:=by
 unfold th at h2 |-;by_cases q1:(first (b.drop a.toNat)).2.2=0;have b0:=nZ (b.drop a.toNat);have r1:=JL h h1 q1;generalize hn:(first (b.drop a.toNat)).2.1=n at *;have ed:(b.drop a.toNat).drop n.toNat=b.drop (a+n).toNat:=by grind[List.drop_drop]
 rw[ed] at h2 |-;have hb:a+n<=b.length:=by grind
 by_cases q2:(first (b.drop (a+n).toNat)).2.2=0;have b1:=nZ (b.drop (a+n).toNat);have r2:=JL (b:=b) (a:=a+n) w! hb q2;generalize hm:(first (b.drop (a+n).toNat)).2.1=m at *;by_cases q3:((b.drop a.toNat).length:Int)<n+m+32;grind[List.length_drop,an3,vC];grind;grind[VE,adR,vC];simp_all[if_pos,VE,adQ,adR,vC]
theorem JM {b:B8}{p:Int}(hp:0<=p)(ø:p<=b.length):∀k,((kL b p k).2.2.2=0->qE b p 0 k=(((kL b p k).2.2.1,0),(kL b p k).2.1,(kL b p k).1)/\0<=(kL b p k).2.2.1/\(kL b p k).2.2.1<=b.length)/\((kL b p k).2.2.2≠0->(qE b p 0 k).1.2=(kL b p k).2.2.2)
 |0=>⟨λ_=>⟨rfl,hp,ø⟩,λh=>absurd rfl h⟩
 |k+1=>by
  obtain⟨i1,i2⟩:=JM (b:=b) hp ø k;rw[kL,qE];generalize kL b p k=s at *;generalize qE b p 0 k=t at *;by_cases h1:s.2.2.2=0;obtain⟨rfl,j1,j2⟩:=i1 h1;by_cases h2:(th (b.drop s.2.2.1.toNat) s.2.1).2.2=0;obtain⟨g1,g2⟩:=atB j1 j2 h2;have g3:=(To h2).2.1;grind;simp_all[if_pos,absurd,atC]
  simp_all[Q!,an4]
theorem Zn(b:B8)(a e:Int):∀k,(qE b a e k).2.2.length=k
 |0=>rfl
 |k+1=>by simp[qE,H!,J?,Zn b a e k]
theorem PA {b:B8}{a e:Int}(h:e≠0):∀k,(qE b a e k).1=(a,e)
 |0=>rfl
 |k+1=>by simp only[qE,PA h k];exact an4 h
theorem F3(b:B8):
  ((iz b).2.2≠0/\(iz b).1.2.2=0/\hR b=((0,[],[]),(iz b).2.2))\/
  ((iz b).2.2=0/\0<=(iz b).2.1/\(iz b).2.1<=b.length/\0<=(iz b).1.2.2/\hR b=if 64<(iz b).1.2.2 then((0,[],[]),2) else F0 b (iz b).1.1 (iz b).1.2.1 (kL b (iz b).2.1 (iz b).1.2.2.toNat)):=by
 have b0:=nZ b;unfold hR;by_cases q1:(first b).2.2=0;have r1:=JL (b:=b) (a:=0) (Int.le_refl _) (Int.natCast_nonneg _) q1;generalize hn:(first b).2.1=n at *;by_cases q2:(b.length:Int)<n+32;simp_all[if_pos,an3,adQ,iz,trivial]
 rw[if_neg q2];have r2:=an2 (b:=b) (a:=n) w! w!;have b1:=nZ (b.drop (n+32).toNat);by_cases q3:(first (b.drop (n+32).toNat)).2.2=0;grind[JL,iz];have r3:=VE (b:=b) (a:=n+32) w! w! q3;simp_all[iz,trivial]
 simp_all[VE,Int.le_refl,Int.natCast_nonneg,adR,adQ,iz,trivial]
theorem Zo(h:64<(iz b).1.2.2):hR b=((0,[],[]),2):=by
 grind[F3]
theorem an5 {b:B8}(h:¬64<(iz b).1.2.2)(h0:done b (jL b (pN b)).1.1 (jL b (pN b)).1.2≠0):hR b=((0,[],[]),done b (jL b (pN b)).1.1 (jL b (pN b)).1.2):=by
 unfold jL pN at *;rcases F3 b with⟨h1,h2,h3⟩|⟨h1,h2,h3,h4,h5⟩
 . simp_all[PA,done,Q!]
 . rw[h5,if_neg h];obtain⟨l1,l2⟩:=JM h2 h3 (iz b).1.2.2.toNat;generalize kL b (iz b).2.1 (iz b).1.2.2.toNat=s at *;unfold F0;by_cases h6:s.2.2.2=0
   . simp_all[W!,inside,B!,J!,done]
   simp_all[Q!,done]
theorem adS {b:B8}(h:¬64<(iz b).1.2.2)(h0:done b (jL b (pN b)).1.1 (jL b (pN b)).1.2=0):
  hR b=if cG (iz b).1.1 (iz b).1.2.1 (jL b (pN b)).2.2 then(((iz b).1.1,(iz b).1.2.1,(jL b (pN b)).2.2),0) else((0,[],[]),2):=by
 unfold jL pN at *;rcases F3 b with⟨h1,h2,h3⟩|⟨h1,h2,h3,h4,h5⟩
 . simp_all[PA,done,Q!,absurd]
 . rw[h5,if_neg h];obtain⟨l1,l2⟩:=JM h2 h3 (iz b).1.2.2.toNat;generalize kL b (iz b).2.1 (iz b).1.2.2.toNat=s at *;unfold F0;by_cases h6:s.2.2.2=0
   . grind[done]
   simp_all[done,Q!,absurd]
end Go.S
