import Derived.Deep.MidRow
import Derived.Laws.AppendOwn
import Derived.Laws.OwnMore
import Derived.KernelRfl
import Derived.Laws.Sem
import Derived.Laws.BytesString
import Derived.Laws.StructEq
import Derived.Laws.Strings
import Derived.Laws.Small
import Derived.MapKept
import Derived.Laws.MakeOwn
set_option linter.unusedVariables false
set_option linter.unusedSimpArgs false
set_option linter.unusedSectionVars false
set_option linter.defProp false
section
set_option linter.defProp false
abbrev B8:=List UInt8
def v! {p:Prop}(h:p:=by with_reducible assumption):p:=h
theorem w! {p:Prop}(h:p:=by omega):p:=h
theorem x! {p:Prop}(h:p:=by grind):p:=h
def y! {p:Prop}(h:p:=by kernel_rfl):p:=h
theorem z! {p:Prop}(h:p:=by simp):p:=h
def A!:=@Option.some.injEq
def B!:=@Bool.and_eq_true
def C!:=@Nat.eq_of_beq_eq_true
def D!:=@List.getElem?_eq_getElem
def E!:=@List.mem_cons_of_mem
def F!:=@List.getD_eq_getElem?_getD
def G!:=@List.mem_append
def H!:=@List.mem_cons_self
def I!:=@cond_true
def J!:=@decide_eq_true_eq
def K!:=@List.length_append
def L!:=@cond_false
def M!:=@Nat.le_of_ble_eq_true
def N!:=@List.mem_cons
def O!:=@Array.getElem?_eq_some_iff
def P!:=@Option.isSome_iff_exists
def Q!:=@if_neg
def R!:=@if_pos
def S!:=@Nat.le_refl
def T!:=@Nat.zero_le
def U!:=@List.mem_append_left
def V!:=@List.eq_nil_of_length_eq_zero
def W!:=@List.length_singleton
def X!:=@List.all_eq_true
def Y!:=@List.append_assoc
def Z!:=@Int.toNat_natCast
def A?:=@List.mem_append_right
def B?:=@Array.getD_eq_getD_getElem?
def C?:=@List.getElem?_eq_some_iff
def D?:=@List.length_drop
def E?:=@List.getElem?_map
def F?:=@List.append_nil
def G?:=@List.length_cons
def H?:=@decide_eq_true
def I?:=@Nat.mul_le_mul_right
def J?:=@Bool.not_eq_true'
def K?:=@List.mem_of_getElem?
def L?:=@decide_eq_false
def M?:=@List.map_cons
def N?:=@Nat.lt_of_lt_of_le
def O?:=@Bool.false_eq_true
def P?:=@Int.le_refl
def Q?:=@Classical.byContradiction
def R?:=@if_true
def S?:=@List.mem_map_of_mem
def T?:=@List.length_take
def U?:=@Array.getElem?_toList
def V?:=@of_decide_eq_true
def W?:=@List.map_congr_left
def X?:=@Option.some.inj
def Y?:=@List.drop_drop
def Z?:=@List.take_append_drop
def a?:=@List.getElem?_cons_zero
def b?:=@List.mem_map
def c?:=@Bool.or_eq_false_iff
def d?:=@List.nil_append
def e?:=@Bool.or_eq_true
def f?:=@List.cons.injEq
def g?:=@List.pairwise_cons
def h?:=@Nat.le_trans
def i?:=@List.length_eq_zero_iff
def j?:=@decide_eq_false_iff_not
def k?:=@List.getElem_of_mem
def l?:=@List.take_of_length_le
def m?:=@List.set_eq_take_append_cons_drop
def n?:=@List.length_set
def o?:=@List.cons_append
def p?:=@List.mem_singleton
def q?:=@Nat.zero_add
def r?:=@Array.ext'
def s?:=@List.mem_range
def t?:=@and_true
def u?:=@List.map_append
def v?:=@List.getElem?_take
def w?:=@if_false
def x?:=@List.drop_eq_nil_of_le
def y?:=@Nat.add_mul
def z?:=@of_decide_eq_false
namespace Go.Vg
open Go
inductive Ty where
 |int (k:IntKind)
 |bool
 |str
 |slice (row:List Ty)
mutual
def Ty.beq:Ty->Ty->Bool
 |.int k,.int k'=>decide (k=k')
 |.bool,.bool|.str,.str=>true
 |.slice r,.slice r'=>Ty.yC r r'
 |_,_=>false
def Ty.yC:List Ty->List Ty->Bool
 |[],[]=>true
 |t::ts,u::us=>Ty.beq t u&&Ty.yC ts us
 |_,_=>false
end
@[reducible] def DI:IntKind->Type
  |.u8=>UInt8
  |.i8=>Int|.i16=>Int|.i32=>Int|.i64=>Int|.u16=>Int|.u32=>Int|.u64=>Int
@[reducible] def azR (ts:List Ty) (a b:Type):Type:=match ts with
  |[]=>a
  |_::_=>a×b
mutual
@[reducible] def D:Ty->Type
  |.int k=>DI k
  |.bool=>Bool
  |.str=>B8
  |.slice row=>List (Row row)
@[reducible] def Row:List Ty->Type
  |[]=>Unit
  |t::ts=>azR ts (D t) (Row ts)
end
def DI.toInt:(k:IntKind)->DI k->Int
 |.u8,x=>(UInt8.toNat x:Int)
 |.i8,n=>n|.i16,n=>n|.i32,n=>n|.i64,n=>n|.u16,n=>n|.u32,n=>n|.u64,n=>n
def DI.ofInt:(k:IntKind)->Int->DI k
 |.u8,n=>UInt8.ofNat n.toNat
 |.i8,n=>n|.i16,n=>n|.i32,n=>n|.i64,n=>n|.u16,n=>n|.u32,n=>n|.u64,n=>n
def Row.hd {t:Ty}: {ts:List Ty}->Row (t::ts)->D t
 |[],x=>x
 |_::_,x=>x.1
def Row.tl {t:Ty}: {ts:List Ty}->Row (t::ts)->Row ts
 |[],_=>()
 |_::_,x=>x.2
def Row.mk {t:Ty}: {ts:List Ty}->D t->Row ts->Row (t::ts)
 |[],x,_=>x
 |_::_,x,y=>(x,y)
def DI.zero:(k:IntKind)->DI k
 |.u8=>(0:UInt8)
 |.i8=>(0:Int)|.i16=>(0:Int)|.i32=>(0:Int)|.i64=>(0:Int)|.u16=>(0:Int)|.u32=>(0:Int)|.u64=>(0:Int)
def D.zero:(t:Ty)->D t
 |.int k=>DI.zero k
 |.bool=>false
 |.str=>[]
 |.slice _=>[]
def Row.zero:(ts:List Ty)->Row ts
 |[]=>()
 |t::ts=>Row.mk (D.zero t) (Row.zero ts)
def lo:IntKind->Int
 |.i8=> -128|.i16=> -32768|.i32=> -2147483648|.i64=> -9223372036854775808
 |.u8=>0|.u16=>0|.u32=>0|.u64=>0
def hi:IntKind->Int
 |.i8=>127|.i16=>32767|.i32=>2147483647|.i64=>9223372036854775807
 |.u8=>255|.u16=>65535|.u32=>4294967295|.u64=>18446744073709551615
def pA:IntKind->Option Int
 |.u8=>some 256|.u16=>some 65536|.u32=>some 4294967296|.u64=>some 18446744073709551616
 |.i8=>none|.i16=>none|.i32=>none|.i64=>none
inductive AV where
 |cr
 |undef
 |int (k:IntKind) (n:Int)
 |bool (b:Bool)
 |tt
 |ff
 |str (s:B8)
 |nil
 |jQ
 |k7
 |sl (row:List Ty) (l:List (Row row))
 |full (row:List Ty) (l:List (Row row))
 |cN (row:List Ty) (x:Row row) (j:Nat)
 |pB (row:List Ty) (l:List (Row row))
 |own (k:Nat)
 |pre (k:Nat) (n:Nat)
 |view (k sz off len:Nat)
 |ref (k off:Nat)
 |elem (k sz i j:Nat)
 |agg (cs:List AV)
 |bn (vs:List AV)
 |fn (f:Fn) (first aR:List AV)
 |oC (row:List Ty) (l:List (Row row))
 |gp (ks:List Int) (cs:List AV)
inductive Z where
 |n
 |g (e ei:Nat) (l:List (List Int))
 |s (t:B8)
abbrev CF:=Z->Prop×AV×Z
inductive AB where
 |cells (cs:List AV)
 |row (e:Nat) (row:List Ty) (l:List (Row row)) (fr:Bool)
 |views (e:Nat) (j:Option Nat) (n m sz:Nat)
 |arr (row:List Ty) (l:List (Row row))
 |gG (e:Nat) (j:Option Nat) (row:List Ty) (l:List (Row row)) (i:Nat)
 |eE (e:Nat) (k:Option Nat) (l:List CF)
 |aX (e sz n:Nat) (cs:List AV)
 |dM (e:Nat) (j:Option Nat) (xs:List Value) (i:Nat)
 |fvar (row:List Ty) (x:Row row)
 |mp (b:Nat) (es:Array MapEntry) (ck:Nat)
def DK:(t:Ty)->D t->AV
 |.int k,x=>.int k (DI.toInt k x)
 |.bool,b=>.bool b
 |.str,s=>.str s
 |.slice row,l=>.sl row l
def aF:(ts:List Ty)->Row ts->List AV
 |[],_=>[]
 |t::ts,x=>DK t (Row.hd x)::aF ts (Row.tl x)
mutual
theorem Ty.eq_of_beq:∀(a b:Ty),Ty.beq a b=true->a=b
 |.int k,.int k',h=>by simp [Ty.beq] at h;rw [h]
 |.bool,.bool,_|.str,.str,_=>rfl
 |.slice r,.slice r',h=>by simp only [Ty.beq] at h;rw [Ty.lT r r' h]
 |.int _,.bool,h|.int _,.str,h|.int _,.slice _,h|.bool,.int _,h=>by simp [Ty.beq] at h
 |.bool,.str,h=>by simp [Ty.beq] at h
 |.bool,.slice _,h|.str,.int _,h=>by simp [Ty.beq] at h
 |.str,.bool,h=>by simp [Ty.beq] at h
 |.str,.slice _,h|.slice _,.int _,h|.slice _,.bool,h|.slice _,.str,h=>by simp [Ty.beq] at h
theorem Ty.lT:∀(a b:List Ty),Ty.yC a b=true->a=b
 |[],[],_=>rfl
 |t::ts,u::us,h=>by
  simp only [Ty.yC,B!] at h;rw [Ty.eq_of_beq t u h.1,Ty.lT ts us h.2]
 |[],_::_,h|_::_,[],h=>by simp [Ty.yC] at h
end
def eU(r r':List Ty)(l:List (Row r)):Option (List (Row r')):=
 if h:Ty.yC r r'=true then some ((Ty.lT r r' h)▸l) else none
def Tk:(t:Ty)->AV->Option (D t)
 |.int k,.int k' n=>if k=k' then some (DI.ofInt k n) else none
 |.bool,.bool b=>some b
 |.bool,.tt=>some true
 |.bool,.ff=>some false
 |.str,.str s=>some s
 |.slice r,.sl r' l|.slice r,.full r' l=>eU r' r l
 |.slice _,.nil=>some ([]:List _)
 |_,_=>none
def jR:(ts:List Ty)->List AV->Option (Row ts)
 |[],[]=>some ()
 |t::ts,a::as_=>match Tk t a,jR ts as_ with
  |some x,some y=>some (Row.mk x y)
  |_,_=>none
 |_,_=>none
def setRow:(ts:List Ty)->Row ts->Nat->AV->Option (Row ts)
 |[],_,_,_=>none
 |t::ts,x,0,a=>match Tk t a with
  |some d=>some (Row.mk d (Row.tl x))
  |none=>none
 |t::ts,x,j+1,a=>match setRow ts (Row.tl x) j a with
  |some y=>some (Row.mk (Row.hd x:D t) y)
  |none=>none
def nm:(ts:List Ty)->Row ts->Nat->List AV->Option (Row ts)
 |_,x,_,[]=>some x
 |ts,x,j,a::as_=>match setRow ts x j a with
  |some y=>nm ts y (j+1) as_
  |none=>none
def wH(ts:List Ty):Nat->List AV->Option (List (Row ts))
 |0,as_=>match as_ with|[]=>some []|_::_=>none
 |n+1,as_=>match jR ts (as_.take ts.length),wH ts n (as_.drop ts.length) with
  |some x,some l=>some (x::l)
  |_,_=>none
structure TE where
 desc:TypeDesc
 size:Nat
 bytes:Nat
 zero:Value
inductive bY where
 |leaf
 |node (l:bY) (k:Nat) (v:TE) (r:bY)
def bY.find:bY->Nat->Option TE
 |.leaf,_=>none
 |.node l k v r,n=>bif Nat.beq n k then some v else bif Nat.blt n k then l.find n else r.find n
def _root_.Go.TypeDesc.mw:TypeDesc->Bool
 |.struct _|.array _ _=>true
 |_=>false
def BC {α:Type}:Option (List α)->Option (List α)->Option (List α)
 |some a,some b=>some (a++b)
 |_,_=>none
def rowOf(T:bY):Nat->TypeId->Option (List Ty)
 |0,_=>none
 |n+1,t=>match T.find t with
  |none=>none
  |some te=>match te.desc with
   |.int k=>some [.int k]
   |.bool=>some [.bool]
   |.string=>some [.str]
   |.slice e=>match rowOf T n e with|some r=>some [.slice r]|none=>none
   |.struct fs=>fs.toList.foldr (λf acc=>BC (rowOf T n f.type) acc) (some [])
   |.array k e=>match rowOf T n e with|some r=>some ((List.replicate k r).flatten)|none=>none
   |_=>none
def AH:Value->AV
 |.int k n=>if lo k<=n/\n<=hi k then .int k n else .cr
 |.bool b=>if b then .tt else .ff
 |.string s=>bif Nat.ble s.data.toList.length 1000000 then .str s.data.toList else .cr
 |.slice none 0 0=>.nil
 |.pointer none=>.jQ
 |.nilFunc=>.k7
 |_=>.cr
def ofConst:Value->AV
 |.agg cs=>.agg (cs.toList.map AH)
 |v=>AH v
inductive KS where
 |one (k:Nat)
 |dst (d:Nat)
structure GD where
 row:List Ty
 l:List (Row row)
structure St where
 t:Nat->AV
 h:Nat->Option AB
 b9:List Nat
 news:List KS
 Hy:List Nat
 n:Nat
 kb:Nat
 g:Nat->Option GD
abbrev aJ:=Nat->Option AB
def ev(st:St):Operand->AV
 |.tmp i=>st.t i
 |.const v=>ofConst v
 |.global i=>match st.g i with
   |some d=>.pB d.row d.l
   |none=>.cr
 |.func f=>.fn (.func f) [] []
def hX(h:aJ):AV->AV×List Nat
 |.own k=>match h k with
   |some (.row _ row l _)=>(.sl row l,[k])
   |_=>(.cr,[])
 |.pre k n=>match h k with
   |some (.row _ row l _)=>(.sl row (l.take n),[k])
   |_=>(.cr,[])
 |.view k sz off len=>match h k with
   |some (.row _ row l _)=>bif Nat.beq sz row.length then(.sl row ((l.drop off).take len),[k]) else(.cr,[])
   |_=>(.cr,[])
 |a=>(a,[])
def oD(h:aJ):List AV->List AV×List Nat
 |[]=>([],[])
 |a::as_=>((hX h a).1::(oD h as_).1,(hX h a).2++(oD h as_).2)
def pv(h:aJ):AV->AV×List Nat
 |.agg cs=>(.agg (oD h cs).1,(oD h cs).2)
 |a=>hX h a
def lU(h:aJ):List AV->List AV×List Nat
 |[]=>([],[])
 |a::as_=>((pv h a).1::(lU h as_).1,(pv h a).2++(lU h as_).2)
def AV.cells:AV->List AV
 |.agg cs=>cs
 |a=>[a]
def AV.one:AV->Bool
 |.cr|.undef|.agg _|.bn _=>false
 |_=>true
structure Out where
 cond:List Prop
 res:AV
 fE:List (Nat×AB):=[]
 del:List Nat:=[]
 new:List (Nat×AB):=[]
 raw:List Nat:=[]
def cx(h:aJ):List Nat->List (Nat×AB)
 |[]=>[]
 |k::ks=>match h k with
  |some (.row e row l _)=>(k,.row e row l true)::cx h ks
  |_=>cx h ks
mutual
def dR(d:Nat):AV->AV
 |.own k=>bif Nat.beq k d then .cr else .own k
 |.pre k n=>bif Nat.beq k d then .cr else .pre k n
 |.view k sz off n=>bif Nat.beq k d then .cr else .view k sz off n
 |.ref k off=>bif Nat.beq k d then .cr else .ref k off
 |.elem k sz i j=>bif Nat.beq k d then .cr else .elem k sz i j
 |.agg cs=>.agg (fB d cs)
 |.bn vs=>.bn (fB d vs)
 |.fn f first aR=>.fn f (fB d first) (fB d aR)
 |.gp ks cs=>.gp ks (fB d cs)
 |a=>a
def fB(d:Nat):List AV->List AV
 |[]=>[]
 |a::as_=>dR d a::fB d as_
end
def qo(d:Nat):Option Nat->Option Nat
 |some k=>bif Nat.beq k d then none else some k
 |none=>none
def wI(b:Bool)(e k:Nat)(l:List CF):AB:=bif b then .views e none l.length 0 0 else .eE e (some k) l
def lI(d:Nat):AB->AB
 |.cells cs=>.cells (fB d cs)
 |.eE e (some k) l=>wI (Nat.beq k d) e k l
 |.dM e j xs i=>.dM e (qo d j) xs i
 |.views e j n m sz=>.views e (qo d j) n m sz
 |.gG e j row l i=>.gG e (qo d j) row l i
 |b=>b
def Ji(cs:List AV)(off:Nat)(vs:List AV):List AV:=cs.take off++vs++cs.drop (off+vs.length)
def FU(h:aJ):AV->Option Int
 |.str s=>some (s.length:Int)
 |.sl _ l|.full _ l=>some (l.length:Int)
 |.nil=>some 0
 |.own k=>match h k with
   |some (.row _ _ l _)=>some (l.length:Int)
   |_=>none
 |.pre k n=>match h k with
   |some (.row _ _ _ _)=>some (n:Int)
   |_=>none
 |.view k _ _ n=>match h k with
   |some (.row _ _ _ _)=>some (n:Int)
   |_=>none
 |_=>none
def lJ(T:bY)(t:TypeId):Option TE:=match T.find t with
 |some te=>match te.desc with
  |.slice e=>T.find e
  |_=>none
 |none=>none
def nJ(T:bY)(t:TypeId):Option TypeId:=match T.find t with
 |some te=>match te.desc with
  |.slice e=>some e
  |_=>none
 |none=>none
def gT(T:bY)(t:TypeId)(n:Nat):Bool:=match T.find t with
 |some te=>Nat.beq te.size n
 |none=>false
def aZ(T:bY)(t:TypeId)(n:Nat):Bool:=match lJ T t with
 |some te=>Nat.beq te.size n&&Nat.blt 0 n
 |none=>false
def JV(T:bY)(t:TypeId):Option (Nat×Nat):=match T.find t with
 |some te=>match te.desc with
  |.array k e=>match T.find e with
    |some ee=>bif Nat.blt 0 ee.size then some (k,ee.size) else none
    |none=>none
  |_=>none
 |none=>none
def fR(T:bY)(h:aJ)(t:TypeId):AV->AV->Option Out
 |.sl row l,.int _ i=>
   bif aZ T t row.length then some {cond:=[0<=i/\i<(l.length:Int)],res:=.cN row (l.getD i.toNat (Row.zero row)) 0} else none
 |.full row l,.int _ i=>
   bif aZ T t row.length then some {cond:=[0<=i/\i<(l.length:Int)],res:=.cN row (l.getD i.toNat (Row.zero row)) 0} else none
 |.own k,.int _ i=>match h k with
   |some (.row _ row l _)=>bif aZ T t row.length then some {cond:=[0<=i/\i<(l.length:Int)],res:=.elem k row.length i.toNat 0} else none
   |_=>none
 |.pre k n,.int _ i=>match h k with
   |some (.row _ row l _)=>bif aZ T t row.length then some {cond:=[0<=i/\i<(n:Int)],res:=.elem k row.length i.toNat 0} else none
   |_=>none
 |.view k sz off n,.int _ i=>bif aZ T t sz then some {cond:=[0<=i/\i<(n:Int)],res:=.elem k sz (off+i.toNat) 0} else none
 |.pB row l,.int _ i=>match JV T t with
   |some (n,sz)=>bif Nat.beq sz row.length then some {cond:=[n=l.length,0<=i/\i<(l.length:Int)],res:=.cN row (l.getD i.toNat (Row.zero row)) 0} else none
   |none=>none
 |.ref k off,.int _ i=>match JV T t with
   |some (n,sz)=>some {cond:=[0<=i/\i<(n:Int)],res:=.ref k (off+i.toNat*sz)}
   |none=>none
 |_,_=>none
def Oj(off:Nat)(n:Int)(sz:Nat):Nat:=off+n.toNat*sz
def akU:Operand->Option Int
 |.const (.int _ n)=>some n
 |_=>none
def se(T:bY)(h:aJ)(t:TypeId)(n:Option Int)(x y:AV):Option Out:=match n,x,y with
 |some n,.ref k off,.int kd i=>match JV T t with
  |some (m,sz)=>if n=i then some {cond:=[0<=i/\i<(m:Int)],res:=.ref k (Oj off n sz)} else fR T h t (.ref k off) (.int kd i)
  |none=>none
 |_,x,y=>fR T h t x y
def pick(te:TE)(cs:List AV)(off:Nat):Option AV:=
 bif te.desc.mw then(bif Nat.ble (off+te.size) cs.length then some (.agg ((cs.drop off).take te.size)) else none)
 else cs[off]?
def oE(T:bY)(h:aJ)(t:TypeId):AV->Option Out
 |.cN row x j=>match T.find t with
   |some te=>match pick te (aF row x) j with
    |some a=>some {cond:=[],res:=a}
    |none=>none
   |none=>none
 |.pB row l=>match T.find t with
   |some te=>match pick te (l.flatMap (aF row)) 0 with
    |some a=>some {cond:=[],res:=a}
    |none=>none
   |none=>none
 |.ref k off=>match T.find t,h k with
   |some te,some (.cells cs)=>match pick te cs off with
    |some a=>some {cond:=[],res:=a}
    |none=>none
   |_,_=>none
 |.elem k sz i j=>match T.find t,h k with
   |some te,some (.row _ row l _)=>
    bif Nat.beq sz row.length then match pick te (aF row (l.getD i (Row.zero row))) j with
     |some a=>some {cond:=[i<l.length],res:=a}
     |none=>none
    else none
   |_,_=>none
 |_=>none
def gq(T:bY)(h:aJ)(t:TypeId):AV->AV->Option Out
 |.ref k off,v=>match h k with
   |some (.cells cs)=>
    bif v.cells.all AV.one&&gT T t v.cells.length&&Nat.ble (off+v.cells.length) cs.length then
     some {cond:=[],res:=.undef,fE:=[(k,.cells (Ji cs off v.cells))]} else none
   |_=>none
 |.elem k sz i j,v=>match h k with
   |some (.row e row l false)=>
    bif Nat.beq sz row.length&&gT T t v.cells.length&&Nat.blt 0 v.cells.length then match nm row (l.getD i (Row.zero row)) j (pv h v).1.cells with
     |some x=>bif (pv h v).2.elem k then none else some {cond:=[i<l.length],res:=.undef,fE:=(k,.row e row (l.set i x) false)::cx h (pv h v).2}
     |none=>none
    else none
   |_=>none
 |_,_=>none
def DL(T:bY)(s:TypeId)(f:Nat):Option (TypeId×Nat):=match T.find s with
 |some te=>match te.desc with
  |.struct fs=>match fs[f]? with
    |some fd=>some (fd.type,fd.offset)
    |none=>none
  |_=>none
 |none=>none
def DN(T:bY)(t:TypeId):Bool:=match T.find t with
 |some te=>Nat.blt 0 te.size
 |none=>false
def uE(T:bY)(s:TypeId)(f:Nat)(x:AV):Option Out:=match DL T s f with
 |some (ft,o)=>bif DN T ft then match x with
  |.ref k off=>some {cond:=[],res:=.ref k (off+o)}
  |.cN row x j=>some {cond:=[],res:=.cN row x (j+o)}
  |.elem k sz i j=>some {cond:=[],res:=.elem k sz i (j+o)}
  |_=>none
  else none
 |none=>none
def fit(k:IntKind)(n:Int):List Prop×AV:=match pA k with
 |some c=>([],.int k (n%c))
 |none=>([lo k<=n/\n<=hi k],.int k n)
def tK(k:IntKind)(cond:List Prop)(n:Int):Option Out:=some {cond:=cond++(fit k n).1,res:=(fit k n).2}
def BD(k:IntKind)(n:Int):List Prop:=match pA k with
 |some _=>[]
 |none=>[0<=n]
def bitsOf:IntKind->Int
 |.i8|.u8=>8|.i16|.u16=>16|.i32|.u32=>32|.i64|.u64=>64
def aK(a b:Int):Int:=((a.toNat&&&b.toNat:Nat):Int)
def cm(a b:Int):Int:=((a.toNat ||| b.toNat:Nat):Int)
def fC(a b:Int):Int:=((a.toNat^^^b.toNat:Nat):Int)
def tL:AV->Option Bool
 |.bool b=>some b
 |.tt=>some true
 |.ff=>some false
 |_=>none
def cE(T:bY)(t:TypeId)(f:TypeDesc->Bool):Bool:=match T.find t with
 |some te=>f te.desc
 |none=>false
def fH:TypeDesc->Bool
 |.slice _=>true
 |_=>false
def JW:TypeDesc->Bool
 |.bool=>true
 |_=>false
def Ol(T:bY)(E:TypeId->AV->AV->Option Bool)(xs ys:List AV):List Field->Option Bool
 |[]=>some true
 |f::fs=>match T.find f.type with
  |some te=>match pick te xs f.offset,pick te ys f.offset with
   |some a,some b=>match E f.type a b,Ol T E xs ys fs with
    |some r,some r'=>some (match fs with|[]=>r|_=>bif r then r' else false)
    |_,_=>none
   |_,_=>none
  |none=>none
def Hz(T:bY):Nat->TypeId->AV->AV->Option Bool
 |0,_,_,_=>none
 |n+1,t,x,y=>match T.find t with
  |some te=>match te.desc with
   |.struct fs=>match x,y with
     |.agg xs,.agg ys=>Ol T (Hz T n) xs ys fs.toList
     |_,_=>none
   |.int _=>match x,y with
     |.int k a,.int k' b=>if k=k' then some (decide (a=b)) else none
     |_,_=>none
   |.string=>match x,y with
     |.str a,.str b=>some (decide (a=b))
     |_,_=>none
   |.bool=>match tL x,tL y with
     |some a,some b=>some (a==b)
     |_,_=>none
   |_=>none
  |none=>none
def Qy(T:bY)(t:TypeId)(op:BinOp):AV->AV->Option Out
 |.int k n,.int k' m=>match op with
   |.shl=>tK k [0<=m/\m<=bitsOf k] (n*2^m.toNat)
   |.shr=>some {cond:=[0<=m/\m<=bitsOf k],res:=.int k (n/2^m.toNat)}
   |_=>if k=k' then match op with
    |.add=>tK k [] (n+m)
    |.sub=>tK k [] (n-m)
    |.mul=>tK k [] (n*m)
    |.quo=>some {cond:=BD k n++[0<m],res:=.int k (n/m)}
    |.rem=>some {cond:=BD k n++[0<m],res:=.int k (n%m)}
    |.and=>some {cond:=BD k n++BD k m,res:=.int k (aK n m)}
    |.or=>some {cond:=BD k n++BD k m,res:=.int k (cm n m)}
    |.xor=>some {cond:=BD k n++BD k m,res:=.int k (fC n m)}
    |.eql=>some {cond:=[],res:=.bool (decide (n=m))}
    |.neq=>some {cond:=[],res:=.bool (!decide (n=m))}
    |.lss=>some {cond:=[],res:=.bool (decide (n<m))}
    |.leq=>some {cond:=[],res:=.bool (decide (n<=m))}
    |.gtr=>some {cond:=[],res:=.bool (decide (m<n))}
    |.geq=>some {cond:=[],res:=.bool (decide (m<=n))}
    |_=>none
    else none
 |.str s,.str u=>match op with
   |.add=>some {cond:=[((s.length+u.length:Nat):Int)<=9223372036854775807],res:=.str (s++u)}
   |.eql=>some {cond:=[],res:=.bool (decide (s=u))}
   |.neq=>some {cond:=[],res:=.bool (!decide (s=u))}
   |.lss=>some {cond:=[],res:=.bool (Op.bytesLess s u)}
   |.leq=>some {cond:=[],res:=.bool (Op.bytesLess s u || decide (s=u))}
   |.gtr=>some {cond:=[],res:=.bool (!(Op.bytesLess s u || decide (s=u)))}
   |.geq=>some {cond:=[],res:=.bool (!Op.bytesLess s u)}
   |_=>none
 |.sl (r::rs) l,.nil=>bif cE T t fH then match op with
     |.eql=>some {cond:=[],res:=.oC (r::rs) l}
     |_=>none
     else none
 |.agg xs,.agg ys=>match Hz T 8 t (.agg xs) (.agg ys) with
   |some r=>match op with
    |.eql=>some {cond:=[],res:=.bool r}
    |.neq=>some {cond:=[],res:=.bool (!r)}
    |_=>none
   |none=>none
 |a,b=>match tL a,tL b with
  |some x,some y=>bif cE T t JW then match op with
   |.eql=>some {cond:=[],res:=.bool (x==y)}
   |.neq=>some {cond:=[],res:=.bool (!(x==y))}
   |_=>none
   else none
  |_,_=>none
def Wj(op:UnOp):AV->Option Out
 |.bool b=>match op with|.not=>some {cond:=[],res:=.bool (!b)}|_=>none
 |.tt=>match op with|.not=>some {cond:=[],res:=.ff}|_=>none
 |.ff=>match op with|.not=>some {cond:=[],res:=.tt}|_=>none
 |.int k n=>match op with
   |.neg=>tK k [] (0-n)
   |.xor=>match pA k with
     |some c=>some {cond:=[],res:=.int k (c-1-n)}
     |none=>none
   |_=>none
 |_=>none
def mZ(h:aJ)(row:List Ty)(a:AV):Option (List (Row row)):=match a with
 |.str s=>eU [.int .u8] row s
 |.nil=>some []
 |a=>match(hX h a).1 with
  |.sl r l|.full r l=>eU r row l
  |_=>none
def qp:Nat:=8
def AI:TypeDesc->Bool
 |.slice _=>true
 |.string=>true
 |_=>false
def pQ(T:bY)(h:aJ)(d:Nat)(t t':TypeId)(s x:AV):Option Out:=
 match nJ T t,lJ T t with
 |some e,some te=>match rowOf T qp e with
  |some row=>bif Nat.beq row.length te.size&&Nat.blt 0 te.size&&Nat.beq (ofConst te.zero).cells.length te.size&&cE T t' AI then
   match mZ h row x with
   |some m=>match s with
    |.nil=>some {cond:=[m.length<=140737488355328/te.bytes],res:=.own d,new:=[(d,.row e row m false)]}
    |.own k=>match h k with
      |some (.row e' lV l false)=>bif Nat.beq e' e then match eU lV row l with
       |some l'=>some {cond:=[l'.length+m.length<=140737488355328/te.bytes],res:=.own d,del:=[k],new:=[(d,.row e row (l'++m) false)]}
       |none=>none
       else none
      |_=>none
    |.pre k n=>match h k with
      |some (.row e' lV l false)=>bif Nat.beq e' e then match eU lV row l with
       |some l'=>some {cond:=[n+m.length<=140737488355328/te.bytes],res:=.own d,del:=[k],new:=[(d,.row e row (l'.take n++m) false)]}
       |none=>none
       else none
      |_=>none
    |.full r l=>match eU r row l with
      |some l'=>some {cond:=[0<m.length,l'.length+m.length<=140737488355328/te.bytes],res:=.own d,new:=[(d,.row e row (l'++m) false)]}
      |none=>none
    |_=>none
   |none=>none
   else none
  |none=>none
 |_,_=>none
def sf(T:bY)(h:aJ)(t t':TypeId)(s x:AV):Option Out:=
 match s with
 |.own k=>match h k with
   |some (.row e row l false)=>bif aZ T t row.length then match mZ h row x with
    |some m=>some {cond:=[],res:=.int .i64 ((min m.length l.length:Nat):Int),fE:=[(k,.row e row (m.take l.length++l.drop m.length) false)]}
    |none=>none
    else none
   |_=>none
 |.view k sz off n=>match h k with
   |some (.row e row l false)=>bif aZ T t row.length&&Nat.beq sz row.length then match mZ h row x with
    |some m=>some {cond:=[off+n<=l.length],res:=.int .i64 ((min m.length n:Nat):Int),fE:=[(k,.row e row (l.take off++m.take n++l.drop (off+min m.length n)) false)]}
    |none=>none
    else none
   |_=>none
 |_=>none
def tM:Option AV->Option (Option Int)
 |none=>some none
 |some (.int _ i)=>some (some i)
 |some _=>none
def rE:TypeDesc->Bool
 |.string=>true
 |_=>false
def rZ(T:bY)(h:aJ)(t:TypeId)(x:AV)(lo hi mx:Option AV):Option Out:=
 match x,tM lo,tM hi,tM mx with
 |.str s,some lo,some hi,some none=>bif cE T t rE then match lo,hi with
   |none,none=>some {cond:=[],res:=.str s}
   |none,some b=>some {cond:=[0<=b/\b<=(s.length:Int)],res:=.str (s.take b.toNat)}
   |some a,none=>some {cond:=[0<=a/\a<=(s.length:Int)],res:=.str (s.drop a.toNat)}
   |some a,some b=>some {cond:=[0<=a/\a<=b/\b<=(s.length:Int)],res:=.str ((s.take b.toNat).drop a.toNat)}
   else none
 |.sl row l,some lo,some hi,some none=>bif aZ T t row.length then match lo,hi with
   |none,none=>some {cond:=[],res:=.sl row l}
   |none,some b=>some {cond:=[0<=b/\b<=(l.length:Int)],res:=.sl row (l.take b.toNat)}
   |some a,none=>some {cond:=[0<=a/\a<=(l.length:Int)],res:=.sl row (l.drop a.toNat)}
   |some a,some b=>some {cond:=[0<=a/\a<=b/\b<=(l.length:Int)],res:=.sl row ((l.take b.toNat).drop a.toNat)}
   else none
 |.sl row l,some none,some (some b),some (some c)=>bif aZ T t row.length then some {cond:=[0<=b/\b=c/\b<=(l.length:Int)],res:=.full row (l.take b.toNat)} else none
 |.own k,some lo,some hi,some none=>match h k with
   |some (.row _ row l _)=>bif aZ T t row.length then match lo,hi with
    |none,none=>some {cond:=[],res:=.own k}
    |none,some b=>some {cond:=[0<=b/\b<=(l.length:Int)],res:=.pre k b.toNat}
    |some a,none=>some {cond:=[0<=a/\a<=(l.length:Int)],res:=.view k row.length a.toNat (l.length-a.toNat)}
    |some a,some b=>some {cond:=[0<=a/\a<=b/\b<=(l.length:Int)],res:=.view k row.length a.toNat (b.toNat-a.toNat)}
    else none
   |_=>none
 |_,_,_,_=>none
def wJ:AV->Bool
 |.str _=>false
 |_=>true
def AJ(T:bY)(h:aJ)(s d:TypeId)(k:Nat):Option Out:=
 bif Nat.beq s d then match T.find s with
  |some ts=>match ts.desc with
   |.slice e=>match T.find e,h k with
     |some te,some (.row _ row l false)=>match te.desc,eU row [.int .u8] l with
      |.int .u8,some l'=>some {cond:=[0<l'.length],res:=.sl [.int .u8] l',del:=[k]}
      |_,_=>none
     |_,_=>none
   |_=>none
  |none=>none
 else none
def oh(T:bY)(h:aJ)(s d:TypeId)(x:AV):Option Out:=
 match T.find s,T.find d with
 |some ts,some td=>match ts.desc,td.desc,x with
  |.int _,.int k,.int k' n=>
    if lo k<=lo k'/\hi k'<=hi k then some {cond:=[],res:=.int k n} else tK k [] n
  |.string,.string,.str u=>some {cond:=[],res:=.str u}
  |.string,.slice e,.str u=>match T.find e with
    |some te=>match te.desc with
     |.int .u8=>some {cond:=[],res:=.sl [.int .u8] u}
     |_=>none
    |none=>none
  |.slice e,.string,x=>match T.find e with
    |some te=>match te.desc with
     |.int .u8=>match wJ x,mZ h [.int .u8] x with
       |true,some u=>some {cond:=[],res:=.str u}
       |_,_=>none
     |_=>none
    |none=>none
  |.slice _,.slice _,.own k=>AJ T h s d k
  |_,_,_=>none
 |_,_=>none
def wK(place:Nat->Option (Nat×Nat))(cs:List AV):List (Nat×AV)->Option (List AV)
 |[]=>some cs
 |(i,v)::rest=>match place i with
  |none=>none
  |some (off,size)=>bif Nat.beq v.cells.length size&&Nat.ble (off+size) cs.length&&v.cells.all AV.one then wK place (Ji cs off v.cells) rest else none
def placesOf(T:bY):List Field->Option (List (Nat×Nat))
 |[]=>some []
 |f::fs=>match T.find f.type,placesOf T fs with
  |some te,some ps=>some ((f.offset,te.size)::ps)
  |_,_=>none
def FV(T:bY)(t:TypeId)(parts:List (Nat×AV)):Option Out:=match T.find t with
 |some te=>match te.desc with
  |.struct fs=>match placesOf T fs.toList with
    |some ps=>match wK (λi=>ps[i]?) (ofConst te.zero).cells parts with
     |some cs=>some {cond:=[],res:=.agg cs}
     |none=>none
    |none=>none
  |.array _ e=>match T.find e with
    |some ee=>match wK (λi=>some (i*ee.size,ee.size)) (ofConst te.zero).cells parts with
     |some cs=>some {cond:=[],res:=.agg cs}
     |none=>none
    |none=>none
  |_=>none
 |none=>none
def oF(h:aJ):List (Nat×AV)->List (Nat×AV)×List Nat
 |[]=>([],[])
 |(i,x)::ps=>((i,(pv h x).1)::(oF h ps).1,(pv h x).2++(oF h ps).2)
def jS(T:bY)(h:aJ)(d:Nat)(t:TypeId)(len:Nat)(parts:List (Nat×AV)):Option Out:=
 match nJ T t,lJ T t with
 |some e,some te=>match rowOf T qp e with
  |some row=>bif Nat.beq row.length te.size&&Nat.blt 0 te.size&&Nat.beq (ofConst te.zero).cells.length te.size&&Nat.ble (len*te.size) 16777216 then
   match wK (λi=>some (i*te.size,te.size)) ((List.replicate len (ofConst te.zero).cells).flatten) (oF h parts).1 with
   |some cs=>match wH row len cs with
    |some l=>some {cond:=[],res:=.own d,fE:=cx h (oF h parts).2,new:=[(d,.row e row l false)]}
    |none=>none
   |none=>none
   else none
  |none=>none
 |_,_=>none
def di(row:List Ty)(z:Value):Bool:=match z with
 |.agg cs=>cB row cs.toList
 |v=>cB row [v]
where
 cB:List Ty->List Value->Bool
 |[],[]=>true
 |.int k::ts,.int k' n::vs=>decide (k=k')&&decide (n=0)&&cB ts vs
 |.bool::ts,.bool false ::vs=>cB ts vs
 |.str::ts,.string s::vs=>s.data.toList.isEmpty&&cB ts vs
 |.slice _::ts,.slice none 0 0::vs=>cB ts vs
 |_,_=>false
def r6(T:bY)(h:aJ)(t:TypeId)(x:AV):Option Out:=
 match x with
 |.view k sz off n=>match h k with
   |some (.row e row l false)=>match nJ T t,lJ T t with
    |some _,some te=>bif aZ T t row.length&&Nat.beq sz row.length&&Nat.beq row.length te.size&&di row te.zero then
      some {cond:=[off+n<=l.length],res:=.bn [],fE:=[(k,.row e row (l.take off++List.replicate n (Row.zero row)++l.drop (off+n)) false)]} else none
    |_,_=>none
   |_=>none
 |_=>none
def uF(T:bY)(d:Nat)(t:TypeId):AV->AV->Option Out
 |.int k n,.int k' c=>match nJ T t,lJ T t with
   |some e,some te=>match rowOf T qp e with
    |some row=>bif Nat.beq row.length te.size&&Nat.blt 0 te.size&&di row te.zero then
     some {cond:=[0<=n/\n<=c/\c<=140737488355328/te.bytes],res:=.own d,new:=[(d,.row e row (List.replicate n.toNat (Row.zero row)) false)]} else none
    |none=>none
   |_,_=>none
 |_,_=>none
abbrev Qz:=List AV->Option (Prop×AV×List AB)
structure bk where
 pre:Prop
 res:AV
 heap:List (Option AB)
 new:List AB
abbrev cX:=List AV->List AB->Option bk
structure Env where
 T:bY
 sig:Nat->Option Qz
 fQ:Nat->Option GD:=λ_=>none
 qG:Nat->Option (List Bool×cX):=λ_=>none
 gG:Nat->Bool:=λ_=>false
 cls:Nat->Option Nat:=λ_=>none
 NB:Nat->Bool:=λ_=>false
 DO:Nat:=0
 ca:Nat->Option (List AV->Option (Option Nat×CF)):=λ_=>none
 QA:Nat->Option (List (Option TypeId)):=λ_=>none
mutual
def dN(base:Nat):AV->AV
 |.own k=>.own (base+k)
 |.agg cs=>.agg (r7 base cs)
 |.bn vs=>.bn (r7 base vs)
 |a=>a
def r7(base:Nat):List AV->List AV
 |[]=>[]
 |a::as_=>dN base a::r7 base as_
end
def fI(base:Nat):List AB->List (Nat×AB)
 |[]=>[]
 |b::bs=>(base,b)::fI (base+1) bs
def om(d:Nat):Nat:=100000+100*d
mutual
def AV.fj:AV->Bool
 |.int _ _|.bool _|.tt|.ff|.str _|.undef|.own _|.nil=>true
 |.agg cs=>DP cs
 |.bn vs=>DP vs
 |_=>false
def DP:List AV->Bool
 |[]=>true
 |a::as_=>a.fj&&DP as_
end
def JX:AV->Bool
 |.fn (.func _) [] []=>true
 |_=>false
def aeK:AV->Bool
 |.cN _ _ _=>true
 |_=>false
mutual
def kC(n:Nat):AV->Bool
 |.own k=>Nat.blt k n
 |.agg cs=>DQ n cs
 |.bn vs=>DQ n vs
 |.gp _ cs=>cs.all JX
 |.fn _ l m=>l.isEmpty&&m.all aeK
 |.cr|.pre _ _|.view _ _ _ _|.ref _ _|.elem _ _ _ _|.cN _ _ _|.pB _ _=>false
 |_=>true
def DQ(n:Nat):List AV->Bool
 |[]=>true
 |a::as_=>kC n a&&DQ n as_
end
def jT:List AB->Bool
 |[]=>true
 |.row _ _ _ false ::r=>jT r
 |_=>false
def Jj:Ty->Bool
 |.slice _=>false
 |_=>true
def dH:List AB->Bool
 |[]=>true
 |.row _ row _ _::r=>row.all Jj&&dH r
 |_=>false
def oG(E:Env)(h:aJ)(d f:Nat)(args:List AV):Option Out:=match E.sig f with
 |some s=>match s (lU h args).1 with
  |some (pre,res,bs)=>bif Nat.ble bs.length 100&&kC bs.length res&&jT bs then some {cond:=[pre],res:=dN (om d) res,fE:=bif res.fj&&dH bs then [] else cx h (lU h args).2,new:=fI (om d) bs} else none
  |none=>none
 |none=>none
def DR(b:Bool):AV->AV->AV
 |.int k n,.int k' m=>if k=k' then .int k (bif b then n else m) else .cr
 |.str s,.str u=>.str (bif b then s else u)
 |.sl r l,.sl r' m=>match eU r' r m with
   |some m'=>.sl r (bif b then l else m')
   |none=>.cr
 |.sl r l,.nil=>.sl r (bif b then l else [])
 |.nil,.sl r l=>.sl r (bif b then [] else l)
 |.nil,.nil=>.nil
 |.jQ,.jQ=>.jQ
 |.own k,.own k'=>bif Nat.beq k k' then .own k else .cr
 |x,y=>match tL x,tL y with
  |some p,some q=>.bool (bif b then p else q)
  |_,_=>.cr
def r8(b:Bool):List AV->List AV->List AV
 |x::xs,y::ys=>DR b x y::r8 b xs ys
 |_,_=>[]
def DS(b:Bool):AV->AV->AV
 |.agg xs,.agg ys=>bif Nat.beq xs.length ys.length then .agg (r8 b xs ys) else .cr
 |.bn xs,.bn ys=>bif Nat.beq xs.length ys.length then .bn (r8 b xs ys) else .cr
 |x,y=>DR b x y
def DT(b:Bool):Option AB->Option AB->Option AB
 |some (.cells xs),some (.cells ys)=>bif Nat.beq xs.length ys.length then some (.cells (r8 b xs ys)) else none
 |some (.row e r l fr),some (.row e' r' m FW)=>match eU r' r m with
  |some m'=>bif Nat.beq e e'&&(fr==FW) then some (.row e r (bif b then l else m') fr) else none
  |none=>none
 |_,_=>none
def DU:List AV->Option (IntKind×List Int)
 |[]=>none
 |a::r=>match a with
  |.int k n=>match r with
    |[]=>some (k,[n])
    |_::_=>match DU r with
     |some (k',l)=>if k=k' then some (k,n::l) else none
     |none=>none
  |_=>none
def every(sz j:Nat):Nat->List AV->List AV
 |0,_=>[]
 |n+1,cs=>cs.getD j .cr::every sz j n (cs.drop sz)
def DV(sz k:Nat)(cs:List AV)(n:Int):Nat->Option (List AV)
 |0=>some []
 |m+1=>match DV sz k cs n m,DU (every sz m k cs) with
  |some vs,some (kd,l)=>some (vs++[.int kd (l.getD n.toNat 0)])
  |_,_=>none
def JY(T:bY)(t:TypeId):Option (Nat×TE):=match T.find t with
 |some te=>match te.desc with
  |.array k e=>match T.find e with
    |some ee=>some (k,ee)
    |none=>none
  |_=>none
 |none=>none
def wL(T:bY)(t:TypeId)(cs:List AV)(n:Int):Option Out:=match JY T t with
 |some (k,ee)=>bif Nat.beq cs.length (k*ee.size) then match DV ee.size k cs n ee.size with
  |some vs=>bif ee.desc.mw then some {cond:=[0<=n/\n<(k:Int)],res:=.agg vs} else match vs with
   |[a]=>some {cond:=[0<=n/\n<(k:Int)],res:=a}
   |_=>none
  |none=>none
  else none
 |none=>none
def pR(k:Nat):Bool:=Nat.ble 50000 k&&Nat.blt k 60000
def fresh(h:aJ)(k:Nat):Bool:=match h k with
 |none=>!(pR k)
 |some _=>false
def wM(n:Int):List Int->Prop
 |[]=>True
 |k::r=>n≠k/\wM n r
def JZ(n:Int):List Int->Bool
 |[]=>false
 |k::r=>decide (n=k) || JZ n r
def fS:List Int->Bool
 |[]=>true
 |k::r=>!JZ k r&&fS r
def uG:TypeDesc->Bool
 |.int .i64=>true
 |_=>false
def Wk:Value->Bool
 |.nilFunc=>true
 |_=>false
def Co(T:bY)(DO:Nat)(t:TypeId)(ok:Bool)(ks:List Int)(cs:List AV)(n:Int):Option Out:=match T.find t with
 |some te=>match te.desc with
  |.map kt et=>bif cE T kt uG&&fS ks then
      (match ks[DO]?,cs[DO]? with
      |some k,some c=>some {cond:=[n=k],res:=bif ok then .bn [c,.tt] else c}
      |_,_=>match T.find et with
       |some ee=>bif Wk ee.zero then some {cond:=[wM n ks],res:=bif ok then .bn [.k7,.ff] else .k7} else none
       |none=>none)
    else none
  |_=>none
 |none=>none
def dp(E:Env)(st:St)(o:Oper):Option Out:=
 let T:=E.T
 let h:=st.h
 let ρ:=ev st
 match o.op with
 |.move x|.assign x=>some {cond:=[],res:=ρ x}
 |.pick c a b=>match ρ c with
   |.tt=>some {cond:=[],res:=ρ a}
   |.ff=>some {cond:=[],res:=ρ b}
   |.bool p=>some {cond:=[],res:=DS p (ρ a) (ρ b)}
   |_=>none
 |.alloc t=>match T.find t,o.dst with
   |some te,some d=>bif Nat.ble te.size 40 then(bif (ofConst te.zero).cells.all AV.one then some {cond:=[],res:=.ref (st.kb+d) 0,new:=[(st.kb+d,.cells (fB (st.kb+d) (ofConst te.zero).cells))]} else none) else none
   |_,_=>none
 |.box _ x=>match o.dst with
   |some d=>bif (ρ x).cells.all AV.one then some {cond:=[],res:=.ref (st.kb+d) 0,new:=[(st.kb+d,.cells (fB (st.kb+d) (ρ x).cells))]} else none
   |none=>none
 |.build t parts=>FV T t (parts.toList.map λp=>(p.1,ρ p.2))
 |.buildSlice t len parts=>match o.dst with
   |some d=>bif fresh h (st.kb+d) then jS T h (st.kb+d) t len (parts.toList.map λp=>(p.1,ρ p.2)) else none
   |none=>none
 |.load t p=>oE T h t (ρ p)
 |.store t p v=>gq T h t (ρ p) (ρ v)
 |.nilCheck x=>match ρ x with
   |.ref k off=>some {cond:=[],res:=.ref k off}
   |.cN r x j=>some {cond:=[],res:=.cN r x j}
   |.elem k sz i j=>some {cond:=[],res:=.elem k sz i j}
   |.fn (.func f) first aR=>some {cond:=[],res:=.fn (.func f) first aR}
   |_=>none
 |.binOp op t x y _=>Qy T t op (ρ x) (ρ y)
 |.unOp op _ x=>Wj op (ρ x)
 |.convert s d x=>oh T h s d (ρ x)
 |.makeFunc f first aR=>some {cond:=[],res:=.fn f (first.toList.map ρ) (aR.toList.map ρ)}
 |.makeSlice t l c=>match o.dst with
   |some d=>bif fresh h (st.kb+d) then uF T (st.kb+d) t (ρ l) (ρ c) else none
   |none=>none
 |.slice t x lo hi mx=>rZ T h t (ρ x) (lo.map ρ) (hi.map ρ) (mx.map ρ)
 |.fieldAddr s x f=>uE T s f (ρ x)
 |.field s x f=>match DL T s f,ρ x with
   |some (ft,off),.agg cs=>match T.find ft with
    |some te=>match pick te cs off with
     |some a=>some {cond:=[],res:=a}
     |none=>none
    |none=>none
   |_,_=>none
 |.indexAddr t x i=>se T h t (akU i) (ρ x) (ρ i)
 |.index t x i=>match ρ x,ρ i with
   |.str s,.int _ n=>bif cE T t rE then some {cond:=[0<=n/\n<(s.length:Int)],res:=.int .u8 ((s.getD n.toNat 0).toNat:Int)} else none
   |.agg cs,.int _ n=>wL T t cs n
   |_,_=>none
 |.extract x i=>match ρ x with
   |.bn vs=>match vs[i]? with
     |some a=>some {cond:=[],res:=a}
     |none=>none
   |_=>none
 |.lookup t x i ok=>match ρ x,ρ i with
   |.gp ks cs,.int .i64 n=>Co T E.DO t ok ks cs n
   |_,_=>none
 |.call c=>match c.callee with
   |.builtin b=>match b,c.args.toList,c.argTypes.toList with
     |.len,[x],[t]=>match FU h (ρ x) with
       |some n=>bif (bif wJ (ρ x) then cE T t fH else cE T t rE) then some {cond:=[],res:=.int .i64 n} else none
       |none=>none
     |.append,[s,x],[t,t']=>match o.dst with
       |some d=>bif fresh h (st.kb+d) then pQ T h (st.kb+d) t t' (ρ s) (ρ x) else none
       |none=>none
     |.copy,[s,x],[t,t']=>sf T h t t' (ρ s) (ρ x)
     |.clear,[x],[t]=>r6 T h t (ρ x)
     |.min,[x,y],_=>match ρ x,ρ y with
       |.int k n,.int k' m=>if k=k' then some {cond:=[],res:=.int k (min n m)} else none
       |_,_=>none
     |.max,[x,y],_=>match ρ x,ρ y with
       |.int k n,.int k' m=>if k=k' then some {cond:=[],res:=.int k (max n m)} else none
       |_,_=>none
     |_,_,_=>none
   |.value f=>match ρ f,o.dst with
     |.fn (.func f) first aR,some d=>oG E h (st.kb+d) f (first++(c.args.toList.map ρ)++aR)
     |.fn (.func f) first aR,none=>oG E h st.kb f (first++(c.args.toList.map ρ)++aR)
     |_,_=>none
   |_=>none
 |_=>none
def iy(h:aJ):List (Nat×AB)->Bool
 |[]=>true
 |(k,_)::r=>(match h k with|none=>!(pR k)|some _=>false)&&iy h r
def my(new:List (Nat×AB))(a:AV):AV:=match new with
 |[]=>a
 |(k,_)::r=>my r (dR k a)
def bG(new:List (Nat×AB))(a:AB):AB:=match new with
 |[]=>a
 |(k,_)::r=>bG r (lI k a)
def ah(l:List (Nat×AB))(k:Nat):Option AB:=match l with
 |[]=>none
 |(j,b)::r=>bif Nat.beq k j then some b else ah r k
def au(l:List Nat)(k:Nat):Bool:=match l with
 |[]=>false
 |j::r=>Nat.beq k j || au r k
def vF(out:Out)(k:Nat)(b:AB):AB:=bif au out.raw k then b else bG out.new b
def vG(h:aJ)(out:Out):aJ:=λk=>match ah out.new k with
 |some b=>some b
 |none=>bif au out.del k then none else match ah out.fE k with
  |some b=>some (vF out k b)
  |none=>match h k with
   |some b=>some (bG out.new b)
   |none=>none
def St.put(st:St)(d:Option Nat)(out:Out):St:=
 {st with
  t:=match d with
   |some d=>λi=>bif Nat.beq i d then out.res else my out.new (st.t i)
   |none=>λi=>my out.new (st.t i)
  h:=vG st.h out
  b9:=out.fE.map (·.1)++(out.del++(out.new.map (·.1)++st.b9))
  news:=st.news++out.new.map λx=>.one x.1
  Hy:=out.del++st.Hy}
def HA:List Prop->Prop
 |[]=>True
 |[p]=>p
 |p::ps=>p/\HA ps
end Go.Vg

end
section
namespace Go.Vg
open Go
def dc {α:Type}(R:List Value->α->Prop):List Value->List α->Prop
 |cs,[]=>cs=[]
 |cs,x::l=>∃c1 c2,cs=c1++c2/\R c1 x/\dc R c2 l
mutual
def Rd(w:World)(A:Nat->Prop):(t:Ty)->Value->D t->Prop
 |.int k,v,x=>v= .int k (DI.toInt k x)/\lo k<=DI.toInt k x/\DI.toInt k x<=hi k
 |.bool,v,b=>v= .bool b
 |.str,v,s=>v= .string ⟨s.toArray⟩/\s.length<=maxLen
 |.slice row,v,l=>∃a cap cs,v= .slice a l.length cap/\l.length<=cap/\cap<=maxLen/\dc (br w A row) cs l/\
     (cs≠ []->∃b o,a=some ⟨b,o,none⟩/\A b/\w.rangeAt b o cs)
def br(w:World)(A:Nat->Prop):(ts:List Ty)->List Value->Row ts->Prop
 |[],vs,_=>vs=[]
 |t::ts,vs,x=>∃v bS,vs=v::bS/\Rd w A t v (Row.hd x)/\br w A ts bS (Row.tl x)
end
mutual
def aa(w:World)(A:Nat->Prop)(β:Nat->Value):Value->AV->Prop
 |_,.cr=>True
 |v,.undef=>v=undef
 |v,.int k n=>v= .int k n/\lo k<=n/\n<=hi k
 |v,.bool b=>v= .bool b
 |v,.tt=>v= .bool true
 |v,.ff=>v= .bool false
 |v,.str s=>v= .string ⟨s.toArray⟩/\s.length<=maxLen
 |v,.nil=>v= .slice none 0 0
 |v,.jQ=>v= .pointer none
 |v,.k7=>v= .nilFunc
 |v,.sl row l=>Rd w A (.slice row) v l
 |v,.full row l=>Rd w A (.slice row) v l/\∃a,v= .slice a l.length l.length
 |v,.cN row x j=>∃b o cs,v= .pointer (some ⟨b,o+j,none⟩)/\A b/\w.rangeAt b o cs/\br w A row cs x
 |v,.pB row l=>∃b o cs,v= .pointer (some ⟨b,o,none⟩)/\A b/\w.rangeAt b o cs/\dc (br w A row) cs l
 |v,.own k=>v=β k/\v.oneCell'=true
 |v,.pre k n=>(β k= .slice none 0 0/\v= .slice none 0 0/\n=0)\/
    ∃b m cap,β k= .slice (some ⟨b,0,none⟩) m cap/\v= .slice (some ⟨b,0,none⟩) n cap/\n<=m
 |v,.view k sz off n=>(n=0/\∃a cap,v= .slice a 0 cap/\cap<=maxLen)\/
    ∃b m cap jg,β k= .slice (some ⟨b,0,none⟩) m cap/\v= .slice (some ⟨b,off*sz,none⟩) n jg/\n<=jg/\off+jg<=cap/\off+n<=m
 |v,.ref k off=>∃b,β k= .pointer (some ⟨b,0,none⟩)/\v= .pointer (some ⟨b,off,none⟩)
 |v,.elem k sz i j=>∃b m cap,β k= .slice (some ⟨b,0,none⟩) m cap/\v= .pointer (some ⟨b,i*sz+j,none⟩)
 |v,.agg cs=>∃arr:Array Value,v= .agg arr/\ae w A β arr.toList cs
 |v,.bn vs=>∃arr:Array Value,v= .tuple arr/\ae w A β arr.toList vs
 |v,.oC _ l=>∃b,v= .bool b/\(b=true->l=[])
 |v,.fn f first aR=>∃a1 a2:Array Value,v= .func f a1 a2/\ae w A β a1.toList first/\ae w A β a2.toList aR
 |v,.gp ks cs=>∃(b:Nat) (es:Array MapEntry) (clock:Nat),v= .map (some b)/\A b/\(∃wN,w.heap[b]? =some (.map wN clock)/\wN.toList.Perm es.toList)/\es.toList.map (·.key)=ks.map (Value.int .i64)/\ae w A β (es.toList.map (·.val)) cs
def ae(w:World)(A:Nat->Prop)(β:Nat->Value):List Value->List AV->Prop
 |vs,[]=>vs=[]
 |vs,a::as_=>∃v bS,vs=v::bS/\aa w A β v a/\ae w A β bS as_
end
def ag:Value->Option Nat
 |.pointer (some a)=>some a.block
 |.slice (some a) _ _=>some a.block
 |_=>none
def b7(w w':World)(A A':Nat->Prop):Prop:=∀b,A b->A' b/\w'.heap[b]? =w.heap[b]?
def cO(P:Program)(f:FuncId):Prop:=∀(args:Array Value) (w:World),(callFunc f args).run P w= .ok (.enter f args) w
def Û(P:Program)(f g:FuncId):Prop:=cO P f/\∀(w:World) (y:FuncId) (p:Value),Calls P f #[.func (.func y) #[] #[],p] w λe w'=>∃ty,e= .returned (.func (.func g) #[] #[p,.pointer (some ⟨w.heap.size,0,none⟩)])/\w'=w.alloc (.cells #[.func (.func y) #[] #[]] ty)
class HP where
 is:Program->Prop
 mkf:Nat->Option Nat
 QB:∀P,is P->∀f g,mkf f=some g->Û P f g
variable [HP]
def nK(w:World)(S:Nat->Prop)(e:Nat):List Value->List (List Int)->Prop
 |[],[]=>True
 |v::vs,x::l=>w.ownsRow 0 e 1 v x.length (x.map (Value.int .i64))/\(∀n∈x,lo .i64<=n/\n<=hi .i64)/\(∀b,ag v=some b->S b/\∀u∈vs,ag u≠some b)/\nK w S e vs l
 |_,_=>False
def HB(w:World)(S:Nat->Prop)(p:Value):Z->Prop
 |.n=>True
 |.s t=>∃b e,p= .pointer (some ⟨b,0,none⟩)/\w.heap[b]? =some (.cells #[.string ⟨t.toArray⟩] e (0,0))/\t.length<=maxLen/\S b
 |.g e ei l=>∃b e0 v xs,p= .pointer (some ⟨b,0,none⟩)/\w.heap[b]? =some (.cells #[v] e0 (0,0))/\S b/\v.oneCell'=true/\w.ownsRow 0 e 1 v l.length xs/\
     (∀g,ag v=some g->S g/\g≠b/\∀u∈xs,ag u≠some g)/\(∀u∈xs,ag u≠some b)/\nK w S ei xs l
def asw(w:World)(p v:Value):Prop:=∃b e,p= .pointer (some ⟨b,0,none⟩)/\w.heap[b]? =some (.cells #[v] e (0,0))
def ZR(w:World)(p:Value)(w':World):Z->Z->Prop
 |.n,.n=>True
 |.s _,.s _=>True
 |.g e ei _,.g e' ei' _=>e=e'/\ei=ei'/\∀v,asw w p v->asw w' p v
 |_,_=>False
structure rv (w:World) (A S:Nat->Prop) (z:Z) (w':World) (A' S':Nat->Prop) (p v:Value) (r:AV×Z):Prop where
 kin:ZR w p w' z r.2
 os:w'.os=w.os
 tape:w'.tape=w.tape
 output:w'.output=w.output
 size:w.heap.size<=w'.heap.size
 same:∀b,b<w.heap.size->¬S b->w'.heap[b]? =w.heap[b]?
 mono:∀b,A b->A' b
 gH:∀b,b<w.heap.size->A' b->A b
 bound:∀b,A' b->b<w'.heap.size
 J0:∀b,S' b->(S b\/w.heap.size<=b)/\¬A' b/\b<w'.heap.size
 res:∀β,aa w' A' β v r.1
 hb:HB w' S' p r.2
def HC(w:World)(A:Nat->Prop)(p v:Value)(F:CF):Prop:=
 v.oneCell'=true/\∃f a2,v= .func (.func f) #[] a2/\∀P,HP.is P->cO P f/\∀w' A' z S,b7 w w' A A'->(∀b,A' b->b<w'.heap.size)->(∀b,S b->¬A' b/\b<w'.heap.size)->HB w' S p z->(F z).1->
  Calls P f a2 w' λe NC=>∃v',e= .returned v'/\∃A'' S',rv w' A' S z NC A'' S' p v' (F z).2
def sh(w:World)(A:Nat->Prop)(p:Value):List Value->List CF->Prop
 |[],[]=>True
 |v::vs,F::l=>HC w A p v F/\sh w A p vs l
 |_,_=>False
theorem HC.mono {w w':World}{A A':Nat->Prop}{p v:Value}{F:CF}(hK:b7 w w' A A')(h:HC w A p v F):HC w' A' p v F:=by
 obtain⟨h0,f,a2,h1,h2⟩:=h;exact⟨h0,f,a2,h1,λP hP=>⟨(h2 P hP).1,λw2 A2 z S ND=>(h2 P hP).2 w2 A2 z S λb hb=>⟨(ND b (hK b hb).1).1,(ND b (hK b hb).1).2.trans (hK b hb).2⟩⟩⟩
theorem sh.mono {w w':World}{A A':Nat->Prop}{p:Value}(hK:b7 w w' A A'):∀ {xs:List Value} {l:List CF},sh w A p xs l->sh w' A' p xs l
 |[],[],_=>trivial
 |_::_,_::_,h=>⟨h.1.mono hK,sh.mono hK h.2⟩
def BR(w:World)(A:Nat->Prop)(β:Nat->Value)(k:Nat):AB->Prop
 |.cells cs=>∃b arr e,β k= .pointer (some ⟨b,0,none⟩)/\w.heap[b]? =some (.cells arr e (0,0))/\¬A b/\
     ae w A β arr.toList cs/\∀v∈arr.toList,v.oneCell'=true
 |.row e row l fr=>∃xs,w.ownsRow 0 e row.length (β k) l.length xs/\dc (br w A row) xs l/\
     ∀b,ag (β k)=some b->if fr then A b else ¬A b
 |.arr row l=>∃b arr e,β k= .pointer (some ⟨b,0,none⟩)/\w.heap[b]? =some (.cells arr e (0,0))/\¬A b/\dc (br w A row) arr.toList l
 |.gG e j row l i=>∃xs v0,w.ownsRow 0 e row.length (β k) l.length xs/\(∀b,ag (β k)=some b->¬A b)/\dc (br w A row) (xs.set (i*row.length+(row.length-1)) v0) l/\
     ∀j',j=some j'->xs[i*row.length+(row.length-1)]? =some (β j')
 |.views e j n m sz=>∃xs,w.ownsRow 0 e 1 (β k) n xs/\(∀b,ag (β k)=some b->¬A b)/\
     ∀j',j=some j'->∀i,i<m->∃v,xs[i]? =some v/\aa w A β v (.view j' 1 (i*sz) sz)
 |.eE e j l=>∃xs,w.ownsRow 0 e 1 (β k) l.length xs/\(∀b,ag (β k)=some b->¬A b)/\∀p,(∀j',j=some j'->p=β j')->sh w A p xs l
 |.dM e j xs i=>∃ys,w.ownsRow 0 e 1 (β k) xs.length ys/\(∀b,ag (β k)=some b->¬A b)/\(∀m,m≠i->ys[m]? =xs[m]?)/\∀j',j=some j'->ys[i]? =some (β j')/\(β j').oneCell'=true
 |.fvar row x=>∃b arr e,β k= .pointer (some ⟨b,0,none⟩)/\w.heap[b]? =some (.cells arr e (0,0))/\A b/\br w A row arr.toList x
 |.aX e sz n cs=>∃xs,w.ownsRow 0 e sz (β k) n xs/\(∀b,ag (β k)=some b->¬A b)/\∀aw,ae w A aw xs cs
 |.mp b es ck=>β k= .pointer (some ⟨b,0,none⟩)/\w.heap[b]? =some (.map es ck)/\¬A b
def na(w:World)(A:Nat->Prop)(i:Nat)(d:GD):Prop:=A i/\∃cs,w.rangeAt i 0 cs/\dc (br w A d.row) cs d.l
structure Ctx where
 w0:World
 A0:Nat->Prop
 M0:Nat->Prop
 G:Nat->Option GD
 DW:Nat->Value
structure Fr (C:Ctx) (w:World):Prop where
 os:w.os=C.w0.os
 tape:w.tape=C.w0.tape
 output:w.output=C.w0.output
 size:C.w0.heap.size<=w.heap.size
 block:∀b,b<C.w0.heap.size->¬C.M0 b->w.heap[b]? =C.w0.heap[b]?
structure aq (C:Ctx) (A:Nat->Prop) (β:Nat->Value) (st:St) (a:Act) (w:World):Prop where
 defers:a.defers=[]
 size:a.tmps.size=st.n
 tmps:∀i,aa w A β (a.tmps.getD i undef) (st.t i)
 blocks:∀k ab,st.h k=some ab->BR w A β k ab
 apart:∀k k' b,(st.h k).isSome->(st.h k').isSome->ag (β k)=some b->ag (β k')=some b->k=k'
 bound:∀b,A b->b<w.heap.size
 frame:Fr C w
 gH:∀b,b<C.w0.heap.size->A b->C.A0 b\/C.M0 b
 base:∀b,C.A0 b->A b
 lK:∀k b,(st.h k).isSome->ag (β k)=some b->C.w0.heap.size<=b\/C.M0 b
 nR:∀i d,st.g i=some d->C.G i=some d
 laid:∀i d,C.G i=some d->na w A i d
 held:∀k,pR k=true->β k=C.DW k
def Rel(C:Ctx)(st:St)(a:Act)(w:World):Prop:=∃A β,aq C A β st a w
def qq {w w':World}{b o:Nat}{cs:List Value}(h:w'.heap[b]? =w.heap[b]?)(hr:w.rangeAt b o cs):w'.rangeAt b o cs:=by
 intro j v hj;have:=hr j v hj;grind[World.cell?_of_block]
theorem bm {α:Type}{R R':List Value->α->Prop}(h:∀c x,R c x->R' c x):∀(l:List α) (cs:List Value),dc R cs l->dc R' cs l
 |[],_,hr=>hr
 |_::l,_,⟨c1,c2,hc,h1,h2⟩=>⟨c1,c2,hc,h _ _ h1,bm h l c2 h2⟩
mutual
theorem DX {w w':World}{A A':Nat->Prop}(h:b7 w w' A A'):∀(t:Ty) (v:Value) (x:D t),Rd w A t v x->Rd w' A' t v x
 |.int _,_,_,hr|.bool,_,_,hr|.str,_,_,hr=>by simpa only [Rd] using hr
 |.slice row,v,l,hr=>by
   simp only [Rd] at hr |-;obtain⟨a,cap,cs,h1,h2,h3,h4,h5⟩:=hr;refine⟨a,cap,cs,h1,h2,h3,bm (λc x hx=>bw h row c x hx) l cs h4,λdU=>?_⟩;obtain⟨b,o,ha,hA,hra⟩:=h5 dU;exact⟨b,o,ha,(h b hA).1,qq (h b hA).2 hra⟩
theorem bw {w w':World}{A A':Nat->Prop}(h:b7 w w' A A'):∀(ts:List Ty) (vs:List Value) (x:Row ts),br w A ts vs x->br w' A' ts vs x
 |[],_,_,hr=>by simpa only [br] using hr
 |t::ts,vs,x,hr=>by
  simp only [br] at hr |-;obtain⟨v,bS,h1,h2,h3⟩:=hr;exact⟨v,bS,h1,DX h t v _ h2,bw h ts bS _ h3⟩
end
theorem na.mono {w w':World}{A A':Nat->Prop}{i:Nat}{d:GD}(hd:na w A i d)(h:b7 w w' A A'):na w' A' i d:=by
 obtain⟨h1,cs,h2,h3⟩:=hd;exact⟨(h i h1).1,cs,qq (h i h1).2 h2,bm (λc x hx=>bw h _ _ _ hx) _ _ h3⟩
def Tl {w:World}{A:Nat->Prop}{β:Nat->Value}(v:Value):aa w A β v .cr:=by simp [aa]
mutual
theorem hY {w w':World}{A A':Nat->Prop}{β:Nat->Value}(h:b7 w w' A A'):∀(a:AV) (v:Value),aa w A β v a->aa w' A' β v a
 |.cr,_,hr=>by simp [aa]
 |.undef,_,hr|.int _ _,_,hr|.bool _,_,hr|.tt,_,hr|.ff,_,hr|.str _,_,hr|.nil,_,hr|.jQ,_,hr|.oC _ _,_,hr|.k7,_,hr=>by simpa only [aa] using hr
 |.sl row l,v,hr=>by
   simp only [aa] at hr |-;exact DX h _ _ _ hr
 |.full row l,v,hr=>by
   simp only [aa] at hr |-;exact⟨DX h _ _ _ hr.1,hr.2⟩
 |.cN row x j,v,hr=>by
   simp only [aa] at hr |-;obtain⟨b,o,cs,h1,h2,h3,h4⟩:=hr;exact⟨b,o,cs,h1,(h b h2).1,qq (h b h2).2 h3,bw h _ _ _ h4⟩
 |.pB row l,v,hr=>by
   simp only [aa] at hr |-;obtain⟨b,o,cs,h1,h2,h3,h4⟩:=hr;exact⟨b,o,cs,h1,(h b h2).1,qq (h b h2).2 h3,bm (λc x hx=>bw h _ _ _ hx) _ _ h4⟩
 |.own _,_,hr|.pre _ _,_,hr|.view _ _ _ _,_,hr|.ref _ _,_,hr|.elem _ _ _ _,_,hr=>by simpa only [aa] using hr
 |.agg cs,v,hr=>by
   simp only [aa] at hr |-;obtain⟨arr,h1,h2⟩:=hr;exact⟨arr,h1,cu h cs _ h2⟩
 |.bn cs,v,hr=>by
   simp only [aa] at hr |-;obtain⟨arr,h1,h2⟩:=hr;exact⟨arr,h1,cu h cs _ h2⟩
 |.fn f first aR,v,hr=>by
   simp only [aa] at hr |-;obtain⟨a1,a2,h1,h2,h3⟩:=hr;exact⟨a1,a2,h1,cu h first _ h2,cu h aR _ h3⟩
 |.gp ks cs,v,hr=>by
   simp only [aa] at hr |-;obtain⟨b,es,ck,h1,h2,h3,h4,h5⟩:=hr;exact⟨b,es,ck,h1,(h b h2).1,by rw [(h b h2).2];exact h3,h4,cu h cs _ h5⟩
theorem cu {w w':World}{A A':Nat->Prop}{β:Nat->Value}(h:b7 w w' A A'):∀(as_:List AV) (vs:List Value),ae w A β vs as_->ae w' A' β vs as_
 |[],_,hr=>by simpa only [ae] using hr
 |a::as_,vs,hr=>by
  simp only [ae] at hr |-;obtain⟨v,bS,h1,h2,h3⟩:=hr;exact⟨v,bS,h1,hY h a v h2,cu h as_ bS h3⟩
end
theorem aG {k d:Nat}(h:¬k=d):Nat.beq k d=false:=by
 grind[Nat.eq_of_beq_eq_true]
theorem ct(k:Nat):Nat.beq k k=true:=Nat.beq_refl k
def bg(β:Nat->Value)(d:Nat)(v:Value):Nat->Value:=λk=>if k=d then v else β k
mutual
theorem wO {w:World}{A:Nat->Prop}{β:Nat->Value}(d:Nat)(u:Value):∀(a:AV) (v:Value),aa w A β v a->aa w A (bg β d u) v (dR d a)
 |.cr,_,hr=>by simp [dR,aa]
 |.undef,_,hr|.int _ _,_,hr|.bool _,_,hr|.tt,_,hr|.ff,_,hr|.str _,_,hr|.nil,_,hr|.jQ,_,hr|.oC _ _,_,hr|.k7,_,hr|.sl _ _,_,hr|.full _ _,_,hr|.cN _ _ _,_,hr|.pB _ _,_,hr=>by simpa only [dR,aa] using hr
 |.own k,v,hr=>by
   simp only [dR];by_cases hk:k=d
   . subst hk;simp [aa]
   . have :Nat.beq k d=false:=aG hk;simp only [this,L!];simpa only [aa,bg,Q! hk] using hr
 |.pre k n,v,hr=>by
   simp only [dR];by_cases hk:k=d
   . subst hk;simp [aa]
   . have :Nat.beq k d=false:=aG hk;simp only [this,L!];simpa only [aa,bg,Q! hk] using hr
 |.view k sz off n,v,hr=>by
   simp only [dR];by_cases hk:k=d
   . subst hk;simp [aa]
   . have :Nat.beq k d=false:=aG hk;simp only [this,L!];simpa only [aa,bg,Q! hk] using hr
 |.ref k off,v,hr=>by
   simp only [dR];by_cases hk:k=d
   . subst hk;simp [aa]
   . have :Nat.beq k d=false:=aG hk;simp only [this,L!];simpa only [aa,bg,Q! hk] using hr
 |.elem k sz i j,v,hr=>by
   simp only [dR];by_cases hk:k=d
   . subst hk;simp [aa]
   . have :Nat.beq k d=false:=aG hk;simp only [this,L!];simpa only [aa,bg,Q! hk] using hr
 |.agg cs,v,hr=>by
   simp only [dR,aa] at hr |-;obtain⟨arr,h1,h2⟩:=hr;exact⟨arr,h1,hZ d u cs _ h2⟩
 |.bn cs,v,hr=>by
   simp only [dR,aa] at hr |-;obtain⟨arr,h1,h2⟩:=hr;exact⟨arr,h1,hZ d u cs _ h2⟩
 |.fn f first aR,v,hr=>by
   simp only [dR,aa] at hr |-;obtain⟨a1,a2,h1,h2,h3⟩:=hr;exact⟨a1,a2,h1,hZ d u first _ h2,hZ d u aR _ h3⟩
 |.gp ks cs,v,hr=>by
   simp only [dR,aa] at hr |-;obtain⟨b,es,ck,h1,h2,h3,h4,h5⟩:=hr;exact⟨b,es,ck,h1,h2,h3,h4,hZ d u cs _ h5⟩
theorem hZ {w:World}{A:Nat->Prop}{β:Nat->Value}(d:Nat)(u:Value):∀(as_:List AV) (vs:List Value),ae w A β vs as_->ae w A (bg β d u) vs (fB d as_)
 |[],_,hr=>by simpa only [fB,ae] using hr
 |a::as_,vs,hr=>by
  simp only [fB,ae] at hr |-;obtain⟨v,bS,h1,h2,h3⟩:=hr;exact⟨v,bS,h1,wO d u a v h2,hZ d u as_ bS h3⟩
end
theorem Wl {w:World}{A:Nat->Prop}{β aw:Nat->Value}(h:∀k,aw k=β k){v:Value}{a:AV}(hr:aa w A β v a):aa w A aw v a:=by
 simp_all[funext]
def BE {w:World}{A:Nat->Prop}:∀(new:List (Nat×AB)) (β aw:Nat->Value) (v:Value) (a:AV),(∀k,ah new k=none->aw k=β k)->aa w A β v a->aa w A aw v (my new a)
 |[],β,aw,v,a,h,hr=>by
   grind[my,Wl,ah]
 |(d,b)::r,β,aw,v,a,h,hr=>by
  refine BE r (bg β d (aw d)) aw v (dR d a) (λk hk=>?_) (wO d (aw d) a v hr);by_cases hkd:k=d
  . grind[bg]
  simp_all[bg,Q!,ah,aG,L!]
def yD(new:List (Nat×AB))(cs:List AV):List AV:=match new with
 |[]=>cs
 |(k,_)::r=>yD r (fB k cs)
def yE {w:World}{A:Nat->Prop}:∀(new:List (Nat×AB)) (β aw:Nat->Value) (vs:List Value) (as_:List AV),(∀k,ah new k=none->aw k=β k)->ae w A β vs as_->ae w A aw vs (yD new as_)
 |[],β,aw,v,a,h,hr=>by
   simp_all[yD,funext,ah]
 |(d,b)::r,β,aw,v,a,h,hr=>by
  refine yE r (bg β d (aw d)) aw v (fB d a) (λk hk=>?_) (hZ d (aw d) a v hr);by_cases hkd:k=d
  . grind[bg]
  simp_all[bg,Q!,ah,aG,L!]
def yF:∀(new:List (Nat×AB)) (cs:List AV),bG new (.cells cs)= .cells (yD new cs)
 |[],_=>rfl
 |(k,_)::r,cs=>by simp [bG,lI,yD,yF r]
theorem mz:∀(new:List (Nat×AB)) (e:Nat) (row:List Ty) (l:List (Row row)) (fr:Bool),bG new (.row e row l fr)= .row e row l fr
 |[],_,_,_,_=>rfl
 |(k,_)::r,e,row,l,fr=>by simp [bG,lI,mz r]
def DY:∀(new:List (Nat×AB)) (row:List Ty) (l:List (Row row)),bG new (.arr row l)= .arr row l
 |[],_,_=>rfl
 |(k,_)::r,row,l=>by simp [bG,lI,DY r]
def np(new:List (Nat×AB))(j:Option Nat):Option Nat:=match new with
 |[]=>j
 |(k,_)::r=>np r (qo k j)
theorem si:∀(new:List (Nat×AB)) (e:Nat) (j:Option Nat) (n m sz:Nat),bG new (.views e j n m sz)= .views e (np new j) n m sz
 |[],_,_,_,_,_=>rfl
 |(k,_)::r,e,j,n,m,sz=>by simp [bG,lI,np,si r]
theorem DZ:∀(new:List (Nat×AB)) (e:Nat) (j:Option Nat) (row:List Ty) (l:List (Row row)) (i:Nat),bG new (.gG e j row l i)= .gG e (np new j) row l i
 |[],_,_,_,_,_=>rfl
 |(k,_)::r,e,j,row,l,i=>by simp [bG,lI,np,DZ r]
def D1:∀(new:List (Nat×AB)) (e sz n:Nat) (cs:List AV),bG new (.aX e sz n cs)= .aX e sz n cs
 |[],_,_,_,_=>rfl
 |_::r,e,sz,n,cs=>D1 r e sz n cs
def BF:∀(new:List (Nat×AB)) (e:Nat) (j:Option Nat) (xs:List Value) (i:Nat),bG new (.dM e j xs i)= .dM e (np new j) xs i
 |[],_,_,_,_=>rfl
 |(d,_)::r,e,j,xs,i=>BF r e (qo d j) xs i
def BG:∀(new:List (Nat×AB)) (row:List Ty) (x:Row row),bG new (.fvar row x)= .fvar row x
 |[],_,_=>rfl
 |_::r,row,x=>BG r row x
def HD:∀(new:List (Nat×AB)) (b:Nat) (es:Array MapEntry) (ck:Nat),bG new (.mp b es ck)= .mp b es ck
 |[],_,_,_=>rfl
 |_::r,b,es,ck=>HD r b es ck
def yG:∀(new:List (Nat×AB)) (e:Nat) (l:List CF),bG new (.eE e none l)= .eE e none l
 |[],_,_=>rfl
 |_::r,e,l=>yG r e l
theorem qs:∀(new:List (Nat×AB)),np new none=none
 |[]=>rfl
 |(k,_)::r=>by simp [np,qo,qs r]
theorem qt:∀(new:List (Nat×AB)) (j:Option Nat) (j':Nat),np new j=some j'->j=some j'/\ah new j'=none
 |[],j,j',h=>⟨h,rfl⟩
 |(k,_)::r,none,j',h=>by grind[qs]
 |(k,_)::r,some i,j',h=>by
  simp [np,qo] at h;cases hb:Nat.beq i k with
  |true=>simp_all[I!,qs]
  |false=>
   rw [hb] at h;obtain⟨h1,h2⟩:=qt r (some i) j' h;simp at h1;subst h1;exact⟨rfl,by simp_all[ah,L!]⟩
def BH:∀(new:List (Nat×AB)) (e j:Nat) (l:List CF),(bG new (.eE e (some j) l)= .eE e (some j) l/\ah new j=none)\/bG new (.eE e (some j) l)= .views e none l.length 0 0
 |[],_,_,_=>.inl ⟨rfl,rfl⟩
 |(d,b)::r,e,j,l=>by
  cases h:Nat.beq j d with
  |true=>exact .inr (by simp only [bG,lI,wI,h,I!,si,qs])
  |false=>
   simp only [bG,lI,wI,ah,h,L!];exact BH r e j l
theorem yH {w w':World}{A A':Nat->Prop}{β aw:Nat->Value}{v:Value}{j sz off n:Nat}(h:aw j=β j)(hr:aa w A β v (.view j sz off n)):aa w' A' aw v (.view j sz off n):=by
 grind[aa]
theorem cI {w w':World}{e size n:Nat}{v:Value}{xs:List Value}(h:w.ownsRow 0 e size v n xs)(hb:∀b,ag v=some b->w'.heap[b]? =w.heap[b]?):w'.ownsRow 0 e size v n xs:=by
 refine⟨h.1,?_⟩;rcases h.2 with hn|⟨g,cap,cur,rfl,h0,hg,rest⟩
 . grind
 . refine .inr ⟨g,cap,cur,rfl,h0,?_,rest⟩;rw [hb g rfl];omega
def vI {w w':World}{A A':Nat->Prop}{β aw:Nat->Value}{new:List (Nat×AB)}{k:Nat}{ab:AB}(bt:∀k,ah new k=none->aw k=β k)(hk:aw k=β k)
  (hblk:∀b,ag (β k)=some b->w'.heap[b]? =w.heap[b]? /\(A' b->A b)) (hK:b7 w w' A A') (h:BR w A β k ab):BR w' A' aw k (bG new ab):=by
 cases ab with
 |cells cs=>
  rw [yF];obtain⟨b,arr,e,h1,h2,h3,h4,h5⟩:=h;have hb:=hblk b (by rw [h1];rfl);exact⟨b,arr,e,hk.trans h1,hb.1.trans h2,λhA=>h3 (hb.2 hA),yE new β aw _ _ bt (cu hK _ _ h4),h5⟩
 |row e row l fr=>
  rw [mz];obtain⟨xs,h1,h2,h3⟩:=h;simp [BR,hk];refine⟨xs,cI h1 (λb hb=>(hblk b hb).1),bm (λc x hx=>bw hK row c x hx) l xs h2,λb hb=>?_⟩;have:=h3 b hb;cases fr with
  |true=>exact(hK b this).1
  |false=>grind
 |arr row l=>
  rw [DY];obtain⟨b,arr,e,h1,h2,h3,h4⟩:=h;have hb:=hblk b (by rw [h1];rfl);exact⟨b,arr,e,hk.trans h1,hb.1.trans h2,λhA=>h3 (hb.2 hA),bm (λc x hx=>bw hK row c x hx) l _ h4⟩
 |views e j n m sz=>
  rw [si];obtain⟨xs,h1,h2,h3⟩:=h;simp [BR,hk];refine⟨xs,cI h1 (λb hb=>(hblk b hb).1),λb hb hA=>h2 b hb ((hblk b hb).2 hA),λj' fk i hi=>?_⟩;obtain⟨hj,dV⟩:=qt new j j' fk;grind[yH]
 |gG e j row l i=>
  grind[DZ,BR,cI,bm,bw,qt]
 |mp b es ck=>
  rw [HD];obtain⟨h1,h2,h3⟩:=h;have hb:=hblk b (by rw [h1];rfl);exact⟨hk.trans h1,hb.1.trans h2,λhA=>h3 (hb.2 hA)⟩
 |fvar row x=>
  rw [BG];obtain⟨b,arr,e,h1,h2,h3,h4⟩:=h;exact⟨b,arr,e,hk.trans h1,(hblk b (by rw [h1];rfl)).1.trans h2,(hK b h3).1,bw hK _ _ _ h4⟩
 |dM e j xs i=>
  rw [BF];obtain⟨ys,h1,h2,h3,h4⟩:=h;simp only [BR,hk];refine⟨ys,cI h1 (λb hb=>(hblk b hb).1),λb hb hA=>h2 b hb ((hblk b hb).2 hA),h3,λj' fk=>?_⟩;obtain⟨hj,hn⟩:=qt new j j' fk;rw [bt j' hn];exact h4 j' hj
 |aX e sz n cs=>
  rw [D1];obtain⟨xs,h1,h2,h3⟩:=h;simp only [BR,hk];exact⟨xs,cI h1 (λb hb=>(hblk b hb).1),λb hb hA=>h2 b hb ((hblk b hb).2 hA),λej=>cu hK _ _ (h3 ej)⟩
 |eE e j l=>
  obtain⟨xs,h1,h2,h3⟩:=h;have g1:=cI h1 (λb hb=>(hblk b hb).1);have g2:∀b,ag (β k)=some b->¬A' b:=λb hb hA=>h2 b hb ((hblk b hb).2 hA);cases j with
  |none=>
   rw [yG];simp only [BR,hk];exact⟨xs,g1,g2,λp hp=>(h3 p (λ_ h=>by cases h)).mono hK⟩
  |some j=>
   rcases BH new e j l with⟨h,h'⟩|h<;>rw [h]<;>simp only [BR,hk]
   . exact⟨xs,g1,g2,λp hp=>(h3 p (λj' hj=>(hp j' hj).trans (by cases hj;exact bt j h'))).mono hK⟩
   . exact⟨xs,g1,g2,λ_ h=>by cases h⟩
def nq(st:St)(out:Out)(k:Nat):Prop:=(st.h k).isSome/\((ah out.fE k).isSome\/au out.del k=true)
def aq.aC {C:Ctx}{A A':Nat->Prop}{β aw:Nat->Value}{st:St}{a:Act}{w w':World}{out:Out}{d:Option Nat}{v:Value}
  (hB:aq C A β st a w) (hd:∀t,d=some t->t<st.n)
  (FX:∀k b,ah out.new k=some b->st.h k=none/\pR k=false)
  (FY:∀k b,ah out.fE k=some b->(st.h k).isSome)
  (bt:∀k,ah out.new k=none->aw k=β k)
  (hK:b7 w w' A A')
  (hos:w'.os=w.os) (Wm:w'.tape=w.tape) (tN:w'.output=w.output) (nb:w.heap.size<=w'.heap.size)
  (yI:∀b,b<w.heap.size->(∀k,nq st out k->ag (β k)≠some b)->w'.heap[b]? =w.heap[b]?)
  (hbound:∀b,A' b->b<w'.heap.size)
  (hA:∀b,A' b->A b\/w.heap.size<=b\/∃k,nq st out k/\ag (β k)=some b)
  (J1:∀k ab,ah out.fE k=some ab->au out.del k=false->BR w' A' aw k (vF out k ab))
  (dV:∀k ab,ah out.new k=some ab->BR w' A' aw k ab)
  (yJ:∀k b ab,ah out.new k=some ab->ag (aw k)=some b->w.heap.size<=b\/∃k0,au out.del k0=true/\(st.h k0).isSome/\ag (β k0)=some b)
  (Cp:∀k k' b,(ah out.new k).isSome->(ah out.new k').isSome->ag (aw k)=some b->ag (aw k')=some b->k=k')
  (vJ:aa w' A' aw v out.res):aq C A' aw (st.put d out) (a.put d v) w':=by
 have iU:∀k b,(st.h k).isSome->ag (β k)=some b->b<w.heap.size:=by
  intro k b hk hb;obtain⟨ab,ku⟩:=P!.1 hk;have eu:=hB.blocks k ab ku;cases ab with
  |mp b' es ck=>
   obtain⟨h1,h2,_⟩:=eu;grind[ag,Option.some.injEq,Array.getElem?_eq_some_iff]
  |arr _ _|fvar _ _=>
   obtain⟨b',arr,e,h1,h2,_⟩:=eu;grind[ag,Option.some.injEq,Array.getElem?_eq_some_iff]
  |cells cs=>
   obtain⟨b',arr,e,h1,h2,_⟩:=eu;grind[ag,Option.some.injEq,Array.getElem?_eq_some_iff]
  |row e row l fr=>
   obtain⟨xs,h1,_⟩:=eu;rcases h1.2 with⟨hn,_⟩|⟨g,cap,cur,hv,_,hg,_⟩
   . grind[ag]
   grind[ag,Option.some.injEq,Array.getElem?_eq_some_iff]
  |gG e j row l i=>
   obtain⟨xs,v0,h1,_⟩:=eu;rcases h1.2 with⟨hn,_⟩|⟨g,cap,cur,hv,_,hg,_⟩
   . rw [hn] at hb;simp [ag] at hb
   . rw [hv] at hb;simp only [ag,A!] at hb;subst hb;exact(O!.1 hg).1
  |views _ _ _ _ _|eE _ _ _|aX _ _ _ _|dM _ _ _ _=>
   obtain⟨xs,h1,_⟩:=eu;rcases h1.2 with⟨hn,_⟩|⟨g,cap,cur,hv,_,hg,_⟩
   . rw [hn] at hb;simp [ag] at hb
   . rw [hv] at hb;simp only [ag,A!] at hb;subst hb;exact(O!.1 hg).1
 have aeM:∀k Bp,(st.put d out).h k=some Bp->(∃ab,ah out.new k=some ab/\ab=Bp)\/(ah out.new k=none/\au out.del k=false/\
   ((∃ab,ah out.fE k=some ab/\Bp=vF out k ab)\/(ah out.fE k=none/\∃ab,st.h k=some ab/\Bp=bG out.new ab))):=by
  intro k Bp hk;simp only [St.put,vG] at hk;cases hn:ah out.new k with
  |some ab=>simp only [hn,A!] at hk;exact .inl ⟨ab,rfl,hk⟩
  |none=>
   simp only [hn] at hk;cases asx:au out.del k with
   |true=>simp [asx] at hk
   |false=>
    simp only [asx,L!] at hk;cases hu:ah out.fE k with
    |some ab=>simp only [hu,A!] at hk;exact .inr ⟨rfl,rfl,.inl ⟨ab,rfl,hk.symm⟩⟩
    |none=>
     simp only [hu] at hk;cases hs:st.h k with
     |none=>simp [hs] at hk
     |some ab=>simp only [hs,A!] at hk;exact .inr ⟨rfl,rfl,.inr ⟨rfl,ab,rfl,hk.symm⟩⟩
 have eV:∀k,((st.put d out).h k).isSome->(ah out.new k).isSome\/(ah out.new k=none/\au out.del k=false/\(st.h k).isSome):=by
  intro k hk;obtain⟨Bp,azS⟩:=P!.1 hk;rcases aeM k Bp azS with⟨ab,h,_⟩|⟨h1,h2,⟨ab,h,_⟩|⟨_,ab,h,_⟩⟩
  . exact .inl (by simp [h])
  . exact .inr ⟨h1,h2,FY k ab h⟩
  . exact .inr ⟨h1,h2,by simp [h]⟩
 have asy:∀v a,aa w A β v a->aa w' A' aw v (my out.new a):=λv a h=>BE out.new β aw v a bt (hY hK a v h)
 refine⟨?_,?_,?_,?_,?_,hbound,?_,?_,?_,?_,hB.nR,λi d hd=>(hB.laid i d hd).mono hK,λk hk=>by
  rw [bt k (by
   cases hn:ah out.new k with
   |none=>rfl
   |some ab=>rw [(FX k ab hn).2] at hk;cases hk)]
  exact hB.held k hk⟩
 . cases d<;>exact hB.defers
 . cases d with
   |none=>exact hB.size
   |some t=>show(a.put (some t) v).tmps.size=st.n;simp [Act.put,hB.size]
 . intro i;cases d with
   |none=>exact asy _ _ (hB.tmps i)
   |some t=>
    have ht:=hd t rfl;simp only [St.put,Act.put];by_cases hi:i=t
    . subst hi;simp only [ct,I!];rw [B?,Array.getElem?_setIfInBounds_self_of_lt (by rw [hB.size];exact ht)];exact vJ
    . simp only [aG hi,L!];have:=asy _ _ (hB.tmps i);rw [B?,Array.getElem?_setIfInBounds_ne (λh=>hi h.symm),<-B?];exact this
 . intro k Bp hk;rcases aeM k Bp hk with⟨ab,h,rfl⟩|⟨h1,h2,⟨ab,h,rfl⟩|⟨h3,ab,h,rfl⟩⟩
   . exact dV k _ h
   . exact J1 k ab h h2
   . have QC:=hB.blocks k ab h;refine vI bt (bt k h1) (λb hb=>?_) hK QC
     have hnt:∀k',nq st out k'->ag (β k')≠some b:=by
      intro k' ht ek;have :k'=k:=hB.apart k' k b ht.1 (by simp [h]) ek hb;subst this;rcases ht.2 with hu|hu
      . simp [h3] at hu
      . simp [h2] at hu
     refine⟨yI b (iU k b (by simp [h]) hb) hnt,λJ2=>?_⟩;rcases hA b J2 with hh|hh|⟨k',ht,ek⟩
     . exact hh
     . exact absurd (iU k b (by simp [h]) hb) w!
     . exact absurd ek (hnt k' ht)
 . intro k k' b hk ew hb ek;rcases eV k hk with h1|⟨h1,h2,h3⟩<;>rcases eV k' ew with g1|⟨g1,g2,g3⟩
   . exact Cp k k' b h1 g1 hb ek
   . obtain⟨ab,ku⟩:=P!.1 h1;rw [bt k' g1] at ek;rcases yJ k b ab ku hb with hh|⟨k0,hd0,QD,Cq⟩
     . exact absurd (iU k' b g3 ek) w!
     . have :k0=k':=hB.apart k0 k' b QD g3 Cq ek;subst this;rw [hd0] at g2;cases g2
   . obtain⟨ab,ku⟩:=P!.1 g1;rw [bt k h1] at hb;rcases yJ k' b ab ku ek with hh|⟨k0,hd0,QD,Cq⟩
     . exact absurd (iU k b h3 hb) w!
     . have :k0=k:=hB.apart k0 k b QD h3 Cq hb;subst this;rw [hd0] at h2;cases h2
   . rw [bt k h1] at hb;rw [bt k' g1] at ek;exact hB.apart k k' b h3 g3 hb ek
 . refine⟨hos.trans hB.frame.os,Wm.trans hB.frame.tape,tN.trans hB.frame.output,h? hB.frame.size nb,λb hb hM=>?_⟩;rw [yI b (N? hb hB.frame.size) (λk ht QC=>?_)]
   . exact hB.frame.block b hb hM
   . rcases hB.lK k b ht.1 QC with h|h
     . omega
     . exact hM h
 . intro b hb J2;rcases hA b J2 with hh|hh|⟨k,ht,QC⟩
   . exact hB.gH b hb hh
   . exact absurd hB.frame.size w!
   . rcases hB.lK k b ht.1 QC with h|h
     . omega
     . exact .inr h
 . exact λb hb=>(hK b (hB.base b hb)).1
 . intro k b hk hb;rcases eV k hk with h1|⟨h1,h2,h3⟩
   . obtain⟨ab,ku⟩:=P!.1 h1;rcases yJ k b ab ku hb with hh|⟨k0,hd0,QD,Cq⟩
     . exact .inl (h? hB.frame.size hh)
     . exact hB.lK k0 b QD Cq
   . rw [bt k h1] at hb;exact hB.lK k b h3 hb
theorem aq.step {C:Ctx}{A A':Nat->Prop}{β aw:Nat->Value}{st:St}{a:Act}{w w':World}{out:Out}{d:Option Nat}{v:Value}
  (hB:aq C A β st a w) (hd:∀t,d=some t->t<st.n)
  (FX:∀k b,ah out.new k=some b->st.h k=none/\pR k=false)
  (FY:∀k b,ah out.fE k=some b->(st.h k).isSome)
  (bt:∀k,ah out.new k=none->aw k=β k)
  (hK:b7 w w' A A')
  (hos:w'.os=w.os) (Wm:w'.tape=w.tape) (tN:w'.output=w.output) (nb:w.heap.size<=w'.heap.size)
  (yI:∀b,b<w.heap.size->(∀k,nq st out k->ag (β k)≠some b)->w'.heap[b]? =w.heap[b]?)
  (hbound:∀b,A' b->b<w'.heap.size)
  (hA:∀b,A' b->A b\/w.heap.size<=b\/∃k,nq st out k/\ag (β k)=some b)
  (J1:∀k ab,ah out.fE k=some ab->au out.del k=false->BR w' A' aw k (bG out.new ab))
  (dV:∀k ab,ah out.new k=some ab->BR w' A' aw k ab)
  (yJ:∀k b ab,ah out.new k=some ab->ag (aw k)=some b->w.heap.size<=b\/∃k0,au out.del k0=true/\(st.h k0).isSome/\ag (β k0)=some b)
  (Cp:∀k k' b,(ah out.new k).isSome->(ah out.new k').isSome->ag (aw k)=some b->ag (aw k')=some b->k=k')
  (vJ:aa w' A' aw v out.res) (hr:out.raw=[]:=by rfl):aq C A' aw (st.put d out) (a.put d v) w':=
 hB.aC hd FX FY bt hK hos Wm tN nb yI hbound hA (λk ab h1 h2=>by
  grind[vF,bG,au]) dV yJ Cp vJ
end Go.Vg

end
section
namespace Go.Vg
open Go
variable [HP]
def Wn(P:Program)(t:TypeId):TypeDesc->Prop
 | .struct fs=>P.stoodInHeld t=false/\P.eqGuardType P.depth t=false/\(fs.toList.all λf=>f.name != "_")=true
 |_=>True
structure bx (T:bY) (P:Program):Prop where
 ok:∀t te,T.find t=some te->P.underlying t=some te.desc/\∃i,P.info? t=some i/\i.size=te.size/\i.bytes=te.bytes/\i.zero=some te.zero
 held:∀t te,T.find t=some te->Wn P t te.desc
section
variable {P:Program} {C:Ctx} {A:Nat->Prop} {β:Nat->Value} {st:St} {a:Act} {w:World}
theorem bz {o:Oper}{K:Act->World->Prop}{Q:Exit->Act->World->Prop}{v:Value}{w':World}(h:(execOp a.eval o).run P w= .ok (.value v) w')(hk:K (a.put o.dst v) w'):o.wp P a w K Q:=by
 unfold Oper.wp;rw [h];exact hk
theorem mA {o:Oper}{K:Act->World->Prop}{Q:Exit->Act->World->Prop}{w':World}(h:(execOp a.eval o).run P w= .ok .skip w')(hk:K (a.put o.dst undef) w'):o.wp P a w K Q:=by
 unfold Oper.wp;rw [h];exact hk
theorem Tm(v:Value):aa w A β v (AH v):=by
 unfold AH;split
 . split
   . simp_all[aa,trivial]
   grind[aa]
 . grind[aa]
 . rename_i s;cases hb:Nat.ble s.data.toList.length 1000000 with
   |false=>simp [aa]
   |true=>
    have:=Nat.le_of_ble_eq_true hb;simp only [cond_true,aa];grind[maxLen]
 . rfl
 . rfl
 . rfl
 grind[aa]
theorem HE(f:Value->AV)(hf:∀v,aa w A β v (f v)):∀(vs:List Value),ae w A β vs (vs.map f)
 |[]=>by rfl
 |v::vs=>by
  exact⟨v,vs,rfl,hf v,HE f hf vs⟩
def wP(v:Value):aa w A β v (ofConst v):=by
 unfold ofConst;grind[aa,HE,Tm]
theorem az(hB:aq C A β st a w)(x:Operand):aa w A β (a.eval x) (ev st x):=by
 cases x with
 |tmp i=>exact hB.tmps i
 |const v=>exact wP v
 |global g=>
  simp [ev,Act.eval];cases hg:st.g g with
  |none=>simp [aa]
  |some d=>
   obtain⟨h1,cs,h2,h3⟩:=hB.laid g d (hB.nR g d hg);grind[aa]
 |func f=>
  exact⟨#[], #[],rfl,by rfl,by rfl⟩
theorem b7.refl(w:World)(A:Nat->Prop):b7 w w A A:=λ_ h=>⟨h,rfl⟩
def aq.pure(hB:aq C A β st a w){d:Option Nat}(hd:∀t,d=some t->t<st.n){c:List Prop}{r:AV}{v:Value}(h:aa w A β v r):
  aq C A β (st.put d {cond:=c,res:=r}) (a.put d v) w:=
 hB.step (out:={cond:=c,res:=r}) hd (by simp [ah]) (by simp [ah]) (λ_ _=>rfl) (b7.refl w A) rfl rfl rfl (S! _) (λ_ _ _=>rfl) hB.bound
  (λb h=>.inl h) (by simp [ah]) (by simp [ah]) (by simp [ah]) (by simp [ah]) h
theorem Rel.iV {A:Nat->Prop}{β:Nat->Value}(h:aq C A β st a w):Rel C st a w:=⟨A,β,h⟩
theorem wQ(b:Bool){v:Value}:∀(x y:AV),(if b then aa w A β v x else aa w A β v y)->aa w A β v (DR b x y):=by
 intro x y h
 have hb:∀x y p q,tL x=some p->tL y=some q->(if b then aa w A β v x else aa w A β v y)->aa w A β v (.bool (bif b then p else q)):=by
  intro x y p q hx hy h;cases b<;>cases x<;>simp_all [tL,aa]<;>cases y<;>simp_all [aa]
 unfold DR;split
 . grind[aa]
 . grind
 . grind[eU,aa,Ty.lT,Option.some.injEq]
 . cases b with
   |true=>grind
   |false=>
    simp only [aa,O?,w?] at h;simp only [aa,Rd,L!];exact⟨none,0,[],w!,z!,z!,by rfl,z!⟩
 . cases b with
   |false=>grind
   |true=>
    simp only [aa,R?] at h;simp only [aa,Rd,I!];exact⟨none,0,[],w!,z!,z!,by rfl,z!⟩
 . grind
 . grind
 . grind[Nat.beq,aa,Nat.eq_of_beq_eq_true]
 grind[aa]
theorem cT:∀(as_:List AV) (vs:List Value),ae w A β vs as_->vs.length=as_.length
 |[],vs,h=>by grind[ae]
 |a::as_,vs,h=>by
  obtain⟨v,bS,rfl,_,h2⟩:=h;simp [cT as_ bS h2]
theorem js(b:Bool):∀(xs ys:List AV) (vs:List Value),xs.length=ys.length->(if b then ae w A β vs xs else ae w A β vs ys)->ae w A β vs (r8 b xs ys)
 |[],[],vs,_,h=>by grind[r8]
 |x::xs,y::ys,vs,hl,h=>by
  cases b with
  |true=>
   obtain⟨v,bS,rfl,h1,h2⟩:=h;exact⟨v,bS,rfl,wQ true x y (by simpa using h1),js true xs ys bS (by simpa using hl) (by simpa using h2)⟩
  |false=>
   obtain⟨v,bS,rfl,h1,h2⟩:=h;exact⟨v,bS,rfl,wQ false x y (by simpa using h1),js false xs ys bS (by simpa using hl) (by simpa using h2)⟩
 |[],_::_,_,hl,_|_::_,[],_,hl,_=>by grind
theorem BI(b:Bool){v:Value}(x y:AV)(h:if b then aa w A β v x else aa w A β v y):aa w A β v (DS b x y):=by
 unfold DS;split
 . rename_i xs ys;cases hl:Nat.beq xs.length ys.length with
   |false=>simp [aa]
   |true=>
    have hl:=C! hl;simp [I!,aa];cases b with
    |true=>
     simp [if_true,aa] at h;grind[js]
    |false=>
     simp [Bool.false_eq_true,if_false,aa] at h;grind[js]
 . rename_i xs ys;cases hl:Nat.beq xs.length ys.length with
   |false=>simp [aa]
   |true=>
    have hl:=C! hl;simp [I!,aa];cases b with
    |true=>
     simp [if_true,aa] at h;grind[js]
    |false=>
     simp [Bool.false_eq_true,if_false,aa] at h;grind[js]
 grind[wQ]
end
end Go.Vg

end
section
namespace Go.Vg
open Go
variable [HP]
section
variable {P:Program} {C:Ctx} {A:Nat->Prop} {β:Nat->Value} {st:St} {a:Act} {w:World} {T:bY}
theorem ia:∀(ts:List Ty) (vs:List Value) (x:Row ts),br w A ts vs x->vs.length=ts.length
 |[],vs,_,h=>by grind[br]
 |t::ts,vs,x,h=>by
  obtain⟨v,bS,rfl,_,h2⟩:=h;simp [ia ts bS _ h2]
theorem fx {row:List Ty}:∀(l:List (Row row)) (cs:List Value),dc (br w A row) cs l->cs.length=l.length*row.length
 |[],cs,h=>by grind[dc]
 |x::l,cs,⟨c1,c2,hc,h1,h2⟩=>by
  subst hc;simp [ia row c1 x h1,fx l c2 h2,y?,Nat.add_comm]
def qH {row:List Ty}:∀(l:List (Row row)) (cs:List Value) (i:Nat) (hi:i<l.length),dc (br w A row) cs l->
  ∃c1 c c2,cs=c1++(c++c2)/\c1.length=i*row.length/\br w A row c l[i]/\dc (br w A row) c1 (l.take i)/\dc (br w A row) c2 (l.drop (i+1))
 |[],_,_,hi,_=>by grind
 |x::l,cs,0,_,⟨c1,c2,hc,h1,h2⟩=>⟨[],c1,c2,x!,z!,x!,by rfl,x!⟩
 |x::l,cs,i+1,hi,⟨c1,c2,hc,h1,h2⟩=>by
  obtain⟨d1,d,d2,e1,e2,e3,e4,e5⟩:=qH l c2 i x! h2;subst hc;subst e1;exact⟨c1++d1,d,d2,z!,by grind[ia,Nat.add_mul,Nat.add_comm],by simpa using e3,⟨c1,d1,rfl,h1,e4⟩,by simpa using e5⟩
theorem jh {α:Type}{R:List Value->α->Prop}:∀(l m:List α) (cs ds:List Value),dc R cs l->dc R ds m->dc R (cs++ds) (l++m)
 |[],m,cs,ds,h,h'=>by grind[dc]
 |x::l,m,cs,ds,⟨c1,c2,hc,h1,h2⟩,h'=>by
  subst hc;exact⟨c1,c2++ds,z!,h1,jh l m c2 ds h2 h'⟩
theorem eW {row:List Ty}:∀(l:List (Row row)) (cs:List Value) (i:Nat),dc (br w A row) cs l->
  dc (br w A row) (cs.take (i*row.length)) (l.take i)/\dc (br w A row) (cs.drop (i*row.length)) (l.drop i)
 |[],cs,i,h=>by grind[dc]
 |x::l,cs,0,h=>by grind[dc]
 |x::l,cs,i+1,⟨c1,c2,hc,h1,h2⟩=>by
  subst hc;have hl:=ia row c1 x h1;have ih:=eW l c2 i h2;have e:(i+1)*row.length=c1.length+i*row.length:=by grind
  rw [e];refine⟨⟨c1,c2.take (i*row.length),?_,h1,ih.1⟩,?_⟩
  . grind
  . rw [List.drop_length_add_append];grind
theorem wR {b o:Nat}{c1 c c2:List Value}(h:w.rangeAt b o (c1++(c++c2))):w.rangeAt b (o+c1.length) c:=by
 intro j v hj
 have:=h (c1.length+j) v (by
  grind)
 grind
theorem qu {b o n:Nat}{cs:List Value}(h:w.rangeAt b o cs):w.rangeAt b (o+n) (cs.drop n):=by
 intro j v hj;have:=h (n+j) v x!;grind
theorem jt {b o n:Nat}{cs:List Value}(h:w.rangeAt b o cs):w.rangeAt b o (cs.take n):=by
 intro j v hj;refine h j v ?_;grind
theorem Tn:∀(t:Ty) (v:Value) (x:D t),Rd w A t v x->aa w A β v (DK t x)
 |.int k,v,x,h=>by grind[DK,aa,Rd]
 |.bool,v,x,h|.str,v,x,h=>by grind[DK,aa,Rd]
 |.slice row,v,x,h=>by grind[DK,aa]
theorem fY:∀(ts:List Ty) (vs:List Value) (x:Row ts),br w A ts vs x->ae w A β vs (aF ts x)
 |[],vs,_,h=>by grind[aF,ae,br]
 |t::ts,vs,x,h=>by
  obtain⟨v,bS,rfl,h1,h2⟩:=h;exact⟨v,bS,rfl,Tn t v _ h1,fY ts bS _ h2⟩
theorem eH:∀(ts:List Ty) (x:Row ts),(aF ts x).length=ts.length
 |[],_=>rfl
 |t::ts,x=>by simp [aF,eH ts]
def lv:∀(as_:List AV) (vs:List Value) (n:Nat),ae w A β vs as_->ae w A β (vs.take n) (as_.take n)/\ae w A β (vs.drop n) (as_.drop n)
 |[],vs,n,h=>by grind[ae]
 |a::as_,vs,0,h=>by grind[ae]
 |a::as_,vs,n+1,h=>by
  obtain⟨v,bS,rfl,h1,h2⟩:=h;have ih:=lv as_ bS n h2;exact⟨⟨v,_,rfl,h1,ih.1⟩,ih.2⟩
def tO:∀(as_:List AV) (vs:List Value) (i:Nat) (r:AV),ae w A β vs as_->as_[i]? =some r->∃v,vs[i]? =some v/\aa w A β v r
 |[],vs,i,r,h,hr=>by grind
 |a::as_,vs,0,r,h,hr=>by
  grind[ae]
 |a::as_,vs,i+1,r,h,hr=>by
  obtain⟨v,bS,rfl,h1,h2⟩:=h;obtain⟨u,hu,oH⟩:=tO as_ bS i r h2 (by simpa using hr);exact⟨u,by simpa using hu,oH⟩
theorem NF(d:TypeDesc):d.mw=d.isRow:=by rfl
def ju(hT:bx T P){t:TypeId}{te:TE}(ht:T.find t=some te){cs:List Value}{as_:List AV}(hrel:ae w A β cs as_){off:Nat}{r:AV}(hp:pick te as_ off=some r)
  {b o:Nat} (hr:w.rangeAt b o cs):∃v,(Instr.loadAt t (.pointer (some ⟨b,o+off,none⟩))).run P w= .ok v w/\aa w A β v r:=by
 obtain⟨hu,i,hi,hs,_,_⟩:=hT.ok t te ht;unfold pick at hp;cases To:te.desc.mw with
 |true=>
  simp [To,I!] at hp;cases hle:Nat.ble (off+te.size) as_.length with
  |false=>grind
  |true=>
   have hle:=M! hle;simp [hle,Nat.ble_eq_true_of_le,I!,A!] at hp;subst hp;have hlen:=cT as_ cs hrel;refine⟨.agg ((cs.drop off).take te.size).toArray,?_,?_⟩
   . refine run_loadAt_mid w b (o+off) t ((cs.drop off).take te.size) te.desc (jt (qu hr)) hu (by grind[NF]) ?_;grind
   . exact⟨_,rfl,by simp_all[lv]⟩
 |false=>
  simp [To,L!] at hp;obtain⟨v,hv,hrv⟩:=tO as_ cs off r hrel hp;have hc:=hr off v hv
  have hia:(isAgg t).run P w= .ok false w:=by
   unfold isAgg;rw [Sem.run_bind,run_underlying hu w];cases hd:te.desc<;>simp_all [TypeDesc.mw]
  simp_all[Instr.loadAt,Instr.sureAddr,loadVar]
def ez(hT:bx T P){t:TypeId}{n:Nat}(h:aZ T t n=true):∃e i,P.underlying t=some (.slice e)/\P.info? e=some i/\i.size=n/\0<n:=by
 unfold aZ lJ at h;cases ht:T.find t with
 |none=>grind
 |some te=>
  simp [ht] at h;cases hd:te.desc with
  |slice e=>
   simp [hd] at h;cases he:T.find e with
   |none=>grind
   |some ee=>
    simp only [he,B!] at h;obtain⟨_,i,hi,hs,_⟩:=hT.ok e ee he;exact⟨e,i,by rw [(hT.ok t te ht).1,hd],hi,hs.trans (C! h.1),by simp_all⟩
  |_=>grind
theorem gU {t e:TypeId}{i:TypeInfo}(hu:P.underlying t=some (.slice e))(hi:P.info? e=some i)(b o len cap:Nat)(k:IntKind)(n:Int)(h0:0<=n)(h1:n<(len:Int)):
  (Instr.indexAt t (.slice (some ⟨b,o,none⟩) len cap) (.int k n)).run P w= .ok (.pointer (some ⟨b,o+n.toNat*i.size,none⟩)) w:=by
 simp [Instr.indexAt,asIntOf,run_underlying hu,sizeOf,typeInfo,hi,h0,h1,Addr.add_mid]
def Om(hT:bx T P){t:TypeId}{n sz:Nat}(h:JV T t=some (n,sz)):∃e i,P.underlying t=some (.array n e)/\P.info? e=some i/\i.size=sz:=by
 unfold JV at h;split at h
 . rename_i te iz;obtain⟨hu,_⟩:=hT.ok t te iz;split at h
   . rename_i k e hd;split at h
     . rename_i ee uH;obtain⟨_,i,hi,hs,_⟩:=hT.ok e ee uH;grind
     grind
   grind
 grind
theorem BJ {t e:TypeId}{i:TypeInfo}{len:Nat}(hu:P.underlying t=some (.array len e))(hi:P.info? e=some i)(b o:Nat)(k:IntKind)(n:Int)(h0:0<=n)(h1:n<(len:Int)):
  (Instr.indexAt t (.pointer (some ⟨b,o,none⟩)) (.int k n)).run P w= .ok (.pointer (some ⟨b,o+n.toNat*i.size,none⟩)) w:=by
 simp [Instr.indexAt,Instr.sureAddr,asIntOf,run_underlying hu,sizeOf,typeInfo,hi,h0,h1,Addr.add_mid]
theorem yK:∀(xs ys:List AV) (us vs:List Value),ae w A β us xs->ae w A β vs ys->ae w A β (us++vs) (xs++ys)
 |[],ys,us,vs,h,g=>by
   grind[ae]
 |a::as_,ys,us,vs,h,g=>by
  obtain⟨v,FZ,rfl,h1,h2⟩:=h;exact⟨v,FZ++vs,rfl,h1,yK as_ ys FZ vs h2 g⟩
def On(row:List Ty):∀(l:List (Row row)) (cs:List Value),dc (br w A row) cs l->ae w A β cs (l.flatMap (aF row))
 |[],cs,h=>by grind[dc,ae]
 |x::l,cs,⟨c1,c2,hc,h1,h2⟩=>by
  subst hc;exact yK _ _ _ _ (fY row c1 x h1) (On row l c2 h2)
theorem getD_eq {α:Type}(l:List α)(i:Nat)(d:α)(h:i<l.length):l.getD i d=l[i]:=by
 grind
def Oo(row:List Ty)(l:List (Row row))(v:Value)(n:Int)(hR:Rd w A (.slice row) v l)(h0:0<=n)(h1:n<(l.length:Int)):
  row≠ []->∃b o cap,v= .slice (some ⟨b,o,none⟩) l.length cap/\aa w A β (.pointer (some ⟨b,o+n.toNat*row.length,none⟩)) (.cN row (l.getD n.toNat (Row.zero row)) 0):=by
 intro k8;obtain⟨a,cap,cs,hv,_,_,hL,dm⟩:=hR;have hn:n.toNat<l.length:=by omega
 obtain⟨c1,c,c2,e1,e2,e3,_,_⟩:=qH l cs n.toNat hn hL;have hc:=ia row c _ e3
 have dU:cs≠ []:=by
  intro h;rw [h] at e1;have:=congrArg List.length e1;simp at this;exact k8 (V! w!)
 obtain⟨b,o,ha,hA,hra⟩:=dm dU;refine⟨b,o,cap,by rw [hv,ha],?_⟩;refine⟨b,o+n.toNat*row.length,c,z!,hA,?_,?_⟩
 . rw [e1] at hra;have:=wR hra;rwa [e2] at this
 . rw [getD_eq l _ _ hn];exact e3
def tP(T:bY)(h:aJ)(t:TypeId)(n:Option Int)(x y:AV):se T h t n x y=fR T h t x y:=by
 unfold se;grind[fR,Oj]
theorem dW {x:Prop}{l:List Prop}(h:∀p∈(x::l),p):x:=h _ (List.Mem.head _)
def asz {x y:Prop}{l:List Prop}(h:∀p∈(x::y::l),p):y:=h _ (List.Mem.tail _ (List.Mem.head _))
def Out.quiet(out:Out):Prop:=out.fE=[]/\out.del=[]/\out.new=[]
theorem aq.quiet(hB:aq C A β st a w){d:Option Nat}(hd:∀t,d=some t->t<st.n){out:Out}(hq:out.quiet){v:Value}(h:aa w A β v out.res):
  aq C A β (st.put d out) (a.put d v) w:=by
 obtain⟨c,r,u,dl,nw,rw'⟩:=out;obtain⟨h1,h2,h3⟩:=hq;subst h1 h2 h3;exact hB.pure (c:=c) hd h
def Reads(P:Program)(A:Nat->Prop)(β:Nat->Value)(w:World)(s:Sem Value)(out:Out):Prop:=out.quiet/\∃v,s.run P w= .ok v w/\aa w A β v out.res
theorem fJ(hB:aq C A β st a w){k e:Nat}{row:List Ty}{l:List (Row row)}{fr:Bool}(h:st.h k=some (.row e row l fr)):
  (β k= .slice none 0 0/\l=[])\/∃b cap cur,β k= .slice (some ⟨b,0,none⟩) l.length cap/\w.heap[b]? =some (.cells cur e (0,0))/\l.length<=cap/\cap<=maxLen/\cur.size=cap*row.length/\
    dc (br w A row) (cur.toList.take (l.length*row.length)) l/\(if fr then A b else ¬A b):=by
 obtain⟨xs,h1,h2,h3⟩:=hB.blocks k _ h;rcases h1.2 with⟨hv,hn⟩|⟨g,cap,cur,hv,_,hg,h4,h5,h6,h7⟩
 . grind
 . exact .inr ⟨g,cap,cur,hv,hg,h4,h5,h6,x!,h3 g (by rw [hv];rfl)⟩
def F0(hT:bx T P)(hB:aq C A β st a w){t:TypeId}{x i:AV}{vx vi:Value}(hx:aa w A β vx x)(hi:aa w A β vi i){out:Out}
  (h:fR T st.h t x i=some out) (hc:∀p∈out.cond,p):Reads P A β w (Instr.indexAt t vx vi) out:=by
 unfold fR at h;split at h
 . rename_i row l k n;cases hs:aZ T t row.length with
   |false=>grind
   |true=>
    simp only [hs,cond_true,Option.some.injEq] at h;subst h;obtain⟨h0,h1⟩:=dW hc;obtain⟨e,ii,hu,gV,cZ,lL⟩:=ez hT hs;simp only [aa] at hx hi;obtain⟨b,o,cap,hv,hr⟩:=Oo (β:=β) row l vx n hx h0 h1 x!;refine⟨⟨rfl,rfl,rfl⟩,_,?_,hr⟩;grind[gU]
 . rename_i row l k n;cases hs:aZ T t row.length with
   |false=>grind
   |true=>
    simp only [hs,cond_true,Option.some.injEq] at h;subst h;obtain⟨h0,h1⟩:=dW hc;obtain⟨e,ii,hu,gV,cZ,lL⟩:=ez hT hs;simp only [aa] at hx hi;obtain⟨b,o,cap,hv,hr⟩:=Oo (β:=β) row l vx n hx.1 h0 h1 x!;refine⟨⟨rfl,rfl,rfl⟩,_,?_,hr⟩;grind[gU]
 . rename_i k kk n;split at h
   . rename_i e' row l fr hk;cases hs:aZ T t row.length with
     |false=>grind
     |true=>
      simp only [hs,I!,A!] at h;subst h;obtain⟨h0,h1⟩:=dW hc;obtain⟨e,ii,hu,gV,cZ,lL⟩:=ez hT hs;simp only [aa] at hx hi;rcases fJ hB hk with⟨_,hl⟩|⟨b,cap,cur,hv,_⟩
      . grind
      . refine⟨⟨rfl,rfl,rfl⟩,.pointer (some ⟨b,0+n.toNat*row.length,none⟩),?_,?_⟩
        . simp_all[hi,gU]
        grind[aa]
   grind
 . rename_i k m kk n;split at h
   . rename_i e' row l fr hk;cases hs:aZ T t row.length with
     |false=>grind
     |true=>
      simp only [hs,I!,A!] at h;subst h;obtain⟨h0,h1⟩:=dW hc;obtain⟨e,ii,hu,gV,cZ,lL⟩:=ez hT hs;simp only [aa] at hx hi;rcases hx with⟨_,_,hl⟩|⟨b,mm,cap,hv,Tp,_⟩
      . omega
      . refine⟨⟨rfl,rfl,rfl⟩,.pointer (some ⟨b,0+n.toNat*row.length,none⟩),?_,?_⟩
        . simp_all[hi,gU]
        grind[aa]
   grind
 . rename_i k sz off m kk n;cases hs:aZ T t sz with
   |false=>grind
   |true=>
    simp only [hs,I!,A!] at h;subst h;obtain⟨h0,h1⟩:=dW hc;obtain⟨e,ii,hu,gV,cZ,lL⟩:=ez hT hs;simp only [aa] at hx hi;rcases hx with⟨hm,_⟩|⟨b,mm,cap,jg,hv,Tp,_⟩
    . omega
    . refine⟨⟨rfl,rfl,rfl⟩,.pointer (some ⟨b,off*sz+n.toNat*sz,none⟩),?_,?_⟩
      . grind[gU]
      grind[aa,Nat.add_mul]
 . rename_i row l k n;split at h
   . rename_i m sz ha;cases hb:Nat.beq sz row.length with
     |false=>grind
     |true=>
      rw [hb] at h;simp only [I!,A!] at h;subst h;have hm:=dW hc;have hz:=C! hb;obtain⟨h0,h1⟩:=asz hc;obtain⟨e,ii,hu,gV,cZ⟩:=Om hT ha;simp only [aa] at hx hi;obtain⟨b,o,cs,rfl,hA,hr,hL⟩:=hx;have hn:n.toNat<l.length:=by omega
      obtain⟨c1,c,c2,e1,e2,e3,_,_⟩:=qH l cs n.toNat hn hL;refine⟨⟨rfl,rfl,rfl⟩,.pointer (some ⟨b,o+n.toNat*row.length,none⟩),?_,?_⟩
      . grind[BJ]
      grind[aa,wR,getD_eq]
   grind
 . rename_i k off kk n;split at h
   . rename_i m sz ha;simp only [A!] at h;subst h;obtain⟨h0,h1⟩:=dW hc;obtain⟨e,ii,hu,gV,cZ⟩:=Om hT ha;simp only [aa] at hx hi;obtain⟨b,bt,rfl⟩:=hx;refine⟨⟨rfl,rfl,rfl⟩,.pointer (some ⟨b,off+n.toNat*sz,none⟩),?_,?_⟩
     . rw [hi.1,BJ hu gV b off kk n h0 h1,cZ]
     . simp only [aa];exact⟨b,bt,rfl⟩
   grind
 grind
def yL(hT:bx T P)(hB:aq C A β st a w){t:TypeId}{x:AV}{vx:Value}(hx:aa w A β vx x){out:Out}
  (h:oE T st.h t x=some out) (hc:∀p∈out.cond,p):Reads P A β w (Instr.loadAt t vx) out:=by
 unfold oE at h;split at h
 . rename_i row x j;split at h
   . rename_i te ht;split at h
     . rename_i r hp;simp only [A!] at h;subst h;simp only [aa] at hx;obtain⟨b,o,cs,rfl,hA,hr,hv⟩:=hx;obtain⟨v,h1,h2⟩:=ju (β:=β) hT ht (fY row cs x hv) hp hr;exact⟨⟨rfl,rfl,rfl⟩,v,h1,h2⟩
     grind
   grind
 . rename_i row l;split at h
   . rename_i te ht;split at h
     . rename_i r hp;simp only [A!] at h;subst h;simp only [aa] at hx;obtain⟨b,o,cs,rfl,hA,hr,hv⟩:=hx;obtain⟨v,h1,h2⟩:=ju (β:=β) hT ht (On row l cs hv) hp hr;exact⟨⟨rfl,rfl,rfl⟩,v,w!,h2⟩
     grind
   grind
 . rename_i k off;split at h
   . rename_i te cs ht hk;split at h
     . rename_i r hp;simp only [A!] at h;subst h;simp only [aa] at hx;obtain⟨b,bt,rfl⟩:=hx;obtain⟨b',arr,e,h1,h2,_,h4,_⟩:=hB.blocks k _ hk;rw [bt] at h1;simp at h1;subst h1
       have hr:w.rangeAt b 0 arr.toList:=λj v hj=>by
        grind[World.cell?]
       obtain⟨v,g1,g2⟩:=ju (β:=β) hT ht h4 hp hr;exact⟨⟨rfl,rfl,rfl⟩,v,x!,g2⟩
     grind
   grind
 . rename_i k sz i j;split at h
   . rename_i te e row l fr ht hk;cases cZ:Nat.beq sz row.length with
     |false=>grind
     |true=>
      have cZ:=C! cZ;subst cZ;simp only [ct,I!] at h;split at h
      . rename_i r hp;simp only [A!] at h;subst h;have hi:i<l.length:=dW hc;obtain⟨b,m,cap,bt,rfl⟩:=hx;rcases fJ hB hk with⟨_,hl⟩|⟨b',jg,cur,hv,hg,_,_,dm,hL,_⟩
        . grind
        . rw [bt] at hv;simp at hv;obtain⟨IZ,_,_⟩:=hv;subst IZ;obtain⟨c1,c,c2,e1,e2,e3,_,_⟩:=qH l _ i hi hL
          have hr:w.rangeAt b 0 (cur.toList.take (l.length*row.length)):=λj v hj=>by
           grind[World.cell?]
          rw [e1] at hr;have hr:=wR hr;rw [e2] at hr;rw [getD_eq l _ _ hi] at hp;obtain⟨v,g1,g2⟩:=ju (β:=β) hT ht (fY row c _ e3) hp hr;exact⟨⟨rfl,rfl,rfl⟩,v,x!,g2⟩
      grind
   grind
 grind
end
end Go.Vg

end
section
namespace Go.Vg
open Go
variable [HP]
section
variable {P:Program} {C:Ctx} {A:Nat->Prop} {β:Nat->Value} {st:St} {a:Act} {w:World} {T:bY}
def HF(hT:bx T P){s:TypeId}{f ft o:Nat}(h:DL T s f=some (ft,o)):∃fs fd,P.underlying s=some (.struct fs)/\fs[f]? =some fd/\fd.type=ft/\fd.offset=o:=by
 unfold DL at h;cases ht:T.find s with
 |none=>grind
 |some te=>
  simp [ht] at h;cases hd:te.desc with
  |struct fs=>
   simp [hd] at h;cases hf:fs[f]? with
   |none=>grind
   |some fd=>
    simp [hf,A!,Prod.mk.injEq] at h;exact⟨fs,fd,by rw [(hT.ok s te ht).1,hd],hf,h.1,h.2⟩
  |_=>grind
def Tq(hT:bx T P){t:TypeId}(h:DN T t=true):∃i,P.info? t=some i/\i.size≠0:=by
 unfold DN at h;cases ht:T.find t with
 |none=>grind
 |some te=>
  simp only [ht] at h;obtain⟨_,i,hi,hs,_⟩:=hT.ok t te ht;have:=Nat.le_of_ble_eq_true h;grind
theorem wS {s f:Nat}{fs:Array Field}{fd:Field}{i:TypeInfo}(hu:P.underlying s=some (.struct fs))(hf:fs[f]? =some fd)(hi:P.info? fd.type=some i)(hs:i.size≠0)(b o:Nat):
  (Instr.fieldAt s (.pointer (some ⟨b,o,none⟩)) f).run P w= .ok (.pointer (some ⟨b,o+fd.offset,none⟩)) w:=by
 simp [Instr.fieldAt,run_underlying hu,hf,Instr.sureAddr,fieldPlace,sizeOf,typeInfo,hi,hs,Addr.add_mid]
def F3(hT:bx T P){s f:Nat}{x:AV}{vx:Value}(hx:aa w A β vx x){out:Out}
  (h:uE T s f x=some out):Reads P A β w (Instr.fieldAt s vx f) out:=by
 unfold uE at h;split at h
 . rename_i ft o hf;obtain⟨fs,fd,hu,hfd,e1,e2⟩:=HF hT hf;cases hs:DN T ft with
   |false=>grind
   |true=>
    simp [hs,I!] at h;obtain⟨i,hi,dU⟩:=Tq hT hs;rw [<-e1] at hi;split at h
    . simp at h;subst h;obtain⟨b,h1,rfl⟩:=hx;refine⟨⟨rfl,rfl,rfl⟩,_,wS hu hfd hi dU b _,?_⟩;grind[aa]
    . simp at h;subst h;obtain⟨b,oo,cs,rfl,h2,h3,h4⟩:=hx;refine⟨⟨rfl,rfl,rfl⟩,_,wS hu hfd hi dU b _,?_⟩;grind[aa,Nat.add_assoc]
    . simp at h;subst h;obtain⟨b,m,cap,h1,rfl⟩:=hx;refine⟨⟨rfl,rfl,rfl⟩,_,wS hu hfd hi dU b _,?_⟩;grind[aa,Nat.add_assoc]
    grind
 grind
def vK {t:TypeId}{te:TE}(hT:bx T P)(ht:T.find t=some te){arr:Array Value}{cs:List AV}{off:Nat}{r:AV}(hrel:ae w A β arr.toList cs)(hp:pick te cs off=some r):
  ∃v,(part t arr off).run P w= .ok v w/\aa w A β v r:=by
 obtain⟨hu,i,hi,hs,_,_⟩:=hT.ok t te ht;unfold pick at hp;cases To:te.desc.mw with
 |true=>
  simp [To,I!] at hp;cases hle:Nat.ble (off+te.size) cs.length with
  |false=>grind
  |true=>
   simp [hle,Nat.ble_eq_true_of_le,I!,A!] at hp;subst hp
   have hia:(isAgg t).run P w= .ok true w:=by
    unfold isAgg;rw [Sem.run_bind,run_underlying hu w];cases hd:te.desc<;>simp_all [TypeDesc.mw]
   refine⟨.agg (arr.extract off (off+te.size)),?_,?_⟩
   . simp_all[part,sizeOf,typeInfo,hi]
   . simp [aa];simp_all[lv,Array.toList_extract,List.extract]
 |false=>
  simp [To,L!] at hp;obtain⟨v,hv,hrv⟩:=tO cs _ off r hrel hp
  have hia:(isAgg t).run P w= .ok false w:=by
   unfold isAgg;rw [Sem.run_bind,run_underlying hu w];cases hd:te.desc<;>simp_all [TypeDesc.mw]
  simp_all[part]
def Wo(hB:aq C A β st a w){x:AV}{vx:Value}(hx:aa w A β vx x){n:Int}(h:FU st.h x=some n):
  (∃ad l c,vx= .slice ad l c/\n=(l:Int)/\l<=maxLen)\/(∃s,x= .str s/\n=(s.length:Int)):=by
 unfold FU at h;grind[Option.some.injEq,aa,Rd,fJ,trans,Value.slice.injEq]
theorem yM {k:IntKind}{n:Int}(h:lo k<=n/\n<=hi k):k.wrap n=n:=by
 cases k<;>simp [lo,hi] at h<;>simp [IntKind.wrap,IntKind.signed,IntKind.bits]<;>omega
def Wq {k:IntKind}{n c:Int}(h:pA k=some c):k.wrap n=n%c:=by
 cases k<;>simp [pA] at h<;>subst h<;>simp [IntKind.wrap,IntKind.signed,IntKind.bits]
def Tr {k:IntKind}{n c:Int}(h:pA k=some c):lo k<=n%c/\n%c<=hi k:=by
 cases k<;>simp [pA] at h<;>subst h<;>simp [lo,hi]<;>omega
def pS {k:IntKind}{cs:List Prop}{n:Int}{out:Out}(h:tK k cs n=some out)(hc:∀p∈out.cond,p):
  out.quiet/\aa w A β (.int k (k.wrap n)) out.res/\∀p∈cs,p:=by
 unfold tK at h;simp at h;subst h;unfold fit at hc |-;cases hk:pA k with
 |none=>
  refine⟨⟨rfl,rfl,rfl⟩,?_,λp hp=>hc p x!⟩;simp_all[yM,aa,trivial]
 |some c=>
  refine⟨⟨rfl,rfl,rfl⟩,?_,λp hp=>hc p x!⟩;simp_all[Wq,aa,trivial,Tr]
theorem F4 {op:BinOp}{t:TypeId}{x y:Operand}{k k':IntKind}{n m:Int}:(eqGuard op t x y (.int k n) (.int k' m)).run P w= .ok () w:=by
 simp_all[eqGuard]
theorem F5 {op:BinOp}{t:TypeId}{x y:Operand}{s u:ByteArray}:(eqGuard op t x y (.string s) (.string u)).run P w= .ok () w:=by
 simp_all[eqGuard]
theorem Cr {op:BinOp}{t:TypeId}{x y:Operand}{p q:Option Addr}{n m n' m':Nat}:(eqGuard op t x y (.slice p n m) (.slice q n' m')).run P w= .ok () w:=by
 simp_all[eqGuard]
def F6(w:World)(d:Nat)(t e:TypeId)(a:Option Addr)(n c n' c':Nat)(h:P.underlying t=some (.slice e)):
  (Op.equalIn (d+1) t (.slice a n c) (.slice none n' c')).run P w= .ok a.isNone w:=by
 cases a<;>simp [Op.equalIn,run_underlying h]
theorem QE(w:World)(t e:TypeId)(a:Option Addr)(n c n' c':Nat)(h:P.underlying t=some (.slice e)):
  (binOp .eql t (.slice a n c) (.slice none n' c')).run P w= .ok (.bool a.isNone) w:=by
 simp_all[binOp,Op.equal,Op.maxDepth,F6]
theorem D3 {op:BinOp}{t:TypeId}{x y:Operand}{s u:Bool}:(eqGuard op t x y (.bool s) (.bool u)).run P w= .ok () w:=by
 simp_all[eqGuard]
def qI {k:IntKind}{n:Int}(hr:lo k<=n)(h:∀p∈BD k n,p):0<=n:=by
 unfold BD at h;cases hc:pA k with
 |none=>simp [hc] at h;exact h _ z!
 |some c=>cases k<;>simp [pA] at hc<;>simpa [lo] using hr
def qJ:IntKind->Nat
 |.i8=>7|.i16=>15|.i32=>31|.i64=>63|.u8=>8|.u16=>16|.u32=>32|.u64=>64
theorem toNat_lt {k:IntKind}{n:Int}(h0:0<=n)(h:n<=hi k):n.toNat<2^qJ k:=by
 cases k<;>simp [hi] at h<;>simp [qJ]<;>omega
def abG {k:IntKind}{n:Nat}(h:n<2^qJ k):lo k<=(n:Int)/\(n:Int)<=hi k:=by
 cases k<;>simp [qJ] at h<;>simp [lo,hi]<;>omega
def rF {k:IntKind}{n:Int}(h0:0<=n)(h:n<=hi k):(BitVec.ofInt k.bits n).toNat=n.toNat:=by
 cases k<;>simp [hi] at h<;>simp [IntKind.bits]<;>omega
def J3 {k:IntKind}{n m:Int}(f:Nat->Nat->Nat)(g:BitVec k.bits->BitVec k.bits->BitVec k.bits)(hfg:∀x y,(g x y).toNat=f x.toNat y.toNat)
  (hf:∀a b,a<2^qJ k->b<2^qJ k->f a b<2^qJ k) (hn:lo k<=n/\n<=hi k) (hm:lo k<=m/\m<=hi k) (h0:0<=n) (h1:0<=m):
  k.wrap ((g (BitVec.ofInt k.bits n) (BitVec.ofInt k.bits m)).toNat:Int)=(f n.toNat m.toNat:Int)/\lo k<=(f n.toNat m.toNat:Int)/\(f n.toNat m.toNat:Int)<=hi k:=by
 rw [hfg,rF h0 hn.2,rF h1 hm.2];have:=abG (hf _ _ (toNat_lt h0 hn.2) (toNat_lt h1 hm.2));exact⟨yM this,this⟩
theorem BK(s:B8):(⟨s.toArray⟩:ByteArray).toList=s:=by
 simp_all
theorem yN(s:B8):(⟨s.toArray⟩:ByteArray).size=s.length:=by rfl
def Wr(s u:B8):(⟨s.toArray⟩:ByteArray)++⟨u.toArray⟩=⟨(s++u).toArray⟩:=by
 rfl
def J4 {x:AV}{v:Value}{p:Bool}(hx:aa w A β v x)(h:tL x=some p):v= .bool p:=by cases x<;>simp_all [tL,aa]
def Oq {d:Nat}{E:TypeId->AV->AV->Option Bool}(hT:bx T P)(hE:∀t x y v u r,aa w A β v x->aa w A β u y->E t x y=some r->(Op.equalIn d t v u).run P w= .ok r w)
  {arr brr:Array Value} {xs ys:List AV} (hx:ae w A β arr.toList xs) (hy:ae w A β brr.toList ys):∀(fs:List Field) (r:Bool),(fs.all λf=>f.name != "_")=true->Ol T E xs ys fs=some r->(Op.eqFields d arr brr fs).run P w= .ok r w
 |[],r,_,h=>by simp_all[Ol,A!,Op.eqFields]
 |f::fs,r,hn,h=>by
  simp only [List.all_cons,Bool.and_eq_true] at hn;have Ts:f.name≠ "_":=by grind
  simp [Ol] at h;cases hf:T.find f.type with
  |none=>grind
  |some te=>
   simp [hf] at h;cases ha:pick te xs f.offset with
   |none=>grind
   |some a=>cases hb:pick te ys f.offset with
    |none=>grind
    |some b=>
     simp [ha,hb] at h;cases he:E f.type a b with
     |none=>grind
     |some q=>cases hr:Ol T E xs ys fs with
      |none=>grind
      |some q'=>
       simp [he,hr,A!] at h;subst h;obtain⟨va,a1,a2⟩:=vK hT hf hx ha;obtain⟨vb,b1,b2⟩:=vK hT hf hy hb;have e1:=hE _ _ _ _ _ _ a2 b2 he;have e2:=Oq hT hE hx hy fs q' hn.2 hr;simp [Op.eqFields,Ts,ne_eq,not_false_eq_true,R?,Sem.run_bind,a1,b1,e1,Result.andThen_ok];cases fs with
       |nil=>
        cases q<;>simp [Op.eqFields]
       |cons g gs=>cases q<;>simp [e2]
def Ot(hT:bx T P):∀(n d:Nat) (t:TypeId) (x y:AV) (v u:Value) (r:Bool),n<=d->aa w A β v x->aa w A β u y->Hz T n t x y=some r->(Op.equalIn d t v u).run P w= .ok r w
 |0,_,_,_,_,_,_,_,_,_,_,h=>by grind[Hz]
 |n+1,0,_,_,_,_,_,_,hd,_,_,_=>by omega
 |n+1,d+1,t,x,y,v,u,r,hd,hx,hy,h=>by
  simp [Hz] at h;cases hf:T.find t with
  |none=>grind
  |some te=>
   simp [hf] at h;obtain⟨hu,_⟩:=hT.ok t te hf;split at h
   . rename_i fs F7;split at h
     . obtain⟨arr,rfl,hx⟩:=hx;obtain⟨brr,rfl,hy⟩:=hy;have hh:=hT.held t te hf;rw [F7] at hh hu;have hfo:P.fieldsOf t=fs:=by grind[Program.fieldsOf]
       rw [run_equalIn_struct w d t arr brr x! hh.1,hfo];exact Oq hT (λt x y v u r g1 g2 g3=>Ot hT n d t x y v u r w! g1 g2 g3) hx hy _ _ hh.2.2 h
     grind
   . grind[Option.some.injEq,aa,run_equalIn_int]
   . grind[Option.some.injEq,aa,run_equalIn_string,BK]
   . rename_i F7;rw [F7] at hu;split at h
     . rename_i p q hp hq;simp at h;subst h;rw [J4 hx hp,J4 hy hq,run_equalIn_bool' w d t _ _ hu]
     grind
   grind
def Tt(hT:bx T P){n:Nat}{t:TypeId}{xs ys:List AV}{r:Bool}(h:Hz T n t (.agg xs) (.agg ys)=some r):P.eqGuardType P.depth t=false:=by
 cases n with
 |zero=>grind[Hz]
 |succ n=>
  simp [Hz] at h;cases hf:T.find t with
  |none=>grind
  |some te=>
   simp [hf] at h;have hh:=hT.held t te hf;split at h
   . rename_i fs F7;rw [F7] at hh;exact hh.2.1
   . cases h
   . cases h
   . grind[tL]
   grind
set_option maxHeartbeats 1000000 in
def Ws(hT:bx T P){op:BinOp}{t:TypeId}{ox oy:Operand}{x y:AV}{vx vy:Value}(hx:aa w A β vx x)(hy:aa w A β vy y){out:Out}
  (h:Qy T t op x y=some out) (hc:∀p∈out.cond,p):Reads P A β w (do eqGuard op t ox oy vx vy;binOp op t vx vy) out:=by
 unfold Qy at h;split at h
 . rename_i k n k' m;simp only [aa] at hx hy;obtain⟨rfl,hn⟩:=hx;obtain⟨rfl,hm⟩:=hy;unfold Reads;simp only [Sem.run_bind,F4,Result.andThen_ok];split at h
   . obtain⟨hq,hr,dm⟩:=pS (w:=w) (A:=A) (β:=β) h hc;obtain⟨h0,h1⟩:=dW dm;refine⟨hq,_,?_,hr⟩;have aeN:¬m<0:=by omega
     have aeO:min m.toNat k.bits=m.toNat:=by
      cases k<;>simp [bitsOf] at h1<;>simp [IntKind.bits]<;>omega
     simp [binOp,Op.shift,aeN,aeO]
   . simp only [A!] at h;subst h;obtain⟨h0,h1⟩:=dW hc;have aeN:¬m<0:=by omega
     have aeO:min m.toNat k.bits=m.toNat:=by
      cases k<;>simp [bitsOf] at h1<;>simp [IntKind.bits]<;>omega
     refine⟨⟨rfl,rfl,rfl⟩,.int k (n/2^m.toNat),?_,?_⟩
     . simp only [binOp,Op.shift,aeN,aeO,if_false,Sem.run_pure];grind
     . simp only [aa];have hp:(1:Int)<=2^m.toNat:=Int.pow_pos w!;refine⟨trivial,?_,?_⟩
       . have h2:lo k<=0:=by cases k<;>simp [lo]
         rcases Int.le_total 0 n with hh|hh
         . exact Int.le_trans h2 (Int.ediv_nonneg hh w!)
         . have :n<=n/2^m.toNat:=by
            rw [Int.le_ediv_iff_mul_le w!];have:=Int.mul_le_mul_of_nonpos_left hh hp;omega
           omega
       . have h2:0<=hi k:=by cases k<;>simp [hi]
         rcases Int.le_total 0 n with hh|hh
         . have :n/2^m.toNat<=n:=Int.ediv_le_self _ hh;omega
         . have :n/2^m.toNat<=0:=Int.ediv_nonpos_of_nonpos_of_neg hh w!;omega
   . rename_i D4 QF;by_cases Tu:k=k'
     . subst Tu;simp only [R?] at h
       have hb:binOp op t (.int k n) (.int k m)=match op with
         |.add|.sub|.mul=>Op.intArith op k n m
         |.quo|.rem=>Op.intDiv op k n m
         |.and|.or|.xor|.andNot=>Op.intBits op k n m
         |_=>Op.intCmp op n m:=by
        cases op<;>first|exact absurd rfl D4|exact absurd rfl QF|simp [binOp]
       rw [hb];split at h
       . obtain⟨hq,hr,_⟩:=pS (w:=w) (A:=A) (β:=β) h hc;simp_all[Op.intArith]
       . obtain⟨hq,hr,_⟩:=pS (w:=w) (A:=A) (β:=β) h hc;simp_all[Op.intArith]
       . obtain⟨hq,hr,_⟩:=pS (w:=w) (A:=A) (β:=β) h hc;simp_all[Op.intArith]
       . simp only [Option.some.injEq] at h;subst h;have h0:0<=n:=qI hn.1 (λp hp=>hc p x!);have h1:0<m:=hc _ z!;have dU:¬m=0:=by omega
         have h2:0<=n/m:=Int.ediv_nonneg h0 w!;have h3:n/m<=n:=Int.ediv_le_self _ h0;have QG:lo k<=0:=by cases k<;>simp [lo]
         have hr:lo k<=n/m/\n/m<=hi k:=⟨w!,w!⟩;refine⟨⟨rfl,rfl,rfl⟩,.int k (n/m),?_,by simp_all[aa,trivial]⟩;simp_all[Op.intDiv,w?,Int.tdiv_eq_ediv_of_nonneg,yM,Sem.run_pure]
       . simp only [Option.some.injEq] at h;subst h;have h0:0<=n:=qI hn.1 (λp hp=>hc p x!);have h1:0<m:=hc _ z!;have dU:¬m=0:=by omega
         have h2:0<=n%m:=Int.emod_nonneg _ dU
         have h3:n%m<=n:=by
          have e1:=Int.emod_def n m;have e2:0<=m*(n/m):=Int.mul_nonneg w! (Int.ediv_nonneg h0 w!);omega
         have QG:lo k<=0:=by cases k<;>simp [lo]
         have hr:lo k<=n%m/\n%m<=hi k:=⟨w!,w!⟩;refine⟨⟨rfl,rfl,rfl⟩,.int k (n%m),?_,by simp_all[aa,trivial]⟩;simp_all[Op.intDiv,w?,Int.tmod_eq_emod_of_nonneg,Sem.run_pure]
       . simp only [Option.some.injEq] at h;subst h;have h0:0<=n:=qI hn.1 (λp hp=>hc p x!);have h1:0<=m:=qI hm.1 (λp hp=>hc p x!);obtain⟨e1,e2⟩:=J3 (k:=k) (· &&& ·) (· &&& ·) (λx y=>BitVec.toNat_and x y) (λa b ha hb=>Nat.lt_of_le_of_lt Nat.and_le_left ha) hn hm h0 h1;exact⟨⟨rfl,rfl,rfl⟩,_,by simp only [Op.intBits,Sem.run_pure,e1];rfl,by simp only [aa];exact⟨rfl,e2⟩⟩
       . simp only [Option.some.injEq] at h;subst h;have h0:0<=n:=qI hn.1 (λp hp=>hc p x!);have h1:0<=m:=qI hm.1 (λp hp=>hc p x!);obtain⟨e1,e2⟩:=J3 (k:=k) (· ||| ·) (· ||| ·) (λx y=>BitVec.toNat_or x y) (λa b ha hb=>Nat.or_lt_two_pow ha hb) hn hm h0 h1;exact⟨⟨rfl,rfl,rfl⟩,_,by simp only [Op.intBits,Sem.run_pure,e1];rfl,by simp only [aa];exact⟨rfl,e2⟩⟩
       . simp only [Option.some.injEq] at h;subst h;have h0:0<=n:=qI hn.1 (λp hp=>hc p x!);have h1:0<=m:=qI hm.1 (λp hp=>hc p x!);obtain⟨e1,e2⟩:=J3 (k:=k) (· ^^^ ·) (· ^^^ ·) (λx y=>BitVec.toNat_xor x y) (λa b ha hb=>Nat.xor_lt_two_pow ha hb) hn hm h0 h1;exact⟨⟨rfl,rfl,rfl⟩,_,by simp only [Op.intBits,Sem.run_pure,e1];rfl,by simp only [aa];exact⟨rfl,e2⟩⟩
       . simp only [A!] at h;subst h;exact⟨⟨rfl,rfl,rfl⟩,.bool (decide (n=m)),by rfl,by rfl⟩
       . simp only [A!] at h;subst h;exact⟨⟨rfl,rfl,rfl⟩,.bool (!decide (n=m)),by rfl,by rfl⟩
       . simp only [A!] at h;subst h;exact⟨⟨rfl,rfl,rfl⟩,.bool (decide (n<m)),by rfl,by rfl⟩
       . simp only [A!] at h;subst h;exact⟨⟨rfl,rfl,rfl⟩,.bool (decide (n<=m)),by rfl,by rfl⟩
       . simp only [A!] at h;subst h;exact⟨⟨rfl,rfl,rfl⟩,.bool (decide (m<n)),by rfl,by rfl⟩
       . simp only [A!] at h;subst h;exact⟨⟨rfl,rfl,rfl⟩,.bool (decide (m<=n)),by rfl,by rfl⟩
       grind
     grind
 . rename_i s u;simp only [aa] at hx hy;obtain⟨rfl,hn⟩:=hx;obtain⟨rfl,hm⟩:=hy;unfold Reads;simp only [Sem.run_bind,F5,Result.andThen_ok];have hb:binOp op t (.string ⟨s.toArray⟩) (.string ⟨u.toArray⟩)=Op.stringOp op ⟨s.toArray⟩ ⟨u.toArray⟩:=by cases op<;>rfl
   have azT:(s==u)=decide (s=u):=by
    grind
   rw [hb];split at h
   . simp only [A!] at h;subst h;have h0:=dW hc;refine⟨⟨rfl,rfl,rfl⟩,.string ⟨(s++u).toArray⟩,?_,?_⟩
     . simp_all[IntKind.max,IntKind.signed,IntKind.bits,Op.stringOp,yN,Wr]
     . simp only [aa];refine⟨trivial,?_⟩;grind[List.length_append,maxLen]
   all_goals first|(simp only [A!] at h;subst h;exact⟨⟨rfl,rfl,rfl⟩,_,by simp only [Op.stringOp,Sem.run_pure,BK,azT];rfl,by rfl⟩)|cases h
 . rename_i r rs l;cases hd:cE T t fH with
   |false=>grind
   |true=>
    simp only [hd,I!] at h
    obtain⟨e,hu⟩:∃e,P.underlying t=some (.slice e):=by
     unfold cE at hd;cases ht:T.find t with
     |none=>grind
     |some te=>
      simp only [ht] at hd;rw [(hT.ok t te ht).1];cases Cs:te.desc<;>simp_all [fH]
    simp only [aa,Rd] at hx hy;obtain⟨ad,cap,cs,rfl,h1,h2,h3,h4⟩:=hx;subst hy;split at h
    . simp only [Option.some.injEq] at h;subst h;unfold Reads;simp only [Sem.run_bind,Cr,Result.andThen_ok];refine⟨⟨rfl,rfl,rfl⟩,.bool ad.isNone,QE w t e ad _ _ _ _ hu,?_⟩;simp only [aa];refine⟨_,rfl,λhn=>?_⟩;cases l with
      |nil=>rfl
      |cons x l=>
       grind[dc,br]
    grind
 . rename_i xs ys;split at h
   . rename_i r hr;have hg:=Tt hT hr;have hq:=Ot (w:=w) (A:=A) (β:=β) hT 8 10000 t _ _ _ _ r w! hx hy hr;simp only [aa] at hx hy;obtain⟨arr,rfl,hx⟩:=hx;obtain⟨brr,rfl,hy⟩:=hy;unfold Reads;simp only [Sem.run_bind,run_eqGuard_agg w op t ox oy arr brr hg,Result.andThen_ok];split at h
     . simp only [A!] at h;subst h;exact⟨⟨rfl,rfl,rfl⟩,_,by rw [run_eql_struct,hq];rfl,by rfl⟩
     . simp only [A!] at h;subst h;exact⟨⟨rfl,rfl,rfl⟩,_,by rw [run_neq_struct,hq];rfl,by rfl⟩
     grind
   grind
 . rename_i NG hy1 hz1;split at h
   . rename_i p q hp hq;have ex:vx= .bool p:=by cases x<;>simp_all [tL,aa]
     have ey:vy= .bool q:=by cases y<;>simp_all [tL,aa]
     subst ex;subst ey;unfold Reads;simp only [Sem.run_bind,D3,Result.andThen_ok];cases hd:cE T t JW with
     |false=>grind
     |true=>
      simp only [hd,I!] at h
      have hu:P.underlying t=some .bool:=by
       unfold cE at hd;cases ht:T.find t with
       |none=>grind
       |some te=>
        simp only [ht] at hd;rw [(hT.ok t te ht).1];grind[JW]
      split at h
      . simp only [A!] at h;subst h;exact⟨⟨rfl,rfl,rfl⟩,.bool (p==q),run_eql_bool w t p q hu,by rfl⟩
      . simp only [A!] at h;subst h;exact⟨⟨rfl,rfl,rfl⟩,.bool (!(p==q)),run_neq_bool w t p q hu,by rfl⟩
      grind
   grind
theorem J5(sz j:Nat):∀(k:Nat) (cs:List AV) (i:Nat),i<k->(every sz j k cs)[i]? =some (cs.getD (i*sz+j) .cr)
 |k+1,cs,0,_=>by simp [every]
 |k+1,cs,i+1,h=>by
  simp [every,List.getElem?_cons_succ];rw [J5 sz j k (cs.drop sz) i w!];simp;rw [show sz+(i*sz+j)=(i+1)*sz+j by rw [y?];omega]
theorem D5:∀(l:List AV) (kd:IntKind) (ns:List Int),DU l=some (kd,ns)->∀(i:Nat) (a:AV),l[i]? =some a->a= .int kd (ns.getD i 0)
 |[],kd,ns,h,i,a,hi=>by grind
 |x::r,kd,ns,h,i,a,hi=>by
  unfold DU at h;split at h
  . split at h
    . obtain⟨rfl,rfl⟩:=h;cases i with
      |zero=>simp at hi;subst hi;simp
      |succ i=>simp at hi
    . split at h
      . rename_i k' l hl;split at h
        . rename_i hk;subst hk;obtain⟨rfl,rfl⟩:=h;cases i with
          |zero=>simp at hi;subst hi;simp
          |succ i=>
           have:=D5 _ _ _ hl i a hi;rw [this];simp [List.getD]
        . cases h
      . cases h
  . cases h
def yO {sz k:Nat}{cs:List AV}{n:Int}(hn:n.toNat<k):∀(m:Nat) (vs:List AV),DV sz k cs n m=some vs->vs.length=m/\∀j,j<m->vs[j]? =some (cs.getD (n.toNat*sz+j) .cr)
 |0,vs,h=>by grind[DV,Option.some.injEq]
 |m+1,vs,h=>by
  simp only [DV] at h;split at h
  . rename_i us kd l h1 h2;simp only [Option.some.injEq] at h;obtain⟨g1,g2⟩:=yO hn m us h1;refine⟨x!,λj hj=>?_⟩;by_cases hjm:j<m
    . grind
    . have :j=m:=by omega
      grind[D5,J5]
  grind
def Tv {t:TypeId}(hT:bx T P){k:Nat}{ee:TE}(h:JY T t=some (k,ee)):∃e i,P.underlying t=some (.array k e)/\T.find e=some ee/\P.info? e=some i/\i.size=ee.size:=by
 unfold JY at h;split at h
 . rename_i te iz;obtain⟨hu,_⟩:=hT.ok t te iz;split at h
   . rename_i k' e hd;split at h
     . rename_i ee' uH;obtain⟨_,i,hi,hs,_⟩:=hT.ok e ee' uH;grind
     grind
   grind
 grind
def I0(hT:bx T P){t:TypeId}{cs:List AV}{n:Int}{kd:IntKind}{arr:Array Value}{vi:Value}(hx:ae w A β arr.toList cs)(hi:vi= .int kd n){out:Out}
  (h:wL T t cs n=some out) (hc:∀p∈out.cond,p):Reads P A β w (Instr.index t (.agg arr) vi) out:=by
 unfold wL at h;split at h
 . rename_i k ee ha;cases hb:Nat.beq cs.length (k*ee.size) with
   |false=>grind
   |true=>
    rw [hb] at h;simp only [I!] at h;have hlen:=C! hb;obtain⟨e,i,hu,uH,hie,hs⟩:=Tv hT ha
    have fg:∀(h0:0<=n) (h1:n<(k:Int)),(Instr.index t (.agg arr) vi).run P w=(part e arr (n.toNat*ee.size)).run P w:=by
     simp_all[hi,Instr.index,asIntOf,run_underlying,sizeOf,typeInfo]
    split at h
    . rename_i vs hv;cases QH:ee.desc.mw with
      |true=>
       rw [QH] at h;simp only [I!,A!] at h;subst h;obtain⟨h0,h1⟩:=dW hc;obtain⟨g1,g2⟩:=yO w! _ _ hv
       have hle:n.toNat*ee.size+ee.size<=cs.length:=by
        rw [hlen,<-Nat.succ_mul];exact I? _ w!
       have hp:pick ee cs (n.toNat*ee.size)=some (.agg vs):=by
        unfold pick;rw [QH,cond_true,show Nat.ble (n.toNat*ee.size+ee.size) cs.length=true from Nat.ble_eq_true_of_le hle,cond_true];congr 2
        refine List.ext_getElem? λj=>?_;grind
       obtain⟨v,k1,k2⟩:=vK hT uH hx hp;exact⟨⟨rfl,rfl,rfl⟩,v,x!,k2⟩
      |false=>
       rw [QH] at h;simp only [L!] at h;split at h
       . rename_i a;simp only [Option.some.injEq] at h;subst h;obtain⟨h0,h1⟩:=dW hc;obtain⟨g1,g2⟩:=yO w! _ _ hv;have cZ:ee.size=1:=by grind
         have hp:pick ee cs (n.toNat*ee.size)=some a:=by
          simp_all[pick,L!,a?,A!,Nat.add_zero,D!,List.getD]
         obtain⟨v,k1,k2⟩:=vK hT uH hx hp;exact⟨⟨rfl,rfl,rfl⟩,v,x!,k2⟩
       grind
    grind
 grind
end
end Go.Vg

end
section
namespace Go.Vg
open Go
variable [HP]
section
variable {P:Program} {C:Ctx} {A:Nat->Prop} {β:Nat->Value} {st:St} {a:Act} {w:World} {T:bY}
theorem r9(n:Int):∀ks,JZ n ks=true↔n∈ks
 |[]=>by simp [JZ]
 |k::r=>by simp [JZ,r9 n r]
theorem yP(n:Int):∀ks,wM n ks↔n∉ks
 |[]=>by simp [wM]
 |k::r=>by simp [wM,yP n r]
def qv(n:Int):∀(es:List MapEntry) (ks:List Int) (i:Nat),es.map (·.key)=ks.map (Value.int .i64)->n∉ks->Instr.findNow (.int .i64) (.int .i64 n) es i=some none
 |[],_,_,_,_=>rfl
 |e::es,[],_,h,_=>by grind
 |e::es,k::ks,i,h,hn=>by
  simp at h;have hk:n≠k:=λq=>hn (by rw [q];exact H! ..)
  have hs:Instr.sameNow (.int .i64) (.int .i64 n) e.key=some false:=by
   rw [h.1];simp [Instr.sameNow,hk]
  simp [Instr.findNow,hs];exact qv n es ks (i+1) h.2 (λq=>hn (E! _ q))
def yQ(n:Int):∀(es:List MapEntry) (ks:List Int) (i j:Nat),es.map (·.key)=ks.map (Value.int .i64)->fS ks=true->ks[j]? =some n->
  ∃e,es[j]? =some e/\Instr.findNow (.int .i64) (.int .i64 n) es i=some (some (i+j,e.val))
 |[],[],_,j,_,_,hj=>by grind
 |[],_::_,_,_,h,_,_=>by grind
 |e::es,[],_,_,h,_,_=>by grind
 |e::es,k::ks,i,j,h,hd,hj=>by
  simp at h;simp [fS,B!,J?] at hd;cases j with
  |zero=>
   have hs:Instr.sameNow (.int .i64) (.int .i64 k) e.key=some true:=by
    grind[Instr.sameNow]
   exact⟨e,rfl,by grind[Instr.findNow]⟩
  |succ j=>
   have hk:n≠k:=by
    grind[List.mem_of_getElem?,r9]
   have hs:Instr.sameNow (.int .i64) (.int .i64 n) e.key=some false:=by
    grind[Instr.sameNow]
   obtain⟨e',h1,h2⟩:=yQ n es ks (i+1) j h.2 hd.2 hj;grind[Instr.findNow]
def tQ:∀(ks:List Int),fS ks=true↔ks.Nodup
 |[]=>by simp [fS]
 |k::r=>by
  simp only [fS,B!,J?,List.nodup_cons,tQ r];rw [<-r9,Bool.not_eq_true]
def Ct {α γ:Type}{f:α->γ}{m m':List γ}(h:m.Perm m'):∀(l:List α),m'=l.map f->∃l':List α,l'.Perm l/\m=l'.map f:=by
 induction h with
 |nil=>exact λl h=>⟨[],by simp_all,rfl⟩
 |cons x _ ih=>
  intro l hl;cases l with
  |nil=>cases hl
  |cons a l=>
   simp only [M?,f?] at hl;obtain⟨l',p,q⟩:=ih l hl.2;exact⟨a::l',p.cons a,by rw [M?,q,hl.1]⟩
 |swap x y l0=>
  intro l hl;match l,hl with
  |a::b::r,hl=>
   simp only [M?,f?] at hl;exact⟨b::a::r,.swap a b r,by simp [hl.1,hl.2.1,hl.2.2]⟩
 |trans _ _ ih1 ih2=>
  intro l hl;obtain⟨l2,p2,q2⟩:=ih2 l hl;obtain⟨l1,p1,q1⟩:=ih1 l2 q2;exact⟨l1,p1.trans p2,q1⟩
def Tw {wN es:List MapEntry}{ks:List Int}(hp:wN.Perm es)(hk:es.map (·.key)=ks.map (Value.int .i64)):∃D6:List Int,D6.Perm ks/\wN.map (·.key)=D6.map (Value.int .i64):=
 Ct (hp.map (·.key)) ks hk
def perm_keys {n:Int}{wN es:List MapEntry}{ks:List Int}(hp:wN.Perm es)(hk:es.map (·.key)=ks.map (Value.int .i64))(hn:n∉ks):∃D6:List Int,wN.map (·.key)=D6.map (Value.int .i64)/\n∉D6:=by
 obtain⟨D6,p,q⟩:=Tw hp hk;exact⟨D6,q,λh=>hn (p.mem_iff.1 h)⟩
def NH(n:Int){wN es:List MapEntry}{ks:List Int}{j:Nat}(hp:wN.Perm es)(hk:es.map (·.key)=ks.map (Value.int .i64))(hd:fS ks=true)(hj:ks[j]? =some n):
  ∃e,es[j]? =some e/\∃i,Instr.findNow (.int .i64) (.int .i64 n) wN 0=some (some (i,e.val)):=by
 obtain⟨D6,p,q⟩:=Tw hp hk;obtain⟨e,h1,_⟩:=yQ n es ks 0 j hk hd hj;refine⟨e,h1,?_⟩
 have he:e.key= .int .i64 n:=by
  have :(es.map (·.key))[j]? =(ks.map (Value.int .i64))[j]? :=by rw [hk]
  simpa [E?,h1,hj] using this
 obtain⟨i,hi,hie⟩:=k? (hp.mem_iff.2 (K? h1));have e7:wN[i]? =some e:=by rw [D! hi,hie]
 have hk0:D6[i]? =some n:=by
  have :(wN.map (·.key))[i]? =(D6.map (Value.int .i64))[i]? :=by rw [q]
  rw [E?,e7,E?] at this;cases h:D6[i]? with
  |none=>rw [h] at this;cases this
  |some m=>rw [h] at this;simp [he] at this;rw [this]
 obtain⟨e',g1,g2⟩:=yQ n wN D6 0 i q ((tQ _).2 (p.nodup_iff.2 ((tQ _).1 hd))) hk0;rw [e7] at g1;cases g1;exact⟨_,g2⟩
def J6:∀(as_:List AV) (vs:List Value) (i:Nat) (x:AV) (v:Value),ae w A β vs as_->as_[i]? =some x->vs[i]? =some v->aa w A β v x
 |[],_,i,x,v,_,h,_=>by grind
 |a::as_,vs,i,x,v,h,hx,hv=>by
  obtain⟨u,bS,rfl,h1,h2⟩:=h;cases i with
  |zero=>
   simp at hx hv;rw [<-hx,<-hv];exact h1
  |succ i=>exact J6 as_ bS i x v h2 (by simpa using hx) (by simpa using hv)
def NI(hT:bx T P){t:TypeId}{ok:Bool}{ks:List Int}{cs:List AV}{n:Int}{DO:Nat}{vm:Value}{out:Out}(hm:aa w A β vm (.gp ks cs))
  (h:Co T DO t ok ks cs n=some out) (hc:∀p∈out.cond,p):Reads P A β w (Instr.lookup t vm (.int .i64 n) ok) out:=by
 simp only [aa] at hm;obtain⟨b,es,ck,rfl,hA,⟨wN,hb,hp⟩,hk,hv⟩:=hm;unfold Co at h;split at h
 . rename_i te iz;obtain⟨hu,_⟩:=hT.ok t te iz;split at h
   . rename_i kt et hd;rw [hd] at hu;cases hq:(cE T kt uG&&fS ks) with
     |false=>grind
     |true=>
     rw [hq] at h;simp only [I!] at h;simp only [B!] at hq
     have tB:P.underlying kt=some (.int .i64):=by
      have h1:=hq.1;unfold cE at h1;split at h1
      . rename_i tk yR;obtain⟨hku,_⟩:=hT.ok kt tk yR;grind[uG]
      grind
     have hck:∀e,(Instr.checkKey e 10000 kt (.int .i64 n)).run P w= .ok () w:=λe=>MapKept.run_checkKey tB (by rfl) e 9999;split at h
     . rename_i k c I1 hc1;simp only [Option.some.injEq] at h;subst h;have hn:n=k:=hc _ (List.mem_cons_self ..);subst hn;obtain⟨e,he,j0,hf⟩:=NH n hp hk hq.2 I1;have hrel:=J6 cs _ DO c e.val hv hc1 x!;refine⟨⟨rfl,rfl,rfl⟩,(if ok then .tuple #[e.val,.bool true] else e.val),?_,?_⟩
       . simp [Instr.lookup,run_underlying hu,MapKept.run_getObj_map hb,hck,MapKept.run_findKey tB hf,Result.andThen]
       . cases ok
         . grind
         . simp only [I!,R?,aa];exact⟨_,rfl,by simp only [ae];exact⟨_,_,rfl,hrel,_,_,rfl,by rfl,rfl⟩⟩
     . split at h
       . rename_i ee uH;cases hz:Wk ee.zero with
         |false=>grind
         |true=>
         rw [hz] at h;simp only [I!,A!] at h;subst h;have hn:n∉ks:=(yP n ks).1 (hc _ (H! ..));obtain⟨D6,hk0,hn0⟩:=perm_keys hp hk hn;have hf:=qv n wN.toList D6 0 hk0 hn0;obtain⟨_,i,hi,_,_,hzz⟩:=hT.ok et ee uH
         have hz':ee.zero= .nilFunc:=by
          grind[Wk]
         have hzr:(zeroValue et).run P w= .ok .nilFunc w:=by
          simp_all[zeroValue,typeInfo,hi]
         refine⟨⟨rfl,rfl,rfl⟩,(if ok then .tuple #[.nilFunc,.bool false] else .nilFunc),?_,?_⟩
         . simp [Instr.lookup,run_underlying hu,MapKept.run_getObj_map hb,hck,MapKept.run_findKey tB hf,hzr,Result.andThen]
         . cases ok
           . rfl
           . exact⟨_,rfl,by simp only [ae];exact⟨_,_,rfl,by simp [aa],_,_,rfl,by simp [aa],rfl⟩⟩
       grind
   grind
 grind
end
end Go.Vg

end
section
namespace Go.Vg
open Go
variable [HP]
section
variable {P:Program} {C:Ctx} {A:Nat->Prop} {β:Nat->Value} {st:St} {a:Act} {w:World} {T:bY}
def abI {op:UnOp}{x:AV}{vx:Value}(hx:aa w A β vx x){out:Out}(h:Wj op x=some out)(hc:∀p∈out.cond,p):Reads P A β w (Op.unary op vx) out:=by
 unfold Wj at h;split at h
 . split at h
   . simp at h;subst h;subst hx;exact⟨⟨rfl,rfl,rfl⟩,_,rfl,by rfl⟩
   grind
 . split at h
   . simp at h;subst h;subst hx;exact⟨⟨rfl,rfl,rfl⟩,_,rfl,by rfl⟩
   grind
 . split at h
   . simp at h;subst h;subst hx;exact⟨⟨rfl,rfl,rfl⟩,_,rfl,by rfl⟩
   grind
 . rename_i k n;obtain⟨rfl,hn⟩:=hx;split at h
   . obtain⟨hq,hr,_⟩:=pS (w:=w) (A:=A) (β:=β) h hc;exact⟨hq,.int k (k.wrap (0-n)),by rfl,hr⟩
   . cases hk:pA k with
     |none=>grind
     |some c=>
      simp [hk,A!] at h;subst h;have hs:k.signed=false:=by cases k<;>simp [pA] at hk<;>rfl
      have h0:0<=n:=by cases k<;>simp [pA] at hk<;>simpa [lo] using hn.1
      have hc1:c-1=hi k:=by cases k<;>simp [pA] at hk<;>subst hk<;>rfl
      have hx:(c-1-n)=k.wrap ((BitVec.ofInt k.bits (hi k)^^^BitVec.ofInt k.bits n).toNat:Int):=by
       rw [BitVec.toNat_xor,rF w! (P? _),rF h0 hn.2]
       have e:(hi k).toNat^^^n.toNat=(hi k).toNat-n.toNat:=by
        have e2:(hi k).toNat=2^qJ k-1:=by cases k<;>simp [pA] at hk<;>rfl
        rw [e2];apply Nat.eq_of_testBit_eq;grind[Nat.lt_or_ge,Nat.testBit_lt_two_pow,Nat.lt_of_lt_of_le,Nat.pow_le_pow_right]
       have hr:lo k<=(((hi k).toNat-n.toNat:Nat):Int)/\(((hi k).toNat-n.toNat:Nat):Int)<=hi k:=by
        have :lo k=0:=by cases k<;>simp [pA] at hk<;>rfl
        omega
       grind[yM]
      have aCP:lo k<=c-1-n/\c-1-n<=hi k:=by
       have :lo k=0:=by cases k<;>simp [pA] at hk<;>rfl
       omega
      refine⟨⟨rfl,rfl,rfl⟩,.int k (c-1-n),?_,by simp_all[aa,trivial]⟩;have Ü:k.max=hi k:=by cases k<;>simp [pA] at hk<;>rfl
      simp_all[Op.unary,Op.intBits,O?,w?,Sem.run_pure]
   grind
 grind
def D7(s:B8)(x y:Nat)(hy:y<=s.length):(⟨s.toArray⟩:ByteArray).extract x y=⟨((s.take y).drop x).toArray⟩:=by
 apply ByteArray.ext;grind[Array.ext',ByteArray.data_extract,List.drop_take]
def run_sliceBound {k:IntKind}{n:Int}{y:Nat}{code:BoundsCode}(h0:0<=n)(h1:n<=(y:Int)):(Instr.sliceBound (.int k n) y code).run P w= .ok n.toNat w:=by
 simp_all[Instr.sliceBound,asIntOf]
def eX:Option Int->Nat
 |none=>0
 |some a=>a.toNat
def bB(len:Nat):Option Int->Nat
 |none=>len
 |some b=>b.toNat
def qw(w:World)(A:Nat->Prop)(β:Nat->Value):Option AV->Option Value->Prop
 |none,none=>True
 |some x,some v=>aa w A β v x
 |_,_=>False
theorem gB {x:Option AV}{n:Option Int}{v:Option Value}(h:tM x=some n)(hr:qw w A β x v):
  (n=none/\v=none)\/∃k m,n=some m/\v=some (.int k m):=by
 cases x with
 |none=>
  grind[tM,qw]
 |some x=>
  cases v with
  |none=>grind[qw]
  |some v=>
   cases x with
   |int k m=>
    grind[tM,Option.some.injEq,qw,aa]
   |_=>grind[tM]
def mB {s:Bool}{len cap:Nat}{lo hi:Option Int}{vl vh:Option Value}(hl:(lo=none/\vl=none)\/∃k m,lo=some m/\vl=some (.int k m))(hh:(hi=none/\vh=none)\/∃k m,hi=some m/\vh=some (.int k m))
  (hlen:len<=cap) (h0:∀m,hi=some m->0<=m/\m<=(len:Int)) (h1:∀m,lo=some m->0<=m/\m<=(bB len hi:Int)):
  (Instr.sliceBounds s len cap vl vh none).run P w= .ok (eX lo,bB len hi,cap) w:=by
 rcases hl with⟨rfl,rfl⟩|⟨k,m,rfl,rfl⟩<;>rcases hh with⟨rfl,rfl⟩|⟨k',m',rfl,rfl⟩
 . rfl
 . obtain⟨g0,g1⟩:=h0 m' rfl;simp [Instr.sliceBounds,eX,bB,run_sliceBound (P:=P) (w:=w) (k:=k') g0 (show m'<=(cap:Int) by omega)]
 . simp_all[bB,Instr.sliceBounds,eX,run_sliceBound]
 . obtain⟨g0,g1⟩:=h0 m' rfl;obtain⟨f0,f1⟩:=h1 m rfl;simp only [bB] at f1;simp [Instr.sliceBounds,eX,bB,run_sliceBound (P:=P) (w:=w) (k:=k') g0 (show m'<=(cap:Int) by omega),run_sliceBound (P:=P) (w:=w) (k:=k) f0 f1]
theorem wT {row:List Ty}{v:Value}{l:List (Row row)}(h:Rd w A (.slice row) v l):∃ad cap,v= .slice ad l.length cap/\l.length<=cap/\cap<=maxLen:=by
 grind[Rd]
theorem Tx {row:List Ty}{ad:Option Addr}{len cap:Nat}{l:List (Row row)}(h:Rd w A (.slice row) (.slice ad len cap) l)(x y:Nat)(hx:x<=y)(hy:y<=l.length)(F8:Option Addr)
  (had:x<cap->F8=ad.map (·.add (x*row.length))):Rd w A (.slice row) (.slice F8 (y-x) (cap-x)) ((l.take y).drop x):=by
 obtain⟨a0,azY,cs,h1,h2,h3,h4,h5⟩:=h;obtain⟨rfl,rfl,rfl⟩:=h1;have hs:=eW (w:=w) (A:=A) l cs y h4;have QF:=eW (w:=w) (A:=A) (l.take y) _ x hs.1;have hlen:((l.take y).drop x).length=y-x:=by grind
 refine⟨F8,cap-x,((cs.take (y*row.length)).drop (x*row.length)),x!,w!,w!,QF.2,λdU=>?_⟩;have dm:cs≠ []:=by grind
 grind[qu,jt,Addr.add_mid]
theorem F9 {t:TypeId}(hu:P.underlying t=some .string)(s:B8){vl vh:Option Value}{x y c:Nat}(hy:y<=s.length)(hb:(Instr.sliceBounds false s.length s.length vl vh none).run P w= .ok (x,y,c) w):
  (Instr.sliceAt t (.string ⟨s.toArray⟩) vl vh none).run P w= .ok (.string ⟨((s.take y).drop x).toArray⟩) w:=by
 simp_all[Instr.sliceAt,Instr.slice,run_underlying,yN,D7]
theorem qW {t e:TypeId}{i:TypeInfo}(hu:P.underlying t=some (.slice e))(hi:P.info? e=some i)(ad:Option Addr)(len cap:Nat){vl vh:Option Value}{x y:Nat}(hb:(Instr.sliceBounds true len cap vl vh none).run P w= .ok (x,y,cap) w):
  (Instr.sliceAt t (.slice ad len cap) vl vh none).run P w= .ok (.slice (if cap=x then ad else ad.map (·.add (x*i.size))) (y-x) (cap-x)) w:=by
 simp_all[Instr.sliceAt,Instr.slice,run_underlying,sizeOf,typeInfo,hi]
theorem lW(hT:bx T P){t:TypeId}{te:TE}(ht:T.find t=some te):P.underlying t=some te.desc:=(hT.ok t te ht).1
def QI(hT:bx T P)(hB:aq C A β st a w){t:TypeId}{x:AV}{lo hi mx:Option AV}{vx:Value}{vl vh vm:Option Value}(hx:aa w A β vx x)
  (hl:qw w A β lo vl)
  (hh:qw w A β hi vh)
  (hm:qw w A β mx vm) {out:Out}
  (h:rZ T st.h t x lo hi mx=some out) (hc:∀p∈out.cond,p):Reads P A β w (Instr.sliceAt t vx vl vh vm) out:=by
 unfold rZ at h;split at h
 . rename_i s Cu e7 QG Wt yo
   have hvm:vm=none:=by
    grind[gB]
   subst hvm;have jU:=gB QG hl;have hh':=gB Wt hh;simp only [aa] at hx;obtain⟨rfl,hs⟩:=hx;cases hd:cE T t rE with
   |false=>grind
   |true=>
    simp only [hd,I!] at h
    have hu:P.underlying t=some .string:=by
     unfold cE at hd;cases ht:T.find t with
     |none=>grind
     |some te=>
      simp only [ht] at hd;rw [(hT.ok t te ht).1];grind[rE]
    have fin:∀(r:B8),(bB s.length e7<=s.length)->(∀m,e7=some m->0<=m/\m<=(s.length:Int))->(∀m,Cu=some m->0<=m/\m<=(bB s.length e7:Int))->
      r=((s.take (bB s.length e7)).drop (eX Cu))->∃v,(Instr.sliceAt t (.string ⟨s.toArray⟩) vl vh none).run P w= .ok v w/\aa w A β v (.str r):=by
     intro r h1 h2 h3 h4;have hb:=mB (P:=P) (w:=w) (s:=false) (cap:=s.length) jU hh' (Nat.le_refl _) h2 h3;refine⟨_,F9 hu s h1 hb,?_⟩;grind[aa]
    split at h
    . simp only [A!] at h;subst h;exact⟨⟨rfl,rfl,rfl⟩,fin s (by simp [bB]) z! z! (by simp [bB,eX])⟩
    . rename_i b;simp only [Option.some.injEq] at h;subst h;obtain⟨c0,c1⟩:=dW hc;exact⟨⟨rfl,rfl,rfl⟩,fin _ (by grind[bB]) x! z! (by rfl)⟩
    . rename_i x;simp only [Option.some.injEq] at h;subst h;obtain⟨c0,c1⟩:=dW hc;exact⟨⟨rfl,rfl,rfl⟩,fin _ (by simp [bB]) z! (by grind[Option.some.injEq,bB]) (by simp [bB,eX])⟩
    . rename_i x b;simp only [Option.some.injEq] at h;subst h;obtain⟨c0,c1,c2⟩:=dW hc;exact⟨⟨rfl,rfl,rfl⟩,fin _ (by grind[bB]) x! (by grind[Option.some.injEq,bB]) (by rfl)⟩
 . rename_i row l Cu e7 QG Wt yo
   have hvm:vm=none:=by
    grind[gB]
   subst hvm;have jU:=gB QG hl;have hh':=gB Wt hh;simp only [aa] at hx;cases hs:aZ T t row.length with
   |false=>grind
   |true=>
    simp only [hs,I!] at h;obtain⟨e,ii,hu,gV,cZ,lL⟩:=ez hT hs;obtain⟨ad,cap,rfl,hle,QJ⟩:=wT hx
    have fin:∀(r:List (Row row)),(bB l.length e7<=l.length)->(eX Cu<=bB l.length e7)->(∀m,e7=some m->0<=m/\m<=(l.length:Int))->(∀m,Cu=some m->0<=m/\m<=(bB l.length e7:Int))->
      r=((l.take (bB l.length e7)).drop (eX Cu))->∃v,(Instr.sliceAt t (.slice ad l.length cap) vl vh none).run P w= .ok v w/\aa w A β v (.sl row r):=by
     intro r h1 h1' h2 h3 h4;have hb:=mB (P:=P) (w:=w) (s:=true) (cap:=cap) jU hh' hle h2 h3;refine⟨_,qW hu gV ad l.length cap hb,?_⟩;grind[aa,Tx]
    split at h
    . simp only [A!] at h;subst h;exact⟨⟨rfl,rfl,rfl⟩,fin l (by simp [bB]) (by simp [eX]) z! z! (by simp [bB,eX])⟩
    . rename_i b;simp only [Option.some.injEq] at h;subst h;obtain⟨c0,c1⟩:=dW hc;exact⟨⟨rfl,rfl,rfl⟩,fin _ (by grind[bB]) (by simp [eX]) x! z! (by rfl)⟩
    . rename_i x;simp only [Option.some.injEq] at h;subst h;obtain⟨c0,c1⟩:=dW hc;exact⟨⟨rfl,rfl,rfl⟩,fin _ (by simp [bB]) (by grind[bB,eX]) z! (by grind[Option.some.injEq,bB]) (by simp [bB,eX])⟩
    . rename_i x b;simp only [Option.some.injEq] at h;subst h;obtain⟨c0,c1,c2⟩:=dW hc;exact⟨⟨rfl,rfl,rfl⟩,fin _ (by grind[bB]) (by grind[bB,eX]) x! (by simp only [Option.some.injEq,bB];rintro m rfl;omega) (by simp [bB,eX])⟩
 . rename_i row l b c QG Wt yo
   have hvl:vl=none:=by
    rcases gB QG hl with⟨_,h⟩|⟨k,m,h,_⟩
    . exact h
    . cases h
   subst hvl
   obtain⟨kb,rfl⟩:∃kb,vh=some (.int kb b):=by
    rcases gB Wt hh with⟨h,_⟩|⟨k,m,h,h2⟩
    . cases h
    . cases h;exact⟨k,h2⟩
   obtain⟨kc,rfl⟩:∃kc,vm=some (.int kc c):=by
    rcases gB yo hm with⟨h,_⟩|⟨k,m,h,h2⟩
    . cases h
    . cases h;exact⟨k,h2⟩
   simp only [aa] at hx;cases hs:aZ T t row.length with
   |false=>simp [hs] at h
   |true=>
    simp only [hs,I!] at h;obtain⟨e,ii,hu,gV,cZ,lL⟩:=ez hT hs;obtain⟨ad,cap,rfl,hle,QJ⟩:=wT hx;simp only [A!] at h;subst h;obtain⟨c0,c1,c2⟩:=dW hc;subst c1
    have hb:(Instr.sliceBounds true l.length cap none (some (.int kb b)) (some (.int kc b))).run P w= .ok (0,b.toNat,b.toNat) w:=by
     simp [Instr.sliceBounds,run_sliceBound (P:=P) (w:=w) (k:=kc) (n:=b) (y:=cap) w! w!,run_sliceBound (P:=P) (w:=w) (k:=kb) (n:=b) (y:=b.toNat) w! w!]
    have fg:(Instr.sliceAt t (.slice ad l.length cap) none (some (.int kb b)) (some (.int kc b))).run P w=
      .ok (.slice (if b.toNat=0 then ad else ad.map (·.add (0*ii.size))) (b.toNat-0) (b.toNat-0)) w:=by
     simp [Instr.sliceAt,Instr.slice,run_underlying hu,sizeOf,typeInfo,gV,hb]
    have hR:=Tx hx 0 b.toNat w! w! (if b.toNat=0 then ad else ad.map (·.add (0*ii.size))) (λ_=>by
     by_cases hz:b.toNat=0
     . rw [R! hz];cases ad<;>simp [Addr.add]
     . rw [Q! hz];cases ad<;>simp [Addr.add])
    have hlen:((l.take b.toNat).drop 0).length=b.toNat:=by rw [List.drop_zero,T?];omega
    simp only [Rd] at hR;obtain⟨a0,azY,cs,g1,g2,g3,g4,g5⟩:=hR;simp only [Value.slice.injEq] at g1;obtain⟨g6,g7,g8⟩:=g1;rw [List.drop_zero] at hlen g4;rw [g6,Nat.sub_zero] at fg;refine⟨⟨rfl,rfl,rfl⟩,.slice a0 b.toNat b.toNat,fg,?_⟩;simp only [aa,Rd];refine⟨⟨a0,b.toNat,cs,?_,w!,w!,g4,g5⟩,a0,?_⟩<;>rw [hlen]
 . rename_i k Cu e7 QG Wt yo
   have hvm:vm=none:=by
    rcases gB yo hm with⟨_,h⟩|⟨k,m,h,_⟩
    . exact h
    . cases h
   subst hvm;have jU:=gB QG hl;have hh':=gB Wt hh;split at h
   . rename_i e' row l fr hk;cases hs:aZ T t row.length with
     |false=>simp [hs] at h
     |true=>
      simp only [hs,I!] at h;obtain⟨e,ii,hu,gV,cZ,lL⟩:=ez hT hs;simp only [aa] at hx;obtain⟨rfl,_⟩:=hx
      have fin:(bB l.length e7<=l.length)->(eX Cu<=bB l.length e7)->(∀m,e7=some m->0<=m/\m<=(l.length:Int))->(∀m,Cu=some m->0<=m/\m<=(bB l.length e7:Int))->
        (β k= .slice none 0 0/\l=[]/\(Instr.sliceAt t (β k) vl vh none).run P w= .ok (.slice none 0 0) w)\/∃b cap F8,β k= .slice (some ⟨b,0,none⟩) l.length cap/\(l.length<=cap/\cap<=maxLen)/\
          (Instr.sliceAt t (β k) vl vh none).run P w= .ok (.slice F8 (bB l.length e7-eX Cu) (cap-eX Cu)) w/\(eX Cu<cap->F8=some ⟨b,eX Cu*row.length,none⟩)/\(eX Cu=0->F8=some ⟨b,0,none⟩):=by
       intro h1 h1' h2 h3;rcases fJ hB hk with⟨g1,g2⟩|⟨b,cap,cur,g1,_,g3,g4,_⟩
       . subst g2;have hb:=mB (P:=P) (w:=w) (s:=true) (cap:=0) jU hh' (S! _) h2 h3;have hz:bB 0 e7=0:=by simpa using h1
         have hz2:eX Cu=0:=by simp only [List.length_nil] at h1';omega
         refine .inl ⟨g1,rfl,?_⟩;rw [g1,qW hu gV none 0 0 hb,hz,hz2];simp
       . have hb:=mB (P:=P) (w:=w) (s:=true) (cap:=cap) jU hh' g3 h2 h3;refine .inr ⟨b,cap,_,g1,⟨g3,g4⟩,by rw [g1];exact qW hu gV (some ⟨b,0,none⟩) l.length cap hb,λiU=>?_,λhz=>?_⟩
         . rw [Q! w!,cZ];simp [Addr.add_mid]
         . split
           . rfl
           . rw [hz];simp [Addr.add]
      split at h
      . simp only [A!] at h;subst h;rcases fin (by simp [bB]) (by simp [eX]) z! z! with⟨g1,g2,g3⟩|⟨b,cap,F8,g1,g2,g3,_,g5⟩
        . exact⟨⟨rfl,rfl,rfl⟩,_,g3,by simp only [aa];exact⟨g1.symm,rfl⟩⟩
        . refine⟨⟨rfl,rfl,rfl⟩,_,g3,?_⟩;simp only [aa];rw [g5 rfl,g1];simp [bB,eX,Value.oneCell']
      . rename_i b;simp only [A!] at h;subst h;obtain⟨c0,c1⟩:=dW hc;rcases fin (by simp only [bB];omega) (by simp [eX]) (by simp only [A!];rintro m rfl;exact⟨c0,c1⟩) z! with⟨g1,g2,g3⟩|⟨bb,cap,F8,g1,g2,g3,_,g5⟩
        . refine⟨⟨rfl,rfl,rfl⟩,_,g3,?_⟩;simp only [aa];refine .inl ⟨g1,trivial,?_⟩;subst g2;simp at c1;omega
        . refine⟨⟨rfl,rfl,rfl⟩,_,g3,?_⟩;simp only [aa];rw [g5 rfl];exact .inr ⟨bb,_,cap,g1,by simp [bB,eX],w!⟩
      . rename_i x;simp only [A!] at h;subst h;obtain⟨c0,c1⟩:=dW hc;rcases fin (by simp [bB]) (by simp only [bB,eX];omega) z! (by simp only [A!,bB];rintro m rfl;exact⟨c0,c1⟩) with⟨g1,g2,g3⟩|⟨bb,cap,F8,g1,g2,g3,g4,_⟩
        . refine⟨⟨rfl,rfl,rfl⟩,_,g3,?_⟩;simp only [aa];subst g2;exact .inl ⟨z!,none,0,rfl,z!⟩
        . refine⟨⟨rfl,rfl,rfl⟩,_,g3,?_⟩;simp only [aa,bB,eX] at g4 |-;by_cases hz:l.length-x.toNat=0
          . exact .inl ⟨hz,F8,_,by rw [hz],w!⟩
          . exact .inr ⟨bb,_,cap,cap-x.toNat,g1,by rw [g4 w!],w!,w!,w!⟩
      . rename_i x b;simp only [A!] at h;subst h;obtain⟨c0,c1,c2⟩:=dW hc;rcases fin (by simp only [bB];omega) (by simp only [bB,eX];omega) (by simp only [A!];rintro m rfl;exact⟨w!,c2⟩) (by simp only [A!,bB];rintro m rfl;omega) with⟨g1,g2,g3⟩|⟨bb,cap,F8,g1,g2,g3,g4,_⟩
        . refine⟨⟨rfl,rfl,rfl⟩,_,g3,?_⟩;simp only [aa];subst g2;exact .inl ⟨by simp at c2;omega,none,0,rfl,z!⟩
        . refine⟨⟨rfl,rfl,rfl⟩,_,g3,?_⟩;simp only [aa,bB,eX] at g4 |-;by_cases hz:b.toNat-x.toNat=0
          . exact .inl ⟨hz,F8,_,by rw [hz],w!⟩
          . exact .inr ⟨bb,_,cap,cap-x.toNat,g1,by rw [g4 w!],w!,w!,w!⟩
   . cases h
 grind
end
end Go.Vg

end
section
namespace Go.Vg
open Go
variable [HP]
section
variable {P:Program} {C:Ctx} {A:Nat->Prop} {β:Nat->Value} {st:St} {a:Act} {w:World} {T:bY}
theorem QK:∀(t:Ty) (v:Value) (x:D t),Rd w A t v x->v.oneCell'=true
 |.int _,v,x,h=>by rw [h.1];rfl
 |.bool,v,x,h=>by rw [h];rfl
 |.str,v,x,h=>by rw [h.1];rfl
 |.slice _,v,x,h=>by obtain⟨_,_,_,h1,_⟩:=h;rw [h1];rfl
theorem yS:∀(ts:List Ty) (vs:List Value) (x:Row ts),br w A ts vs x->∀v∈vs,v.oneCell'=true
 |[],vs,_,h=>by grind[br]
 |t::ts,vs,x,h=>by
  obtain⟨v,bS,rfl,h1,h2⟩:=h;intro u hu;rcases N!.1 hu with rfl|hu
  . exact QK t _ _ h1
  . exact yS ts bS _ h2 u hu
def yT {row:List Ty}:∀(l:List (Row row)) (cs:List Value),dc (br w A row) cs l->∀v∈cs,v.oneCell'=true
 |[],cs,h=>by grind[dc]
 |x::l,cs,⟨c1,c2,hc,h1,h2⟩=>by
  subst hc;intro u hu;rcases G!.1 hu with hu|hu
  . exact yS row c1 x h1 u hu
  . exact yT l c2 h2 u hu
theorem im {r r':List Ty}{l:List (Row r)}{l':List (Row r')}(h:eU r r' l=some l'):∃e:r=r',e▸l=l':=by
 grind[eU,Option.some.injEq,Ty.lT]
structure Src (P:Program) (w:World) (A:Nat->Prop) (row:List Ty) (m:List (Row row)) (v:Value) (cs:List Value):Prop where
 rd:dc (br w A row) cs m
 len:(Builtin.lenOf v).run P w= .ok m.length w
 first :∀w':World,w'.heap=w.heap->∀n,n<=m.length->(Builtin.firstCells row.length n v).run P w'= .ok (cs.take (n*row.length)).toArray w'
 max:m.length<=maxLen
theorem Cv {w w':World}(h:w'.heap=w.heap)(p:Addr):w'.cell? p=w.cell? p:=by grind[World.cell?]
def pT {row:List Ty}{m:List (Row row)}{cs:List Value}{ad:Option Addr}{cap:Nat}(qK:dc (br w A row) cs m)(dm:cs≠ []->∃b o,ad=some ⟨b,o,none⟩/\w.rangeAt b o cs)(Ü:m.length<=maxLen):
  Src P w A row m (.slice ad m.length cap) cs:=by
 refine⟨qK,by rfl,λw' hw n hn=>?_,Ü⟩;have hlen:=fx m cs qK;by_cases h0:cs=[]
 . subst h0
   have hz:n*row.length=0:=by
    grind[Nat.eq_zero_or_pos,Nat.mul_eq_zero]
   cases ad with
   |none=>simp [Builtin.firstCells]
   |some p=>simp [Builtin.firstCells,hz,loadCells,loadCellsFrom]
 . obtain⟨b,o,rfl,hr⟩:=dm h0
   have iU:(cs.take (n*row.length)).length=n*row.length:=by
    simp_all
   have:=run_loadCells_list (P:=P) w' ⟨b,o,none⟩ (cs.take (n*row.length)) (λj v hv=>by
    rw [Addr.add_mid,Cv hw];exact jt hr j v hv)
   grind[Builtin.firstCells]
theorem J7 {row:List Ty}:Src P w A row ([]:List (Row row)) (.slice none 0 0) []:=
 pT (m:=([]:List (Row row))) (by rfl) (λh=>absurd rfl h) z!
theorem QL {row:List Ty}{l:List (Row row)}{v:Value}(h:Rd w A (.slice row) v l):∃cs,Src P w A row l v cs:=by
 obtain⟨ad,cap,cs,rfl,h2,h3,h4,h5⟩:=h;exact⟨cs,pT h4 (λdU=>let⟨b,o,h1,_,h2⟩:=h5 dU;⟨b,o,h1,h2⟩) w!⟩
theorem J8(s:B8):dc (br w A [.int .u8]) (s.map λb=>Value.int .u8 (b.toNat:Int)) s:=by
 induction s with
 |nil=>rfl
 |cons b s ih=>
  refine⟨[.int .u8 (b.toNat:Int)],s.map λb=>Value.int .u8 (b.toNat:Int),rfl,?_,ih⟩;refine⟨_,[],rfl,⟨rfl,?_,?_⟩,rfl⟩
  . simp [lo,Row.hd,DI.toInt]
  . have:=b.toNat_lt;grind[hi,Row.hd,DI.toInt]
def aeU(s:B8)(hs:s.length<=maxLen):Src P w A [.int .u8] s (.string ⟨s.toArray⟩) (s.map λb=>Value.int .u8 (b.toNat:Int)):=by
 refine⟨J8 s,by rfl,λw' hw n hn=>?_,hs⟩;simp_all[Builtin.firstCells,W!,Nat.mul_one,Sem.run_pure,D7,r?,List.map_take]
theorem nS {k e:Nat}{row:List Ty}{l:List (Row row)}{fr:Bool}(hB:aq C A β st a w)(h:st.h k=some (.row e row l fr)):
  (β k= .slice none 0 0/\l=[])\/∃b cap cs,β k= .slice (some ⟨b,0,none⟩) l.length cap/\l.length<=cap/\cap<=maxLen/\dc (br w A row) cs l/\w.rangeAt b 0 cs:=by
 rcases fJ hB h with h|⟨b,cap,cur,h1,h2,h3,h4,h5,h6,_⟩
 . grind
 . refine .inr ⟨b,cap,_,h1,h3,h4,h6,λj v hj=>?_⟩;grind[World.cell?]
def Jk(hB:aq C A β st a w){x:AV}{v:Value}(hx:aa w A β v x){row:List Ty}{m:List (Row row)}(h:mZ st.h row x=some m):∃cs,Src P w A row m v cs:=by
 unfold mZ at h;split at h
 . rename_i s;obtain⟨e,h⟩:=im h;subst e;simp only at h;subst h;simp only [aa] at hx;obtain⟨rfl,hs⟩:=hx;exact⟨_,aeU s hs⟩
 . simp only [A!] at h;subst h;simp only [aa] at hx;subst hx;exact⟨[],J7⟩
 . rename_i h1 h2
   have key:∀r (l:List (Row r)),(hX st.h x).1= .sl r l->eU r row l=some m->∃cs,Src P w A row m v cs:=by
    intro r l hp hc;obtain⟨e,hc⟩:=im hc;subst e;simp only at hc;subst hc;unfold hX at hp;split at hp
    . rename_i k;simp only [aa] at hx;split at hp
      . rename_i e' lV l' fr hk;simp only [AV.sl.injEq] at hp;obtain⟨rfl,hp⟩:=hp;simp only [heq_eq_eq] at hp;subst hp;rcases nS hB hk with⟨g1,g2⟩|⟨b,cap,cs,g1,g2,g3,g4,g5⟩
        . subst g2;rw [hx.1,g1];exact⟨[],J7⟩
        . rw [hx.1,g1];exact⟨cs,pT g4 (λ_=>⟨b,0,rfl,g5⟩) w!⟩
      grind
    . rename_i k n;simp only [aa] at hx;split at hp
      . rename_i e' lV l' fr hk;simp only [AV.sl.injEq] at hp;obtain⟨rfl,hp⟩:=hp;simp only [heq_eq_eq] at hp;subst hp;rcases nS hB hk with⟨g1,g2⟩|⟨b,cap,cs,g1,g2,g3,g4,g5⟩
        . subst g2;rcases hx with⟨_,hv,hn⟩|⟨b,m,cap,hv,_⟩
          . subst hn;rw [hv];exact⟨[],by grind[J7]⟩
          grind
        . rcases hx with⟨hv,_,_⟩|⟨b',m,jg,hv,Tp,hle⟩
          . grind
          . rw [g1] at hv;obtain⟨rfl,rfl,rfl⟩:=hv;have hl:(l'.take n).length=n:=by grind
            rw [Tp];have:=pT (P:=P) (ad:=some ⟨b,0,none⟩) (cap:=cap) (eW l' cs n g4).1 (λ_=>⟨b,0,rfl,jt g5⟩) w!;grind
      grind
    . rename_i k sz off n;simp only [aa] at hx;split at hp
      . rename_i e' lV l' fr hk;cases cZ:Nat.beq sz lV.length with
        |false=>grind
        |true=>
         have cZ:=C! cZ;subst cZ;simp only [ct,I!,AV.sl.injEq] at hp;obtain⟨rfl,hp⟩:=hp;simp only [heq_eq_eq] at hp;subst hp;rcases hx with⟨hn,ad,cap,hv,_⟩|⟨b',m,jg,Cw,hv,Tp,hle,aEM,aC3⟩
         . subst hn;rw [hv];have:=pT (P:=P) (w:=w) (A:=A) (row:=lV) (m:=[]) (ad:=ad) (cap:=cap) (cs:=[]) (by rfl) (λh=>absurd rfl h) z!;grind
         . rcases nS hB hk with⟨g1,g2⟩|⟨b,cap,cs,g1,g2,g3,g4,g5⟩
           . grind
           . rw [g1] at hv;simp only [Value.slice.injEq,Option.some.injEq,Addr.mk.injEq,and_true] at hv;obtain⟨rfl,rfl,rfl⟩:=hv;have hl:((l'.drop off).take n).length=n:=by grind
             rw [Tp];have:=pT (P:=P) (ad:=some ⟨b,off*lV.length,none⟩) (cap:=Cw) (eW _ _ n (eW l' cs off g4).2).1 (λ_=>⟨b,_,rfl,by have:=jt (n:=n*lV.length) (qu (n:=off*lV.length) g5);grind⟩) w!;grind
      grind
    simp_all[aa,QL]
   split at h
   . grind
   . rename_i r l hp
     have Bq:x= .full r l:=by
      unfold hX at hp;grind
     grind[aa,im,QL]
   grind
end
end Go.Vg

end
section
namespace Go.Vg
open Go
variable [HP]
section
variable {P:Program} {C:Ctx} {A:Nat->Prop} {β:Nat->Value} {st:St} {a:Act} {w:World} {T:bY}
structure Tz (P:Program) (t t' e:TypeId) (size bytes:Nat) (z:Value):Prop where
 under:P.underlying t=some (.slice e)
 aCQ:∃d,P.underlying t'=some d/\(d= .string\/∃e',d= .slice e')
 info:∃i,P.info? e=some i/\i.size=size/\i.bytes=bytes/\i.zero=some z
 aeV:z.cells.size=size
 pos:0<size
def oI {t t' ty e:TypeId}{size bytes:Nat}{z:Value}(hE:Tz P t t' e size bytes z){base:Option Addr}{n cap:Nat}{asA:List Value}{x:Value}{m:Nat}{news:List Value}
  (hold:∀w':World,w'.heap=w.heap->(Builtin.firstCells size n (.slice base n cap)).run P w'= .ok asA.toArray w')
  (hlen:(Builtin.lenOf x).run P w= .ok m w) (jI:∀w':World,w'.heap=w.heap->(Builtin.firstCells size m x).run P w'= .ok news.toArray w')
  (hg:cap<n+m) (Wu:n+m<=maxLen) (AK:(n+m)*bytes<=140737488355328):
  (Builtin.append_ #[t,t'] ty #[.slice base n cap,x]).run P w=
    .ok (.slice (some ⟨w.heap.size,0,none⟩) (n+m) (grownCap w (n+m) cap e))
      (w.drew.alloc (.cells (asA.toArray++(news.toArray++Builtin.zeroCells z.cells (grownCap w (n+m) cap e-(n+m)))) e)):=by
 obtain⟨hu,⟨d',lX,qL⟩,⟨i,hi,hs,hb,hz⟩,hzs,lL⟩:=hE;subst hs;subst hb;have hn:¬(n+m<=cap):=by omega
 have asB:¬(9223372036854775807<((n:Int)+(m:Int))):=by grind[maxLen]
 have h48:=growslice_fits hg AK;have asC:¬(281474976710656<Builtin.nextslicecap (n+m) cap*i.bytes):=by omega
 have hfo:=hold w.drew rfl;have hf:=jI w.drew rfl;rcases qL with rfl|⟨e',rfl⟩
 . simp [Builtin.append_,run_underlying hu,run_underlying lX,sizeOf,typeInfo,zeroValue,hi,hz,hlen,hn,asB,asC,Question.forced,hf,hfo,newRow,grownCap]
 . simp [Builtin.append_,run_underlying hu,run_underlying lX,sizeOf,typeInfo,zeroValue,hi,hz,hlen,hn,asB,asC,Question.forced,hf,hfo,newRow,grownCap]
def D8 {t t' ty e:TypeId}{size bytes:Nat}{z:Value}(hE:Tz P t t' e size bytes z){g n cap:Nat}{cur:Array Value}(hg:w.heap[g]? =some (.cells cur e (0,0))){x:Value}{m:Nat}{news:List Value}
  (hlen:(Builtin.lenOf x).run P w= .ok m w) (jI:∀w':World,w'.heap=w.heap->(Builtin.firstCells size m x).run P w'= .ok news.toArray w')
  (hl:news.length=m*size) (h1:∀u∈news,u.oneCell'=true) (J9:n+m<=cap) (dm:cur.size=cap*size):
  (Builtin.append_ #[t,t'] ty #[.slice (some ⟨g,0,none⟩) n cap,x]).run P w=
    .ok (.slice (some ⟨g,0,none⟩) (n+m) cap) (w.setRow g (cur.toList.take (n*size)++news++cur.toList.drop (n*size+news.length)).toArray):=by
 obtain⟨hu,⟨d',lX,qL⟩,⟨i,hi,hs,hb,hz⟩,hzs,lL⟩:=hE;subst hs;have HG:n*i.size+news.length<=cur.size:=by rw [hl,dm,<-y?];simp_all[I?]
 have qX:=run_storeCells_at P g (n*i.size) e news 0 cur w hg w! h1;have hf:=jI w rfl;rcases qL with rfl|⟨e',rfl⟩
 . simp [Builtin.append_,run_underlying hu,run_underlying lX,sizeOf,typeInfo,hi,hlen,J9,hf,Addr.add_lit,qX]
 . simp [Builtin.append_,run_underlying hu,run_underlying lX,sizeOf,typeInfo,hi,hlen,J9,hf,Addr.add_lit,qX]
def mC {t t' ty e:TypeId}{size bytes:Nat}{z:Value}(hE:Tz P t t' e size bytes z){v:Value}{n:Nat}{xs:List Value}(ib:w.ownsRow 0 e size v n xs){x:Value}{m:Nat}{news:List Value}
  (hlen:(Builtin.lenOf x).run P w= .ok m w) (jI:∀w':World,w'.heap=w.heap->(Builtin.firstCells size m x).run P w'= .ok news.toArray w')
  (hl:news.length=m*size) (h1:∀u∈news,u.oneCell'=true) (Wu:n+m<=maxLen) (AK:(n+m)*bytes<=140737488355328):
  ∃v' w',(Builtin.append_ #[t,t'] ty #[v,x]).run P w= .ok v' w'/\w'.ownsRow 0 e size v' (n+m) (xs++news)/\w.grownBy w' v.ownBlock/\∀b,ag v'=some b->ag v=some b\/w.heap.size<=b:=by
 have QM:(xs++news).length=(n+m)*size:=by rw [K!,ib.1,hl,y?]
 have grown:∀(gH:Nat) (row:Option Nat),
   (w.drew.alloc (.cells (xs.toArray++(news.toArray++Builtin.zeroCells z.cells (grownCap w (n+m) gH e-(n+m)))) e)).ownsRow 0 e size
     (.slice (some ⟨w.heap.size,0,none⟩) (n+m) (grownCap w (n+m) gH e)) (n+m) (xs++news)/\
   w.grownBy (w.drew.alloc (.cells (xs.toArray++(news.toArray++Builtin.zeroCells z.cells (grownCap w (n+m) gH e-(n+m)))) e)) row:=by
  intro gH row;have NJ:=grownCap_ge w (n+m) gH e;have Cx:grownCap w (n+m) gH e<=maxLen:=grownCap_le_maxLen w (n+m) gH e Wu;refine⟨⟨QM,.inr ⟨w.heap.size,_,_,rfl,w!,heap_alloc_new w.drew _,NJ,Cx,?_,?_⟩⟩,⟨rfl,rfl,rfl,z!,λk hk _=>heap_alloc_old w.drew _ k hk⟩⟩
  . simp only [Array.size_append,List.size_toArray,size_zeroCells,hE.aeV,ib.1,hl,<-Nat.add_mul];grind
  grind
 rcases ib.2 with⟨rfl,rfl⟩|⟨g,cap,cur,rfl,hbg,hg,hnc,Cx,dm,aC5⟩
 . have hx:xs=[]:=List.eq_nil_of_length_eq_zero x!;subst hx;by_cases hm:m=0
   . subst hm;have hn:news=[]:=List.eq_nil_of_length_eq_zero w!;subst hn;refine⟨.slice none 0 0,w,?_,x!,⟨rfl,rfl,rfl,Nat.le_refl _,λ_ _ _=>rfl⟩,x!⟩;obtain⟨hu,⟨d',lX,qL⟩,⟨i,hi,hs,hb,hz⟩,hzs,lL⟩:=hE;subst hs;have hf:=jI w rfl;rcases qL with rfl|⟨e',rfl⟩
     . simp [Builtin.append_,run_underlying hu,run_underlying lX,sizeOf,typeInfo,hi,hlen,hf]
     . simp [Builtin.append_,run_underlying hu,run_underlying lX,sizeOf,typeInfo,hi,hlen,hf]
   . have hold:∀w':World,w'.heap=w.heap->(Builtin.firstCells size 0 (.slice none 0 0)).run P w'= .ok ([]:List Value).toArray w':=λw' _=>by rfl
     have hr:=oI (ty:=ty) hE hold hlen jI w! Wu AK;have hgr:=grown 0 (Value.ownBlock (.slice none 0 0));grind[ag,Option.some.injEq]
 . by_cases J9:n+m<=cap
   . have HG:n*size+news.length<=cur.size:=by rw [hl,dm,<-y?];simp_all[I?]
     have hr:=D8 (ty:=ty) hE hg hlen jI hl h1 J9 dm;refine⟨_,_,hr,⟨QM,.inr ⟨g,cap,_,rfl,hbg,setRow_heap w g cur _ e _ hg,J9,Cx,?_,?_⟩⟩,⟨rfl,rfl,rfl,z!,λk _ hk=>setRow_other w g k _ (λe=>hk (by grind[Value.ownBlock]))⟩,λb hb=>.inl hb⟩
     . grind
     grind
   . have holds:=ib.cells (g:=g) rfl
     have hold:∀w':World,w'.heap=w.heap->(Builtin.firstCells size n (.slice (some ⟨g,0,none⟩) n cap)).run P w'= .ok xs.toArray w':=λw' Wv=>by
      grind[run_loadCells_list,Cv,Builtin.firstCells]
     have hr:=oI (ty:=ty) hE hold hlen jI w! Wu AK;have hgr:=grown cap (Value.ownBlock (.slice (some ⟨g,0,none⟩) n cap));grind[ag,Option.some.injEq]
theorem aq.newRow(hB:aq C A β st a w){dst:Option Nat}(hd:∀t,dst=some t->t<st.n){d e:Nat}{row:List Ty}{l:List (Row row)}{cond:List Prop}{del:List Nat}{v':Value}{w':World}{rw :Option Nat}{xs:List Value}
  (fK:st.h d=none/\pR d=false) (hg:w.grownBy w' rw) (k8:∀b,rw=some b->∃k,au del k=true/\(st.h k).isSome/\ag (β k)=some b) (kD:∀b,rw=some b->¬A b)
  (ib:w'.ownsRow 0 e row.length v' l.length xs) (qK:dc (br w A row) xs l) (hblk:∀b,ag v'=some b->rw=some b\/w.heap.size<=b):
  aq C A (bg β d v') (st.put dst {cond:=cond,res:=.own d,del:=del,new:=[(d,.row e row l false)]}) (a.put dst v') w':=by
 have hK:b7 w w' A A:=λb hb=>⟨hb,hg.block b (hB.bound b hb) (λh=>kD b h.symm hb)⟩
 have hf:∀k b,ah [(d,AB.row e row l false)] k=some b->k=d/\b= .row e row l false:=by
  grind[ah,aG]
 refine hB.step (out:={cond:=cond,res:=.own d,del:=del,new:=[(d,.row e row l false)]}) hd ?_ (by simp [ah]) ?_ hK hg.os hg.tape hg.output hg.size ?_ (λb hb=>N? (hB.bound b hb) hg.size) (λb hb=>.inl hb) (by simp [ah]) ?_ ?_ ?_ ?_
 . grind
 . intro k h;have :k≠d:=by rintro rfl;simp [ah] at h
   grind[bg]
 . intro b hb ht;refine hg.block b hb (λh=>?_);obtain⟨k,h1,h2,h3⟩:=k8 b h.symm;exact ht k ⟨h2,.inr h1⟩ h3
 . intro k ab h;obtain⟨rfl,rfl⟩:=hf k ab h;refine⟨xs,by simpa [bg] using ib,bm (λc x hx=>bw hK row c x hx) l xs qK,λb hb=>?_⟩;simp [bg,R?] at hb;rcases hblk b hb with h|h
   . exact kD b h
   . intro hA;exact absurd (hB.bound b hA) w!
 . intro k b ab h hb;obtain⟨rfl,_⟩:=hf k ab h;simp [bg,R?] at hb;rcases hblk b hb with h|h
   . exact .inr (let⟨k,h1,h2,h3⟩:=k8 b h;⟨k,h1,h2,h3⟩)
   . exact .inl h
 . intro k k' b h h' _ _;obtain⟨x,hx⟩:=P!.1 h;obtain⟨y,hy⟩:=P!.1 h';rw [(hf k x hx).1,(hf k' y hy).1]
 . simp [aa,bg,R?,true_and]
   obtain⟨ad,l',c,rfl⟩:∃ad l c,v'= .slice ad l c:=by
    rcases ib.2 with⟨rfl,_⟩|⟨g,cap,cur,rfl,_⟩
    . exact⟨_,_,_,rfl⟩
    . exact⟨_,_,_,rfl⟩
   rfl
end
end Go.Vg

end
section
namespace Go.Vg
open Go
variable [HP]
section
variable {P:Program} {C:Ctx} {A:Nat->Prop} {β:Nat->Value} {st:St} {a:Act} {w:World} {T:bY}
def sk(hT:bx T P){t e:TypeId}{te:TE}(h1:nJ T t=some e)(h2:lJ T t=some te):P.underlying t=some (.slice e)/\T.find e=some te/\∃i,P.info? e=some i/\i.size=te.size/\i.bytes=te.bytes/\i.zero=some te.zero:=by
 unfold nJ at h1;unfold lJ at h2;cases ht:T.find t with
 |none=>grind
 |some tt=>
  simp [ht] at h1 h2;cases hd:tt.desc with
  |slice e'=>
   simp [hd,Option.some.injEq] at h1 h2;subst h1;exact⟨by grind[lW],h2,(hT.ok _ _ h2).2⟩
  |_=>grind
theorem oJ(z:Value):(ofConst z).cells.length=z.cells.size:=by
 unfold ofConst;split
 . simp [AV.cells,Value.cells]
 . rename_i h
   have h1:(AH z).cells.length=1:=by
    unfold AH;split
    . split<;>rfl
    . split<;>rfl
    . rename_i s;cases Nat.ble s.data.toList.length 1000000<;>rfl
    all_goals rfl
   rw [h1];cases z<;>first|rfl|grind
theorem sm {n k x:Nat}(h:n<=x/k):n*k<=x:=h? (I? _ h) (Nat.div_mul_le_self x k)
def nT(hT:bx T P){t:TypeId}{f:TypeDesc->Bool}(h:cE T t f=true):∃d,P.underlying t=some d/\f d=true:=by
 grind[cE,lW]
theorem Ka {d:TypeDesc}(h:AI d=true):d= .string\/∃e,d= .slice e:=by
 cases d<;>simp_all [AI]
def Kb(hB:aq C A β st a w){k e:Nat}{row:List Ty}{l:List (Row row)}(h:st.h k=some (.row e row l false)):
  ∃xs,w.ownsRow 0 e row.length (β k) l.length xs/\dc (br w A row) xs l/\∀b,ag (β k)=some b->¬A b:=by
 obtain⟨xs,h1,h2,h3⟩:=hB.blocks k _ h;grind
theorem wU {v:Value}(h:(∃ad l c,v= .slice ad l c)):v.ownBlock=ag v:=by
 obtain⟨ad,l,c,rfl⟩:=h;cases ad<;>rfl
theorem iA {w:World}{e size n:Nat}{v:Value}{xs:List Value}(h:w.ownsRow 0 e size v n xs):∃ad l c,v= .slice ad l c:=by
 rcases h.2 with⟨rfl,_⟩|⟨g,cap,cur,rfl,_⟩
 . grind
 grind
def NK(hT:bx T P)(hB:aq C A β st a w){dst:Option Nat}(hd:∀t,dst=some t->t<st.n){d:Nat}(fK:st.h d=none/\pR d=false){t t' ty:TypeId}{s x:AV}{vs vx:Value}(hs:aa w A β vs s)(hx:aa w A β vx x){out:Out}
  (h:pQ T st.h d t t' s x=some out) (hc:∀p∈out.cond,p):∃v' w',(Builtin.append_ #[t,t'] ty #[vs,vx]).run P w= .ok v' w'/\Rel C (st.put dst out) (a.put dst v') w':=by
 unfold pQ at h;split at h
 . rename_i e te he iz;split at h
   . rename_i row k8;obtain⟨hu,yU,i,hi,oK,Kc,Ga⟩:=sk hT he iz;cases hq:(Nat.beq row.length te.size&&Nat.blt 0 te.size&&Nat.beq (ofConst te.zero).cells.length te.size&&cE T t' AI) with
     |false=>grind
     |true=>
      simp only [hq,cond_true] at h;simp only [Bool.and_eq_true] at hq;obtain⟨⟨⟨q1,q2⟩,q3⟩,q4⟩:=hq;have q1:=Nat.eq_of_beq_eq_true q1;have q2:=Nat.le_of_ble_eq_true q2;have q3:=Nat.eq_of_beq_eq_true q3;obtain⟨d',lX,qL⟩:=nT hT q4;have hE:Tz P t t' e row.length te.bytes te.zero:=⟨hu,⟨d',lX,Ka qL⟩,⟨i,hi,w!,Kc,Ga⟩,by grind[oJ],w!⟩;split at h
      . rename_i m hm;obtain⟨cs,gI⟩:=Jk (P:=P) hB hx hm;have hlen:=fx m cs gI.rd;have jF:=yT m cs gI.rd
        have jI:∀w':World,w'.heap=w.heap->(Builtin.firstCells row.length m.length vx).run P w'= .ok cs.toArray w':=λw' Wv=>by
         have:=gI.first w' Wv m.length (Nat.le_refl _);grind
        split at h
        . 
         simp only [Option.some.injEq] at h;subst h;have nU:=dW hc;simp only [aa] at hs;subst hs;have ib:=World.ownsRow_nil w 0 e row.length;obtain⟨v',w',g1,g2,g3,g4⟩:=mC (ty:=ty) hE ib gI.len jI hlen jF (by have:=Nat.le_trans nU (Nat.div_le_self _ _);grind[maxLen]) (by simp_all[sm]);refine⟨v',w',g1,Rel.iV (hB.newRow hd fK (rw:=none) (by grind[Value.ownBlock]) z! z! x! gI.rd (λb hb=>?_))⟩;grind[ag]
        . rename_i k;split at h
          . rename_i e' lV l hk;cases uH:Nat.beq e' e with
            |false=>grind
            |true=>
             have uH:=C! uH;subst uH;simp only [ct,I!] at h;split at h
             . rename_i l' jU;simp only [Option.some.injEq] at h;subst h;have nU:=dW hc;obtain⟨er,jU⟩:=im jU;subst er;simp only at jU;subst jU;simp only [aa] at hs;obtain⟨rfl,_⟩:=hs;obtain⟨xs,o1,o2,o3⟩:=Kb hB hk;obtain⟨v',w',g1,g2,g3,g4⟩:=mC (ty:=ty) hE o1 gI.len jI hlen jF (by have:=Nat.le_trans nU (Nat.div_le_self _ _);unfold maxLen;omega) (sm nU);rw [wU (iA o1)] at g3;refine⟨v',w',g1,Rel.iV (hB.newRow hd fK (rw:=ag (β k)) g3 (λb hb=>⟨k,by simp [au],by simp [hk],hb⟩) o3 (by simpa using g2) (jh l m xs cs o2 gI.rd) (λb hb=>g4 b hb))⟩
             grind
          grind
        . rename_i k n;split at h
          . rename_i e' lV l hk;cases uH:Nat.beq e' e with
            |false=>simp [uH] at h
            |true=>
             have uH:=C! uH;subst uH;simp only [ct,I!] at h;split at h
             . rename_i l' jU;simp only [A!] at h;subst h;have nU:=dW hc;obtain⟨er,jU⟩:=im jU;subst er;simp only at jU;subst jU;obtain⟨xs,o1,o2,o3⟩:=Kb hB hk;have Cy:=eW l xs n o2;simp only [aa] at hs
               have ib:w.ownsRow 0 e' lV.length vs n (xs.take (n*lV.length))/\n<=l.length/\ag vs=ag (β k):=by
                rcases hs with⟨h1,h2,h3⟩|⟨b,mm,cap,h1,h2,h3⟩
                . subst h3;subst h2;rw [h1];exact⟨by simpa using World.ownsRow_nil w 0 e' lV.length,w!,rfl⟩
                . rcases o1.2 with⟨g1,_⟩|⟨g,jg,cur,g1,g2,g3,g4,g5,g6,g7⟩
                  . rw [h1] at g1;cases g1
                  . rw [h1] at g1;simp only [Value.slice.injEq,A!,Addr.mk.injEq,t?] at g1;obtain⟨rfl,rfl,rfl⟩:=g1;refine⟨⟨?_,.inr ⟨b,cap,cur,h2,w!,g3,w!,g5,g6,?_⟩⟩,h3,by rw [h1,h2];rfl⟩
                    . rw [T?,o1.1];exact Nat.min_eq_left (I? _ h3)
                    . rw [<-g7,List.take_take,Nat.min_eq_left (I? _ h3)]
               obtain⟨ib,hnl,hbv⟩:=ib;obtain⟨v',w',g1,g2,g3,g4⟩:=mC (ty:=ty) hE ib gI.len jI hlen jF (by have:=Nat.le_trans nU (Nat.div_le_self _ _);unfold maxLen;omega) (sm nU);rw [wU (iA ib),hbv] at g3;refine⟨v',w',g1,Rel.iV (hB.newRow hd fK (rw:=ag (β k)) g3 (λb hb=>⟨k,by simp [au],by simp [hk],hb⟩) o3 ?_ (jh _ m _ cs Cy.1 gI.rd) (λb hb=>by rw [<-hbv];exact g4 b hb))⟩;have :(l.take n++m).length=n+m.length:=by simp;omega
               rw [this];exact g2
             . cases h
          . cases h
        . rename_i r l;split at h
          . rename_i l' jU;simp only [A!] at h;subst h;have hc0:=dW hc;have nU:=asz hc;obtain⟨er,jU⟩:=im jU;subst er;simp only at jU;subst jU;simp only [aa] at hs;obtain⟨qK,ad,rfl⟩:=hs;obtain⟨Cz,Ww⟩:=QL (P:=P) qK;have Wx:=fx l Cz Ww.rd
            have hold:∀w':World,w'.heap=w.heap->(Builtin.firstCells r.length l.length (.slice ad l.length l.length)).run P w'= .ok Cz.toArray w':=λw' Wv=>by
             have:=Ww.first w' Wv l.length (S! _);rwa [<-Wx,List.take_length] at this
            have Wu:l.length+m.length<=maxLen:=by have:=Nat.le_trans nU (Nat.div_le_self _ _);unfold maxLen;omega
            have hr:=oI (ty:=ty) hE hold gI.len jI w! Wu (sm nU);refine⟨_,_,hr,Rel.iV (hB.newRow hd fK (rw:=none) (xs:=Cz++cs) ⟨rfl,rfl,rfl,z!,λk hk _=>heap_alloc_old w.drew _ k hk⟩ z! z! ?_ (jh l m Cz cs Ww.rd gI.rd) (λb hb=>.inr (by simp only [ag,A!] at hb;omega)))⟩;have NJ:=grownCap_ge w (l.length+m.length) l.length e;have Cx:=grownCap_le_maxLen w (l.length+m.length) l.length e Wu;have hll:(Cz++cs).length=(l.length+m.length)*r.length:=by rw [K!,Wx,hlen,y?]
            rw [K!];refine⟨hll,.inr ⟨w.heap.size,_,_,rfl,w!,heap_alloc_new w.drew _,NJ,Cx,?_,?_⟩⟩
            . simp only [Array.size_append,List.size_toArray,size_zeroCells,hE.aeV,Wx,hlen,<-y?];congr 1
              omega
            . simp only [Array.toList_append];rw [<-Y!,<-hll];exact List.take_left
          . cases h
        grind
      grind
   grind
 grind
end
end Go.Vg

end
section
namespace Go.Vg
open Go
variable [HP]
section
variable {P:Program} {C:Ctx} {A:Nat->Prop} {β:Nat->Value} {st:St} {a:Act} {w:World} {T:bY}
def one_cell {v:Value}:∀(x:AV),x.one=true->aa w A β v x->v.oneCell'=true
 |.cr,h,_|.undef,h,_|.agg _,h,_|.bn _,h,_=>by grind[AV.one]
 |.int _ _,_,h=>by rw [h.1];rfl
 |.bool _,_,h|.tt,_,h|.ff,_,h=>by rw [h];rfl
 |.str _,_,h=>by rw [h.1];rfl
 |.nil,_,h|.jQ,_,h=>by rw [h];rfl
 |.oC _ _,_,h=>by obtain⟨b,h,_⟩:=h;rw [h];rfl
 |.k7,_,h=>by rw [h];rfl
 |.sl _ _,_,h|.full _ _,_,h=>by grind[aa,QK]
 |.cN _ _ _,_,h|.pB _ _,_,h=>by obtain⟨b,o,cs,h,_⟩:=h;rw [h];rfl
 |.own _,_,h=>by grind[aa]
 |.pre _ _,_,h=>by
   rcases h with⟨_,h,_⟩|⟨b,m,cap,_,h,_⟩<;>rw [h]<;>rfl
 |.view _ _ _ _,_,h=>by
   rcases h with⟨_,ad,c,h,_⟩|⟨b,m,cap,jg,_,h,_⟩<;>rw [h]<;>rfl
 |.ref _ _,_,h=>by obtain⟨b,_,h⟩:=h;rw [h];rfl
 |.elem _ _ _ _,_,h=>by obtain⟨b,m,cap,_,h⟩:=h;rw [h];rfl
 |.fn _ _ _,_,h=>by obtain⟨_,_,h,_⟩:=h;rw [h];rfl
 |.gp _ _,_,h=>by obtain⟨_,_,_,h,_⟩:=h;rw [h];rfl
theorem cells_one {v:Value}(h:v.oneCell'=true):v.cells= #[v]:=by
 cases v<;>simp_all [Value.oneCell',Value.cells]
theorem Kd:∀(xs:List AV) (vs:List Value),xs.all AV.one=true->ae w A β vs xs->∀v∈vs,v.oneCell'=true
 |[],vs,_,h=>by grind[ae]
 |x::xs,vs,ho,h=>by
  obtain⟨v,bS,rfl,h1,h2⟩:=h;simp only [List.all_cons,B!] at ho;intro u hu;rcases N!.1 hu with rfl|hu
  . exact one_cell x ho.1 h1
  . exact Kd xs bS ho.2 h2 u hu
def wV {x:AV}{v:Value}(ho:x.cells.all AV.one=true)(h:aa w A β v x):ae w A β v.cells.toList x.cells/\(∀u∈v.cells.toList,u.oneCell'=true)/\v.cells.size=x.cells.length:=by
 by_cases hx:∃cs,x= .agg cs
 . obtain⟨cs,rfl⟩:=hx;obtain⟨arr,rfl,h⟩:=h;have:=cT cs _ h;grind[Kd,Value.cells,AV.cells]
 . have hc:x.cells=[x]:=by cases x<;>first|rfl|grind
   rw [hc] at ho |-;have ho':x.one=true:=by grind
   have h1:=one_cell x ho' h;rw [cells_one h1];refine⟨by grind[ae],x!,rfl⟩
def eI:∀(xs ys:List AV) (us vs:List Value),ae w A β us xs->ae w A β vs ys->ae w A β (us++vs) (xs++ys)
 |[],ys,us,vs,h,h'=>by grind[ae]
 |x::xs,ys,us,vs,h,h'=>by
  obtain⟨v,FZ,rfl,h1,h2⟩:=h;exact⟨v,FZ++vs,rfl,h1,eI xs ys FZ vs h2 h'⟩
def yV {cs vs:List AV}{arr us:List Value}{off:Nat}(h:ae w A β arr cs)(hv:ae w A β us vs):ae w A β (arr.take off++us++arr.drop (off+us.length)) (Ji cs off vs):=by
 have hl:=cT vs us hv;rw [hl];exact eI _ _ _ _ (eI _ _ _ _ (lv cs arr off h).1 hv) (lv cs arr _ h).2
def nV(hT:bx T P){t n:Nat}(h:gT T t n=true):∃i,P.info? t=some i/\i.size=n:=by
 unfold gT at h;cases ht:T.find t with
 |none=>grind
 |some te=>
  obtain⟨_,i,hi,hs,_⟩:=hT.ok t te ht;simp_all
def kF {t:TypeId}{i:TypeInfo}(hi:P.info? t=some i){v:Value}(hs:v.cells.size=i.size)(h1:∀u∈v.cells.toList,u.oneCell'=true){b off:Nat}{arr:Array Value}{e:TypeId}(hg:w.heap[b]? =some (.cells arr e (0,0)))
  (HG:off+v.cells.size<=arr.size):(Instr.storeAt t (.pointer (some ⟨b,off,none⟩)) v).run P w= .ok () (w.setRow b (arr.toList.take off++v.cells.toList++arr.toList.drop (off+v.cells.toList.length)).toArray):=by
 have:=run_storeCells_at P b off e v.cells.toList 0 arr w hg w! h1;simp_all[Nat.add_zero,Instr.storeAt,Instr.sureAddr,storeVar,sizeOf,typeInfo,hi]
def uI(b:Nat)(cs:Array Value):(w.setRow b cs).os=w.os/\(w.setRow b cs).tape=w.tape/\(w.setRow b cs).output=w.output/\(w.setRow b cs).heap.size=w.heap.size:=⟨rfl,rfl,rfl,z!⟩
theorem aq.write(hB:aq C A β st a w){dst:Option Nat}(hd:∀t,dst=some t->t<st.n){out:Out}{k b:Nat}{ab:AB}{fz:List Nat}{new:Array Value}{e:Nat}{gH:Array Value}{v:Value}
  (eV:(st.h k).isSome) (hb:ag (β k)=some b) (kD:¬A b) (hg:w.heap[b]? =some (.cells gH e (0,0)))
  (tN:out.new=[]/\out.del=[]/\out.fE=(k,ab)::cx st.h fz) (Br:∀j∈fz,j≠k/\∃e row l fr,st.h j=some (.row e row l fr))
  (ku:∀A',(∀b',A b'->A' b')->(∀b',A' b'->A b'\/∃j∈fz,ag (β j)=some b')->(∀j∈fz,∀b',ag (β j)=some b'->A' b')->BR (w.setRow b new) A' β k ab)
  (vJ:aa (w.setRow b new) A β v out.res) (azZ:out.raw=[]:=by rfl):Rel C (st.put dst out) (a.put dst v) (w.setRow b new):=by
 obtain⟨o1,o2,o3⟩:=tN;let A':Nat->Prop:=λb'=>A b'\/∃j∈fz,ag (β j)=some b'
 have iU:∀j b',(st.h j).isSome->ag (β j)=some b'->b'<w.heap.size:=by
  intro j b' hj ek;obtain⟨ab,ku⟩:=P!.1 hj;have eu:=hB.blocks j ab ku;cases ab with
  |mp b2 es ck=>
   obtain⟨h1,h2,_⟩:=eu;grind[ag,Option.some.injEq,Array.getElem?_eq_some_iff]
  |arr _ _|fvar _ _=>
   obtain⟨b'',arr,e,h1,h2,_⟩:=eu;rw [h1] at ek;simp only [ag,A!] at ek;subst ek;exact(O!.1 h2).1
  |cells cs=>
   obtain⟨b'',arr,e,h1,h2,_⟩:=eu;grind[ag,Option.some.injEq,Array.getElem?_eq_some_iff]
  |row e row l fr=>
   obtain⟨xs,h1,_⟩:=eu;rcases h1.2 with⟨hn,_⟩|⟨g,cap,cur,hv,_,hg,_⟩
   . rw [hn] at ek;simp [ag] at ek
   grind[ag,Option.some.injEq,Array.getElem?_eq_some_iff]
  |gG e j row l i=>
   obtain⟨xs,v0,h1,_⟩:=eu;rcases h1.2 with⟨hn,_⟩|⟨g,cap,cur,hv,_,hg,_⟩
   . grind[ag]
   grind[ag,Option.some.injEq,Array.getElem?_eq_some_iff]
  |views _ _ _ _ _|eE _ _ _|aX _ _ _ _|dM _ _ _ _=>
   obtain⟨xs,h1,_⟩:=eu;rcases h1.2 with⟨hn,_⟩|⟨g,cap,cur,hv,_,hg,_⟩
   . grind[ag]
   grind[ag,Option.some.injEq,Array.getElem?_eq_some_iff]
 have jJ:∀b',b'≠b->(w.setRow b new).heap[b']? =w.heap[b']? :=λb' h=>setRow_other w b b' new (λh'=>h h');have hK0:b7 w (w.setRow b new) A A:=λb' h=>⟨h,jJ b' (λh'=>kD (h'▸h))⟩;have hK:b7 w (w.setRow b new) A A':=λb' h=>⟨.inl h,jJ b' (λh'=>kD (h'▸h))⟩;have NL:b7 (w.setRow b new) (w.setRow b new) A A':=λb' h=>⟨.inl h,rfl⟩
 have Wy:∀(fz:List Nat) j x,ah (cx st.h fz) j=some x->j∈fz/\∃e row l fr,st.h j=some (.row e row l fr)/\x= .row e row l true:=by
  intro fz;induction fz with
  |nil=>grind[cx,ah]
  |cons i fz ih=>
   intro j x h;simp only [cx] at h;split at h
   . rename_i e row l fr hi;simp only [ah] at h;by_cases TC:j=i
     . grind
     simp_all[aG,L!]
   grind
 have az0:∀(fz:List Nat) j,j∈fz->(∃e row l fr,st.h j=some (.row e row l fr))->(ah (cx st.h fz) j).isSome:=by
  intro fz;induction fz with
  |nil=>grind
  |cons i fz ih=>
   intro j h hr;simp only [cx];by_cases TC:j=i
   . subst TC;obtain⟨e,row,l,fr,hr⟩:=hr;simp [hr,ah]
   . have:=ih j ((N!.1 h).resolve_left TC) hr;split
     . simp only [ah,aG TC,L!];exact this
     . exact this
 have J1:∀j x,ah out.fE j=some x->(j=k/\x=ab)\/(j≠k/\j∈fz/\∃e row l fr,st.h j=some (.row e row l fr)/\x= .row e row l true):=by
  intro j x h;rw [o3] at h;simp only [ah] at h;by_cases CA:j=k
  . subst CA;simp only [ct,I!,A!] at h;exact .inl ⟨rfl,h.symm⟩
  . simp only [aG CA,L!] at h;obtain⟨h1,h2⟩:=Wy fz j x h;exact .inr ⟨CA,h1,h2⟩
 have yR:nq st out k:=⟨eV,.inl (by rw [o3];simp [ah])⟩;refine⟨A',β,hB.step hd (by rw [o1];simp [ah]) ?_ (λ_ _=>rfl) hK rfl rfl rfl z! ?_ ?_ ?_ ?_ (by rw [o1];simp [ah]) (by rw [o1];simp [ah]) (by rw [o1];simp [ah]) (hY NL _ _ vJ) azZ⟩
 . intro j x h;rcases J1 j x h with⟨rfl,_⟩|⟨_,_,e,row,l,fr,h,_⟩
   . exact eV
   . simp [h]
 . intro b' _ ht;exact jJ b' (λh=>ht k yR (h▸hb))
 . intro b' h;rw [(uI b new).2.2.2];rcases h with h|⟨j,hj,Wz⟩
   . exact hB.bound b' h
   . obtain⟨_,e,row,l,fr,hr⟩:=Br j hj;exact iU j b' (by simp [hr]) Wz
 . intro b' h;rcases h with h|⟨j,hj,Wz⟩
   . exact .inl h
   . obtain⟨CA,hr⟩:=Br j hj;refine .inr (.inr ⟨j,⟨by obtain⟨e,row,l,fr,hr⟩:=hr;simp [hr],.inl ?_⟩,Wz⟩);rw [o3];simp only [ah,aG CA,L!];exact az0 fz j hj hr
 . intro j x h _;rw [o1];simp only [bG];rcases J1 j x h with⟨rfl,rfl⟩|⟨CA,hj,e',row,l,fr,hr,rfl⟩
   . exact ku A' (λ_ h=>.inl h) (λ_ h=>h) (λj hj b' h=>.inr ⟨j,hj,h⟩)
   . obtain⟨xs,h1,h2,h3⟩:=hB.blocks j _ hr;have yW:∀b',ag (β j)=some b'->b'≠b:=λb' h h'=>CA (hB.apart j k b (by simp [hr]) eV (h'▸h) hb);refine⟨xs,cI h1 (λb' h=>jJ b' (yW b' h)),bm (λc x hx=>bw hK row c x hx) l xs h2,λb' h=>?_⟩;simp only [R?];exact .inr ⟨j,hj,h⟩
def vL(hT:bx T P)(hB:aq C A β st a w){dst:Option Nat}(hd:∀t,dst=some t->t<st.n){t:TypeId}{k off:Nat}{x:AV}{vp vx:Value}(hp:aa w A β vp (.ref k off))(hx:aa w A β vx x){out:Out}
  (h:gq T st.h t (.ref k off) x=some out):∃w',(Instr.storeAt t vp vx).run P w= .ok () w'/\Rel C (st.put dst out) (a.put dst undef) w':=by
 simp [gq] at h;split at h
 . rename_i cs hk;cases hq:(x.cells.all AV.one&&gT T t x.cells.length&&Nat.ble (off+x.cells.length) cs.length) with
   |false=>grind
   |true=>
    simp [hq,I!,A!] at h;subst h;simp only [B!] at hq;obtain⟨⟨q1,q2⟩,q3⟩:=hq;have q3:=M! q3;obtain⟨i,hi,cZ⟩:=nV hT q2;obtain⟨c1,c2,c3⟩:=wV q1 hx;obtain⟨b,bt,rfl⟩:=hp;obtain⟨b',arr,e,h1,h2,h3,h4,h5⟩:=hB.blocks k _ hk;rw [bt] at h1;simp at h1;subst h1;have hlen:=cT cs _ h4;have hb:ag (β k)=some b:=by rw [bt];rfl
    refine⟨_,kF hi w! c2 h2 x!,?_⟩;refine hB.write hd (k:=k) (fz:=[]) (ab:=.cells (Ji cs off x.cells)) x! hb h3 h2 ⟨rfl,rfl,rfl⟩ z! ?_ (by rfl);intro A' hA1 WA hA3;have hK:b7 w (w.setRow b (arr.toList.take off++vx.cells.toList++arr.toList.drop (off+vx.cells.toList.length)).toArray) A A':=λb' h=>⟨hA1 b' h,setRow_other w b b' _ (λh'=>h3 (h'▸h))⟩;refine⟨b,_,e,bt,setRow_heap w b arr _ e _ h2,λh=>?_,cu hK _ _ (yV h4 c1),?_⟩
    . grind
    grind
 grind
end
end Go.Vg

end
section
namespace Go.Vg
open Go
variable [HP]
section
variable {P:Program} {C:Ctx} {A A':Nat->Prop} {β:Nat->Value} {st:St} {a:Act} {w:World} {T:bY}
theorem Ou {k:IntKind}{n:Int}(h:lo k<=n/\n<=hi k):DI.toInt k (DI.ofInt k n)=n:=by
 cases k<;>try rfl
 grind[lo,hi,DI.toInt,DI.ofInt,UInt8.toNat_ofNat']
theorem Ke:∀(t:Ty) (x:AV) (v:Value) (d:D t),aa w A β v x->Tk t x=some d->Rd w A t v d:=by
 intro t x v d h hd;unfold Tk at hd;split at hd
 . grind[Option.some.injEq,aa,Rd,Ou]
 . grind[Option.some.injEq,Rd,aa]
 . grind[Option.some.injEq,Rd,aa]
 . grind[Option.some.injEq,Rd,aa]
 . grind[Option.some.injEq,Rd,aa]
 . grind[im,aa]
 . grind[im,aa]
 . simp at hd;subst hd;simp [aa] at h;exact⟨none,0,[],w!,z!,z!,by rfl,z!⟩
 grind
theorem uJ {t:Ty}:∀(ts:List Ty) (x:D t) (y:Row ts),Row.hd (Row.mk x y:Row (t::ts))=x
 |[],_,_|_::_,_,_=>rfl
theorem yX {t:Ty}:∀(ts:List Ty) (x:D t) (y:Row ts),Row.tl (Row.mk x y:Row (t::ts))=y
 |[],_,_|_::_,_,_=>rfl
theorem lY:∀(ts:List Ty) (xs:List AV) (vs:List Value) (r:Row ts),ae w A β vs xs->jR ts xs=some r->br w A ts vs r
 |[],[],vs,r,h,_=>by grind[ae,br]
 |t::ts,x::xs,vs,r,h,hr=>by
  obtain⟨v,bS,rfl,h1,h2⟩:=h;simp [jR] at hr;split at hr
  . rename_i d y hd hy;simp at hr;subst hr;exact⟨v,bS,rfl,by rw [uJ];exact Ke t x v d h1 hd,by rw [yX];exact lY ts xs bS y h2 hy⟩
  . cases hr
 |[],_::_,_,_,_,hr|_::_,[],_,_,_,hr=>by grind[jR]
def HH:∀(ts:List Ty) (r:Row ts) (j:Nat) (x:AV) (cs:List Value) (v:Value) (r':Row ts),br w A ts cs r->aa w A β v x->setRow ts r j x=some r'->br w A ts (cs.set j v) r'/\j<cs.length
 |[],_,_,_,_,_,_,_,_,hr=>by grind[setRow]
 |t::ts,r,0,x,cs,v,r',h,hx,hr=>by
  simp [br] at h;simp [setRow] at hr;split at hr
  . simp [br,List.set_cons_zero];grind[uJ,Ke,yX]
  grind
 |t::ts,r,j+1,x,cs,v,r',h,hx,hr=>by
  obtain⟨u,fi,rfl,h1,h2⟩:=h;simp [setRow] at hr;split at hr
  . rename_i y hy;simp at hr;subst hr;obtain⟨g1,g2⟩:=HH ts _ j x fi v y h2 hx hy;exact⟨⟨u,_,rfl,by rw [uJ];exact h1,by rw [yX];exact g1⟩,by simp [g2]⟩
  . cases hr
def TD(cs:List Value)(j:Nat)(v:Value)(us:List Value)(h:j<cs.length):(cs.set j v).take (j+1)++us++(cs.set j v).drop (j+1+us.length)=cs.take j++(v::us)++cs.drop (j+(v::us).length):=by
 grind[List.take_succ_eq_append_getElem,List.take_set_of_le,List.drop_set_of_lt]
theorem wW(ts:List Ty):∀(xs:List AV) (r:Row ts) (j:Nat) (cs us:List Value) (r':Row ts),br w A ts cs r->ae w A β us xs->nm ts r j xs=some r'->br w A ts (cs.take j++us++cs.drop (j+us.length)) r'/\(us≠ []->j+us.length<=cs.length)
 |[],r,j,cs,us,r',h,hx,hr=>by
   simp_all[ae,nm,A!]
 |x::xs,r,j,cs,us,r',h,hx,hr=>by
  obtain⟨v,FZ,rfl,h1,h2⟩:=hx;simp [nm] at hr;split at hr
  . rename_i y hy;obtain⟨g1,g2⟩:=HH ts r j x cs v y h h1 hy;obtain⟨f1,f2⟩:=wW ts xs y (j+1) (cs.set j v) FZ r' g1 h2 hr;rw [TD cs j v FZ g2] at f1;refine⟨f1,λ_=>?_⟩;by_cases hu:FZ=[]
    . subst hu;simp;omega
    . have:=f2 hu;simp at this |-;omega
  . cases hr
theorem sa(hB:aq C A β st a w){x:AV}{v:Value}(h:aa w A β v x)(hA:∀b,A b->A' b)(nr:∀k∈(hX st.h x).2,∀b,ag (β k)=some b->A' b):
  aa w A' β v (hX st.h x).1/\∀k∈(hX st.h x).2,∃e row l fr,st.h k=some (.row e row l fr):=by
 have hK:b7 w w A A':=λb hb=>⟨hA b hb,rfl⟩;unfold hX at nr |-;split at nr
 . rename_i k;simp only [aa] at h;split at nr
   . rename_i e row l fr hk;refine⟨?_,λj hj=>by grind⟩;simp only [aa,Rd];rcases nS hB hk with⟨g1,g2⟩|⟨b,cap,cs,g1,g2,g3,g4,g5⟩
     . subst g2;rw [h.1,g1];exact⟨none,0,[],rfl,z!,z!,by rfl,z!⟩
     . rw [h.1,g1];exact⟨_,cap,cs,rfl,g2,g3,bm (λc x hx=>bw hK row c x hx) l cs g4,λ_=>⟨b,0,rfl,nr k z! b (by rw [g1];rfl),g5⟩⟩
   grind[aa]
 . rename_i k n;simp only [aa] at h;split at nr
   . rename_i e row l fr hk;refine⟨?_,λj hj=>by grind⟩;simp only [aa,Rd];rcases h with⟨h1,h2,h3⟩|⟨b',m,jg,h1,h2,h3⟩
     . subst h3;rw [h2];exact⟨none,0,[],z!,z!,z!,by rfl,z!⟩
     . rcases nS hB hk with⟨g1,g2⟩|⟨b,cap,cs,g1,g2,g3,g4,g5⟩
       . grind
       . rw [g1] at h1;simp at h1;have hl:(l.take n).length=n:=by grind
         refine⟨_,cap,cs.take (n*row.length),x!,w!,g3,bm (λc x hx=>bw hK row c x hx) _ _ (eW l cs n g4).1,λ_=>⟨b,0,rfl,nr k z! b (by rw [g1];rfl),jt g5⟩⟩
   grind[aa]
 . rename_i k sz off n;simp only [aa] at h;split at nr
   . rename_i e row l fr hk;cases cZ:Nat.beq sz row.length with
     |false=>grind[aa]
     |true=>
      simp only [cZ,cond_true] at nr |-;have cZ:=Nat.eq_of_beq_eq_true cZ;subst cZ;refine⟨?_,λj hj=>by grind⟩;rcases h with⟨hn,ad,cap,h2,Cx⟩|⟨b',m,jg,Cw,h1,h2,h3,h4,h5⟩
      . subst hn;rw [h2];exact⟨ad,cap,[],z!,z!,Cx,by rfl,z!⟩
      . rcases nS hB hk with⟨g1,g2⟩|⟨b,cap,cs,g1,g2,g3,g4,g5⟩
        . grind
        . rw [g1] at h1;simp at h1;obtain⟨rfl,rfl,rfl⟩:=h1;have hl:((l.drop off).take n).length=n:=by grind
          refine⟨_,Cw,(cs.drop (off*row.length)).take (n*row.length),by rw [h2,hl],w!,w!,bm (λc x hx=>bw hK row c x hx) _ _ (eW _ _ n (eW l cs off g4).2).1,λ_=>⟨b,_,rfl,nr k z! b (by rw [g1];rfl),?_⟩⟩;have:=jt (n:=n*row.length) (qu (n:=off*row.length) g5);grind
   grind[aa]
 grind[hY]
end
end Go.Vg

end
section
namespace Go.Vg
open Go
variable [HP]
section
variable {P:Program} {C:Ctx} {A A':Nat->Prop} {β:Nat->Value} {st:St} {a:Act} {w:World} {T:bY}
theorem Ov(hB:aq C A β st a w)(hA:∀b,A b->A' b):∀(xs:List AV) (vs:List Value),ae w A β vs xs->(∀k∈(oD st.h xs).2,∀b,ag (β k)=some b->A' b)->
  ae w A' β vs (oD st.h xs).1/\∀k∈(oD st.h xs).2,∃e row l fr,st.h k=some (.row e row l fr)
 |[],vs,h,_=>by grind[ae,oD]
 |x::xs,vs,h,nr=>by
  obtain⟨v,bS,rfl,h1,h2⟩:=h;simp only [oD] at nr |-;obtain⟨p1,p2⟩:=sa hB h1 hA (λk hk=>nr k (by simp [hk]));obtain⟨q1,q2⟩:=Ov hB hA xs bS h2 (λk hk=>nr k (by simp [hk]));refine⟨by exact⟨v,bS,rfl,p1,q1⟩,λk hk=>?_⟩;rcases G!.1 hk with hk|hk
  . exact p2 k hk
  . exact q2 k hk
def yY(hB:aq C A β st a w)(hA:∀b,A b->A' b)(x:AV)(v:Value)(h:aa w A β v x)(nr:∀k∈(pv st.h x).2,∀b,ag (β k)=some b->A' b):
  aa w A' β v (pv st.h x).1/\∀k∈(pv st.h x).2,∃e row l fr,st.h k=some (.row e row l fr):=by
 unfold pv at nr |-;split at nr
 . grind[Ov,aa]
 grind[sa]
def Gb(hB:aq C A β st a w)(hA:∀b,A b->A' b):∀(xs:List AV) (vs:List Value),ae w A β vs xs->(∀k∈(lU st.h xs).2,∀b,ag (β k)=some b->A' b)->
  ae w A' β vs (lU st.h xs).1/\∀k∈(lU st.h xs).2,∃e row l fr,st.h k=some (.row e row l fr)
 |[],vs,h,_=>by grind[ae,lU]
 |x::xs,vs,h,nr=>by
  obtain⟨v,bS,rfl,h1,h2⟩:=h;simp only [lU] at nr |-;obtain⟨p1,p2⟩:=yY hB hA x v h1 (λk hk=>nr k (by simp [hk]));obtain⟨q1,q2⟩:=Gb hB hA xs bS h2 (λk hk=>nr k (by simp [hk]));refine⟨by exact⟨v,bS,rfl,p1,q1⟩,λk hk=>?_⟩;rcases G!.1 hk with hk|hk
  . exact p2 k hk
  . exact q2 k hk
def D9 {h:aJ}:∀(xs:List AV),(oD h xs).1.length=xs.length
 |[]=>rfl
 |x::xs=>by simp [oD,D9 xs]
theorem Ea {h:aJ}(x:AV):(pv h x).1.cells.length=x.cells.length:=by
 unfold pv;split
 . simp [AV.cells,D9]
 . rename_i hna;have hz:x.cells.length=1:=by cases x<;>first|rfl|grind
   rw [hz];unfold hX;split
   . split<;>rfl
   . split<;>rfl
   . split
     . rename_i sz _ _ _ _ rr _ _ _;cases Nat.beq sz rr.length<;>rfl
     . rfl
   omega
def wX {x:AV}{v:Value}(h:aa w A β v x){row:List Ty}{r r':Row row}{cs:List Value}{j:Nat}(hr:br w A row cs r)(hs:nm row r j x.cells=some r'):
  ae w A β v.cells.toList x.cells/\br w A row (cs.take j++v.cells.toList++cs.drop (j+v.cells.toList.length)) r'/\(∀u∈v.cells.toList,u.oneCell'=true)/\(v.cells.toList≠ []->j+v.cells.toList.length<=cs.length)/\v.cells.size=x.cells.length:=by
 have key:∀us,ae w A β us x.cells->br w A row (cs.take j++us++cs.drop (j+us.length)) r'/\(∀u∈us,u.oneCell'=true)/\(us≠ []->j+us.length<=cs.length):=by
  grind[wW,yS]
 by_cases hx:∃cs,x= .agg cs
 . obtain⟨xs,rfl⟩:=hx;simp [aa] at h;grind[Value.cells,AV.cells,cT]
 . have hc:x.cells=[x]:=by cases x<;>first|rfl|exact absurd ⟨_,rfl⟩ hx
   have uK:ae w A β [v] x.cells:=by rw [hc];exact⟨v,[],rfl,h,rfl⟩
   obtain⟨k1,k2,k3⟩:=key [v] uK;have h1:=k2 v z!;rw [cells_one h1];exact⟨uK,k1,k2,k3,by rw [hc];rfl⟩
theorem Eb {row:List Ty}{l:List (Row row)}{i j:Nat}{cur:Array Value}{us:List Value}{y:Row row}(hi:i<l.length)(hL:dc (br w A row) (cur.toList.take (l.length*row.length)) l)
  (hy:∀c,br w A row c l[i]->br w A row (c.take j++us++c.drop (j+us.length)) y/\(us≠ []->j+us.length<=c.length)) (dm:l.length*row.length<=cur.size):
  let new:=(cur.toList.take (i*row.length+j)++us++cur.toList.drop (i*row.length+j+us.length)).toArray
  new.size=cur.size/\dc (br w A row) (new.toList.take (l.length*row.length)) (l.set i y)/\i*row.length+j+us.length<=cur.size\/us=[]:=by
 intro new;by_cases uK:us=[]
 . exact .inr uK
 left;obtain⟨c1,c,c2,e1,e2,e3,e4,e5⟩:=qH l _ i hi hL;obtain⟨f1,f2⟩:=hy c e3;have f2:=f2 uK;have hc:=ia row c _ e3
 have iU:i*row.length+row.length<=l.length*row.length:=by
  have :(i+1)*row.length<=l.length*row.length:=I? _ hi;rwa [y?,Nat.one_mul] at this
 have HG:i*row.length+j+us.length<=cur.size:=by omega
 refine⟨by simp [new];omega,?_,HG⟩;have tR:cur.toList=c1++(c++c2)++cur.toList.drop (l.length*row.length):=by rw [<-e1,Z?]
 have dV:new.toList=c1++((c.take j++us++c.drop (j+us.length))++c2)++cur.toList.drop (l.length*row.length):=by
  have t1:cur.toList.take (i*row.length+j)=c1++c.take j:=by
   rw [tR,<-e2,Y!,List.take_length_add_append,Y!,List.take_append_of_le_length w!]
  have t2:cur.toList.drop (i*row.length+j+us.length)=c.drop (j+us.length)++c2++cur.toList.drop (l.length*row.length):=by
   conv=>lhs;rw [tR]
   rw [show i*row.length+j+us.length=c1.length+(j+us.length) by omega,Y!,List.drop_length_add_append,Y!,List.drop_append_of_le_length w!,Y!]
  simp only [new,t1,t2];simp
 rw [dV]
 have aud:(c1++((c.take j++us++c.drop (j+us.length))++c2)).length=l.length*row.length:=by
  have:=congrArg List.length e1;simp at this |-;omega
 rw [<-aud,List.take_left]
 have pC:l.set i y=l.take i++(y::l.drop (i+1)):=by
  rw [m?,R! hi]
 rw [pC];exact jh _ _ _ _ e4 ⟨_,c2,rfl,f1,e5⟩
def Ec(hT:bx T P)(hB:aq C A β st a w){dst:Option Nat}(hd:∀t,dst=some t->t<st.n){t:TypeId}{k sz i j:Nat}{x:AV}{vp vx:Value}(hp:aa w A β vp (.elem k sz i j))(hx:aa w A β vx x){out:Out}
  (h:gq T st.h t (.elem k sz i j) x=some out) (hc:∀p∈out.cond,p):∃w',(Instr.storeAt t vp vx).run P w= .ok () w'/\Rel C (st.put dst out) (a.put dst undef) w':=by
 simp only [gq] at h;split at h
 . rename_i e row l hk;cases hq:(Nat.beq sz row.length&&gT T t x.cells.length&&Nat.blt 0 x.cells.length) with
   |false=>grind
   |true=>
    simp only [hq,I!] at h;simp only [B!] at hq;obtain⟨⟨q1,q2⟩,q3⟩:=hq;have q3:=M! q3;have q1:=C! q1;subst q1;split at h
    . rename_i y hy;cases Kf:(pv st.h x).2.elem k with
      |true=>grind
      |false=>
       rw [Kf] at h;simp only [L!,A!] at h;subst h;have hi:i<l.length:=dW hc;rw [getD_eq l _ _ hi] at hy;simp only [aa] at hp;obtain⟨b,m,cap,bt,rfl⟩:=hp;rcases fJ hB hk with⟨_,hl⟩|⟨b',jg,cur,hv,hg,hle,yo,dm,hL,kD⟩
       . grind
       . rw [bt] at hv;obtain⟨rfl,rfl,rfl⟩:=hv;simp only [O?,w?] at kD;have hb:ag (β k)=some b:=by rw [bt];rfl
         obtain⟨ii,gV,oK⟩:=nV hT q2;let A1:Nat->Prop:=λb'=>A b'\/∃j∈(pv st.h x).2,ag (β j)=some b'
         obtain⟨px,pk⟩:=yY (A':=A1) hB (λb h=>.inl h) x vx hx (λk hk b hb=>.inr ⟨k,hk,hb⟩);have hKA:b7 w w A A1:=λb h=>⟨.inl h,rfl⟩;have hL1:dc (br w A1 row) (cur.toList.take (l.length*row.length)) l:=bm (λc x hx=>bw hKA row c x hx) l _ hL;have sn:l.length*row.length<=cur.size:=by simp_all[I?]
         have hyy:∀c,br w A1 row c l[i]->br w A1 row (c.take j++vx.cells.toList++c.drop (j+vx.cells.toList.length)) y/\(vx.cells.toList≠ []->j+vx.cells.toList.length<=c.length):=
          λc hc=>let h:=wX px hc hy;⟨h.2.1,h.2.2.2.1⟩
         obtain⟨c1,c,c2,e1,e2,e3,e4,e5⟩:=qH l _ i hi hL1;have Ed:=wX px e3 hy
         have nb:vx.cells.size=ii.size:=by
          grind[Ea]
         rcases Eb hi hL1 hyy sn with⟨g1,g2,g3⟩|uK
         . refine⟨_,kF gV nb Ed.2.2.1 hg (by simpa using g3),?_⟩;refine hB.write hd (k:=k) (fz:=(pv st.h x).2) (ab:=.row e row (l.set i y) false) (by simp [hk]) hb kD hg ⟨rfl,rfl,rfl⟩ (λq hq=>⟨?_,pk q hq⟩) ?_ (by simp [aa])
           . rintro rfl;rw [List.elem_eq_mem] at Kf;simp [hq] at Kf
           . intro A2 h1 h2 h3
             have hK:b7 w (w.setRow b (cur.toList.take (i*row.length+j)++vx.cells.toList++cur.toList.drop (i*row.length+j+vx.cells.toList.length)).toArray) A1 A2:=by
              intro b' ek;rcases ek with ek|⟨q,hq,Ee⟩
              . exact⟨h1 b' ek,setRow_other w b b' _ (λh'=>kD (h'▸ek))⟩
              . refine⟨h3 q hq b' Ee,setRow_other w b b' _ (λh'=>?_)⟩;subst h';obtain⟨e',lV,l',FW,oH⟩:=pk q hq;have :q=k:=hB.apart q k b' (by simp [oH]) (by simp [hk]) Ee hb;subst this;rw [List.elem_eq_mem] at Kf;simp [hq] at Kf
             refine⟨_,⟨?_,.inr ⟨b,cap,_,by rw [bt];simp,w!,setRow_heap w b cur _ e _ hg,by simpa using hle,yo,g1.trans dm,rfl⟩⟩,?_,λb' ek=>?_⟩
             . rw [T?];refine Nat.min_eq_left ?_;rw [n?];exact h? sn (Nat.le_of_eq g1.symm)
             . simp only [n?];exact bm (λc x hx=>bw hK row c x hx) _ _ g2
             . rw [hb] at ek;simp only [A!] at ek;subst ek;simp only [O?,w?];intro WA;rcases h2 _ WA with h|⟨q,hq,Ee⟩
               . exact kD h
               . obtain⟨e',lV,l',FW,oH⟩:=pk q hq;have :q=k:=hB.apart q k _ (by simp [oH]) (by simp [hk]) Ee hb;subst this;rw [List.elem_eq_mem] at Kf;simp [hq] at Kf
         grind
    grind
 grind
end
end Go.Vg

end
section
namespace Go.Vg
open Go
variable [HP]
section
variable {P:Program} {C:Ctx} {A A':Nat->Prop} {β:Nat->Value} {st:St} {a:Act} {w:World} {T:bY}
theorem fl {d k:Nat}{ab b:AB}(h:ah [(d,ab)] k=some b):k=d/\b=ab:=by
 grind[ah,aG]
theorem lZ(o:Obj)(k:Nat)(hk:k<w.heap.size):(w.alloc o).heap[k]? =w.heap[k]? :=heap_alloc_old w o k hk
theorem aq.Gc(hB:aq C A β st a w){dst:Option Nat}(hd:∀t,dst=some t->t<st.n){d e:Nat}{cs:List AV}{arr:Array Value}{cond:List Prop}
  (fK:st.h d=none/\pR d=false) (hrel:ae w A β arr.toList cs) (jF:∀v∈arr.toList,v.oneCell'=true):
  aq C A (bg β d (.pointer (some ⟨w.heap.size,0,none⟩))) (st.put dst {cond:=cond,res:=.ref d 0,new:=[(d,.cells (fB d cs))]}) (a.put dst (.pointer (some ⟨w.heap.size,0,none⟩))) (w.alloc (.cells arr e)):=by
 have hK:b7 w (w.alloc (.cells arr e)) A A:=λb hb=>⟨hb,lZ _ b (hB.bound b hb)⟩
 have bt:∀k,ah [(d,AB.cells (fB d cs))] k=none->bg β d (.pointer (some ⟨w.heap.size,0,none⟩)) k=β k:=by
  intro k h;have :k≠d:=by rintro rfl;simp [ah] at h
  grind[bg]
 refine hB.step (out:={cond:=cond,res:=.ref d 0,new:=[(d,.cells (fB d cs))]}) hd ?_ (by simp [ah]) bt hK rfl rfl rfl z! (λb hb _=>lZ _ b hb) (λb hb=>by have:=hB.bound b hb;simp;omega) (λb hb=>.inl hb) (by simp [ah]) ?_ ?_ ?_ ?_
 . grind[fl]
 . intro k ab h;obtain⟨rfl,rfl⟩:=fl h;refine⟨w.heap.size,arr,e,by simp [bg],heap_alloc_new w _,λh=>absurd (hB.bound _ h) w!,hZ k _ _ _ (cu hK _ _ hrel),jF⟩
 . intro k b ab h hb;obtain⟨rfl,_⟩:=fl h;simp_all[bg,R?,ag,A!]
 . grind[Option.isSome_iff_exists,fl]
 . exact⟨w.heap.size,by simp [bg],rfl⟩
theorem jv {h:aJ}:∀(fz:List Nat) j x,ah (cx h fz) j=some x->j∈fz/\∃e row l fr,h j=some (.row e row l fr)/\x= .row e row l true:=by
 intro fz;induction fz with
 |nil=>grind[cx,ah]
 |cons i fz ih=>
  intro j x h;simp [cx] at h;split at h
  . simp [ah] at h;by_cases TC:j=i
    . grind
    simp_all[aG,L!]
  grind
def qx {h:aJ}:∀(fz:List Nat) j,j∈fz->(∃e row l fr,h j=some (.row e row l fr))->(ah (cx h fz) j).isSome:=by
 intro fz;induction fz with
 |nil=>grind
 |cons i fz ih=>
  intro j h hr;simp [cx];by_cases TC:j=i
  . subst TC;obtain⟨e,row,l,fr,hr⟩:=hr;simp [hr,ah]
  . have:=ih j ((N!.1 h).resolve_left TC) hr;split
    . simp_all[ah,aG,L!]
    omega
def cc(A:Nat->Prop)(β:Nat->Value)(fz:List Nat):Nat->Prop:=λb=>A b\/∃j∈fz,ag (β j)=some b
def l4(hB:aq C A β st a w){j b':Nat}(hj:(st.h j).isSome)(ek:ag (β j)=some b'):b'<w.heap.size:=by
 obtain⟨ab,ku⟩:=P!.1 hj;have eu:=hB.blocks j ab ku;cases ab with
 |mp b2 es ck=>
  obtain⟨h1,h2,_⟩:=eu;grind[ag,Option.some.injEq,Array.getElem?_eq_some_iff]
 |arr _ _|fvar _ _=>
  obtain⟨b'',arr,e,h1,h2,_⟩:=eu;grind[ag,Option.some.injEq,Array.getElem?_eq_some_iff]
 |cells cs=>
  obtain⟨b'',arr,e,h1,h2,_⟩:=eu;grind[ag,Option.some.injEq,Array.getElem?_eq_some_iff]
 |row e row l fr=>
  obtain⟨xs,h1,_⟩:=eu;rcases h1.2 with⟨hn,_⟩|⟨g,cap,cur,hv,_,hg,_⟩
  . grind[ag]
  grind[ag,Option.some.injEq,Array.getElem?_eq_some_iff]
 |gG e j row l i=>
  obtain⟨xs,v0,h1,_⟩:=eu;rcases h1.2 with⟨hn,_⟩|⟨g,cap,cur,hv,_,hg,_⟩
  . grind[ag]
  grind[ag,Option.some.injEq,Array.getElem?_eq_some_iff]
 |views _ _ _ _ _|eE _ _ _|aX _ _ _ _|dM _ _ _ _=>
  obtain⟨xs,h1,_⟩:=eu;rcases h1.2 with⟨hn,_⟩|⟨g,cap,cur,hv,_,hg,_⟩
  . grind[ag]
  grind[ag,Option.some.injEq,Array.getElem?_eq_some_iff]
theorem aq.TF(hB:aq C A β st a w){dst:Option Nat}(hd:∀t,dst=some t->t<st.n){d e:Nat}{row:List Ty}{l:List (Row row)}{cond:List Prop}{fz:List Nat}{v':Value}{w':World}{xs:List Value}
  (fK:st.h d=none/\pR d=false) (hg:w.grownBy w' none) (Br:∀j∈fz,∃e row l fr,st.h j=some (.row e row l fr))
  (ib:w'.ownsRow 0 e row.length v' l.length xs) (qK:dc (br w (cc A β fz) row) xs l) (hblk:∀b,ag v'=some b->w.heap.size<=b):
  aq C (cc A β fz) (bg β d v') (st.put dst {cond:=cond,res:=.own d,fE:=cx st.h fz,new:=[(d,.row e row l false)]}) (a.put dst v') w':=by
 have TG:∀b,cc A β fz b->b<w.heap.size:=by
  intro b h;rcases h with h|⟨j,hj,hb⟩
  . exact hB.bound b h
  . exact l4 hB x! hb
 have hK:b7 w w' A (cc A β fz):=λb hb=>⟨.inl hb,hg.block b (hB.bound b hb) z!⟩;have ND:b7 w w' (cc A β fz) (cc A β fz):=λb hb=>⟨hb,hg.block b (TG b hb) z!⟩
 have bt:∀k,ah [(d,AB.row e row l false)] k=none->bg β d v' k=β k:=by
  intro k h;have :k≠d:=by rintro rfl;simp [ah] at h
  grind[bg]
 refine hB.step (out:={cond:=cond,res:=.own d,fE:=cx st.h fz,new:=[(d,.row e row l false)]}) hd ?_ ?_ bt hK hg.os hg.tape hg.output hg.size (λb hb _=>hg.block b hb z!) (λb hb=>N? (TG b hb) hg.size) ?_ ?_ ?_ ?_ ?_ ?_
 . grind[fl]
 . intro k b h;obtain⟨_,_,_,_,_,h,_⟩:=jv fz k b h;grind
 . intro b h;rcases h with h|⟨j,hj,hb⟩
   . grind
   . have hr:=Br j hj;exact .inr (.inr ⟨j,⟨x!,.inl (qx fz j hj hr)⟩,hb⟩)
 . intro k ab h _;obtain⟨hk,e',lV,l',FW,hr,rfl⟩:=jv fz k ab h;rw [mz];have hkd:k≠d:=by grind
   have QC:bg β d v' k=β k:=by grind[bg]
   obtain⟨xs',h1,h2,h3⟩:=hB.blocks k _ hr;simp only [BR,QC];refine⟨xs',cI h1 (λb hb=>hg.block b (l4 hB x! hb) z!),bm (λc x hx=>bw hK lV c x hx) l' xs' h2,λb hb=>?_⟩;simp only [if_true];exact .inr ⟨k,hk,hb⟩
 . intro k ab h;obtain⟨rfl,rfl⟩:=fl h;refine⟨xs,by grind[bg],bm (λc x hx=>bw ND row c x hx) l xs qK,λb hb=>?_⟩;simp only [bg,if_true] at hb;grind
 . intro k b ab h hb;obtain⟨rfl,_⟩:=fl h;simp_all[bg,R?]
 . grind[Option.isSome_iff_exists,fl]
 . simp only [aa,bg,R?,true_and];obtain⟨ad,l',c,rfl⟩:=iA ib;rfl
def QN(hT:bx T P)(hB:aq C A β st a w){dst:Option Nat}(hd:∀t,dst=some t->t<st.n){d:Nat}(fK:st.h d=none/\pR d=false){t:TypeId}{te:TE}(ht:T.find t=some te)(jF:(ofConst te.zero).cells.all AV.one=true):
  ∃v' w',(Instr.alloc t true (.tuple #[])).run P w= .ok v' w'/\Rel C (st.put dst {cond:=[],res:=.ref d 0,new:=[(d,.cells (fB d (ofConst te.zero).cells))]}) (a.put dst v') w':=by
 obtain⟨hu,i,hi,hs,hb,hz⟩:=hT.ok t te ht;obtain⟨c1,c2,c3⟩:=wV jF (wP (w:=w) (A:=A) (β:=β) te.zero);refine⟨.pointer (some ⟨w.heap.size,0,none⟩),w.alloc (.cells te.zero.cells t),?_,Rel.iV (hB.Gc hd fK c1 c2)⟩;simp_all[Instr.alloc,zeroValue,typeInfo,hi,newVar,newRow]
def WB(hB:aq C A β st a w){dst:Option Nat}(hd:∀t,dst=some t->t<st.n){d:Nat}(fK:st.h d=none/\pR d=false){t:TypeId}{x:AV}{v:Value}(hx:aa w A β v x)(jF:x.cells.all AV.one=true):
  ∃v' w',(Instr.box t v).run P w= .ok v' w'/\Rel C (st.put dst {cond:=[],res:=.ref d 0,new:=[(d,.cells (fB d x.cells))]}) (a.put dst v') w':=by
 obtain⟨c1,c2,c3⟩:=wV jF hx;refine⟨.pointer (some ⟨w.heap.size,0,none⟩),w.alloc (.cells v.cells t),?_,Rel.iV (hB.Gc hd fK c1 c2)⟩;rfl
def HJ(off:Nat):∀(l:List Value) (k:Nat) (arr:Array Value),off+k+l.length<=arr.size->
  ((l.zipIdx k).foldl (λcs (x:Value×Nat)=>cs.setIfInBounds (off+x.2) x.1) arr).toList=arr.toList.take (off+k)++l++arr.toList.drop (off+k+l.length)
 |[],k,arr,_=>by simp
 |v::l,k,arr,h=>by
  simp;rw [HJ off l (k+1) _ (by simp at h |-;omega)];have e:=list_seg_step arr.toList (off+k) v l w!;simpa [Nat.add_assoc] using e
def vM(place:Nat->Option (Nat×Nat)):∀(parts:List (Nat×AV)) (vparts:List (Nat×Value)) (cs:List AV) (arr:Array Value) (r:List AV),ae w A β arr.toList cs->
  vparts.map (·.1)=parts.map (·.1)->ae w A β (vparts.map (·.2)) (parts.map (·.2))->wK place cs parts=some r->
  ∃iW,Instr.fill place arr vparts=some iW/\ae w A β iW.toList r
 |[],[],cs,arr,r,h,_,_,hr=>by
   simp [wK,A!] at hr;subst hr;exact⟨arr,rfl,h⟩
 |(i,x)::parts,(i',v)::vparts,cs,arr,r,h,hk,hv,hr=>by
  simp at hk;obtain⟨hi,hk⟩:=hk;obtain⟨v0,Kg,h0,h1,h2⟩:=hv;obtain⟨rfl,rfl⟩:=h0;simp [wK] at hr;split at hr
  . grind
  . rename_i off size hp;cases hq:(Nat.beq x.cells.length size&&Nat.ble (off+size) cs.length&&x.cells.all AV.one) with
    |false=>grind
    |true=>
     simp [hq,I!] at hr;simp only [B!] at hq;obtain⟨⟨q1,q2⟩,q3⟩:=hq;have q1:=C! q1;have q2:=M! q2;obtain⟨c1,c2,c3⟩:=wV q3 h1;have hlen:=cT cs _ h;have Cy:=yV (off:=off) h c1
     have aC9:(v.cells.zipIdx.foldl (λcs (x:Value×Nat)=>cs.setIfInBounds (off+x.2) x.1) arr).toList=arr.toList.take off++v.cells.toList++arr.toList.drop (off+v.cells.toList.length):=by
      have:=HJ off v.cells.toList 0 arr x!;grind[Array.toList_zipIdx]
     obtain⟨iW,g1,g2⟩:=vM place parts vparts _ (v.cells.zipIdx.foldl (λcs (x:Value×Nat)=>cs.setIfInBounds (off+x.2) x.1) arr) r x! hk h2 hr;simp_all[Instr.fill,if_neg]
 |[],_::_,_,_,_,_,hk,_,_|_::_,[],_,_,_,_,hk,_,_=>by grind
end
end Go.Vg

end
section
namespace Go.Vg
open Go
variable [HP]
section
variable {P:Program} {C:Ctx} {A A':Nat->Prop} {β:Nat->Value} {st:St} {a:Act} {w:World} {T:bY}
def run_places(hT:bx T P):∀(fs:List Field) (ps:List (Nat×Nat)),placesOf T fs=some ps->
  (List.mapM (m:=Sem) (λ(f:Field)=>do pure (f.offset,<-sizeOf f.type)) fs).run P w= .ok ps w
 |[],ps,h=>by simp_all[placesOf,A!]
 |f::fs,ps,h=>by
  simp [placesOf] at h;split at h
  . rename_i te ps' ht hp;simp at h;subst h;obtain⟨_,i,hi,hs,_⟩:=hT.ok _ _ ht;have ih:=run_places hT fs ps' hp;have h1:(sizeOf f.type).run P w= .ok te.size w:=by simp [sizeOf,typeInfo,hi,hs]
    simp only [List.mapM_cons,Sem.run_bind,h1,Result.andThen_ok,Sem.run_pure];rw [ih];rfl
  . cases h
theorem jV(z:Value):ae w A β z.cells.toList (ofConst z).cells:=by
 have h:=wP (w:=w) (A:=A) (β:=β) z;by_cases hx:∃cs,ofConst z= .agg cs
 . obtain⟨cs,hc⟩:=hx;rw [hc] at h |-;obtain⟨arr,rfl,h⟩:=h;exact h
 . have hc:(ofConst z).cells=[ofConst z]:=by
    cases hz:ofConst z<;>first|rfl|grind
   have hz:z.cells= #[z]:=by
    cases z<;>first|rfl|exact absurd ⟨_,rfl⟩ hx
   grind[ae]
def QO(hT:bx T P){t:TypeId}{parts:List (Nat×AV)}{vparts:Array (Nat×Value)}(hk:vparts.toList.map (·.1)=parts.map (·.1))(hv:ae w A β (vparts.toList.map (·.2)) (parts.map (·.2))){out:Out}
  (h:FV T t parts=some out):Reads P A β w (Instr.build t vparts) out:=by
 unfold FV at h;split at h
 . rename_i te ht;obtain⟨hu,i,hi,hs,hb,hz⟩:=hT.ok t te ht;split at h
   . rename_i fs hd;split at h
     . rename_i ps hp;split at h
       . rename_i cs hf;simp at h;subst h;obtain⟨iW,g1,g2⟩:=vM (λi=>ps[i]?) parts vparts.toList _ te.zero.cells cs (jV te.zero) hk hv hf;refine⟨⟨rfl,rfl,rfl⟩,.agg iW,?_,by grind[aa]⟩;have hm:=run_places (w:=w) hT fs.toList ps hp;simp only [Instr.build,zeroValue,typeInfo,Sem.run_bind,run_program,Result.andThen_ok,hi,hz,Sem.run_pure,run_underlying hu,Array.mapM_eq_mapM_toList,Sem.run_map,hm];simp_all
       grind
     grind
   . rename_i n e hd;split at h
     . rename_i ee he;split at h
       . rename_i cs hf;simp at h;subst h;obtain⟨_,i2,hi2,QF,_⟩:=hT.ok e ee he;obtain⟨iW,g1,g2⟩:=vM (λi=>some (i*ee.size,ee.size)) parts vparts.toList _ te.zero.cells cs (jV te.zero) hk hv hf;refine⟨⟨rfl,rfl,rfl⟩,.agg iW,?_,by grind[aa]⟩;simp_all[Instr.build,zeroValue,typeInfo,hi,run_underlying,sizeOf]
       grind
     grind
   grind
 grind
def oL(z:Array Value)(hz:0<z.size):∀n,(List.range (n*z.size)).map (λi=>z[i%z.size]!)=(List.replicate n z.toList).flatten
 |0=>by simp
 |n+1=>by
  rw [y?,Nat.one_mul,List.range_add,u?,oL z hz n,List.replicate_succ',List.flatten_append];congr 1
  apply List.ext_getElem
  . simp
  simp_all[Nat.add_mod,Nat.mod_eq_of_lt]
theorem oM {vs:List Value}{xs:List AV}(h:ae w A β vs xs):∀n,ae w A β (List.replicate n vs).flatten (List.replicate n xs).flatten
 |0=>by rfl
 |n+1=>by
  exact eI _ _ _ _ h (oM h n)
def yZ(ts:List Ty):∀(n:Nat) (xs:List AV) (vs:List Value) (l:List (Row ts)),ae w A β vs xs->wH ts n xs=some l->dc (br w A ts) vs l/\l.length=n
 |0,[],vs,l,h,hl=>by
  grind[wH,Option.some.injEq,ae,dc]
 |0,_::_,_,_,_,hl=>by grind[wH]
 |n+1,xs,vs,l,h,hl=>by
  simp [wH] at hl;split at hl
  . rename_i x l' hx jU;simp at hl;subst hl;obtain⟨s1,s2⟩:=lv xs vs ts.length h;obtain⟨g1,g2⟩:=yZ ts n _ _ l' s2 jU;exact⟨⟨_,_,(Z? _ _).symm,lY ts _ _ x s1 hx,g1⟩,by simp [g2]⟩
  . cases hl
def Ow(hB:aq C A β st a w)(hA:∀b,A b->A' b):∀(ps:List (Nat×AV)) (vs:List Value),ae w A β vs (ps.map (·.2))->(∀k∈(oF st.h ps).2,∀b,ag (β k)=some b->A' b)->
  ae w A' β vs ((oF st.h ps).1.map (·.2))/\(oF st.h ps).1.map (·.1)=ps.map (·.1)/\∀k∈(oF st.h ps).2,∃e row l fr,st.h k=some (.row e row l fr)
 |[],vs,h,_=>by grind[ae,oF]
 |(i,x)::ps,vs,h,nr=>by
  obtain⟨v,bS,rfl,h1,h2⟩:=h;simp only [oF] at nr |-;obtain⟨p1,p2⟩:=yY hB hA x v h1 (λk hk=>nr k (by simp [hk]));obtain⟨q1,q2,q3⟩:=Ow hB hA ps bS h2 (λk hk=>nr k (by simp [hk]));refine⟨by exact⟨v,bS,rfl,p1,q1⟩,by simp [q2],λk hk=>?_⟩;rcases G!.1 hk with hk|hk
  . exact p2 k hk
  . exact q3 k hk
def Ef(hT:bx T P)(hB:aq C A β st a w){dst:Option Nat}(hd:∀t,dst=some t->t<st.n){d:Nat}(fK:st.h d=none/\pR d=false){t:TypeId}{len:Nat}{parts:List (Nat×AV)}{vparts:Array (Nat×Value)}
  (hk:vparts.toList.map (·.1)=parts.map (·.1)) (hv:ae w A β (vparts.toList.map (·.2)) (parts.map (·.2))) {out:Out}
  (h:jS T st.h d t len parts=some out):∃v' w',(Instr.buildSlice t len vparts).run P w= .ok v' w'/\Rel C (st.put dst out) (a.put dst v') w':=by
 unfold jS at h;split at h
 . rename_i e te he iz;split at h
   . rename_i row k8;obtain⟨hu,yU,i,hi,oK,Kc,Ga⟩:=sk hT he iz;cases hq:(Nat.beq row.length te.size&&Nat.blt 0 te.size&&Nat.beq (ofConst te.zero).cells.length te.size&&Nat.ble (len*te.size) 16777216) with
     |false=>grind
     |true=>
      simp only [hq,I!] at h;simp only [B!] at hq;obtain⟨⟨⟨q1,q2⟩,q3⟩,q4⟩:=hq;have q2:=M! q2;have q3:=C! q3;have q4:=M! q4;split at h
      . rename_i cs hf;split at h
        . rename_i l hl;simp only [Option.some.injEq] at h;subst h;have hzs:te.zero.cells.size=te.size:=by grind[oJ]
          obtain⟨p1,p2,p3⟩:=Ow (A':=cc A β (oF st.h parts).2) hB (λb h=>.inl h) parts _ hv (λk hk b hb=>.inr ⟨k,hk,hb⟩)
          have ji:(((Array.range (len*i.size)).map (te.zero.cells[· %te.zero.cells.size]!)).toList)=(List.replicate len te.zero.cells.toList).flatten:=by
           have:=oL te.zero.cells w! len;simp_all
          obtain⟨iW,g1,g2⟩:=vM (w:=w) (A:=cc A β (oF st.h parts).2) (β:=β) (λi=>some (i*te.size,te.size)) _ vparts.toList _ ((Array.range (len*i.size)).map (te.zero.cells[· %te.zero.cells.size]!)) cs
           (by grind[oM,jV]) (hk.trans p2.symm) p1 hf
          obtain⟨f1,f2⟩:=yZ row len cs _ l g2 hl;have hlen:=fx l _ f1
          have fg:(Instr.buildSlice t len vparts).run P w= .ok (.slice (some ⟨w.heap.size,0,none⟩) len len) (w.alloc (.cells iW e)):=by
           have WC:¬(16777216<len*i.size):=by grind
           by_cases hz:len*i.size=0
           . have hln:len=0:=by
              grind[Nat.mul_eq_zero]
             subst hln;simp [Instr.buildSlice,run_underlying hu,sizeOf,typeInfo,hi,oK,newRow];simp_all[Array.range,Array.eq_empty_of_size_eq_zero]
           . rw [<-oK] at g1;simp [Instr.buildSlice,run_underlying hu,sizeOf,typeInfo,zeroValue,hi,Ga,WC,hz,g1,newRow]
          refine⟨_,_,fg,Rel.iV (hB.TF hd fK (xs:=iW.toList) ⟨rfl,rfl,rfl,z!,λk hk _=>heap_alloc_old w _ k hk⟩ p3 ?_ f1 (λb hb=>by grind[ag,Option.some.injEq]))⟩;refine⟨hlen,.inr ⟨w.heap.size,len,iW,by rw [f2],w!,heap_alloc_new w _,w!,?_,?_,?_⟩⟩
          . have :len<=len*te.size:=Nat.le_mul_of_pos_right _ w!;grind[maxLen]
          . grind
          grind
        grind
      grind
   grind
 grind
end
end Go.Vg

end
section
namespace Go.Vg
open Go
variable [HP]
section
variable {P:Program} {C:Ctx} {A A':Nat->Prop} {β:Nat->Value} {st:St} {a:Act} {w:World} {T:bY}
theorem jW:∀(row:List Ty) (vs:List Value),di.cB row vs=true->br w A row vs (Row.zero row)
 |[],[],_=>by rfl
 |.int k::ts,.int k' n::vs,h=>by
   simp [di.cB,B!,J!] at h;obtain⟨⟨h1,h2⟩,h3⟩:=h;subst h1;subst h2;simp only [br,Row.zero,uJ,yX];refine⟨_,vs,rfl,?_,jW ts vs h3⟩;simp [Rd,D.zero];cases k<;>simp [DI.zero,DI.toInt,lo,hi]
 |.bool::ts,.bool b::vs,h=>by
   cases b with
   |true=>simp [di.cB] at h
   |false=>
    simp only [br,Row.zero,uJ,yX];exact⟨_,vs,rfl,by simp [Rd,D.zero],jW ts vs h⟩
 |.str::ts,.string s::vs,h=>by
   simp [di.cB,B!] at h;simp only [br,Row.zero,uJ,yX];refine⟨_,vs,rfl,?_,jW ts vs h.2⟩;simp only [Rd,D.zero];refine⟨?_,z!⟩
   have hs:s=⟨#[]⟩:=by
    apply ByteArray.ext;grind
   rw [hs]
 |.slice r::ts,.slice ad l c::vs,h=>by
   cases ad with
   |some p=>simp [di.cB] at h
   |none=>
    cases l with
    |succ l=>simp [di.cB] at h
    |zero=>
     cases c with
     |succ c=>simp [di.cB] at h
     |zero=>
      simp only [br,Row.zero,uJ,yX];refine⟨_,vs,rfl,?_,jW ts vs h⟩;simp only [Rd,D.zero];exact⟨none,0,[],z!,z!,z!,by simp [dc],z!⟩
 |[],_::_,h|.int _::_,[],h|.bool::_,[],h|.str::_,[],h|.slice _::_,[],h=>by grind[di.cB]
 |.int _::_,.bool _::_,h|.int _::_,.string _::_,h|.int _::_,.slice .. ::_,h|.int _::_,.float .. ::_,h|.int _::_,.complex .. ::_,h|.int _::_,.pointer _::_,h
 |.int _::_,.map _::_,h|.int _::_,.chan _::_,h|.int _::_,.func .. ::_,h|.int _::_,.nilFunc::_,h|.int _::_,.iface .. ::_,h|.int _::_,.nilIface::_,h|.int _::_,.agg _::_,h|.int _::_,.tuple _::_,h=>by grind[di.cB]
 |.bool::_,.int .. ::_,h|.bool::_,.string _::_,h|.bool::_,.slice .. ::_,h|.bool::_,.float .. ::_,h|.bool::_,.complex .. ::_,h|.bool::_,.pointer _::_,h
 |.bool::_,.map _::_,h|.bool::_,.chan _::_,h|.bool::_,.func .. ::_,h|.bool::_,.nilFunc::_,h|.bool::_,.iface .. ::_,h|.bool::_,.nilIface::_,h|.bool::_,.agg _::_,h|.bool::_,.tuple _::_,h=>by grind[di.cB]
 |.str::_,.int .. ::_,h|.str::_,.bool _::_,h|.str::_,.slice .. ::_,h|.str::_,.float .. ::_,h|.str::_,.complex .. ::_,h|.str::_,.pointer _::_,h
 |.str::_,.map _::_,h|.str::_,.chan _::_,h|.str::_,.func .. ::_,h|.str::_,.nilFunc::_,h|.str::_,.iface .. ::_,h|.str::_,.nilIface::_,h|.str::_,.agg _::_,h|.str::_,.tuple _::_,h=>by grind[di.cB]
 |.slice _::_,.int .. ::_,h|.slice _::_,.bool _::_,h|.slice _::_,.string .. ::_,h|.slice _::_,.float .. ::_,h|.slice _::_,.complex .. ::_,h|.slice _::_,.pointer _::_,h
 |.slice _::_,.map _::_,h|.slice _::_,.chan _::_,h|.slice _::_,.func .. ::_,h|.slice _::_,.nilFunc::_,h|.slice _::_,.iface .. ::_,h|.slice _::_,.nilIface::_,h|.slice _::_,.agg _::_,h|.slice _::_,.tuple _::_,h=>by grind[di.cB]
theorem aDl {row:List Ty}{z:Value}(h:di row z=true):br w A row z.cells.toList (Row.zero row):=by
 unfold di at h;split at h
 . exact jW row _ h
 . have hz:z.cells= #[z]:=by cases z<;>first|rfl|grind
   grind[jW]
theorem so {row:List Ty}{vs:List Value}{x:Row row}(h:br w A row vs x):∀n,dc (br w A row) (List.replicate n vs).flatten (List.replicate n x)
 |0=>by rfl
 |n+1=>by
  exact⟨vs,_,rfl,h,so h n⟩
def Gd(hT:bx T P)(hB:aq C A β st a w){dst:Option Nat}(hd:∀t,dst=some t->t<st.n){d:Nat}(fK:st.h d=none/\pR d=false){t:TypeId}{x y:AV}{vx vy:Value}(hx:aa w A β vx x)(hy:aa w A β vy y){out:Out}
  (h:uF T d t x y=some out) (hc:∀p∈out.cond,p):∃v' w',(Instr.makeSlice t vx vy).run P w= .ok v' w'/\Rel C (st.put dst out) (a.put dst v') w':=by
 unfold uF at h;split at h
 . rename_i k n k' c;split at h
   . rename_i e te he iz;split at h
     . rename_i row k8;obtain⟨hu,yU,i,hi,oK,Kc,Ga⟩:=sk hT he iz;cases hq:(Nat.beq row.length te.size&&Nat.blt 0 te.size&&di row te.zero) with
       |false=>grind
       |true=>
        simp only [hq,cond_true,Option.some.injEq] at h;subst h;simp only [Bool.and_eq_true] at hq;obtain⟨⟨q1,q2⟩,q3⟩:=hq;have q1:=Nat.eq_of_beq_eq_true q1;have q2:=Nat.le_of_ble_eq_true q2;obtain⟨c0,c1,c2⟩:=dW hc;simp only [aa] at hx hy;obtain⟨rfl,_⟩:=hx;obtain⟨rfl,Ed⟩:=hy;have hz:=aDl (w:=w) (A:=A) q3;have hzl:=ia row _ _ hz;have hzs:te.zero.cells.size=te.size:=by grind
        have az2:(te.bytes:Int)*c<=281474976710656:=by
         grind[Nat.eq_zero_or_pos,Int.le_ediv_iff_mul_le,Int.mul_comm]
        have Cx:c<=9223372036854775807:=by
         have:=Int.ediv_le_self (te.bytes:Int) (show(0:Int)<=140737488355328 by omega);omega
        have hr:=run_make (P:=P) w t e i te.zero hu hi Ga k k' n c c0 c1 x! Cx;refine⟨_,_,hr,Rel.iV (hB.TF hd fK (fz:=[]) (xs:=(List.replicate n.toNat te.zero.cells.toList).flatten) ⟨rfl,rfl,rfl,z!,λk hk _=>heap_alloc_old w _ k hk⟩ z! ?_ ?_ (λb hb=>by grind[ag,Option.some.injEq]))⟩
        . have ji:(madeCells te.zero.cells (c.toNat*i.size)).toList=(List.replicate c.toNat te.zero.cells.toList).flatten:=by
           have:=oL te.zero.cells w! c.toNat;simp_all[madeCells]
          have hfl:∀m,(List.replicate m te.zero.cells.toList).flatten.length=m*te.size:=by
           simp_all
          simp only [List.length_replicate];refine⟨x!,.inr ⟨w.heap.size,c.toNat,_,rfl,w!,heap_alloc_new w _,w!,by grind[maxLen],?_,?_⟩⟩
          . grind
          . rw [ji];have Cy:c.toNat=n.toNat+(c.toNat-n.toNat):=by omega
            rw [Cy,<-List.replicate_append_replicate,List.flatten_append,q1,<-hfl n.toNat,List.take_left]
        grind[so,aDl]
     grind
   grind
 grind
def Kh {t t' ty e:TypeId}{i:TypeInfo}(hu:P.underlying t=some (.slice e))(hi:P.info? e=some i){b off dLen dCap:Nat}{cur:Array Value}{be:TypeId}(hg:w.heap[b]? =some (.cells cur be (0,0))){x:Value}{m:Nat}{cs:List Value}
  (hlen:(Builtin.lenOf x).run P w= .ok m w) (jI:(Builtin.firstCells i.size (min m dLen) x).run P w= .ok cs.toArray w) (h1:∀u∈cs,u.oneCell'=true) (HG:off+cs.length<=cur.size):
  (Builtin.copy_ #[t,t'] ty #[.slice (some ⟨b,off,none⟩) dLen dCap,x]).run P w= .ok (.int .i64 ((min m dLen:Nat):Int)) (w.setRow b (cur.toList.take off++cs++cur.toList.drop (off+cs.length)).toArray):=by
 have qX:=run_storeCells_at P b off be cs 0 cur w hg w! h1;simp_all[Builtin.copy_,run_underlying,sizeOf,typeInfo,hi,goInt]
theorem y4 {t t' ty e:TypeId}{i:TypeInfo}(hu:P.underlying t=some (.slice e))(hi:P.info? e=some i){ad:Option Addr}{dCap:Nat}{x:Value}{m:Nat}
  (hlen:(Builtin.lenOf x).run P w= .ok m w) (jI:(Builtin.firstCells i.size 0 x).run P w= .ok #[] w):
  (Builtin.copy_ #[t,t'] ty #[.slice ad 0 dCap,x]).run P w= .ok (.int .i64 0) w:=by
 cases ad<;>simp [Builtin.copy_,run_underlying hu,sizeOf,typeInfo,hi,hlen,jI,goInt,storeCells]
theorem aq.same(hB:aq C A β st a w){dst:Option Nat}(hd:∀t,dst=some t->t<st.n){c:List Prop}{r:AV}{k:Nat}{ab:AB}(hk:st.h k=some ab){v:Value}(h:aa w A β v r):
  aq C A β (st.put dst {cond:=c,res:=r,fE:=[(k,ab)]}) (a.put dst v) w:=by
 refine hB.step (out:={cond:=c,res:=r,fE:=[(k,ab)]}) hd (by simp [ah]) ?_ (λ_ _=>rfl) (b7.refl w A) rfl rfl rfl (S! _) (λ_ _ _=>rfl) hB.bound (λb h=>.inl h) ?_ (by simp [ah]) (by simp [ah]) (by simp [ah]) h
 . grind[fl]
 . intro j b h _;obtain⟨rfl,rfl⟩:=fl h;exact hB.blocks _ _ hk
theorem vN(n:Nat)(h:n<=maxLen):aa w A β (.int .i64 (n:Int)) (.int .i64 (n:Int)):=by
 simp [aa,lo,hi,true_and];grind[maxLen]
theorem Ge(hB:aq C A β st a w){dst:Option Nat}(hd:∀t,dst=some t->t<st.n){k e:Nat}{row:List Ty}{l m':List (Row row)}(hk:st.h k=some (.row e row l false)){b cap off:Nat}(bt:β k= .slice (some ⟨b,0,none⟩) l.length cap)
  {cs:List Value} (dm:dc (br w A row) cs m') (HG:off+m'.length<=l.length) {c:List Prop} {r:AV} {v:Value} (vJ:∀w',aa w' A β v r) {cur:Array Value} (hg:w.heap[b]? =some (.cells cur e (0,0)))
  (cZ:cur.size=cap*row.length) (hle:l.length<=cap) (yo:cap<=maxLen) (hL:dc (br w A row) (cur.toList.take (l.length*row.length)) l) (kD:¬A b):
  Rel C (st.put dst {cond:=c,res:=r,fE:=[(k,.row e row (l.take off++m'++l.drop (off+m'.length)) false)]}) (a.put dst v)
   (w.setRow b (cur.toList.take (off*row.length)++cs++cur.toList.drop (off*row.length+cs.length)).toArray):=by
 have hb:ag (β k)=some b:=by rw [bt];rfl
 have hlen:=fx m' cs dm;have hlr:l.length*row.length<=cur.size:=by simp_all[I?]
 have Wy:off*row.length+cs.length<=l.length*row.length:=by rw [hlen,<-y?];simp_all[I?]
 refine hB.write hd (k:=k) (fz:=[]) (ab:=.row e row _ false) x! hb kD hg ⟨rfl,rfl,rfl⟩ z! ?_ (vJ _);intro A2 h1 h2 h3;have hK:b7 w (w.setRow b (cur.toList.take (off*row.length)++cs++cur.toList.drop (off*row.length+cs.length)).toArray) A A2:=λb' ek=>⟨h1 b' ek,setRow_other w b b' _ (λh'=>kD (h'▸ek))⟩;have hll:(l.take off++m'++l.drop (off+m'.length)).length=l.length:=by grind
 have hns:(cur.toList.take (off*row.length)++cs++cur.toList.drop (off*row.length+cs.length)).toArray.size=cur.size:=by grind
 refine⟨_,⟨?_,.inr ⟨b,cap,_,x!,w!,setRow_heap w b cur _ e _ hg,w!,yo,hns.trans cZ,rfl⟩⟩,?_,λb' ek=>?_⟩
 . grind
 . rw [hll]
   have tR:(cur.toList.take (off*row.length)++cs++cur.toList.drop (off*row.length+cs.length)).take (l.length*row.length)=
     (cur.toList.take (l.length*row.length)).take (off*row.length)++cs++(cur.toList.take (l.length*row.length)).drop ((off+m'.length)*row.length):=by
    rw [List.take_take,Nat.min_eq_left w!,List.take_append,l? (by simp;omega),y?,<-hlen,List.drop_take];congr 1
    congr 1
    simp;omega
   have e1:(cur.toList.take (off*row.length)++cs++cur.toList.drop (off*row.length+cs.length)).toArray.toList=cur.toList.take (off*row.length)++cs++cur.toList.drop (off*row.length+cs.length):=by simp
   rw [e1,tR];have s1:=eW l _ off hL;have s2:=eW l _ (off+m'.length) hL;exact bm (λc x hx=>bw hK row c x hx) _ _ (jh _ _ _ _ (jh _ _ _ _ s1.1 dm) s2.2)
 grind
def TH(hT:bx T P)(hB:aq C A β st a w){dst:Option Nat}(hd:∀t,dst=some t->t<st.n){t t' ty:TypeId}{s x:AV}{vs vx:Value}(hs:aa w A β vs s)(hx:aa w A β vx x){out:Out}
  (h:sf T st.h t t' s x=some out) (hc:∀p∈out.cond,p):∃v' w',(Builtin.copy_ #[t,t'] ty #[vs,vx]).run P w= .ok v' w'/\Rel C (st.put dst out) (a.put dst v') w':=by
 unfold sf at h;split at h
 . rename_i k;split at h
   . rename_i e row l hk;cases hq:aZ T t row.length with
     |false=>grind
     |true=>
      simp only [hq,I!] at h;obtain⟨el,i,hu,hi,cZ,lL⟩:=ez hT hq;split at h
      . rename_i m hm;simp only [A!] at h;subst h;obtain⟨cs,gI⟩:=Jk (P:=P) hB hx hm;simp only [aa] at hs;obtain⟨rfl,_⟩:=hs;rcases fJ hB hk with⟨g1,g2⟩|⟨b,cap,cur,g1,g2,g3,g4,g5,g6,g7⟩
        . subst g2;have hf:=gI.first w rfl 0 (Nat.zero_le _);rw [g1];refine⟨_,_,y4 (ty:=ty) hu hi gI.len x!,?_⟩;have:=hB.same (dst:=dst) hd (c:=[]) (r:=.int .i64 0) (v:=.int .i64 0) hk (by simp [aa,lo,Vg.hi]);grind[Rel.iV]
        . simp only [O?,w?] at g7;have hn:min m.length l.length<=m.length:=Nat.min_le_left _ _;have hf:=gI.first w rfl _ hn;have BL:=(eW m cs (min m.length l.length) gI.rd).1;have hlen:=fx _ _ BL;have QJ:(m.take (min m.length l.length)).length=min m.length l.length:=by simp
          have hr:=Kh (P:=P) (ty:=ty) (t':=t') (dLen:=l.length) (dCap:=cap) (off:=0) hu hi g2 gI.len x! (yT _ _ BL) (by
           rw [hlen,QJ,g5];have :min m.length l.length*row.length<=cap*row.length:=I? _ w!;omega)
          rw [g1];refine⟨_,_,hr,?_⟩;have TI:=Ge hB hd hk g1 (off:=0) (c:=[]) BL w! (λw'=>vN (w:=w') (min m.length l.length) w!) g2 g5 g3 g4 g6 g7
          have e1:m.take l.length++l.drop m.length=l.take 0++m.take (min m.length l.length)++l.drop (0+(m.take (min m.length l.length)).length):=by
           rw [QJ];rcases Nat.le_total m.length l.length with hh|hh
           . grind
           simp_all
          grind
      grind
   grind
 . rename_i k sz off n;split at h
   . rename_i e row l hk;cases hq:(aZ T t row.length&&Nat.beq sz row.length) with
     |false=>grind
     |true=>
      simp only [hq,I!] at h;simp only [B!] at hq;obtain⟨q1,q2⟩:=hq;have q2:=C! q2;subst q2;obtain⟨el,i,hu,hi,cZ,lL⟩:=ez hT q1;split at h
      . rename_i m hm;simp only [A!] at h;subst h;obtain⟨cs,gI⟩:=Jk (P:=P) hB hx hm;have hon:=dW hc;simp only [aa] at hs;rcases hs with⟨hn0,ad,cap,hv,Cx⟩|⟨b',mm,jg,Cw,hv,Tp,az3,az4,az5⟩
        . subst hn0;have hf:=gI.first w rfl 0 (Nat.zero_le _);simp only [Nat.zero_mul,List.take_zero] at hf;rw [hv];refine⟨_,_,y4 (ty:=ty) hu hi gI.len x!,?_⟩;have:=hB.same (dst:=dst) hd (c:=[off+0<=l.length]) (r:=.int .i64 0) (v:=.int .i64 0) hk (by simp [aa,lo,Vg.hi]);simpa using Rel.iV this
        . rcases fJ hB hk with⟨g1,g2⟩|⟨b,cap,cur,g1,g2,g3,g4,g5,g6,g7⟩
          . grind
          . rw [g1] at hv;obtain⟨rfl,rfl,rfl⟩:=hv;have hn:min m.length n<=m.length:=Nat.min_le_left _ _;have hf:=gI.first w rfl _ hn;have BL:=(eW m cs (min m.length n) gI.rd).1;have hlen:=fx _ _ BL;have QJ:(m.take (min m.length n)).length=min m.length n:=by simp
            have hr:=Kh (P:=P) (ty:=ty) (t':=t') (dLen:=n) (dCap:=Cw) (off:=off*row.length) hu hi g2 gI.len x! (yT _ _ BL) (by
             rw [hlen,QJ,g5,<-y?];exact I? _ w!)
            grind[Ge,vN]
      grind
   grind
 grind
end
end Go.Vg

end
section
namespace Go.Vg
open Go
variable [HP]
section
variable {P:Program} {C:Ctx} {A A':Nat->Prop} {β:Nat->Value} {st:St} {a:Act} {w:World} {T:bY}
def TJ {t ty e:TypeId}{i:TypeInfo}(hu:P.underlying t=some (.slice e))(hi:P.info? e=some i){z:Value}(hz:i.zero=some z){b off n cap:Nat}{cur:Array Value}{be:TypeId}(hg:w.heap[b]? =some (.cells cur be (0,0)))
  {cs:List Value} (dm:(Builtin.zeroCells z.cells n).toList=cs) (h1:∀u∈cs,u.oneCell'=true) (HG:off+cs.length<=cur.size) (hn:0<n):
  (Builtin.clear_ #[t] ty #[.slice (some ⟨b,off,none⟩) n cap]).run P w= .ok (.tuple #[]) (w.setRow b (cur.toList.take off++cs++cur.toList.drop (off+cs.length)).toArray):=by
 have qX:=run_storeCells_at P b off be cs 0 cur w hg w! h1;obtain⟨m,rfl⟩:∃m,n=m+1:=⟨n-1,w!⟩;simp_all[Builtin.clear_,run_underlying,zeroValue,typeInfo,hi]
def QP(hT:bx T P)(hB:aq C A β st a w){dst:Option Nat}(hd:∀t,dst=some t->t<st.n){t ty:TypeId}{x:AV}{vx:Value}(hx:aa w A β vx x){out:Out}
  (h:r6 T st.h t x=some out) (hc:∀p∈out.cond,p):∃v' w',(Builtin.clear_ #[t] ty #[vx]).run P w= .ok v' w'/\Rel C (st.put dst out) (a.put dst v') w':=by
 have aeZ:∀w',aa w' A β (.tuple #[]) (.bn []):=λw'=>by simp only [aa];exact⟨#[],rfl,by rfl⟩
 unfold r6 at h;split at h
 . rename_i k sz off n;split at h
   . rename_i e row l hk;split at h
     . rename_i el te he iz;obtain⟨hu,yU,i,hi,oK,Kc,Ga⟩:=sk hT he iz;cases hq:(aZ T t row.length&&Nat.beq sz row.length&&Nat.beq row.length te.size&&di row te.zero) with
       |false=>grind
       |true=>
        simp only [hq,cond_true,Option.some.injEq] at h;subst h;simp only [Bool.and_eq_true] at hq;obtain⟨⟨⟨q0,q1⟩,q2⟩,q3⟩:=hq;have q1:=Nat.eq_of_beq_eq_true q1;have q2:=Nat.eq_of_beq_eq_true q2;subst q1;obtain⟨el',i',lX,e7,aEN,lL⟩:=ez hT q0;have hz:=aDl (w:=w) (A:=A) q3;have hzl:=ia row _ _ hz;have hzs:te.zero.cells.size=te.size:=by grind
        rcases hx with⟨hn0,ad,cap,hv,Cx⟩|⟨b',mm,jg,Cw,hv,Tp,az3,az4,az5⟩
        . subst hn0;rw [hv];refine⟨.tuple #[],w,by cases ad<;>simp [Builtin.clear_,run_underlying hu],?_⟩;have:=hB.same (dst:=dst) hd (c:=[off+0<=l.length]) (r:=.bn []) (v:=.tuple #[]) hk (aeZ w);simpa using Rel.iV this
        . rcases fJ hB hk with⟨g1,g2⟩|⟨b,cap,cur,g1,g2,g3,g4,g5,g6,g7⟩
          . grind
          . rw [g1] at hv;obtain⟨rfl,rfl,rfl⟩:=hv
            have ji:(Builtin.zeroCells te.zero.cells n).toList=(List.replicate n te.zero.cells.toList).flatten:=by
             have:=oL te.zero.cells w! n;simp_all[Builtin.zeroCells]
            have BL:=so hz n;have hlen:=fx _ _ BL;rw [List.length_replicate] at hlen;rw [Tp];by_cases hn:n=0
            . subst hn;refine⟨.tuple #[],w,by simp [Builtin.clear_,run_underlying hu],?_⟩;have:=hB.same (dst:=dst) hd (c:=[off+0<=l.length]) (r:=.bn []) (v:=.tuple #[]) hk (aeZ w);simpa using Rel.iV this
            . have hr:=TJ (P:=P) (ty:=ty) (n:=n) (cap:=Cw) (off:=off*row.length) hu hi Ga g2 ji (yT _ _ BL) (by
               rw [hlen,g5,<-y?];exact I? _ w!) w!
              refine⟨_,_,hr,?_⟩;have TI:=Ge hB hd hk g1 (off:=off) (c:=[off+n<=l.length]) (r:=.bn []) (v:=.tuple #[]) BL (by rw [List.length_replicate];omega) aeZ g2 g5 g3 g4 g6 g7;rw [List.length_replicate] at TI;exact TI
     grind
   grind
 grind
end
end Go.Vg

end
section
namespace Go.Vg
open Go
variable [HP]
section
variable {P:Program} {C:Ctx} {A A':Nat->Prop} {β:Nat->Value} {st:St} {a:Act} {w:World} {T:bY}
def Eg:∀(u:B8) (cs:List Value),dc (br w A [.int .u8]) cs u->cs=u.map λb=>Value.int .u8 (b.toNat:Int)
 |[],cs,h=>by grind[dc]
 |b::u,cs,⟨c1,c2,hc,h1,h2⟩=>by
  subst hc;obtain⟨v,vs,rfl,h3,rfl⟩:=h1;rw [Eg u c2 h2];simp;exact h3.1
def foldl_push:∀(u:B8) (r:ByteArray),(u.map λb=>(b.toNat:Int)).foldl (λr n=>r.push (UInt8.ofNat n.toNat)) r=⟨(r.data.toList++u).toArray⟩
 |[],r=>by simp
 |b::u,r=>by
  simp;rw [foldl_push u];simp
def y5(hB:aq C A β st a w){x:AV}{v:Value}(hx:aa w A β v x){u:B8}(h:mZ st.h [.int .u8] x=some u)(HK:∀n c,v= .slice none n c->n=0)(Eh:∃ad n c,v= .slice ad n c):
  (Conv.bytesToString v).run P w= .ok (.string ⟨u.toArray⟩) w/\u.length<=maxLen:=by
 obtain⟨cs,gI⟩:=Jk (P:=P) hB hx h;have dm:=Eg u cs gI.rd;obtain⟨ad,n,c,rfl⟩:=Eh
 have hn:n=u.length:=by
  have:=gI.len;simp_all[Builtin.lenOf]
 refine⟨?_,gI.max⟩;cases ad with
 |none=>
  have:=HK n c rfl;have hu:u=[]:=V! w!;subst hu;rfl
 |some p=>
  have hf:=gI.first w rfl u.length (S! _);have hl:=fx (row:=[.int .u8]) u cs gI.rd;rw [<-hl,List.take_length] at hf
  have aui:(loadCells p n).run P w= .ok ((u.map λb=>(b.toNat:Int)).map (Value.int .u8)).toArray w:=by
   simp_all[Builtin.firstCells,Nat.mul_one]
  rw [run_bytesToString w p n c _ aui,foldl_push];simp
def y6(hB:aq C A β st a w){dst:Option Nat}(hd:∀t,dst=some t->t<st.n){e:TypeId}{u:B8}(hu:u.length<=maxLen){c:List Prop}:
  ∃v' w',(Conv.stringToBytes e ⟨u.toArray⟩).run P w= .ok v' w'/\Rel C (st.put dst {cond:=c,res:=.sl [.int .u8] u}) (a.put dst v') w':=by
 let cap:=grownCap w u.length 0 e
 have Ox:u.length<=cap:=grownCap_ge w u.length 0 e;have Cx:cap<=maxLen:=grownCap_le_maxLen w u.length 0 e hu;let arr:Array Value:=(u.map λb=>Value.int .u8 (b.toNat:Int)).toArray++Array.replicate (cap-u.length) (.int .u8 0)
 let w':World:=(w.drew.alloc (.cells arr e)).freeze ⟨w.heap.size,arr.size,none⟩ 1
 have fg:(Conv.stringToBytes e ⟨u.toArray⟩).run P w= .ok (.slice (some ⟨w.heap.size,0,none⟩) u.length cap) w':=by
  have QQ:(w.drew.alloc (.cells arr e)).shape? w.heap.size=some (e,arr.size):=by
   have:=heap_alloc_new w.drew (.cells arr e);simp_all[World.shape?]
  have h1:(⟨u.toArray⟩:ByteArray).size=u.length:=yN u;simp only [Conv.stringToBytes,Sem.run_bind,run_choose,Question.forced,O?,w?,Result.andThen_ok,h1,newRow,run_newObj,Sem.run_pure,markStringish,run_shape];have hg:(Question.appendCap u.length 0 e).cut (w.tape w.drawn (Question.appendCap u.length 0 e))=cap:=rfl;rw [hg]
  have y7:Array.map (λb:UInt8=>Value.int IntKind.u8 (b.toNat:Int)) u.toArray++Array.replicate (cap-u.length) (Value.int IntKind.u8 0)=arr:=by
   grind
  rw [y7];have hw2:({heap:=w.heap.push (Obj.cells arr e),tape:=w.tape,drawn:=w.drawn+1,os:=w.os,output:=w.output}:World)=w.drew.alloc (.cells arr e):=rfl;grind[run_freeze,Result.andThen_ok]
 have jJ:∀b,b<w.heap.size->w'.heap[b]? =w.heap[b]? :=by
  intro b hb;have h2:(w.drew.alloc (.cells arr e)).heap[b]? =w.heap[b]? :=lZ (w:=w.drew) _ b hb;simp only [w',World.freeze,Nat.one_ne_zero,if_false,Array.getElem?_modify];grind
 have dV:∃fz,w'.heap[w.heap.size]? =some (.cells arr e fz):=by
  have h2:(w.drew.alloc (.cells arr e)).heap[w.heap.size]? =some (.cells arr e):=heap_alloc_new w.drew _;simp only [w',World.freeze,Nat.one_ne_zero,if_false,Array.getElem?_modify,if_true,h2,Option.map_some];grind
 have nb:w'.heap.size=w.heap.size+1:=by
  have :(w.drew.alloc (.cells arr e)).heap.size=w.heap.size+1:=by simp
  simp only [w',World.freeze,Nat.one_ne_zero,w?,Array.size_modify];omega
 let A':Nat->Prop:=λb=>A b\/b=w.heap.size
 have hK:b7 w w' A A':=λb hb=>⟨.inl hb,jJ b (hB.bound b hb)⟩;refine⟨_,w',fg,A',β,?_⟩;refine hB.step (out:={cond:=c,res:=.sl [.int .u8] u}) hd (by simp [ah]) (by simp [ah]) (λ_ _=>rfl) hK rfl rfl rfl w! (λb hb _=>jJ b hb) ?_ ?_ (by simp [ah]) (by simp [ah]) (by simp [ah]) (by simp [ah]) ?_
 . intro b hb;rcases hb with hb|rfl
   . have:=hB.bound b hb;omega
   omega
 . grind
 . refine⟨_,cap,_,rfl,Ox,Cx,J8 u,λ_=>⟨w.heap.size,0,rfl,.inr rfl,λj v hj=>?_⟩⟩;simp only [World.cell?,dV,Nat.zero_add];grind
theorem ae0 {row:List Ty}{n c:Nat}{l:List (Row row)}(h:Rd w A (.slice row) (.slice none n c) l)(hp:0<row.length):n=0:=by
 obtain⟨ad,cap,cs,h1,h2,h3,h4,h5⟩:=h;obtain⟨rfl,rfl,rfl⟩:=h1;grind[fx,List.length_nil,Nat.mul_eq_zero]
def WD(hB:aq C A β st a w){x:AV}{v:Value}(hx:aa w A β v x)(hn:wJ x=true){u:B8}(h:mZ st.h [.int .u8] x=some u):
  (∃ad n c,v= .slice ad n c)/\∀n c,v= .slice none n c->n=0:=by
 have Eh:∀ {row:List Ty} {l:List (Row row)},row=[.int .u8]->Rd w A (.slice row) v l->(∃ad n c,v= .slice ad n c)/\∀n c,v= .slice none n c->n=0:=by
  grind[wT,Value.slice.injEq,ae0]
 unfold mZ at h;split at h
 . grind[wJ]
 . simp [aa] at hx;grind
 . cases x with
   |sl r l=>
    obtain⟨e,_⟩:=im h;exact Eh e hx
   |full r l=>
    grind[hX,im,aa]
   |own k=>
    grind[hX,aa,nS,Value.slice.injEq]
   |pre k n=>
    simp [aa] at hx;grind
   |view k sz off n=>
    grind[aa]
   |_=>grind[hX]
def ae1(P:Program)(C:Ctx)(st:St)(a:Act)(w:World)(d:Option Nat)(out:Out)(s:Sem Value):Prop:=∃v w',s.run P w= .ok v w'/\Rel C (st.put d out) (a.put d v) w'
def Reads.sq(hB:aq C A β st a w){dst:Option Nat}(hd:∀t,dst=some t->t<st.n){s:Sem Value}{out:Out}(h:Reads P A β w s out):ae1 P C st a w dst out s:=
 let⟨hq,v,h1,h2⟩:=h
 ⟨v,w,h1,Rel.iV (hB.quiet hd hq h2)⟩
theorem WE(hT:bx T P)(hB:aq C A β st a w){dst:Option Nat}(hd:∀t,dst=some t->t<st.n){s d:TypeId}{k:Nat}{v:Value}(hx:aa w A β v (.own k)){out:Out}
  (h:AJ T st.h s d k=some out) (hc:∀p∈out.cond,p):ae1 P C st a w dst out (convert s d v):=by
 unfold AJ at h;cases hsd:Nat.beq s d with
 |false=>grind
 |true=>
  have hsd:=C! hsd;subst hsd;simp at h;split at h
  . rename_i ts Bs;have uK:=lW hT Bs;split at h
    . rename_i e yp;rw [yp] at uK;split at h
      . rename_i te e0 row l iz hk;have hue:=lW hT iz;split at h
        . rename_i l' QR mD;rw [QR] at hue;obtain⟨he,hl⟩:=im mD;subst he;simp only at hl;subst hl;simp at h;subst h;have lL:0<l.length:=dW hc;obtain⟨xs,ho,qK,kD⟩:=hB.blocks k _ hk;rcases ho.2 with⟨_,h0⟩|⟨g,cap,cur,hv,_,hg,hn,Ox,cZ,yR⟩
          . omega
          . have QC:ag (β k)=some g:=by rw [hv];rfl
            have az6:¬A g:=by grind
            have aEO:g<w.heap.size:=(O!.1 hg).1;rw [hx.1,hv];let w':World:=w.freeze ⟨g,cur.size,none⟩ 1
            have QQ:w.shape? g=some (e0,cur.size):=by grind[World.shape?]
            have fg:(convert s s (.slice (some ⟨g,0,none⟩) l.length cap)).run P w= .ok (.slice (some ⟨g,0,none⟩) l.length cap) w':=by
             simp only [convert,Sem.run_bind,run_underlying uK,run_underlying hue,Result.andThen_ok,beq_self_eq_true,markStringish,run_shape,QQ,run_freeze,Sem.run_pure];rfl
            have jJ:∀b,b≠g->w'.heap[b]? =w.heap[b]? :=by
             intro b hb;simp only [w',World.freeze,Nat.one_ne_zero,if_false,Array.getElem?_modify];grind
            have dV:∃fz,w'.heap[g]? =some (.cells cur e0 fz):=by
             simp only [w',World.freeze,Nat.one_ne_zero,if_false,Array.getElem?_modify,if_true,hg,Option.map_some];grind
            obtain⟨fz,dV⟩:=dV;have nb:w'.heap.size=w.heap.size:=by simp only [w',World.freeze,Nat.one_ne_zero,w?,Array.size_modify]
            have hK:b7 w w' A (λb=>A b\/b=g):=λb hb=>⟨.inl hb,jJ b (λh=>az6 (h▸hb))⟩;have az7:nq st {cond:=[0<l.length],res:=.sl [.int .u8] l,del:=[k]} k:=⟨x!,.inr (by simp [au])⟩;refine⟨_,w',fg,λb=>A b\/b=g,β,?_⟩;refine hB.step (out:={cond:=[0<l.length],res:=.sl [.int .u8] l,del:=[k]}) hd (by simp [ah]) (by simp [ah]) (λ_ _=>rfl) hK rfl rfl rfl w! (λb hb hnt=>jJ b (λh=>hnt k az7 x!)) ?_ ?_ (by simp [ah]) (by simp [ah]) (by simp [ah]) (by simp [ah]) ?_
            . intro b hb;rcases hb with hb|rfl
              . have:=hB.bound b hb;omega
              omega
            . grind
            . refine⟨_,cap,xs,rfl,hn,Ox,bm (λc x hx=>bw hK _ c x hx) _ _ qK,λ_=>⟨g,0,rfl,.inr rfl,λj u hj=>?_⟩⟩;rw [<-yR,v?] at hj;simp_all[World.cell?,q?,Option.isSome_none,O?,w?]
        grind
      grind
    grind
  grind
def Ki(hT:bx T P)(hB:aq C A β st a w){dst:Option Nat}(hd:∀t,dst=some t->t<st.n){s d:TypeId}{x:AV}{v:Value}(hx:aa w A β v x){out:Out}
  (h:oh T st.h s d x=some out) (hc:∀p∈out.cond,p):ae1 P C st a w dst out (convert s d v):=by
 unfold oh at h;split at h
 . rename_i ts td Bs htd;have uK:=lW hT Bs;have hud:=lW hT htd;split at h
   . rename_i k0 k k' n yp Cs;rw [yp] at uK;rw [Cs] at hud;simp only [aa] at hx;obtain⟨rfl,hn⟩:=hx
     have fg:(convert s d (.int k' n)).run P w= .ok (.int k (k.wrap n)) w:=by
      simp_all[convert,run_underlying,Conv.intToInt]
     split at h
     . rename_i hr;simp only [A!] at h;subst h;have NM:lo k<=n/\n<=hi k:=by omega
       rw [yM NM] at fg;exact Reads.sq hB hd ⟨⟨rfl,rfl,rfl⟩,_,fg,by simp_all[aa,trivial]⟩
     . obtain⟨hq,hr,_⟩:=pS (w:=w) (A:=A) (β:=β) h hc;exact Reads.sq hB hd ⟨hq,_,fg,hr⟩
   . rename_i u yp Cs;rw [yp] at uK;rw [Cs] at hud;simp only [A!] at h;subst h;have Bq:=hx;simp only [aa] at hx;exact Reads.sq hB hd ⟨⟨rfl,rfl,rfl⟩,_,by simp_all[convert,run_underlying],Bq⟩
   . rename_i e u yp Cs;rw [yp] at uK;rw [Cs] at hud;simp only [aa] at hx;obtain⟨rfl,hn⟩:=hx;split at h
     . rename_i te iz;have hue:=lW hT iz;split at h
       . rename_i QR;rw [QR] at hue;simp only [A!] at h;subst h;obtain⟨v',w',h1,h2⟩:=y6 (P:=P) hB hd (e:=e) hn (c:=[]);exact⟨v',w',by simp_all[convert,run_underlying],h2⟩
       grind
     grind
   . rename_i e yp Cs;rw [yp] at uK;rw [Cs] at hud;split at h
     . rename_i te iz;have hue:=lW hT iz;split at h
       . rename_i QR;rw [QR] at hue;split at h
         . rename_i u hns hu;simp only [A!] at h;subst h;have hvs:=WD hB hx hns hu;obtain⟨h1,h2⟩:=y5 (P:=P) hB hx hu hvs.2 hvs.1;obtain⟨ad,n,c,rfl⟩:=hvs.1;refine Reads.sq hB hd ⟨⟨rfl,rfl,rfl⟩,.string ⟨u.toArray⟩,?_,by simp_all[aa,trivial]⟩;simp_all[convert,run_underlying]
         grind
       grind
     grind
   . grind[WE]
   grind
 grind
end
end Go.Vg

end
section
namespace Go.Vg
open Go
variable [HP]
structure jX (w:World) (A:Nat->Prop) (w':World) (v:Value) (res:AV) (bs:List AB) (A':Nat->Prop) (aw:Nat->Value):Prop where
 os:w'.os=w.os
 tape:w'.tape=w.tape
 output:w'.output=w.output
 size:w.heap.size<=w'.heap.size
 same:∀b,b<w.heap.size->w'.heap[b]? =w.heap[b]?
 mono:∀b,A b->A' b
 gH:∀b,b<w.heap.size->A' b->A b
 bound:∀b,A' b->b<w'.heap.size
 res:aa w' A' aw v res
 rows:∀i ab,bs[i]? =some ab->BR w' A' aw i ab/\∀b,ag (aw i)=some b->w.heap.size<=b
 apart:∀i j b,i<bs.length->j<bs.length->ag (aw i)=some b->ag (aw j)=some b->i=j
def Valid(P:Program)(G:Nat->Option GD)(f:FuncId)(s:Qz):Prop:=
 ∀(w:World) (A:Nat->Prop) (β:Nat->Value) (args:List Value) (aX:List AV) (pre:Prop) (res:AV) (bs:List AB),
  (∀b,A b->b<w.heap.size)->(∀i d,G i=some d->na w A i d)->ae w A β args aX->s aX=some (pre,res,bs)->pre->
  Calls P f args.toArray w λe w'=>∃v,e= .returned v/\∃A' aw,jX w A w' v res bs A' aw
def HM(β:Nat->Value)(n b:Nat):Prop:=∃i,i<n/\ag (β (50000+i))=some b
def y8(r:bk)(k:Nat):Prop:=(∃i ab,k=50000+i/\i<10000/\r.heap[i]? =some (some ab))\/∃j,k=60000+j/\j<r.new.length
structure Gf (w:World) (A:Nat->Prop) (β:Nat->Value) (n:Nat) (w':World) (v:Value) (r:bk) (A':Nat->Prop) (aw:Nat->Value):Prop where
 os:w'.os=w.os
 tape:w'.tape=w.tape
 output:w'.output=w.output
 size:w.heap.size<=w'.heap.size
 same:∀b,b<w.heap.size->¬HM β n b->w'.heap[b]? =w.heap[b]?
 mono:∀b,A b->A' b/\w'.heap[b]? =w.heap[b]?
 gH:∀b,b<w.heap.size->A' b->A b\/HM β n b
 bound:∀b,A' b->b<w'.heap.size
 res:aa w' A' aw v r.res
 kept:∀i ab,r.heap[i]? =some (some ab)->BR w' A' aw (50000+i) ab/\aw (50000+i)=β (50000+i)
 rows:∀j ab,r.new[j]? =some ab->BR w' A' aw (60000+j) ab/\∀b,ag (aw (60000+j))=some b->w.heap.size<=b\/HM β n b
 apart:∀k k' b,y8 r k->y8 r k'->ag (aw k)=some b->ag (aw k')=some b->k=k'
def ay(P:Program)(G:Nat->Option GD)(f:FuncId)(s:cX):Prop:=
 ∀(w:World) (A:Nat->Prop) (β:Nat->Value) (args:List Value) (aX:List AV) (hs:List AB) (r:bk),
  (∀b,A b->b<w.heap.size)->(∀i d,G i=some d->na w A i d)->ae w A β args aX->
  (∀i ab,hs[i]? =some ab->BR w A β (50000+i) ab)->(∀i j b,i<hs.length->j<hs.length->ag (β (50000+i))=some b->ag (β (50000+j))=some b->i=j)->
  s aX hs=some r->r.pre->r.heap.length=hs.length->hs.length<=100->
  Calls P f args.toArray w λe w'=>∃v,e= .returned v/\∃A' aw,Gf w A β hs.length w' v r A' aw
section
variable {P:Program} {C:Ctx} {A A':Nat->Prop} {β aw:Nat->Value} {st:St} {a:Act} {w:World} {T:bY}
theorem Kj {β aw:Nat->Value}:∀(cs:List AV) (vs:List Value),cs.all JX=true->ae w A β vs cs->ae w A aw vs cs
 |[],vs,_,h=>by grind[ae]
 |c::cs,vs,ho,h=>by
  simp only [List.all_cons,Bool.and_eq_true] at ho;obtain⟨v,bS,rfl,h1,h2⟩:=h;refine⟨v,bS,rfl,?_,Kj cs bS ho.2 h2⟩;have QS:=ho.1;unfold JX at QS;split at QS
  . simpa only [aa,ae] using h1
  . cases QS
def Oy {β aw:Nat->Value}:∀(cs:List AV) (vs:List Value),cs.all aeK=true->ae w A β vs cs->ae w A aw vs cs
 |[],_,_,h=>h
 |.cN _ _ _::cs,_,ho,h=>by
   obtain⟨v,bS,rfl,h1,h2⟩:=h;exact⟨v,bS,rfl,h1,Oy cs bS ho h2⟩
mutual
theorem wY(base n:Nat)(bt:∀i,i<n->aw (base+i)=β i):∀(x:AV) (v:Value),kC n x=true->aa w A β v x->aa w A aw v (dN base x)
 |.own k,v,ho,h=>by
   simp only [kC] at ho;have:=M! ho;simp only [dN,aa] at h |-;rw [bt k w!];exact h
 |.agg cs,v,ho,h=>by
   simp only [kC] at ho;simp only [dN,aa] at h |-;obtain⟨arr,h1,h2⟩:=h;exact⟨arr,h1,y9 base n bt cs _ ho h2⟩
 |.bn cs,v,ho,h=>by
   simp only [kC] at ho;simp only [dN,aa] at h |-;obtain⟨arr,h1,h2⟩:=h;exact⟨arr,h1,y9 base n bt cs _ ho h2⟩
 |.cr,v,ho,h=>by simp [kC] at ho
 |.pre _ _,v,ho,h|.view _ _ _ _,v,ho,h|.ref _ _,v,ho,h|.elem _ _ _ _,v,ho,h=>by simp [kC] at ho
 |.fn _ l m,v,ho,h=>by
   simp only [kC,B!,List.isEmpty_iff] at ho;obtain⟨rfl,ho⟩:=ho;obtain⟨a1,a2,h1,h2,h3⟩:=h;exact⟨a1,a2,h1,h2,Oy m _ ho h3⟩
 |.cN _ _ _,v,ho,h=>by simp [kC] at ho
 |.undef,v,_,h|.int _ _,v,_,h|.bool _,v,_,h|.tt,v,_,h|.ff,v,_,h|.str _,v,_,h|.nil,v,_,h|.jQ,v,_,h|.oC _ _,v,_,h|.k7,v,_,h=>by simpa only [dN,aa] using h
 |.gp ks cs,v,ho,h=>by
   simp only [kC] at ho;simp only [dN,aa] at h |-;obtain⟨b,es,ck,h1,h2,h3,h4,h5⟩:=h;exact⟨b,es,ck,h1,h2,h3,h4,Kj cs _ ho h5⟩
 |.sl _ _,v,_,h|.full _ _,v,_,h=>by simpa only [dN,aa] using h
theorem y9(base n:Nat)(bt:∀i,i<n->aw (base+i)=β i):∀(xs:List AV) (vs:List Value),DQ n xs=true->ae w A β vs xs->ae w A aw vs (r7 base xs)
 |[],vs,_,h=>by simpa only [r7,ae] using h
 |x::xs,vs,ho,h=>by
  simp only [DQ,B!] at ho;simp only [ae] at h;obtain⟨v,bS,rfl,h1,h2⟩:=h;simp only [r7,ae];exact⟨v,bS,rfl,wY base n bt x v ho.1 h1,y9 base n bt xs bS ho.2 h2⟩
end
mutual
theorem Kk:∀(x:AV) (v:Value),x.fj=true->aa w A β v x->aa w A' β v x
 |.own _,v,_,h=>by simpa only [aa] using h
 |.agg cs,v,ho,h=>by
   simp only [AV.fj] at ho;simp only [aa] at h |-;obtain⟨arr,h1,h2⟩:=h;exact⟨arr,h1,za cs _ ho h2⟩
 |.bn cs,v,ho,h=>by
   simp only [AV.fj] at ho;simp only [aa] at h |-;obtain⟨arr,h1,h2⟩:=h;exact⟨arr,h1,za cs _ ho h2⟩
 |.cr,v,ho,h=>by simp [AV.fj] at ho
 |.pre _ _,v,ho,h|.view _ _ _ _,v,ho,h|.ref _ _,v,ho,h|.elem _ _ _ _,v,ho,h|.fn _ _ _,v,ho,h|.cN _ _ _,v,ho,h=>by simp [AV.fj] at ho
 |.jQ,v,ho,h=>by simp [AV.fj] at ho
 |.oC _ _,v,ho,h=>by simp [AV.fj] at ho
 |.k7,v,ho,h=>by simp [AV.fj] at ho
 |.gp _ _,v,ho,h|.sl _ _,v,ho,h|.full _ _,v,ho,h=>by simp [AV.fj] at ho
 |.undef,v,_,h|.int _ _,v,_,h|.bool _,v,_,h|.tt,v,_,h|.ff,v,_,h|.str _,v,_,h|.nil,v,_,h=>by simpa only [aa] using h
theorem za:∀(xs:List AV) (vs:List Value),DP xs=true->ae w A β vs xs->ae w A' β vs xs
 |[],vs,_,h=>by simpa only [ae] using h
 |x::xs,vs,ho,h=>by
  simp only [DP,B!] at ho;simp only [ae] at h |-;obtain⟨v,bS,rfl,h1,h2⟩:=h;exact⟨v,bS,rfl,Kk x v ho.1 h1,za xs bS ho.2 h2⟩
end
def TK:∀(row:List Ty) (vs:List Value) (x:Row row),row.all Jj=true->br w A row vs x->br w A' row vs x
 |[],vs,_,_,h=>by grind[br]
 |t::ts,vs,x,hf,h=>by
  simp only [List.all_cons,B!] at hf;obtain⟨v,bS,rfl,h1,h2⟩:=h;refine⟨v,bS,rfl,?_,TK ts bS _ hf.2 h2⟩;cases t with
  |slice r=>simp [Jj] at hf
  |int k=>simpa only [Rd] using h1
  |bool=>simpa only [Rd] using h1
  |str=>simpa only [Rd] using h1
def tS(base:Nat):∀(bs:List AB) (n k:Nat),ah (fI (base+n) bs) k=(if base+n<=k then bs[k-(base+n)]? else none)
 |[],n,k=>by simp [fI,ah]
 |b::bs,n,k=>by
  simp only [fI,ah];by_cases hk:k=base+n
  . simp_all
  . simp;have:=tS base bs (n+1) k;grind
def BM:∀(bs:List AB) (i:Nat) (ab:AB),jT bs=true->bs[i]? =some ab->∃e row l,ab= .row e row l false
 |[],i,ab,_,h=>by grind
 |.cells _::bs,_,_,h,_|.arr _ _::bs,_,_,h,_|.gG _ _ _ _ _::bs,_,_,h,_|.views _ _ _ _ _::bs,_,_,h,_=>by grind[jT]
 |.row e row l true ::bs,_,_,h,_=>by grind[jT]
 |.row e row l false ::bs,0,ab,_,h=>by grind
 |.row e row l false ::bs,i+1,ab,ho,h=>BM bs i ab (by grind[jT]) x!
def BN:∀(bs:List AB) (i e:Nat) (row:List Ty) (l:List (Row row)) (fr:Bool),dH bs=true->bs[i]? =some (.row e row l fr)->row.all Jj=true
 |[],i,_,_,_,_,_,h=>by grind
 |.cells _::bs,_,_,_,_,_,h,_|.arr _ _::bs,_,_,_,_,_,h,_|.gG _ _ _ _ _::bs,_,_,_,_,_,h,_|.views _ _ _ _ _::bs,_,_,_,_,_,h,_=>by grind[dH]
 |.row e row l fr::bs,0,e',lV,l',FW,ho,h=>by
   simp_all[dH,B!]
 |.row e row l fr::bs,i+1,e',lV,l',FW,ho,h=>by
   simp [dH,B!] at ho;exact BN bs i e' lV l' FW ho.2 (by simpa using h)
def kv {h:aJ}:∀(new:List (Nat×AB)) (k:Nat) (b:AB),iy h new=true->ah new k=some b->h k=none/\pR k=false
 |[],k,b,_,hf=>by grind[ah]
 |(j,x)::r,k,b,ho,hf=>by
  simp [iy,B!] at ho;simp [ah] at hf;by_cases hk:k=j
  . grind
  . simp [aG hk,L!] at hf;exact kv r k b ho.2 hf
theorem aq.call(hB:aq C A β st a w){dst:Option Nat}(hd:∀t,dst=some t->t<st.n){base:Nat}{res:AV}{bs:List AB}{fz:List Nat}{cond:List Prop}{v:Value}{w':World}{A1:Nat->Prop}{oz:Nat->Value}
  (Br:∀j∈fz,∃e row l fr,st.h j=some (.row e row l fr)) (dV:iy st.h (fI base bs)=true) (rG:kC bs.length res=true) (hor:jT bs=true)
  (hp:jX w (cc A β fz) w' v res bs A1 oz):
  Rel C (st.put dst {cond:=cond,res:=dN base res,fE:=bif res.fj&&dH bs then [] else cx st.h fz,new:=fI base bs}) (a.put dst v) w':=by
 let aw:Nat->Value:=λk=>if base<=k/\k<base+bs.length then oz (k-base) else β k
 have Oz:∀i,i<bs.length->aw (base+i)=oz i:=by
  grind
 have Jl:∀k,ah (fI base bs) k=(if base<=k then bs[k-base]? else none):=λk=>by simpa using tS base bs 0 k
 have bt:∀k,ah (fI base bs) k=none->aw k=β k:=by
  grind
 have qM:∀k ab,ah (fI base bs) k=some ab->base<=k/\bs[k-base]? =some ab/\k-base<bs.length:=by
  grind
 have BO:∀k ab,ah (fI base bs) k=some ab->aw k=oz (k-base):=by
  grind
 let A2:Nat->Prop:=bif res.fj&&dH bs then A else A1
 have az8:∀b,A b->A2 b:=by
  intro b hb;simp only [A2];cases res.fj&&dH bs with
  |true=>grind
  |false=>exact hp.mono b (.inl hb)
 have hK:b7 w w' A A2:=λb hb=>⟨az8 b hb,hp.same b (hB.bound b hb)⟩
 have J1:∀k ab,ah (bif res.fj&&dH bs then [] else cx st.h fz) k=some ab->(res.fj&&dH bs)=false/\k∈fz/\∃e row l fr,st.h k=some (.row e row l fr)/\ab= .row e row l true:=by
  grind[dH,ah,jv]
 refine⟨A2,aw,?_⟩;refine hB.step (out:={cond:=cond,res:=dN base res,fE:=bif res.fj&&dH bs then [] else cx st.h fz,new:=fI base bs}) hd (λk b h=>kv _ k b dV h) ?_ bt hK hp.os hp.tape hp.output hp.size (λb hb _=>hp.same b hb) ?_ ?_ ?_ ?_ ?_ ?_ ?_
 . grind
 . intro b hb;simp only [A2] at hb;cases hl:res.fj&&dH bs with
   |true=>rw [hl] at hb;exact N? (hB.bound b hb) hp.size
   |false=>rw [hl] at hb;exact hp.bound b hb
 . intro b hb;simp only [A2] at hb;cases hl:res.fj&&dH bs with
   |true=>grind
   |false=>
    rw [hl] at hb;rcases Nat.lt_or_ge b w.heap.size with iU|NJ
    . rcases hp.gH b iU hb with h|⟨j,hj,Wz⟩
      . exact .inl h
      . have hr:=Br j hj;refine .inr (.inr ⟨j,⟨by obtain⟨_,_,_,_,hr⟩:=hr;simp [hr],.inl ?_⟩,Wz⟩);simp only [L!];exact qx fz j hj hr
    . exact .inr (.inl NJ)
 . intro k ab h _;obtain⟨hl,hk,e,row,l,fr,hr,rfl⟩:=J1 k ab h;rw [mz]
   have hkn:ah (fI base bs) k=none:=by
    cases hh:ah (fI base bs) k with
    |none=>rfl
    |some y=>have:=(kv _ k y dV hh).1;rw [hr] at this;cases this
   obtain⟨xs,h1,h2,h3⟩:=hB.blocks k _ hr;simp only [BR,bt k hkn];refine⟨xs,cI h1 (λb hb=>hp.same b (l4 hB (by simp [hr]) hb)),bm (λc x hx=>bw hK row c x hx) l xs h2,λb hb=>?_⟩;simp only [R?,A2,hl,L!];exact hp.mono b (.inr ⟨k,hk,hb⟩)
 . intro k ab h;obtain⟨h1,h2,h3⟩:=qM k ab h;obtain⟨e,row,l,rfl⟩:=BM bs _ ab hor h2;obtain⟨⟨xs,g1,g2,g3⟩,g4⟩:=hp.rows _ _ h2;simp only [BR,BO k _ h]
   have qK:dc (br w' A2 row) xs l:=by
    simp only [A2];cases hl:res.fj&&dH bs with
    |true=>
     simp only [B!] at hl;exact bm (λc x hx=>TK row c x (BN bs _ e row l false hl.2 h2) hx) l xs g2
    |false=>exact g2
   refine⟨xs,g1,qK,λb hb=>?_⟩;have g3':=g3 b hb;simp only [O?,w?] at g3' |-;simp only [A2];cases hl:res.fj&&dH bs with
   |true=>intro hA;exact absurd (hB.bound b hA) (by have:=g4 b hb;omega)
   |false=>exact g3'
 . intro k b ab h hb;obtain⟨h1,h2,h3⟩:=qM k ab h;rw [BO k _ h] at hb;exact .inl ((hp.rows _ _ h2).2 b hb)
 . intro k k' b h h' hb ek;obtain⟨x,hx⟩:=P!.1 h;obtain⟨y,hy⟩:=P!.1 h';obtain⟨h1,h2,h3⟩:=qM k x hx;obtain⟨g1,g2,g3⟩:=qM k' y hy;rw [BO k _ hx] at hb;rw [BO k' _ hy] at ek;have:=hp.apart _ _ b h3 g3 hb ek;omega
 . have vJ:=wY (aw:=aw) base bs.length Oz res v rG hp.res;simp only [A2];cases hl:res.fj&&dH bs with
   |false=>exact vJ
   |true=>
    simp only [B!] at hl;exact wY (aw:=aw) base bs.length Oz res v rG (Kk res v hl.1 hp.res)
end
end Go.Vg

end
section
namespace Go.Vg
open Go
variable [HP]
def CB(G:Nat->Option GD)(f:FuncId)(t:List AV->Option (Option Nat×CF)):Prop:=
 ∀(w:World) (A:Nat->Prop) (β:Nat->Value) (aR:Array Value) (aX:List AV) (k:Option Nat) (F:CF),(∀i d,G i=some d->na w A i d)->ae w A β aR.toList aX->t aX=some (k,F)->
  ∀p,(∀j,k=some j->p=β j)->HC w A p (.func (.func f) #[] aR) F
structure aU (P:Program) (E:Env):Prop where
 eA:bx E.T P
 sig:∀f s,E.sig f=some s->Valid P E.fQ f s/\cO P f
 qG:∀f m s,E.qG f=some (m,s)->ay P E.fQ f s/\cO P f
 hp:∀Q,HP.is Q↔Q=P
 ca:∀f t,E.ca f=some t->CB E.fQ f t
structure cQ (P:Program) (C:Ctx) (E:Env):Prop where
 ok:aU P E
 g:C.G=E.fQ
theorem cQ.eA {P:Program}{C:Ctx}{E:Env}(h:cQ P C E):bx E.T P:=h.ok.eA
def cQ.qG {P:Program}{C:Ctx}{E:Env}(h:cQ P C E):∀f m s,E.qG f=some (m,s)->ay P E.fQ f s/\cO P f:=h.ok.qG
def cQ.sig {P:Program}{C:Ctx}{E:Env}(h:cQ P C E):∀f s,E.sig f=some s->Valid P E.fQ f s/\cO P f:=h.ok.sig
def eJ(st:St)(o:Oper):Bool:=match o.dst with
 |some d=>Nat.blt d st.n
 |none=>true
section
variable {P:Program} {C:Ctx} {A A':Nat->Prop} {β aw:Nat->Value} {st:St} {a:Act} {w:World} {E:Env}
def l6(hB:aq C A β st a w):∀(xs:List Operand),ae w A β (xs.map a.eval) (xs.map (ev st))
 |[]=>by rfl
 |x::xs=>by
  exact⟨_,_,rfl,az hB x,l6 hB xs⟩
def cF {dst:Option Tmp}{op:Op}{type:TypeId}{pos:String}{after:Array Edge}{guard:Option (Nat×Bool)}{s:Sem Value}{out:Out}
  (hs:∀w,(execOp a.eval ⟨dst,op,type,pos,after,guard⟩).run P w=(s.run P w).andThen λv w'=>.ok (.value v) w') (h:∃v w',s.run P w= .ok v w'/\Rel C (st.put dst out) (a.put dst v) w')
  {K:Act->World->Prop} {Q:Exit->Act->World->Prop} (hK:∀a' w',Rel C (st.put dst out) a' w'->K a' w'):Oper.wp P ⟨dst,op,type,pos,after,guard⟩ a w K Q:=by
 obtain⟨v,w',h1,h2⟩:=h;refine bz (v:=v) (w':=w') ?_ (hK _ _ h2);simp_all
def Kl(hB:aq C A β st a w):∀(x:Option Operand),qw w A β (x.map (ev st)) (x.map a.eval)
 |none=>by simp [qw]
 |some x=>by grind[qw,az]
def Km {d:Nat}{b:AB}(h:iy st.h [(d,b)]=true):st.h d=none/\pR d=false:=kv _ d b h (by simp [ah])
theorem pU {h:aJ}{k:Nat}(hf:fresh h k=true):h k=none/\pR k=false:=by
 grind[fresh]
theorem TL(hE:cQ P C E)(hB:aq C A β st a w){o:Oper}{out:Out}(h:dp E st o=some out)(nu:eJ st o=true)(dV:iy st.h out.new=true)(hc:∀p∈out.cond,p)
  {K:Act->World->Prop} {Q:Exit->Act->World->Prop} (hK:∀a' w',Rel C (st.put o.dst out) a' w'->K a' w'):o.wp P a w K Q:=by
 have hd:∀t,o.dst=some t->t<st.n:=by
  intro t ht;simp_all[eJ,M!]
 obtain⟨dst,op,type,pos,after,guard⟩:=o;simp only at hd hK;cases op with
 |move x=>
  simp only [dp,A!] at h;subst h;exact bz (by rfl) (hK _ _ (Rel.iV (hB.quiet hd ⟨rfl,rfl,rfl⟩ (az hB x))))
 |assign x=>
  simp only [dp,A!] at h;subst h;exact bz (by rfl) (hK _ _ (Rel.iV (hB.quiet hd ⟨rfl,rfl,rfl⟩ (az hB x))))
 |pick c x y=>
  simp only [dp] at h;have Ed:=az hB c;have hx:=az hB x;have hy:=az hB y;split at h
  . rename_i QT;simp only [A!] at h;subst h;rw [QT] at Ed;simp only [aa] at Ed;exact bz (v:=a.eval x) (by simp_all[execOp,asBool]) (hK _ _ (Rel.iV (hB.quiet hd ⟨rfl,rfl,rfl⟩ hx)))
  . rename_i QT;simp only [A!] at h;subst h;rw [QT] at Ed;simp only [aa] at Ed;exact bz (v:=a.eval y) (by simp_all[execOp,asBool]) (hK _ _ (Rel.iV (hB.quiet hd ⟨rfl,rfl,rfl⟩ hy)))
  . rename_i p QT;simp only [Option.some.injEq] at h;subst h;rw [QT] at Ed;simp only [aa] at Ed;refine bz (v:=if p then a.eval x else a.eval y) (by simp_all[execOp,asBool]) (hK _ _ (Rel.iV (hB.quiet hd ⟨rfl,rfl,rfl⟩ ?_)));grind[BI]
  grind
 |alloc t=>
  simp only [dp] at h;split at h
  . rename_i te d ht;cases h40:Nat.ble te.size 40 with
    |false=>grind
    |true=>
    rw [h40] at h;simp only [I!] at h;cases jF:(ofConst te.zero).cells.all AV.one with
    |false=>grind
    |true=>
     simp only [jF,I!,A!] at h;subst h;exact cF (λw=>by simp [execOp]) (QN hE.eA hB hd (Km dV) ht jF) hK
  grind
 |box t x=>
  simp only [dp] at h;split at h
  . rename_i d;cases jF:(ev st x).cells.all AV.one with
    |false=>grind
    |true=>
     simp only [jF,I!,A!] at h;subst h;exact cF (λw=>by rfl) (WB (t:=t) hB hd (Km dV) (az hB x) jF) hK
  grind
 |build t parts=>
  simp only [dp] at h;refine cF (s:=Instr.build t (parts.map λ(i,x)=>(i,a.eval x))) (λw=>by simp [execOp]) (Reads.sq hB hd (QO hE.eA ?_ ?_ h)) hK
  . simp_all
  . have:=l6 hB (parts.toList.map (·.2));simp_all[Function.comp_def]
 |buildSlice t len parts=>
  simp only [dp] at h;split at h
  . rename_i d;cases hf:fresh st.h (st.kb+d) with
    |false=>grind
    |true=>
    simp only [hf,I!] at h;have hn:=pU hf;refine cF (s:=Instr.buildSlice t len (parts.map λ(i,x)=>(i,a.eval x))) (λw=>by simp [execOp]) (Ef hE.eA hB hd hn ?_ ?_ h) hK
    . simp_all
    . have:=l6 hB (parts.toList.map (·.2));simp_all[Function.comp_def]
  grind
 |load t x=>
  simp only [dp] at h;exact cF (λw=>by simp [execOp]) (Reads.sq hB hd (yL hE.eA hB (az hB x) h hc)) hK
 |store t x y=>
  simp only [dp] at h;have hx:=az hB x;have hy:=az hB y
  have key:∃w',(Instr.storeAt t (a.eval x) (a.eval y)).run P w= .ok () w'/\Rel C (st.put dst out) (a.put dst undef) w':=by
   cases Gg:ev st x with
   |ref k off=>rw [Gg] at h hx;exact vL hE.eA hB hd hx hy h
   |elem k sz i j=>rw [Gg] at h hx;exact Ec hE.eA hB hd hx hy h hc
   |_=>grind[gq]
  obtain⟨w',h1,h2⟩:=key;simp_all[mA,execOp]
 |nilCheck x=>
  simp only [dp] at h;have hx:=az hB x
  have fin:∀r,ev st x=r->out= {cond:=[],res:=r}->(execOp a.eval {dst,op:=.nilCheck x,type,pos,after,guard}).run P w= .ok (.value (a.eval x)) w->Oper.wp P {dst,op:=.nilCheck x,type,pos,after,guard} a w K Q:=by
   intro r hr ho fg;subst ho;exact bz fg (hK _ _ (Rel.iV (hB.quiet hd ⟨rfl,rfl,rfl⟩ x!)))
  split at h
  . rename_i k off hv;simp only [A!] at h;refine fin _ hv h.symm ?_;rw [hv] at hx;simp only [aa] at hx;obtain⟨b,_,hx⟩:=hx;simp [execOp,hx]
  . rename_i r y j hv;simp only [A!] at h;refine fin _ hv h.symm ?_;rw [hv] at hx;simp only [aa] at hx;obtain⟨b,o,cs,hx,_⟩:=hx;simp [execOp,hx]
  . rename_i k sz i j hv;simp only [A!] at h;refine fin _ hv h.symm ?_;rw [hv] at hx;simp only [aa] at hx;obtain⟨b,m,cap,_,hx⟩:=hx;simp [execOp,hx]
  . rename_i f first aR hv
    simp only [A!] at h;refine fin _ hv h.symm ?_;rw [hv] at hx;simp only [aa] at hx;obtain⟨a1,a2,hx,_⟩:=hx;simp [execOp,hx]
  grind
 |binOp op t x y yt=>
  simp only [dp] at h
  exact cF (s:=do eqGuard op t x y (a.eval x) (a.eval y);binOp op t (a.eval x) (a.eval y)) (λw=>by
   simp only [execOp,Sem.run_bind];rfl) (Reads.sq hB hd (Ws hE.eA (az hB x) (az hB y) h hc)) hK
 |unOp op t x=>
  simp only [dp] at h;exact cF (λw=>by simp [execOp]) (Reads.sq hB hd (abI (az hB x) h hc)) hK
 |convert s d x=>
  simp only [dp] at h;exact cF (λw=>by simp [execOp]) (Ki hE.eA hB hd (az hB x) h hc) hK
 |makeFunc f first aR=>
  simp only [dp,A!] at h;subst h;refine bz (v:=.func f (first.map a.eval) (aR.map a.eval)) (by rfl) (hK _ _ (Rel.iV (hB.quiet hd ⟨rfl,rfl,rfl⟩ ?_)));simp only [aa];exact⟨_,_,rfl,by simpa using l6 hB first.toList,by simpa using l6 hB aR.toList⟩
 |makeSlice t l c=>
  simp only [dp] at h;split at h
  . rename_i d;cases hf:fresh st.h (st.kb+d) with
    |false=>grind
    |true=>
    simp only [hf,I!] at h;exact cF (λw=>by simp [execOp]) (Gd hE.eA hB hd (pU hf) (az hB l) (az hB c) h hc) hK
  grind
 |slice t x l hi mx=>
  simp only [dp] at h;exact cF (λw=>by simp [execOp]) (Reads.sq hB hd (QI hE.eA hB (az hB x) (Kl hB l) (Kl hB hi) (Kl hB mx) h hc)) hK
 |fieldAddr s x f=>
  simp only [dp] at h;exact cF (λw=>by simp [execOp]) (Reads.sq hB hd (F3 hE.eA (az hB x) h)) hK
 |field s x f=>
  simp only [dp] at h;have hx:=az hB x;split at h
  . rename_i ft off cs hf hv;split at h
    . rename_i te ht;split at h
      . rename_i r hp;simp only [A!] at h;subst h;rw [hv] at hx;simp only [aa] at hx;obtain⟨arr,hx,hr⟩:=hx;obtain⟨fs,fd,hu,hfd,e1,e2⟩:=HF hE.eA hf;obtain⟨v,g1,g2⟩:=vK hE.eA ht hr hp;refine bz (v:=v) (w':=w) ?_ (hK _ _ (Rel.iV (hB.quiet hd ⟨rfl,rfl,rfl⟩ g2)));simp_all[execOp,Instr.field,run_underlying,asAgg]
      grind
    grind
  grind
 |indexAddr t x i=>
  simp only [dp,tP] at h;exact cF (λw=>by simp [execOp]) (Reads.sq hB hd (F0 hE.eA hB (az hB x) (az hB i) h hc)) hK
 |lookup t x i ok=>
  simp only [dp] at h;have hx:=az hB x;have hi:=az hB i;split at h
  . rename_i ks cs n Gg hiv;rw [Gg] at hx;rw [hiv] at hi;simp only [aa] at hi;refine cF (s:=Instr.lookup t (a.eval x) (a.eval i) ok) (λw=>by simp [execOp]) (Reads.sq hB hd ?_) hK;rw [hi.1];exact NI hE.eA hx h hc
  grind
 |extract x i=>
  simp only [dp] at h;have hx:=az hB x;split at h
  . rename_i vs hv;split at h
    . rename_i r hr;simp only [Option.some.injEq] at h;subst h;rw [hv] at hx;simp only [aa] at hx;obtain⟨arr,hx,hrel⟩:=hx;obtain⟨v,g1,g2⟩:=tO vs _ i r hrel hr;have g1':arr[i]? =some v:=by grind
      exact bz (v:=v) (w':=w) (by simp_all[execOp,Instr.extract]) (hK _ _ (Rel.iV (hB.quiet hd ⟨rfl,rfl,rfl⟩ g2)))
    grind
  grind
 |index t x i=>
  simp only [dp] at h;have hx:=az hB x;have hi:=az hB i;split at h
  . rename_i s k n Gg hiv;cases Cs:cE E.T t rE with
    |false=>grind
    |true=>
    simp only [Cs,cond_true,Option.some.injEq] at h;subst h;obtain⟨h0,h1⟩:=dW hc;obtain⟨dd,hu,aEP⟩:=nT hE.eA Cs;have hu:P.underlying t=some .string:=by grind[rE]
    rw [Gg] at hx;rw [hiv] at hi;simp only [aa] at hx hi;have iU:n.toNat<s.length:=by omega
    refine bz (v:=.int .u8 ((s.getD n.toNat 0).toNat:Int)) (w':=w) ?_ (hK _ _ (Rel.iV (hB.quiet hd ⟨rfl,rfl,rfl⟩ ?_)))
    . have hg:(⟨s.toArray⟩:ByteArray)[n.toNat]? =some (s.getD n.toNat 0):=by
       rw [getElem?_pos _ _ (by grind[yN])];simp [List.getD,List.getElem?_eq_getElem iU];rfl
      simp [execOp,Instr.index,hx.1,hi.1,asIntOf,run_underlying hu,h0,hg]
    . simp only [aa,true_and];have:=(s.getD n.toNat 0).toNat_lt;grind[lo,Vg.hi]
  . rename_i cs k n Gg hiv;rw [Gg] at hx;rw [hiv] at hi;simp only [aa] at hx hi;obtain⟨arr,WG,k9⟩:=hx;exact cF (s:=Instr.index t (.agg arr) (a.eval i)) (λw=>by simp [execOp,WG]) (Reads.sq hB hd (I0 hE.eA k9 hi.1 h hc)) hK
  grind
 |call c=>
  obtain⟨callee,args,argTypes⟩:=c;simp only [dp] at h;split at h
  . rename_i b;split at h
    . rename_i x t bj Bs;have hx:=az hB x;split at h
      . rename_i n hn;cases hq:(bif wJ (ev st x) then cE E.T t fH else cE E.T t rE) with
        |false=>grind
        |true=>
         simp only [hq,cond_true,Option.some.injEq] at h;subst h;have ea:args= #[x]:=by grind
         have et:argTypes= #[t]:=by grind
         subst ea;subst et;rcases Wo hB hx hn with⟨ad,l,c,hv,hl,hm⟩|⟨s,hs,hl⟩
         . have hns:wJ (ev st x)=true:=by
            cases Gg:ev st x<;>first|rfl|skip
            grind[aa]
           rw [hns] at hq;simp only [I!] at hq;obtain⟨d,hu,Cs⟩:=nT hE.eA hq;obtain⟨e,rfl⟩:∃e,d= .slice e:=by cases d<;>simp_all [fH]
           refine bz (v:=.int .i64 (l:Int)) (w':=w) ?_ (hK _ _ (Rel.iV (hB.quiet hd ⟨rfl,rfl,rfl⟩ (by grind[vN]))));simp_all[execOp,resolve,invoke,builtin,Builtin.len_,run_underlying,goInt]
         . rw [hs] at hx hq;simp only [wJ,cond_false] at hq;obtain⟨d,hu,Cs⟩:=nT hE.eA hq;have hu:P.underlying t=some .string:=by grind[rE]
           simp only [aa] at hx;refine bz (v:=.int .i64 (s.length:Int)) (w':=w) ?_ (hK _ _ (Rel.iV (hB.quiet hd ⟨rfl,rfl,rfl⟩ (by grind[vN]))));simp [execOp,resolve,invoke,builtin,hx.1,Builtin.len_,run_underlying hu,goInt,yN]
      grind
    . rename_i x y t t' bj Bs;split at h
      . rename_i d;cases hf:fresh st.h (st.kb+d) with
        |false=>grind
        |true=>
         simp only [hf,cond_true] at h;have ea:args= #[x,y]:=by grind
         have et:argTypes= #[t,t']:=by grind
         subst ea;subst et;exact cF (s:=Builtin.append_ #[t,t'] type #[a.eval x,a.eval y]) (λw=>by simp [execOp,resolve,invoke,builtin]) (NK hE.eA hB hd (pU hf) (az hB x) (az hB y) h hc) hK
      grind
    . rename_i x y t t' bj Bs;have ea:args= #[x,y]:=by grind
      have et:argTypes= #[t,t']:=by grind
      subst ea;subst et;exact cF (s:=Builtin.copy_ #[t,t'] type #[a.eval x,a.eval y]) (λw=>by simp [execOp,resolve,invoke,builtin]) (TH hE.eA hB hd (az hB x) (az hB y) h hc) hK
    . rename_i x t bj Bs;have ea:args= #[x]:=by grind
      have et:argTypes= #[t]:=by grind
      subst ea;subst et;exact cF (s:=Builtin.clear_ #[t] type #[a.eval x]) (λw=>by simp [execOp,resolve,invoke,builtin]) (QP hE.eA hB hd (az hB x) h hc) hK
    . rename_i x y bj;have ea:args= #[x,y]:=by grind
      subst ea;have hx:=az hB x;have hy:=az hB y;split at h
      . rename_i k n k' m Gg hyv;split at h
        . rename_i hk;subst hk;simp only [A!] at h;subst h;rw [Gg] at hx;rw [hyv] at hy;simp only [aa] at hx hy;refine bz (v:=.int k (min n m)) (w':=w) ?_ (hK _ _ (Rel.iV (hB.quiet hd ⟨rfl,rfl,rfl⟩ (by simp only [aa,true_and];omega))));have e:(if m<n then m else n)=min n m:=by omega
          simp_all[execOp,resolve,invoke,builtin,run_min_int2]
        grind
      grind
    . rename_i x y bj;have ea:args= #[x,y]:=by grind
      subst ea;have hx:=az hB x;have hy:=az hB y;split at h
      . rename_i k n k' m Gg hyv;split at h
        . rename_i hk;subst hk;simp only [A!] at h;subst h;rw [Gg] at hx;rw [hyv] at hy;simp only [aa] at hx hy;refine bz (v:=.int k (max n m)) (w':=w) ?_ (hK _ _ (Rel.iV (hB.quiet hd ⟨rfl,rfl,rfl⟩ (by simp only [aa,true_and];omega))));have e:(if m>n then m else n)=max n m:=by omega
          simp_all[execOp,resolve,invoke,builtin,run_max_int2]
        grind
      grind
    grind
  . rename_i f;have hf:=az hB f
    have key:∀(pV:FuncId) (first aR:List AV) (base:Nat),ev st f= .fn (.func pV) first aR->oG E st.h base pV (first++(args.toList.map (ev st))++aR)=some out->
      Oper.wp P {dst,op:=.call {callee:=.value f,args,argTypes},type,pos,after,guard} a w K Q:=by
     intro pV first aR base Ei l7
     rw [Ei] at hf;simp only [aa] at hf;obtain⟨a1,a2,yU,r1,r2⟩:=hf;unfold oG at l7;split at l7
     . rename_i s hs;split at l7
       . rename_i pre res bs hsv;cases hq:(Nat.ble bs.length 100&&kC bs.length res&&jT bs) with
         |false=>grind
         |true=>
          simp only [hq,I!,A!] at l7;subst l7;simp only [B!] at hq;obtain⟨hv,QU⟩:=hE.sig pV s hs;have bj:=eI _ _ _ _ (eI _ _ _ _ r1 (l6 hB args.toList)) r2;obtain⟨p1,p2⟩:=Gb (A':=cc A β (lU st.h (first++(args.toList.map (ev st))++aR)).2) hB (λb h=>.inl h) _ _ bj (λk hk b hb=>.inr ⟨k,hk,hb⟩)
          have TG:∀b,cc A β (lU st.h (first++(args.toList.map (ev st))++aR)).2 b->b<w.heap.size:=by
           intro b h;rcases h with h|⟨j,hj,hb⟩
           . exact hB.bound b h
           . obtain⟨e',r',l',f',hr⟩:=p2 j hj;exact l4 hB x! hb
          have uM:=hv w _ β _ _ pre res bs TG (λi d hi=>(hB.laid i d (by rw [hE.g];omega)).mono (λb h=>⟨.inl h,rfl⟩)) p1 hsv (dW hc)
          have fg:(execOp a.eval {dst,op:=.call {callee:=.value f,args,argTypes},type,pos,after,guard}).run P w= .ok (.enter pV (a1.toList++args.toList.map a.eval++a2.toList).toArray) w:=by
           have e:(a1++args.map a.eval)++a2=(a1.toList++args.toList.map a.eval++a2.toList).toArray:=by
            grind
           have:=QU (a1++args.map a.eval++a2) w;grind[execOp,resolve,Deferred.ofValue,Sem.run_bind,Sem.run_pure,Result.andThen_ok,invoke]
          unfold Oper.wp;rw [fg];simp only [Oper.upon_enter];refine uM.mono λe w' ⟨v,he,A1,oz,sr⟩=>?_;subst he;exact hK _ _ (hB.call hd p2 dV hq.1.2 hq.2 sr)
       grind
     grind
    grind
  grind
 |_=>grind[dp]
end
end Go.Vg

end
section
namespace Go.Vg
open Go
variable [HP]
def iB(base:Nat):AB->AB
 |.views e (some j) n m sz=>.views e (some (base+j)) n m sz
 |b=>b
def gJ(k:Nat):List AB->Bool
 |[]=>true
 |.row _ _ _ false ::r=>gJ k r
 |.views _ (some j) _ _ _::r=>Nat.blt j k&&gJ k r
 |_=>false
def mE(E:Env)(h:aJ)(d f:Nat)(args:List AV):Option Out:=match E.sig f with
 |some s=>match s (lU h args).1 with
  |some (pre,res,bs)=>bif Nat.ble bs.length 100&&kC bs.length res&&gJ bs.length bs then
   some {cond:=[pre],res:=dN (om d) res,fE:=cx h (lU h args).2,new:=fI (om d) (bs.map (iB (om d)))} else none
  |none=>none
 |none=>none
def BP(E:Env)(st:St)(o:Oper):Option Out:=
 let T:=E.T
 let h:=st.h
 let ρ:=ev st
 match o.op with
 |.load t p=>match ρ p,T.find t with
   |.elem k sz i j,some te=>match h k with
     |some (.views _ (some k2) _ m s2)=>bif Nat.beq sz 1&&Nat.beq j 0&&fH te.desc then some {cond:=[i<m],res:=.view k2 1 (i*s2) s2} else none
     |_=>none
   |_,_=>none
 |.store t p v=>match ρ p,ρ v with
   |.elem k sz i j,.view k3 s3 off len=>match h k with
     |some (.views e (some k2) n m s2)=>bif Nat.beq sz 1&&Nat.beq j 0&&(Nat.beq k3 k2&&Nat.beq s3 1)&&gT T t 1 then
       some {cond:=[i=m/\m<n/\off=m*s2/\len=s2],res:=.undef,fE:=[(k,.views e (some k2) n (m+1) s2)]} else none
     |_=>none
   |_,_=>none
 |.slice t x (some lo) (some hi) (some mx)=>match ρ x,ρ lo,ρ hi,ρ mx with
   |.own k,.int _ a,.int _ b,.int _ c=>match h k with
     |some (.row _ row l _)=>bif aZ T t row.length then some {cond:=[0<=a/\a<=b/\b<=c/\c<=(l.length:Int)],res:=.view k row.length a.toNat (b.toNat-a.toNat)} else none
     |_=>none
   |_,_,_,_=>none
 |.indexAddr t x i=>match ρ x,ρ i with
   |.own k,.int _ i=>match h k with
     |some (.views _ _ n _ _)=>bif aZ T t 1 then some {cond:=[0<=i/\i<(n:Int)],res:=.elem k 1 i.toNat 0} else none
     |_=>none
   |_,_=>none
 |.call c=>match c.callee with
   |.builtin b=>match b,c.args.toList,c.argTypes.toList with
     |.len,[x],[t]=>match ρ x with
       |.own k=>match h k with
         |some (.views _ _ n _ _)=>bif cE T t fH then some {cond:=[],res:=.int .i64 (n:Int)} else none
         |_=>none
       |_=>none
     |_,_,_=>none
   |.value f=>match ρ f,o.dst with
     |.fn (.func f) first aR,some d=>mE E h (st.kb+d) f (first++(c.args.toList.map ρ)++aR)
     |.fn (.func f) first aR,none=>mE E h st.kb f (first++(c.args.toList.map ρ)++aR)
     |_,_=>none
   |_=>none
 |_=>none
def Ý(E:Env)(st:St)(o:Oper):Option Out:=match dp E st o with
 |some out=>some out
 |none=>BP E st o
section
variable {P:Program} {C:Ctx} {A A':Nat->Prop} {β aw:Nat->Value} {st:St} {a:Act} {w:World} {E:Env} {T:bY}
theorem pW(hB:aq C A β st a w){k e:Nat}{j:Option Nat}{n m sz:Nat}(h:st.h k=some (.views e j n m sz)):
  (β k= .slice none 0 0/\n=0)\/∃b cap cur,β k= .slice (some ⟨b,0,none⟩) n cap/\w.heap[b]? =some (.cells cur e (0,0))/\n<=cap/\cap<=maxLen/\cur.size=cap/\¬A b/\
    ∀j',j=some j'->∀i,i<m->∃v,(cur.toList.take n)[i]? =some v/\aa w A β v (.view j' 1 (i*sz) sz):=by
 obtain⟨xs,h1,h2,h3⟩:=hB.blocks k _ h;rcases h1.2 with⟨hv,hn⟩|⟨g,cap,cur,hv,_,hg,h4,h5,h6,h7⟩
 . grind
 . refine .inr ⟨g,cap,cur,hv,hg,h4,h5,w!,h2 g (by rw [hv];rfl),λj' hj i hi=>?_⟩;grind
def QV(hB:aq C A β st a w){k e:Nat}{j:Option Nat}{n m sz:Nat}(h:st.h k=some (.views e j n m sz)):n<=maxLen:=by
 grind[pW]
def QW(hT:bx T P)(hB:aq C A β st a w){t:TypeId}{te:TE}{k i e n m s2 k2:Nat}{vp:Value}(hp:aa w A β vp (.elem k 1 i 0))(ht:T.find t=some te)(hs:fH te.desc=true)
  (hk:st.h k=some (.views e (some k2) n m s2)) (hi:i<m):∃v,(Instr.loadAt t vp).run P w= .ok v w/\aa w A β v (.view k2 1 (i*s2) s2):=by
 obtain⟨b,m',cap,bt,rfl⟩:=hp;rcases pW hB hk with⟨hv,_⟩|⟨b',jg,cur,hv,hg,_,_,_,_,hx⟩
 . grind
 . obtain⟨v,e1,e2⟩:=hx k2 rfl i hi;rw [v?] at e1;split at e1
   . have hr:w.rangeAt b i [v]:=by
      intro j u hj;grind[List.getElem?_cons_zero,Option.some.injEq,World.cell?]
     have WH:pick te [.view k2 1 (i*s2) s2] 0=some (.view k2 1 (i*s2) s2):=by
      unfold pick;have :te.desc.mw=false:=by cases hd:te.desc<;>rw [hd] at hs<;>first|rfl|cases hs
      grind
     obtain⟨v',g1,g2⟩:=ju (β:=β) (A:=A) hT ht (cs:=[v]) (by grind[ae]) WH hr;grind
   grind
def NN(hT:bx T P)(hB:aq C A β st a w){dst:Option Nat}(hd:∀t,dst=some t->t<st.n){t:TypeId}{k i e n m s2 k2 off len:Nat}{vp vx:Value}(hp:aa w A β vp (.elem k 1 i 0))(hx:aa w A β vx (.view k2 1 off len))
  (hk:st.h k=some (.views e (some k2) n m s2)) (cZ:gT T t 1=true) {cond:List Prop} (hi:i=m) (hm:m<n) (ho:off=m*s2) (hl:len=s2):
  ∃w',(Instr.storeAt t vp vx).run P w= .ok () w'/\Rel C (st.put dst {cond:=cond,res:=.undef,fE:=[(k,.views e (some k2) n (m+1) s2)]}) (a.put dst undef) w':=by
 subst hi;subst ho;subst hl;obtain⟨ii,gV,oK⟩:=nV hT cZ;simp only [aa] at hp;obtain⟨b,m',cap,bt,rfl⟩:=hp;rcases pW hB hk with⟨hv,_⟩|⟨b',jg,cur,hv,hg,hle,yo,dm,kD,ji⟩
 . rw [bt] at hv;cases hv
 . rw [bt] at hv;simp only [Value.slice.injEq,A!,Addr.mk.injEq,t?] at hv;obtain⟨rfl,rfl,rfl⟩:=hv
   have jF:vx.oneCell'=true:=by
    simp only [aa] at hx;rcases hx with⟨_,a',c',h,_⟩|⟨_,_,_,_,_,h,_⟩<;>rw [h]<;>rfl
   have QT:vx.cells= #[vx]:=cells_one jF;have hb:ag (β k)=some b:=by rw [bt];rfl
   have qX:=kF (P:=P) (w:=w) (t:=t) (v:=vx) gV (by rw [QT,oK];rfl) (by rw [QT];intro v hv;simp at hv;subst hv;exact jF) hg (off:=i) (by rw [QT];simp;omega);obtain⟨new,dV⟩:∃new:Array Value,new=(cur.toList.take i++[vx]++cur.toList.drop (i+1)).toArray:=⟨_,rfl⟩
   have aEQ:(Instr.storeAt t (.pointer (some ⟨b,i,none⟩)) vx).run P w= .ok () (w.setRow b new):=by
    grind
   have hlen:new.size=cur.size:=by grind
   refine⟨w.setRow b new,x!,?_⟩;refine hB.write hd (k:=k) (fz:=[]) (ab:=.views e (some k2) m' (i+1) len) x! hb kD hg ⟨rfl,rfl,rfl⟩ (λq hq=>by grind) ?_ (by rfl);intro A2 h1 h2 _;refine⟨new.toList.take m',⟨?_,.inr ⟨b,cap,new,bt,Nat.zero_le _,setRow_heap w b cur _ e _ hg,hle,yo,?_,x!⟩⟩,λb' ek WA=>?_,λj' hj i' e7=>?_⟩
   . grind
   . omega
   . grind
   . simp only [A!] at hj;subst hj;by_cases az9:i'=i
     . subst az9;refine⟨vx,?_,yH rfl hx⟩;grind
     . obtain⟨v,e1,e2⟩:=ji k2 rfl i' w!;refine⟨v,?_,yH rfl e2⟩;grind
def NO(hT:bx T P)(hB:aq C A β st a w){t:TypeId}{k e:Nat}{row:List Ty}{l:List (Row row)}{fr:Bool}{x y m:Int}{kx ky km:IntKind}{vx:Value}(hx:aa w A β vx (.own k))(hk:st.h k=some (.row e row l fr))
  (hs:aZ T t row.length=true) (h0:0<=x) (h1:x<=y) (h2:y<=m) (h3:m<=(l.length:Int)):
  ∃v,(Instr.sliceAt t vx (some (.int kx x)) (some (.int ky y)) (some (.int km m))).run P w= .ok v w/\aa w A β v (.view k row.length x.toNat (y.toNat-x.toNat)):=by
 obtain⟨e',ii,hu,gV,cZ,lL⟩:=ez hT hs;obtain⟨rfl,_⟩:=hx
 have hb:∀len cap:Nat,len<=cap->m<=(len:Int)->(Instr.sliceBounds true len cap (some (.int kx x)) (some (.int ky y)) (some (.int km m))).run P w= .ok (x.toNat,y.toNat,m.toNat) w:=by
  intro len cap hlc QJ
  simp [Instr.sliceBounds,run_sliceBound (P:=P) (w:=w) (k:=km) (n:=m) (y:=cap) w! w!,run_sliceBound (P:=P) (w:=w) (k:=ky) (n:=y) (y:=m.toNat) w! w!,
   run_sliceBound (P:=P) (w:=w) (k:=kx) (n:=x) (y:=y.toNat) w! w!]
 have fg:∀(ad:Option Addr) (len cap:Nat),len<=cap->m<=(len:Int)->(Instr.sliceAt t (.slice ad len cap) (some (.int kx x)) (some (.int ky y)) (some (.int km m))).run P w=
   .ok (.slice (if m.toNat=x.toNat then ad else ad.map (·.add (x.toNat*ii.size))) (y.toNat-x.toNat) (m.toNat-x.toNat)) w:=by
  simp_all[Instr.sliceAt,Instr.slice,run_underlying,sizeOf,typeInfo]
 rcases fJ hB hk with⟨g1,g2⟩|⟨b,cap,cur,g1,_,g3,g4,_⟩
 . grind[aa,maxLen]
 . refine⟨_,by rw [g1];exact fg _ l.length cap g3 h3,?_⟩;simp only [aa];by_cases hz:m.toNat=x.toNat
   . refine .inl ⟨w!,_,_,by rw [show y.toNat-x.toNat=0 by omega],w!⟩
   . grind[Addr.add_mid]
def rH {k:Nat}:∀(bs:List AB) (i:Nat) (ab:AB),gJ k bs=true->bs[i]? =some ab->(∃e row l,ab= .row e row l false)\/∃e j n m sz,ab= .views e (some j) n m sz/\j<k
 |.row e row l false ::bs,0,ab,_,h=>by grind
 |.views e (some j) n m sz::bs,0,ab,ho,h=>by
   simp only [gJ,B!] at ho;simp at h;exact .inr ⟨e,j,n,m,sz,h.symm,M! ho.1⟩
 |.row e row l false ::bs,i+1,ab,ho,h=>rH bs i ab (by grind[gJ]) x!
 |.views e (some j) n m sz::bs,i+1,ab,ho,h=>rH bs i ab (by simp_all[gJ,Bool.and_eq_true]) x!
 |.row e row l true ::bs,_,_,h,_=>by grind[gJ]
 |.views e none n m sz::bs,_,_,h,_=>by grind[gJ]
 |.cells _::bs,_,_,h,_|.arr _ _::bs,_,_,h,_|.gG _ _ _ _ _::bs,_,_,h,_=>by grind[gJ]
 |[],_,_,_,h=>by grind
theorem aq.auo(hB:aq C A β st a w){dst:Option Nat}(hd:∀t,dst=some t->t<st.n){base:Nat}{res:AV}{bs:List AB}{fz:List Nat}{cond:List Prop}{v:Value}{w':World}{A1:Nat->Prop}{oz:Nat->Value}
  (Br:∀j∈fz,∃e row l fr,st.h j=some (.row e row l fr)) (dV:iy st.h (fI base (bs.map (iB base)))=true) (rG:kC bs.length res=true) (hor:gJ bs.length bs=true)
  (hp:jX w (cc A β fz) w' v res bs A1 oz):
  Rel C (st.put dst {cond:=cond,res:=dN base res,fE:=cx st.h fz,new:=fI base (bs.map (iB base))}) (a.put dst v) w':=by
 let aw:Nat->Value:=λk=>if base<=k/\k<base+bs.length then oz (k-base) else β k
 have Oz:∀i,i<bs.length->aw (base+i)=oz i:=by
  grind
 have Jl:∀k,ah (fI base (bs.map (iB base))) k=(if base<=k then(bs[k-base]?).map (iB base) else none):=λk=>by
  have:=tS base (bs.map (iB base)) 0 k;grind
 have bt:∀k,ah (fI base (bs.map (iB base))) k=none->aw k=β k:=by
  grind
 have qM:∀k ab,ah (fI base (bs.map (iB base))) k=some ab->base<=k/\(∃QX,bs[k-base]? =some QX/\ab=iB base QX)/\k-base<bs.length:=by
  grind
 have BO:∀k ab,ah (fI base (bs.map (iB base))) k=some ab->aw k=oz (k-base):=by
  grind
 have hK:b7 w w' A A1:=λb hb=>⟨hp.mono b (.inl hb),hp.same b (hB.bound b hb)⟩;refine⟨A1,aw,?_⟩;refine hB.step (out:={cond:=cond,res:=dN base res,fE:=cx st.h fz,new:=fI base (bs.map (iB base))}) hd (λk b h=>kv _ k b dV h) ?_ bt hK hp.os hp.tape hp.output hp.size (λb hb _=>hp.same b hb) hp.bound ?_ ?_ ?_ ?_ ?_ ?_
 . intro k b h;obtain⟨_,e,row,l,fr,h,_⟩:=jv fz k b h;grind
 . intro b hb;rcases Nat.lt_or_ge b w.heap.size with iU|NJ
   . rcases hp.gH b iU hb with h|⟨j,hj,Wz⟩
     . grind
     . have hr:=Br j hj;exact .inr (.inr ⟨j,⟨x!,.inl (qx fz j hj hr)⟩,Wz⟩)
   omega
 . intro k ab h _;obtain⟨hk,e,row,l,fr,hr,rfl⟩:=jv fz k ab h;rw [mz]
   have hkn:ah (fI base (bs.map (iB base))) k=none:=by
    cases hh:ah (fI base (bs.map (iB base))) k with
    |none=>rfl
    |some y=>have:=(kv _ k y dV hh).1;rw [hr] at this;cases this
   obtain⟨xs,h1,h2,h3⟩:=hB.blocks k _ hr;simp only [BR,bt k hkn];refine⟨xs,cI h1 (λb hb=>hp.same b (l4 hB (by simp [hr]) hb)),bm (λc x hx=>bw hK row c x hx) l xs h2,λb hb=>?_⟩;simp only [R?];exact hp.mono b (.inr ⟨k,hk,hb⟩)
 . intro k ab h;obtain⟨h1,⟨QX,h2,rfl⟩,h3⟩:=qM k ab h;have eu:=(hp.rows _ _ h2).1;rcases rH bs _ QX hor h2 with⟨e,row,l,rfl⟩|⟨e,j,n,m,sz,rfl,hj⟩
   . obtain⟨xs,g1,g2,g3⟩:=eu;simp only [iB,BR,BO k _ h];exact⟨xs,g1,g2,g3⟩
   . obtain⟨xs,g1,g2,g3⟩:=eu;simp only [iB,BR,BO k _ h];refine⟨xs,g1,g2,λj' fk i hi=>?_⟩;simp only [A!] at fk;subst fk;obtain⟨u,e1,e2⟩:=g3 j rfl i hi;refine⟨u,e1,?_⟩;simp only [aa] at e2 |-;rw [Oz j hj];exact e2
 . intro k b ab h hb;obtain⟨h1,⟨QX,h2,rfl⟩,h3⟩:=qM k ab h;rw [BO k _ h] at hb;exact .inl ((hp.rows _ _ h2).2 b hb)
 . intro k k' b h h' hb ek;obtain⟨x,hx⟩:=P!.1 h;obtain⟨y,hy⟩:=P!.1 h';obtain⟨h1,h2,h3⟩:=qM k x hx;obtain⟨g1,g2,g3⟩:=qM k' y hy;rw [BO k _ hx] at hb;rw [BO k' _ hy] at ek;have:=hp.apart _ _ b h3 g3 hb ek;omega
 . exact wY (aw:=aw) base bs.length Oz res v rG hp.res
theorem TM(hE:cQ P C E)(hB:aq C A β st a w){o:Oper}{out:Out}(h:Ý E st o=some out)(nu:eJ st o=true)(dV:iy st.h out.new=true)(hc:∀p∈out.cond,p)
  {K:Act->World->Prop} {Q:Exit->Act->World->Prop} (hK:∀a' w',Rel C (st.put o.dst out) a' w'->K a' w'):o.wp P a w K Q:=by
 unfold Ý at h;split at h
 . grind[Option.some.injEq,TL]
 rename_i pX;clear pX
 have hd:∀t,o.dst=some t->t<st.n:=by
  intro t ht;simp_all[eJ,M!]
 obtain⟨dst,op,type,pos,after,guard⟩:=o;simp only at hd hK;unfold BP at h;simp only at h;split at h
 . rename_i t p;split at h
   . rename_i k sz i j te hp ht;split at h
     . rename_i e k2 n m s2 hk;cases hq:(Nat.beq sz 1&&Nat.beq j 0&&fH te.desc) with
       |false=>grind
       |true=>
        rw [hq] at h;simp at h;subst h;simp only [B!] at hq;obtain⟨⟨q1,q2⟩,q3⟩:=hq;have q1:=C! q1;have q2:=C! q2;subst q1;subst q2;have Gh:=az hB p;rw [hp] at Gh;obtain⟨v,g1,g2⟩:=QW hE.eA hB Gh ht q3 hk (dW hc);exact bz (v:=v) (by simp [execOp,g1]) (hK _ _ (Rel.iV (hB.quiet hd ⟨rfl,rfl,rfl⟩ g2)))
     grind
   grind
 . rename_i t p v;split at h
   . rename_i k sz i j k3 s3 off len hp hv;split at h
     . rename_i e k2 n m s2 hk;cases hq:(Nat.beq sz 1&&Nat.beq j 0&&(Nat.beq k3 k2&&Nat.beq s3 1)&&gT E.T t 1) with
       |false=>grind
       |true=>
        rw [hq] at h;simp at h;subst h;simp only [B!] at hq;obtain⟨⟨⟨q1,q2⟩,q3,q4⟩,q5⟩:=hq;have q1:=C! q1;have q2:=C! q2;have q3:=C! q3;have q4:=C! q4;subst q1;subst q2;subst q3;subst q4;have Gh:=az hB p;rw [hp] at Gh;have hvr:=az hB v;rw [hv] at hvr;obtain⟨c1,c2,c3,c4⟩:=dW hc;obtain⟨w',g1,g2⟩:=NN hE.eA hB hd Gh hvr hk q5 c1 c2 c3 c4;exact mA (w':=w') (by simp [execOp,g1]) (hK _ _ g2)
     grind
   grind
 . rename_i t x l hi mx;split at h
   . rename_i k kx x0 ky y0 km m0 hx hl hh hm;split at h
     . rename_i e row ll fr hk;cases hs:aZ E.T t row.length with
       |false=>rw [hs] at h;cases h
       |true=>
        rw [hs] at h;simp at h;subst h;obtain⟨c1,c2,c3,c4⟩:=dW hc;have k9:=az hB x;rw [hx] at k9;have hlr:=az hB l;rw [hl] at hlr;have hhr:=az hB hi;rw [hh] at hhr;have hmr:=az hB mx;rw [hm] at hmr;obtain⟨v,g1,g2⟩:=NO (kx:=kx) (ky:=ky) (km:=km) hE.eA hB k9 hk hs c1 c2 c3 c4;exact bz (v:=v) (by simp [execOp,hlr.1,hhr.1,hmr.1,g1]) (hK _ _ (Rel.iV (hB.quiet hd ⟨rfl,rfl,rfl⟩ g2)))
     . cases h
   . cases h
 . rename_i t x i;split at h
   . rename_i k ki i0 hx hi;split at h
     . rename_i e j n m sz hk;cases hs:aZ E.T t 1 with
       |false=>rw [hs] at h;cases h
       |true=>
        rw [hs] at h;simp at h;subst h;obtain⟨c1,c2⟩:=dW hc;obtain⟨e',ii,hu,gV,cZ,lL⟩:=ez hE.eA hs;have k9:=az hB x;rw [hx] at k9;have TN:=az hB i;rw [hi] at TN;rcases pW hB hk with⟨_,hn⟩|⟨b,cap,cur,hv,_⟩
        . omega
        . refine bz (v:=.pointer (some ⟨b,0+i0.toNat*1,none⟩)) (w':=w) ?_ (hK _ _ (Rel.iV (hB.quiet hd ⟨rfl,rfl,rfl⟩ ?_)))
          . have:=gU (P:=P) (w:=w) hu gV b 0 n cap ki i0 c1 c2;simp only [execOp,k9.1,hv,TN.1,Sem.run_bind,this,cZ,Result.andThen_ok,Sem.run_pure]
          . simp only [aa];exact⟨b,_,cap,hv,z!⟩
     . cases h
   . cases h
 . rename_i c;obtain⟨callee,args,argTypes⟩:=c;simp only at h;split at h
   . rename_i b;split at h
     . rename_i x t bj Bs;split at h
       . rename_i k hx;split at h
         . rename_i e j n m sz hk;cases hq:cE E.T t fH with
           |false=>rw [hq] at h;cases h
           |true=>
            rw [hq] at h;simp at h;subst h;have ea:args= #[x]:=by apply r?;simpa using bj
            have et:argTypes= #[t]:=by apply r?;simpa using Bs
            subst ea;subst et;obtain⟨dd,hu,Cs⟩:=nT hE.eA hq;obtain⟨e',rfl⟩:∃e',dd= .slice e':=by cases dd<;>simp_all [fH]
            have k9:=az hB x;rw [hx] at k9
            have zb:∃ad cap,a.eval x= .slice ad n cap:=by
             rcases pW hB hk with⟨h1,h2⟩|⟨b,cap,cur,hv,_⟩
             . exact⟨none,0,by rw [k9.1,h1,h2]⟩
             . exact⟨_,cap,by rw [k9.1,hv]⟩
            obtain⟨ad,cap,zb⟩:=zb;refine bz (v:=.int .i64 (n:Int)) (w':=w) ?_ (hK _ _ (Rel.iV (hB.quiet hd ⟨rfl,rfl,rfl⟩ (vN n (QV hB hk)))));simp [execOp,resolve,invoke,builtin,zb,Builtin.len_,run_underlying hu,goInt]
         . cases h
       . cases h
     . cases h
   . rename_i f;have hf:=az hB f
     have key:∀(pV:FuncId) (first aR:List AV) (base:Nat),ev st f= .fn (.func pV) first aR->mE E st.h base pV (first++(args.toList.map (ev st))++aR)=some out->
       Oper.wp P {dst,op:=.call {callee:=.value f,args,argTypes},type,pos,after,guard} a w K Q:=by
      intro pV first aR base Ei l7
      rw [Ei] at hf;simp only [aa] at hf;obtain⟨a1,a2,yU,r1,r2⟩:=hf;unfold mE at l7;split at l7
      . rename_i s hs;split at l7
        . rename_i pre res bs hsv;cases hq:(Nat.ble bs.length 100&&kC bs.length res&&gJ bs.length bs) with
          |false=>simp [hq] at l7
          |true=>
           simp only [hq,I!,A!] at l7;subst l7;simp only [B!] at hq;obtain⟨hv,QU⟩:=hE.sig pV s hs;have bj:=eI _ _ _ _ (eI _ _ _ _ r1 (l6 hB args.toList)) r2;obtain⟨p1,p2⟩:=Gb (A':=cc A β (lU st.h (first++(args.toList.map (ev st))++aR)).2) hB (λb h=>.inl h) _ _ bj (λk hk b hb=>.inr ⟨k,hk,hb⟩)
           have TG:∀b,cc A β (lU st.h (first++(args.toList.map (ev st))++aR)).2 b->b<w.heap.size:=by
            intro b h;rcases h with h|⟨j,hj,hb⟩
            . exact hB.bound b h
            . obtain⟨e',r',l',f',hr⟩:=p2 j hj;exact l4 hB (by simp [hr]) hb
           have uM:=hv w _ β _ _ pre res bs TG (λi d hi=>(hB.laid i d (by rw [hE.g];exact hi)).mono (λb h=>⟨.inl h,rfl⟩)) p1 hsv (dW hc)
           have fg:(execOp a.eval {dst,op:=.call {callee:=.value f,args,argTypes},type,pos,after,guard}).run P w= .ok (.enter pV (a1.toList++args.toList.map a.eval++a2.toList).toArray) w:=by
            have e:(a1++args.map a.eval)++a2=(a1.toList++args.toList.map a.eval++a2.toList).toArray:=by
             apply r?;simp
            have:=QU (a1++args.map a.eval++a2) w;rw [e] at this;simp only [execOp,resolve,yU,Deferred.ofValue,Sem.run_bind,Sem.run_pure,Result.andThen_ok,invoke,e,this]
           unfold Oper.wp;rw [fg];refine uM.mono λe w' ⟨v,he,A1,oz,sr⟩=>?_;subst he;exact hK _ _ (hB.auo hd p2 dV hq.1.2 hq.2 sr)
        . cases l7
      . cases l7
     split at h
     . rename_i pV first aR d Ei
       exact key pV first aR _ Ei h
     . rename_i pV first aR Ei
       exact key pV first aR _ Ei h
     . cases h
   . cases h
 grind
end
end Go.Vg

end
section
namespace Go.Vg
open Go
variable [HP]
def Kn(E:Env)(st:St)(o:Oper):Option Out:=
 let T:=E.T
 let h:=st.h
 let ρ:=ev st
 match o.op with
 |.alloc t=>match T.find t,o.dst with
   |some te,some d=>match te.desc with
    |.array n e=>match rowOf T qp e with
      |some [u]=>match wH [u] n (ofConst te.zero).cells with
       |some l=>some {cond:=[],res:=.ref (st.kb+d) 0,new:=[(st.kb+d,.arr [u] l)]}
       |none=>none
      |_=>none
    |_=>none
   |_,_=>none
 |.load t p=>match ρ p,T.find t with
   |.ref k off,some te=>match h k with
     |some (.arr [u] l)=>match pick te [DK u (Row.hd (l.getD off (Row.zero [u])))] 0 with
      |some a=>some {cond:=[off<l.length],res:=a}
      |none=>none
     |_=>none
   |_,_=>none
 |.store t p v=>match ρ p with
   |.ref k off=>match h k with
     |some (.arr [u] l)=>match Tk u (ρ v) with
      |some x=>bif gT T t 1 then some {cond:=[off<l.length],res:=.undef,fE:=[(k,.arr [u] (l.set off (Row.mk x ())))]} else none
      |none=>none
     |_=>none
   |_=>none
 |_=>none
def Þ(E:Env)(st:St)(o:Oper):Option Out:=match Ý E st o with
 |some out=>some out
 |none=>Kn E st o
section
variable {P:Program} {C:Ctx} {A A':Nat->Prop} {β aw:Nat->Value} {st:St} {a:Act} {w:World} {E:Env} {T:bY}
def aq.ak6(hB:aq C A β st a w){dst:Option Nat}(hd:∀t,dst=some t->t<st.n){d e:Nat}{row:List Ty}{l:List (Row row)}{arr:Array Value}{cond:List Prop}
  (fK:st.h d=none/\pR d=false) (hrel:dc (br w A row) arr.toList l):
  aq C A (bg β d (.pointer (some ⟨w.heap.size,0,none⟩))) (st.put dst {cond:=cond,res:=.ref d 0,new:=[(d,.arr row l)]}) (a.put dst (.pointer (some ⟨w.heap.size,0,none⟩))) (w.alloc (.cells arr e)):=by
 have hK:b7 w (w.alloc (.cells arr e)) A A:=λb hb=>⟨hb,lZ _ b (hB.bound b hb)⟩
 have bt:∀k,ah [(d,AB.arr row l)] k=none->bg β d (.pointer (some ⟨w.heap.size,0,none⟩)) k=β k:=by
  intro k h;have :k≠d:=by rintro rfl;simp [ah] at h
  grind[bg]
 refine hB.step (out:={cond:=cond,res:=.ref d 0,new:=[(d,.arr row l)]}) hd ?_ (by simp [ah]) bt hK rfl rfl rfl z! (λb hb _=>lZ _ b hb) (λb hb=>by have:=hB.bound b hb;simp;omega) (λb hb=>.inl hb) (by simp [ah]) ?_ ?_ ?_ ?_
 . grind[fl]
 . intro k ab h;obtain⟨rfl,rfl⟩:=fl h;exact⟨w.heap.size,arr,e,by simp [bg],heap_alloc_new w _,λh=>absurd (hB.bound _ h) w!,bm (λc x hx=>bw hK row c x hx) l _ hrel⟩
 . intro k b ab h hb;obtain⟨rfl,_⟩:=fl h;simp_all[bg,R?,ag,A!]
 . grind[Option.isSome_iff_exists,fl]
 . exact⟨w.heap.size,by simp [bg],rfl⟩
def OA {u:Ty}{l:List (Row [u])}{cs:List Value}{off:Nat}(BQ:off<l.length)(h:dc (br w A [u]) cs l):
  ∃v,cs[off]? =some v/\Rd w A u v (Row.hd (l.getD off (Row.zero [u])))/\∀v' x,Rd w A u v' x->dc (br w A [u]) (cs.take off++[v']++cs.drop (off+1)) (l.set off (Row.mk x ())):=by
 obtain⟨c1,c,c2,e1,e2,e3,e4,e5⟩:=qH l cs off BQ h;obtain⟨v,vs,rfl,g1,rfl⟩:=e3;have hl:c1.length=off:=by simpa using e2
 subst e1;refine⟨v,?_,x!,λv' x hx=>?_⟩
 . rw [List.getElem?_append_right w!,hl,Nat.sub_self];rfl
 . have t1:(c1++([v]++c2)).take off=c1:=by rw [<-hl,List.take_left]
   have t2:(c1++([v]++c2)).drop (off+1)=c2:=by
    rw [<-hl,List.drop_length_add_append];rfl
   rw [t1,t2,m?,R! BQ,Y!];refine jh _ _ _ _ e4 ⟨[v'],c2,rfl,?_,e5⟩;exact⟨v',[],rfl,by exact hx,rfl⟩
theorem TO(hE:cQ P C E)(hB:aq C A β st a w){o:Oper}{out:Out}(h:Þ E st o=some out)(nu:eJ st o=true)(dV:iy st.h out.new=true)(hc:∀p∈out.cond,p)
  {K:Act->World->Prop} {Q:Exit->Act->World->Prop} (hK:∀a' w',Rel C (st.put o.dst out) a' w'->K a' w'):o.wp P a w K Q:=by
 unfold Þ at h;split at h
 . grind[Option.some.injEq,TM]
 rename_i pX;clear pX
 have hd:∀t,o.dst=some t->t<st.n:=by
  intro t ht;simp_all[eJ,M!]
 obtain⟨dst,op,type,pos,after,guard⟩:=o;simp only at hd hK;unfold Kn at h;simp only at h;split at h
 . rename_i t;split at h
   . rename_i te d ht;split at h
     . rename_i n e F7;split at h
       . rename_i u k8;split at h
         . rename_i l hl;simp only [A!] at h;subst h;obtain⟨hu,i,hi,hs,hb,hz⟩:=hE.eA.ok t te ht;obtain⟨g1,g2⟩:=yZ [u] n _ _ l (jV (w:=w) (A:=A) (β:=β) te.zero) hl;refine bz (v:=.pointer (some ⟨w.heap.size,0,none⟩)) (w':=w.alloc (.cells te.zero.cells t)) ?_ (hK _ _ (Rel.iV (hB.ak6 hd (Km dV) g1)));simp_all[execOp,Instr.alloc,zeroValue,typeInfo,hi,newVar,newRow]
         grind
       grind
     grind
   grind
 . rename_i t p;split at h
   . rename_i k off te hp ht;split at h
     . rename_i u l hk;split at h
       . rename_i r WH;simp only [A!] at h;subst h;have BQ:off<l.length:=dW hc;have Gh:=az hB p;rw [hp] at Gh;simp only [aa] at Gh;obtain⟨b,bt,hpe⟩:=Gh;obtain⟨b',arr,e,h1,h2,h3,h4⟩:=hB.blocks k _ hk;rw [bt] at h1;simp only [Value.pointer.injEq,A!,Addr.mk.injEq,t?] at h1;subst h1;obtain⟨v,c1,c2,_⟩:=OA BQ h4
         have hr:w.rangeAt b off [v]:=by
          intro j u' hj;grind[List.getElem?_cons_zero,Option.some.injEq,World.cell?]
         have QY:ae w A β [v] [DK u (Row.hd (l.getD off (Row.zero [u])))]:=by
          grind[ae,Tn]
         obtain⟨v',k1,k2⟩:=ju (β:=β) hE.eA ht QY WH hr;refine bz (v:=v') (w':=w) ?_ (hK _ _ (Rel.iV (hB.quiet hd ⟨rfl,rfl,rfl⟩ k2)));simp_all[Nat.add_zero,execOp]
       grind
     grind
   grind
 . rename_i t p x;split at h
   . rename_i k off hp;split at h
     . rename_i u l hk;split at h
       . rename_i d hdx;cases D4:gT E.T t 1 with
         |false=>grind
         |true=>
         rw [D4] at h;simp only [I!,A!] at h;subst h;have BQ:off<l.length:=dW hc;obtain⟨ii,gV,oK⟩:=nV hE.eA D4;have Gh:=az hB p;rw [hp] at Gh;simp only [aa] at Gh;obtain⟨b,bt,hpe⟩:=Gh;have k9:=Ke u _ _ d (az hB x) hdx;obtain⟨b',arr,e,h1,h2,h3,h4⟩:=hB.blocks k _ hk;rw [bt] at h1;simp only [Value.pointer.injEq,A!,Addr.mk.injEq,t?] at h1;subst h1;have hb:ag (β k)=some b:=by rw [bt];rfl
         have jF:(a.eval x).oneCell'=true:=yS [u] [a.eval x] (Row.mk d ()) (by simp only [br];exact⟨_,[],rfl,by rw [uJ];exact k9,rfl⟩) _ z!;have hcx:=cells_one jF;have hlen:=fx l _ h4;have cZ:arr.size=l.length:=by grind
         have fg:=kF (w:=w) (P:=P) gV (v:=a.eval x) x! x! h2 (off:=off) x!;rw [hcx] at fg;obtain⟨v,c1,c2,c3⟩:=OA BQ h4;refine mA (w':=w.setRow b (arr.toList.take off++[a.eval x]++arr.toList.drop (off+1)).toArray) ?_ (hK _ _ ?_)
         . grind[Instr.storeAt,execOp,Sem.run_bind,Result.andThen_ok,Sem.run_pure]
         . refine hB.write hd (k:=k) (fz:=[]) (ab:=.arr [u] (l.set off (Row.mk d ()))) x! hb h3 h2 ⟨rfl,rfl,rfl⟩ z! ?_ (by rfl);intro A' hA1 WA hA3;have yq:b7 w (w.setRow b (arr.toList.take off++[a.eval x]++arr.toList.drop (off+1)).toArray) A A':=λb' h=>⟨hA1 b' h,setRow_other w b b' _ (λh'=>h3 (h'▸h))⟩;refine⟨b,_,e,bt,setRow_heap w b arr _ e _ h2,λh=>?_,?_⟩
           . grind
           grind[bm,bw]
       grind
     grind
   grind
 grind
end
end Go.Vg

end
section
namespace Go.Vg
open Go
variable [HP]
mutual
def ao:AV->List Nat
 |.own k|.pre k _|.view k _ _ _|.ref k _|.elem k _ _ _=>[k]
 |.agg cs=>ar cs
 |.bn vs=>ar vs
 |.fn _ first aR=>ar first++ar aR
 |.gp _ cs=>ar cs
 |_=>[]
def ar:List AV->List Nat
 |[]=>[]
 |a::as_=>ao a++ar as_
end
def gu:AB->List Nat
 |.cells cs=>ar cs
 |.views _ (some j) _ _ _|.gG _ (some j) _ _ _|.eE _ (some j) _|.dM _ (some j) _ _=>[j]
 |_=>[]
def zc:List (Nat×AB)->List Nat
 |[]=>[]
 |(_,b)::r=>gu b++zc r
mutual
def dX(f:Nat->Nat):AV->AV
 |.own k=>.own (f k)
 |.pre k n=>.pre (f k) n
 |.view k sz off n=>.view (f k) sz off n
 |.ref k off=>.ref (f k) off
 |.elem k sz i j=>.elem (f k) sz i j
 |.agg cs=>.agg (lM f cs)
 |.bn vs=>.bn (lM f vs)
 |.fn g first aR=>.fn g (lM f first) (lM f aR)
 |.gp ks cs=>.gp ks (lM f cs)
 |a=>a
def lM(f:Nat->Nat):List AV->List AV
 |[]=>[]
 |a::as_=>dX f a::lM f as_
end
def lz(f:Nat->Nat):AB->AB
 |.cells cs=>.cells (lM f cs)
 |.views e (some j) n m sz=>.views e (some (f j)) n m sz
 |.gG e (some j) row l i=>.gG e (some (f j)) row l i
 |.eE e (some j) l=>.eE e (some (f j)) l
 |.dM e (some j) xs i=>.dM e (some (f j)) xs i
 |b=>b
section
variable {P:Program} {C:Ctx} {A A':Nat->Prop} {β aw:Nat->Value} {st:St} {a:Act} {w:World} {E:Env} {T:bY}
mutual
theorem wZ(f:Nat->Nat):∀(x:AV) (v:Value),(∀k∈ao x,aw (f k)=β k)->aa w A β v x->aa w A aw v (dX f x)
 |.own k,v,hk,h=>by
   simp only [dX,aa] at h |-;rw [hk k (by simp [ao])];exact h
 |.pre k n,v,hk,h=>by
   simp only [dX,aa] at h |-;rw [hk k (by simp [ao])];exact h
 |.view k _ _ _,v,hk,h=>by
   simp only [dX,aa] at h |-;rw [hk k (by simp [ao])];exact h
 |.ref k _,v,hk,h=>by
   simp only [dX,aa] at h |-;rw [hk k (by simp [ao])];exact h
 |.elem k _ _ _,v,hk,h=>by
   simp only [dX,aa] at h |-;rw [hk k (by simp [ao])];exact h
 |.agg cs,v,hk,h=>by
   simp only [dX,aa] at h |-;obtain⟨arr,h1,h2⟩:=h;exact⟨arr,h1,jk f cs _ (λk ew=>hk k (by simpa [ao] using ew)) h2⟩
 |.bn cs,v,hk,h=>by
   simp only [dX,aa] at h |-;obtain⟨arr,h1,h2⟩:=h;exact⟨arr,h1,jk f cs _ (λk ew=>hk k (by simpa [ao] using ew)) h2⟩
 |.fn g first aR,v,hk,h=>by
   simp only [dX,aa] at h |-;obtain⟨a1,a2,h1,h2,h3⟩:=h;exact⟨a1,a2,h1,jk f first _ (λk ew=>hk k (by simp [ao,ew])) h2,jk f aR _ (λk ew=>hk k (by simp [ao,ew])) h3⟩
 |.gp ks cs,v,hk,h=>by
   simp only [dX,aa] at h |-;obtain⟨b,es,ck,h1,h2,h3,h4,h5⟩:=h;exact⟨b,es,ck,h1,h2,h3,h4,jk f cs _ (λk ew=>hk k (by simpa [ao] using ew)) h5⟩
 |.cr,v,_,h=>by simp [dX,aa]
 |.undef,v,_,h|.int _ _,v,_,h|.bool _,v,_,h|.tt,v,_,h|.ff,v,_,h|.str _,v,_,h|.nil,v,_,h|.jQ,v,_,h|.oC _ _,v,_,h|.k7,v,_,h|.sl _ _,v,_,h|.full _ _,v,_,h|.cN _ _ _,v,_,h|.pB _ _,v,_,h=>by simpa only [dX,aa] using h
theorem jk(f:Nat->Nat):∀(xs:List AV) (vs:List Value),(∀k∈ar xs,aw (f k)=β k)->ae w A β vs xs->ae w A aw vs (lM f xs)
 |[],vs,_,h=>by simpa only [lM,ae] using h
 |x::xs,vs,hk,h=>by
  simp only [lM,ae] at h |-;obtain⟨v,bS,rfl,h1,h2⟩:=h;exact⟨v,bS,rfl,wZ f x v (λk ew=>hk k (by simp [ar,ew])) h1,jk f xs bS (λk ew=>hk k (by simp [ar,ew])) h2⟩
end
def QZ(f:Nat->Nat){k k':Nat}{b:AB}(hk:aw k'=β k)(hj:∀j∈gu b,aw (f j)=β j)(h:BR w A β k b):BR w A aw k' (lz f b):=by
 have hJ:=hj;cases b with
 |cells cs=>
  obtain⟨b,arr,e,h1,h2,h3,h4,h5⟩:=h;exact⟨b,arr,e,hk.trans h1,h2,h3,jk f cs _ (λj fk=>hj j (by grind[gu])) h4,h5⟩
 |row e row l fr=>
  grind[lz,BR]
 |arr row l=>
  obtain⟨b,arr,e,h1,h2,h3,h4⟩:=h;exact⟨b,arr,e,hk.trans h1,h2,h3,h4⟩
 |dM e j xs i=>
  obtain⟨ys,h1,h2,h3,h4⟩:=h;cases j with
  |none=>exact⟨ys,hk▸h1,hk▸h2,h3,nofun⟩
  |some j=>
   refine⟨ys,hk▸h1,hk▸h2,h3,λj' fk=>?_⟩;cases fk;rw [hJ j (by simp [gu])];exact h4 j rfl
 |fvar row x=>
  obtain⟨b,arr,e,h1,h2,h3,h4⟩:=h;exact⟨b,arr,e,hk.trans h1,h2,h3,h4⟩
 |mp b es ck=>exact⟨hk.trans h.1,h.2⟩
 |aX e sz n cs=>
  obtain⟨xs,h1,h2,h3⟩:=h;exact⟨xs,hk▸h1,hk▸h2,h3⟩
 |eE e j l=>
  obtain⟨xs,h1,h2,h3⟩:=h;cases j with
  |none=>exact⟨xs,hk▸h1,hk▸h2,λq _=>h3 q (λ_ h=>by cases h)⟩
  |some j=>
   exact⟨xs,hk▸h1,hk▸h2,λq hq=>h3 q λj' hj=>(hq (f j) rfl).trans (by cases hj;exact hJ _ (by simp [gu]))⟩
 |gG e j row l i=>
  cases j with
  |none=>
   grind[lz,BR]
  |some j0=>
   grind[lz,BR,Option.some.injEq,gu]
 |views e j n m sz=>
  obtain⟨xs,h1,h2,h3⟩:=h;cases j with
  |none=>
   grind[lz,BR]
  |some j0=>
   simp only [lz,BR,hk];refine⟨xs,h1,h2,λj' fk i hi=>?_⟩;simp at fk;subst fk;obtain⟨v,e1,e2⟩:=h3 j0 rfl i hi
   exact⟨v,e1,wZ f (.view j0 1 (i*sz) sz) v (λk ew=>by
    grind[ao,List.mem_singleton,gu]) e2⟩
end
def jK:List Nat->Bool
 |[]=>true
 |k::r=>!(au r k)&&jK r
def dedup(acc:List Nat):List Nat->List Nat
 |[]=>acc.reverse
 |k::r=>bif au acc k then dedup acc r else dedup (k::acc) r
def behind(h:aJ):List Nat->List Nat
 |[]=>[]
 |k::r=>(match h k with
  |some b=>gu b
  |none=>[])++behind h r
def Ko:List Nat->Nat->Nat
 |[],_=>0
 |j::r,k=>bif Nat.beq k j then 0 else Ko r k+1
def WI(K:List Nat)(k:Nat):Nat:=50000+Ko K k
def gW(K:List Nat)(base k:Nat):Nat:=bif Nat.blt k 60000 then K.getD (k-50000) 0 else base+(k-60000)
def dj(h:aJ):List Bool->List AV->List AV×List Nat
 |_,[]=>([],[])
 |m,a::as_=>bif m.headD false then(a::(dj h m.tail as_).1,(dj h m.tail as_).2) else((pv h a).1::(dj h m.tail as_).1,(pv h a).2++(dj h m.tail as_).2)
def contents(h:aJ):List Nat->Option (List AB)
 |[]=>some []
 |k::r=>match h k,contents h r with
  |some b,some l=>some (b::l)
  |_,_=>none
def kOk(r:bk)(k:Nat):Bool:=(Nat.ble 50000 k&&Nat.blt k 60000&&(match r.heap[k-50000]? with
 |some (some _)=>true
 |_=>false)) || (Nat.ble 60000 k&&Nat.blt k (60000+r.new.length))
def oN(g:Nat->Nat):List Nat->List (Option AB)->List (Nat×AB)
 |k::ks,some b::bs=>(k,lz g b)::oN g ks bs
 |_::ks,none::bs=>oN g ks bs
 |_,_=>[]
def uO:List Nat->List (Option AB)->List Nat
 |_::ks,some _::bs=>uO ks bs
 |k::ks,none::bs=>k::uO ks bs
 |_,_=>[]
def zd:List (Option AB)->List Nat
 |[]=>[]
 |some b::r=>gu b++zd r
 |none::r=>zd r
def w7:List AB->List Nat
 |[]=>[]
 |b::r=>gu b++w7 r
def asD(a K:List Nat):Bool:=a.all λk=>au K k
def Q0(s:cX)(h:aJ)(base:Nat)(K:List Nat)(ps:List AV)(fz:List Nat):Option Out:=match contents h K with
 |some hs=>bif jK K&&(asD (ar ps++w7 hs) K&&(fz.all (λk=>!au K k)&&Nat.ble hs.length 100)) then
  match s (lM (WI K) ps) (hs.map (lz (WI K))) with
  |some r=>bif Nat.beq r.heap.length hs.length&&(Nat.ble r.new.length 100&&((ao r.res++(zd r.heap++w7 r.new)).all (kOk r))) then
    some {cond:=[r.pre]
          res:=dX (gW K base) r.res
          fE:=oN (gW K base) K r.heap++cx h fz
          del:=uO K r.heap
          new:=fI base (r.new.map (lz (gW K base)))
          raw:=K}
   else none
  |none=>none
  else none
 |none=>none
def oO(h:aJ)(ks:List Nat):List Nat:=behind h ks++behind h (behind h ks)
def mF(E:Env)(h:aJ)(d f:Nat)(args:List AV):Option Out:=match E.qG f with
 |some (m,s)=>Q0 s h (om d) (dedup [] (ar (dj h m args).1++oO h (ar (dj h m args).1))) (dj h m args).1 (dj h m args).2
 |none=>none
section
variable {P:Program} {C:Ctx} {A A':Nat->Prop} {β aw:Nat->Value} {st:St} {a:Act} {w:World} {E:Env} {T:bY}
def mG:∀ {l:List Nat} {k:Nat},au l k=true↔k∈l
 |[],k=>by simp [au]
 |j::l,k=>by
  simp_all[au,e?,N!,mG,C!,ct]
def HL:∀ {K:List Nat} {k:Nat},k∈K->Ko K k<K.length/\K.getD (Ko K k) 0=k
 |j::K,k,h=>by
  simp [Ko];by_cases hk:k=j
  . simp_all
  . simp [aG hk,L!];have:=HL (K:=K) ((N!.1 h).resolve_left hk);simpa using this
def ze {h:aJ}:∀ {K:List Nat} {hs:List AB},contents h K=some hs->hs.length=K.length/\∀(i:Nat) (ab:AB),hs[i]? =some ab->∃k:Nat,K[i]? =some k/\h k=some ab
 |[],hs,hh=>by
   grind[contents,Option.some.injEq]
 |k::K,hs,hh=>by
  simp [contents] at hh;split at hh
  . rename_i b l h1 h2;simp at hh;subst hh;obtain⟨g1,g2⟩:=ze h2;refine⟨by simp [g1],λi ab hi=>?_⟩;cases i with
    |zero=>simp at hi;subst hi;exact⟨k,rfl,h1⟩
    |succ i=>simpa using g2 i ab (by simpa using hi)
  . cases hh
def HN:∀ {K:List Nat},jK K=true->∀ {i j k:Nat},K[i]? =some k->K[j]? =some k->i=j
 |[],_,i,j,k,h,_=>by grind
 |x::K,hn,i,j,k,h1,h2=>by
  simp [jK,B!,J?] at hn
  have hx:∀m:Nat,K[m]? =some x->False:=λm hm=>by
   have:=mG.2 (K? hm);rw [this] at hn;exact absurd hn.1 z!
  cases i with
  |zero=>
   cases j with
   |zero=>rfl
   |succ j=>
    simp at h1;subst h1;exact(hx j (by simpa using h2)).elim
  |succ i=>
   cases j with
   |zero=>
    simp at h2;subst h2;exact(hx i (by simpa using h1)).elim
   |succ j=>rw [HN hn.2 (i:=i) (j:=j) (by simpa using h1) (by simpa using h2)]
def tT {g:Nat->Nat}:∀ {K:List Nat} {bs:List (Option AB)} {k:Nat} {ab:AB},ah (oN g K bs) k=some ab->∃(i:Nat) (b:AB),K[i]? =some k/\bs[i]? =some (some b)/\ab=lz g b
 |[],bs,k,ab,h=>by grind[oN,ah]
 |x::K,[],k,ab,h=>by grind[oN,ah]
 |x::K,some b::bs,k,ab,h=>by
  simp [oN,ah] at h;by_cases hk:k=x
  . subst hk;simp at h;exact⟨0,b,rfl,rfl,h.symm⟩
  . simp [aG hk,cond_false] at h;obtain⟨i,b',h1,h2,h3⟩:=tT h;exact⟨i+1,b',x!,x!,h3⟩
 |x::K,none::bs,k,ab,h=>by
  simp [oN] at h;obtain⟨i,b',h1,h2,h3⟩:=tT h;exact⟨i+1,b',by simpa using h1,by simpa using h2,h3⟩
def zf {g:Nat->Nat}:∀ {K:List Nat} {bs:List (Option AB)} {i k:Nat} {b:AB},K[i]? =some k->bs[i]? =some (some b)->(ah (oN g K bs) k).isSome
 |[],bs,i,k,b,h,_=>by grind
 |x::K,[],i,k,b,_,h=>by grind
 |x::K,some c::bs,i,k,b,h1,h2=>by
  simp [oN,ah];by_cases hk:k=x
  . simp_all
  . simp [aG hk,L!];cases i with
    |zero=>simp at h1;exact absurd h1.symm hk
    |succ i=>exact zf (by simpa using h1) (by simpa using h2)
 |x::K,none::bs,i,k,b,h1,h2=>by
  simp [oN];cases i with
  |zero=>simp at h2
  |succ i=>exact zf (by simpa using h1) (by simpa using h2)
def w8:∀ {K:List Nat} {bs:List (Option AB)} {k:Nat},k∈uO K bs↔∃i:Nat,K[i]? =some k/\bs[i]? =some none
 |[],bs,k=>by grind[uO]
 |x::K,[],k=>by simp [uO]
 |x::K,some b::bs,k=>by
  simp [uO,w8 (K:=K)];constructor
  . rintro⟨i,h1,h2⟩;exact⟨i+1,by simpa using h1,by simpa using h2⟩
  . rintro⟨i,h1,h2⟩;cases i with
    |zero=>simp at h2
    |succ i=>exact⟨i,by simpa using h1,by simpa using h2⟩
 |x::K,none::bs,k=>by
  simp [uO,N!,w8 (K:=K)];constructor
  . rintro(rfl|⟨i,h1,h2⟩)
    . exact⟨0,rfl,rfl⟩
    . exact⟨i+1,by simpa using h1,by simpa using h2⟩
  . rintro⟨i,h1,h2⟩;cases i with
    |zero=>simp at h1;exact .inl h1.symm
    |succ i=>exact .inr ⟨i,by simpa using h1,by simpa using h2⟩
def CC:∀ {bs:List (Option AB)} {i:Nat} {b:AB},bs[i]? =some (some b)->∀j∈gu b,j∈zd bs
 |[],i,b,h,_,_=>by grind
 |some c::bs,0,b,h,j,hj=>by
  grind[List.getElem?_cons_zero,Option.some.injEq,zd]
 |some c::bs,i+1,b,h,j,hj=>by
  simp [zd,G!];exact .inr (CC (by simpa using h) j hj)
 |none::bs,0,b,h,j,hj=>by grind
 |none::bs,i+1,b,h,j,hj=>by
  simp [zd];exact CC (i:=i) (by simpa using h) j hj
def CD:∀ {bs:List AB} {i:Nat} {b:AB},bs[i]? =some b->∀j∈gu b,j∈w7 bs
 |[],i,b,h,_,_=>by grind
 |c::bs,0,b,h,j,hj=>by
  grind[List.getElem?_cons_zero,Option.some.injEq,w7]
 |c::bs,i+1,b,h,j,hj=>by
  simp [w7,G!];exact .inr (CD (by simpa using h) j hj)
def nv:∀(a b:List (Nat×AB)) (k:Nat),ah (a++b) k=match ah a k with
  |some x=>some x
  |none=>ah b k
 |[],b,k=>rfl
 |(j,x)::a,b,k=>by
  simp [o?,ah];cases Nat.beq k j with
  |true=>rfl
  |false=>exact nv a b k
def Q1 {G:Nat->Option GD}{f:FuncId}{s:cX}(hv:ay P G f s)(hB:aq C A β st a w)(hG:C.G=G){dst:Option Nat}(hd:∀t,dst=some t->t<st.n)
  {args:List Value} {ps:List AV} {fz K:List Nat} {base:Nat} {out:Out} (hps:ae w (cc A β fz) β args ps) (Br:∀j∈fz,∃e row l fr,st.h j=some (.row e row l fr))
  (h:Q0 s st.h base K ps fz=some out) (dV:iy st.h out.new=true) (hc:∀p∈out.cond,p):
  Calls P f args.toArray w λe w'=>∃v,e= .returned v/\Rel C (st.put dst out) (a.put dst v) w':=by
 unfold Q0 at h;split at h;case h_2=>cases h
 rename_i hs ß;cases hq:(jK K&&(asD (ar ps++w7 hs) K&&(fz.all (λk=>!au K k)&&Nat.ble hs.length 100))) with
 |false=>grind
 |true=>
 rw [hq] at h;simp only [I!] at h;split at h;case h_2=>cases h
 rename_i r hr;cases hq2:(Nat.beq r.heap.length hs.length&&(Nat.ble r.new.length 100&&((ao r.res++(zd r.heap++w7 r.new)).all (kOk r)))) with
 |false=>grind
 |true=>
 rw [hq2] at h;simp only [I!,A!] at h;subst h;simp only [B!,X!] at hq hq2;obtain⟨q1,q2,q3,q4⟩:=hq;obtain⟨r1,r2,r3⟩:=hq2;have q4:=M! q4;have r1:=C! r1;have r2:=M! r2;obtain⟨hl,ß⟩:=ze ß;have OB:∀k∈ar ps++w7 hs,k∈K:=λk hk=>mG.1 (X!.1 q2 k hk)
 have asE:∀k∈fz,k∉K:=λk hk hK=>by
  have:=q3 k hk;rw [mG.2 hK] at this;cases this
 let βc:Nat->Value:=λk=>if 50000<=k/\k<50000+K.length then β (K.getD (k-50000) 0) else .slice none 0 0
 have HO:∀(i k:Nat),K[i]? =some k->βc (50000+i)=β k:=by
  intro i k hi;have iU:=(C?.1 hi).1;simp only [βc];rw [R! ⟨w!,w!⟩,Nat.add_sub_cancel_left,List.getD,hi];rfl
 have hto:∀k∈K,βc (WI K k)=β k:=by
  intro k hk;obtain⟨h1,h2⟩:=HL hk;refine HO _ _ ?_;rw [D! h1];rw [List.getD,D! h1] at h2;simpa using h2
 have eV:∀(i k:Nat),K[i]? =some k->∃ab,hs[i]? =some ab/\st.h k=some ab:=by
  intro i k hi;have iU:=(C?.1 hi).1;obtain⟨k',h1,h2⟩:=ß i _ (D! w!);rw [hi] at h1;simp only [A!] at h1;subst h1;exact⟨_,D! w!,h2⟩
 have aAe:∀b,cc A β fz b->b<w.heap.size:=by
  intro b hb;rcases hb with hb|⟨j,hj,yW⟩
  . exact hB.bound b hb
  . obtain⟨e,row,l,fr,hr⟩:=Br j hj;exact l4 hB (by simp [hr]) yW
 have NL:b7 w w A (cc A β fz):=λb hb=>⟨.inl hb,rfl⟩
 have uM:=hv w (cc A β fz) βc args (lM (WI K) ps) (hs.map (lz (WI K))) r aAe
  (λi d hi=>(hB.laid i d (by rw [hG];exact hi)).mono NL)
  (jk (WI K) ps args (λk hk=>hto k (OB k (U! _ hk))) hps)
  (λi ab hi=>by
    rw [E?,Option.map_eq_some_iff] at hi;obtain⟨QX,hi,rfl⟩:=hi;obtain⟨k,hk,qX⟩:=ß i QX hi
    have eu:BR w (cc A β fz) β k QX:=by
     have:=vI (w':=w) (A':=cc A β fz) (aw:=β) (new:=[]) (λ_ _=>rfl) rfl (λb hb=>⟨rfl,λhA=>?_⟩) NL (hB.blocks k QX qX)
     . exact this
     . rcases hA with hA|⟨j,hj,yW⟩
       . exact hA
       . exfalso;obtain⟨e,row,l,fr,hr⟩:=Br j hj;have:=hB.apart j k b (by simp [hr]) (by simp [qX]) yW hb;subst this;exact asE j hj (K? hk)
    exact QZ (WI K) (HO i k hk) (λj hj=>hto j (OB j (A? _ (CD hi j hj)))) eu)
  (λi j b hi hj h1 h2=>by
    rw [List.length_map] at hi hj;have e1:K[i]? =some K[i]:=D! w!;have e2:K[j]? =some K[j]:=D! w!;rw [HO i _ e1] at h1;rw [HO j _ e2] at h2;obtain⟨_,_,l1⟩:=eV i _ e1;obtain⟨_,_,l2⟩:=eV j _ e2;have:=hB.apart _ _ b (by simp [l1]) (by simp [l2]) h1 h2;exact HN q1 e1 (by rw [this];exact e2))
  hr (hc _ z!) (by rw [List.length_map];exact r1) (by rw [List.length_map];exact q4)
 rw [List.length_map] at uM;refine uM.mono ?_;rintro e w' ⟨v,rfl,A2,ej,hp⟩;refine⟨v,rfl,?_⟩;let n:=K.length
 have ae7:r.new.length<=100:=r2;let ups:=fI base (r.new.map (lz (gW K base)))
 have Jl:∀k,ah ups k=(if base<=k then(r.new.map (lz (gW K base)))[k-base]? else none):=λk=>by simpa using tS base (r.new.map (lz (gW K base))) 0 k
 let NP:Nat->Value:=λk=>if base<=k/\k<base+r.new.length then ej (60000+(k-base)) else β k
 have Kq:∀j,j<r.new.length->NP (base+j)=ej (60000+j):=by
  intro j hj;simp only [NP];rw [R! ⟨w!,w!⟩,Nat.add_sub_cancel_left]
 have pX:∀k,ah ups k=none->NP k=β k:=by
  intro k h;rw [Jl k] at h;simp only [NP];rw [Q!];rintro⟨h1,h2⟩;rw [R! h1,List.getElem?_eq_none_iff,List.length_map] at h;omega
 have qM:∀k ab,ah ups k=some ab->∃j b,k=base+j/\r.new[j]? =some b/\ab=lz (gW K base) b/\j<r.new.length:=by
  intro k ab h;rw [Jl k] at h;split at h
  . rename_i hb;rw [E?,Option.map_eq_some_iff] at h;obtain⟨b,h1,h2⟩:=h;exact⟨k-base,b,w!,h1,h2.symm,(C?.1 h1).1⟩
  . cases h
 have NQ:∀k,(st.h k).isSome->ah ups k=none:=by
  intro k hk;cases hh:ah ups k with
  |none=>rfl
  |some y=>have:=(kv _ k y dV hh).1;rw [this] at hk;cases hk
 have Jm:∀(i k:Nat),K[i]? =some k->(st.h k).isSome:=λi k hi=>by obtain⟨_,_,h⟩:=eV i k hi;simp [h]
 have ae8:∀(i k:Nat),K[i]? =some k->NP k=β k:=λi k hi=>pX k (NQ k (Jm i k hi))
 have hg:∀j,kOk r j=true->NP (gW K base j)=ej j:=by
  intro j hj;simp only [kOk,e?,B!] at hj;rcases hj with⟨⟨h1,h2⟩,h3⟩|⟨h1,h2⟩
  . have h1:=M! h1;obtain⟨i,rfl⟩:∃i,j=50000+i:=⟨j-50000,w!⟩;rw [Nat.add_sub_cancel_left] at h3;split at h3
    . rename_i ab ku;have iU:=(C?.1 ku).1;obtain⟨k,hKi⟩:∃k,K[i]? =some k:=⟨_,D! w!⟩;obtain⟨_,g2⟩:=hp.kept _ _ ku
      have e:gW K base (50000+i)=k:=by
       unfold gW;rw [h2,cond_true,Nat.add_sub_cancel_left,List.getD,hKi];rfl
      rw [e,ae8 _ _ hKi,g2,HO _ _ hKi]
    . cases h3
  . have h1:=M! h1;have h2':j<60000+r.new.length:=M! h2;obtain⟨i,rfl⟩:∃i,j=60000+i:=⟨j-60000,w!⟩
    have hb:Nat.blt (60000+i) 60000=false:=by
     cases hb:Nat.blt (60000+i) 60000 with
     |false=>rfl
     |true=>have :60000+i<60000:=M! hb;omega
    have e:gW K base (60000+i)=base+i:=by
     unfold gW;rw [hb,cond_false,Nat.add_sub_cancel_left]
    rw [e,Kq _ w!]
 have fK:∀(i k:Nat),K[i]? =some k->(r.heap[i]? =some none\/∃b,r.heap[i]? =some (some b)):=by
  intro i k hi;have iU:=(C?.1 hi).1;have :i<r.heap.length:=by omega
  cases hh:r.heap[i] with
  |none=>exact .inl (by rw [D! this,hh])
  |some b=>exact .inr ⟨b,by rw [D! this,hh]⟩
 generalize tN:({cond:=[r.pre],res:=dX (gW K base) r.res,fE:=oN (gW K base) K r.heap++cx st.h fz,del:=uO K r.heap,new:=fI base (r.new.map (lz (gW K base))),raw:=K}:Out)=out;have o1:out.fE=oN (gW K base) K r.heap++cx st.h fz:=by rw [<-tN]
 have o2:out.del=uO K r.heap:=by rw [<-tN]
 have o3:out.new=ups:=by rw [<-tN]
 have o4:out.raw=K:=by rw [<-tN]
 have o5:out.res=dX (gW K base) r.res:=by rw [<-tN]
 have htK:∀(i k:Nat),K[i]? =some k->nq st out k:=by
  intro i k hi;refine⟨Jm i k hi,?_⟩;rcases fK i k hi with hh|⟨b,hh⟩
  . right;rw [o2];exact mG.2 (w8.2 ⟨i,hi,hh⟩)
  . left;rw [o1,nv];have:=zf (g:=gW K base) hi hh;obtain⟨y,hy⟩:=P!.1 this;rw [hy];rfl
 have htF:∀j∈fz,nq st out j:=by
  intro j hj;refine⟨by obtain⟨_,_,_,_,hr⟩:=Br j hj;simp [hr],.inl ?_⟩;rw [o1,nv];cases ah (oN (gW K base) K r.heap) j with
  |some y=>rfl
  |none=>exact qx fz j hj (Br j hj)
 have hHM:∀b,HM βc K.length b->∃k,nq st out k/\ag (β k)=some b:=by
  rintro b ⟨i,hi,hb⟩;have e1:K[i]? =some K[i]:=D! hi;rw [HO i _ e1] at hb;exact⟨_,htK i _ e1,hb⟩
 rw [hl] at hp;have ND:b7 w w' A A2:=λb hb=>hp.mono b (.inl hb);refine⟨A2,NP,hB.aC hd ?_ ?_ ?_ ND hp.os hp.tape hp.output hp.size ?_ hp.bound ?_ ?_ ?_ ?_ ?_ ?_⟩
 . rw [o3];exact λk b h=>kv _ k b dV h
 . rw [o1];intro k b h;rw [nv] at h;split at h
   . rename_i y hy;obtain⟨i,_,h1,_⟩:=tT hy;exact Jm i k h1
   . obtain⟨h1,e,row,l,fr,h2,_⟩:=jv fz k b h;simp [h2]
 . rw [o3];exact pX
 . intro b hb ht;refine hp.same b hb λhm=>?_;obtain⟨k,h1,h2⟩:=hHM b hm;exact ht k h1 h2
 . intro b hb;rcases Nat.lt_or_ge b w.heap.size with iU|NJ
   . rcases hp.gH b iU hb with(h|⟨j,hj,yW⟩)|hm
     . exact .inl h
     . exact .inr (.inr ⟨j,htF j hj,yW⟩)
     . exact .inr (.inr (hHM b hm))
   . exact .inr (.inl NJ)
 . intro k ab h _;rw [o1,nv] at h;split at h
   . rename_i y hy;simp only [A!] at h;subst h;obtain⟨i,b,h1,h2,rfl⟩:=tT hy
     have :vF out k (lz (gW K base) b)=lz (gW K base) b:=by
      simp only [vF,o4,mG.2 (K? h1),I!]
     rw [this];obtain⟨g1,g2⟩:=hp.kept i b h2;refine QZ (k:=50000+i) (gW K base) ((ae8 i k h1).trans (g2.trans (HO i k h1)).symm) (λj hj=>hg j (r3 j ?_)) g1;simp only [G!];exact .inr (.inl (CC h2 j hj))
   . obtain⟨hk,e,row,l,fr,oH,rfl⟩:=jv fz k ab h
     have hkK:au K k=false:=by
      cases hh:au K k with
      |false=>rfl
      |true=>exact absurd (mG.1 hh) (asE k hk)
     simp only [vF,o4,hkK,L!];rw [mz];obtain⟨xs,h1,h2,h3⟩:=hB.blocks k _ oH;simp only [BR,pX k (NQ k (by simp [oH]))];refine⟨xs,cI h1 (λb hb=>(hp.mono b (.inr ⟨k,hk,hb⟩)).2),bm (λc x hx=>bw ND row c x hx) l xs h2,λb hb=>?_⟩;simp only [R?];exact(hp.mono b (.inr ⟨k,hk,hb⟩)).1
 . rw [o3];intro k ab h;obtain⟨j,b,rfl,h1,rfl,hj⟩:=qM k ab h;refine QZ (k:=60000+j) (gW K base) (Kq j hj) (λi hi=>hg i (r3 i ?_)) (hp.rows j b h1).1;simp only [G!];exact .inr (.inr (CD h1 i hi))
 . rw [o3,o2];intro k b ab h hb;obtain⟨j,c,rfl,h1,rfl,hj⟩:=qM k ab h;rw [Kq j hj] at hb;rcases(hp.rows j c h1).2 b hb with h|⟨i,hi,Kc⟩
   . exact .inl h
   . have e1:K[i]? =some K[i]:=D! hi;have asF:=Kc;rw [HO i _ e1] at asF;rcases fK i _ e1 with hh|⟨c',hh⟩
     . exact .inr ⟨K[i],mG.2 (w8.2 ⟨i,e1,hh⟩),Jm i _ e1,asF⟩
     . exfalso;obtain⟨_,g2⟩:=hp.kept i c' hh;have:=hp.apart (50000+i) (60000+j) b (.inl ⟨i,c',rfl,w!,hh⟩) (.inr ⟨j,rfl,hj⟩) (by rw [g2];exact Kc) hb;omega
 . rw [o3];intro k k' b h h' hb ek;obtain⟨x,hx⟩:=P!.1 h;obtain⟨y,hy⟩:=P!.1 h';obtain⟨j,c,rfl,h1,_,hj⟩:=qM k x hx;obtain⟨j',c',rfl,h1',_,fk⟩:=qM k' y hy;rw [Kq j hj] at hb;rw [Kq j' fk] at ek;have:=hp.apart (60000+j) (60000+j') b (.inr ⟨j,rfl,hj⟩) (.inr ⟨j',rfl,fk⟩) hb ek;omega
 . rw [o5];refine wZ (gW K base) r.res v (λk hk=>hg k (r3 k ?_)) hp.res;simp only [G!];exact .inl hk
def uP(hB:aq C A β st a w)(hA:∀b,A b->A' b):∀(m:List Bool) (aX:List AV) (args:List Value),ae w A β args aX->(∀k∈(dj st.h m aX).2,∀b,ag (β k)=some b->A' b)->
  ae w A' β args (dj st.h m aX).1/\∀k∈(dj st.h m aX).2,∃e row l fr,st.h k=some (.row e row l fr)
 |m,[],args,h,_=>by
  grind[dj,ae]
 |m,x::xs,args,h,hk=>by
  obtain⟨v,vs,rfl,h1,h2⟩:=h;cases hm:m.headD false with
  |true=>
   simp only [dj,hm,I!] at hk |-;obtain⟨g1,g2⟩:=uP hB hA m.tail xs vs h2 hk;refine⟨?_,g2⟩;exact⟨v,vs,rfl,hY (λb hb=>⟨hA b hb,rfl⟩) x v h1,g1⟩
  |false=>
   simp only [dj,hm,L!] at hk |-;obtain⟨p1,p2⟩:=yY hB hA x v h1 (λk ew=>hk k (U! _ ew));obtain⟨g1,g2⟩:=uP hB hA m.tail xs vs h2 (λk ew=>hk k (A? _ ew));refine⟨?_,λk ew=>?_⟩
   . simp [ae];grind
   grind
end
def TP(E:Env)(st:St)(o:Oper):Option Out:=match o.op with
 |.call c=>match c.callee with
   |.value f=>match ev st f,o.dst with
     |.fn (.func f) first aR,some d=>mF E st.h (st.kb+d) f (first++(c.args.toList.map (ev st))++aR)
     |.fn (.func f) first aR,none=>mF E st.h st.kb f (first++(c.args.toList.map (ev st))++aR)
     |_,_=>none
   |_=>none
 |_=>none
def OC(E:Env)(st:St)(o:Oper):Option Out:=match Þ E st o with
 |some out=>some out
 |none=>TP E st o
section
variable {P:Program} {C:Ctx} {A A':Nat->Prop} {β aw:Nat->Value} {st:St} {a:Act} {w:World} {E:Env} {T:bY}
theorem TQ(hE:cQ P C E)(hB:aq C A β st a w){o:Oper}{out:Out}(h:OC E st o=some out)(nu:eJ st o=true)(dV:iy st.h out.new=true)(hc:∀p∈out.cond,p)
  {K:Act->World->Prop} {Q:Exit->Act->World->Prop} (hK:∀a' w',Rel C (st.put o.dst out) a' w'->K a' w'):o.wp P a w K Q:=by
 unfold OC at h;split at h
 . grind[Option.some.injEq,TO]
 rename_i pX
 have hd:∀t,o.dst=some t->t<st.n:=by
  intro t ht;simp_all[eJ,M!]
 obtain⟨dst,op,type,pos,after,guard⟩:=o;unfold TP at h;simp at h;split at h
 . rename_i c;obtain⟨callee,args,argTypes⟩:=c;split at h
   . rename_i f aER;have hf:=az hB f
     have key:∀(pV:FuncId) (first aR:List AV) (base:Nat),ev st f= .fn (.func pV) first aR->mF E st.h base pV (first++(args.toList.map (ev st))++aR)=some out->
       Oper.wp P {dst,op:=.call {callee:=.value f,args,argTypes},type,pos,after,guard} a w K Q:=by
      intro pV first aR base Ei l7
      rw [Ei] at hf;obtain⟨a1,a2,yU,r1,r2⟩:=hf;unfold mF at l7;split at l7
      . rename_i m s hs;obtain⟨hv,QU⟩:=hE.qG pV m s hs;have bj:=eI _ _ _ _ (eI _ _ _ _ r1 (l6 hB args.toList)) r2;obtain⟨p1,p2⟩:=uP (A':=cc A β (dj st.h m (first++(args.toList.map (ev st))++aR)).2) hB (λb h=>.inl h) m _ _ bj (λk hk b hb=>.inr ⟨k,hk,hb⟩);have uM:=Q1 hv hB hE.g hd p1 p2 l7 dV hc
        have fg:(execOp a.eval {dst,op:=.call {callee:=.value f,args,argTypes},type,pos,after,guard}).run P w= .ok (.enter pV (a1.toList++args.toList.map a.eval++a2.toList).toArray) w:=by
         have e:(a1++args.map a.eval)++a2=(a1.toList++args.toList.map a.eval++a2.toList).toArray:=by
          simp
         have:=QU (a1++args.map a.eval++a2) w;rw [e] at this;simp only [execOp,resolve,yU,Deferred.ofValue,Sem.run_bind,Sem.run_pure,Result.andThen_ok,invoke,e,this]
        unfold Oper.wp;rw [fg];refine uM.mono λe w' ⟨v,he,hrel⟩=>?_;subst he;exact hK _ _ hrel
      grind
     grind
   grind
 grind
end
end Go.Vg

end
