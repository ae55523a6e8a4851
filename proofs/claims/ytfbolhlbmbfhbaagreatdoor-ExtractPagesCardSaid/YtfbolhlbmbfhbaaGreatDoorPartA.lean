import Derived.Deep.MidRow
import Derived.Laws.AppendOwn
import Derived.Laws.OwnMore
import Derived.KernelRfl
import Derived.Laws.Sem
import Derived.Laws.BytesString
import Derived.Laws.StructEq
import Derived.Laws.Strings
import Derived.Laws.Small
import Derived.MapKept
import Derived.Laws.MakeOwn
set_option linter.unusedVariables false
set_option linter.unusedSimpArgs false
set_option linter.unusedSectionVars false
set_option linter.defProp false
set_option linter.defProp false
abbrev B8:=List UInt8
abbrev M(α:Type):=List α
abbrev O:=List B8
abbrev U:=List Int
def v! {p:Prop}(h:p:=by with_reducible assumption):p:=h
theorem w! {p:Prop}(h:p:=by omega):p:=h
theorem x! {p:Prop}(h:p:=by grind):p:=h
def y! {p:Prop}(h:p:=by kernel_rfl):p:=h
theorem z! {p:Prop}(h:p:=by simp):p:=h
def A!:=@Option.some.injEq
def B!:=@Bool.and_eq_true
def C!:=@List.getElem?_eq_getElem
def D!:=@Nat.eq_of_beq_eq_true
def E!:=@List.getD_eq_getElem?_getD
def F!:=@List.mem_cons_of_mem
def G!:=@List.mem_cons_self
def H!:=@List.length_append
def I!:=@List.mem_append
def J!:=@decide_eq_true_eq
def K!:=@cond_true
def L!:=@Nat.le_of_ble_eq_true
def M!:=@Array.getElem?_eq_some_iff
def N!:=@cond_false
def O!:=@List.mem_cons
def P!:=@Nat.le_refl
def Q!:=@if_pos
def R!:=@Nat.zero_le
def S!:=@Option.isSome_iff_exists
def T!:=@List.mem_append_left
def U!:=@List.eq_nil_of_length_eq_zero
def V!:=@List.append_assoc
def W!:=@if_neg
def X!:=@List.mem_append_right
def Y!:=@List.length_take
def Z!:=@Int.toNat_natCast
def A?:=@Array.getD_eq_getD_getElem?
def B?:=@List.all_eq_true
def C?:=@Nat.lt_of_lt_of_le
def D?:=@List.mem_of_getElem?
def E?:=@List.getElem?_map
def F?:=@List.append_nil
def G?:=@List.getElem?_eq_some_iff
def H?:=@Nat.mul_le_mul_right
def I?:=@List.length_drop
def J?:=@List.length_singleton
def K?:=@List.map_cons
def L?:=@List.mem_map_of_mem
def M?:=@decide_eq_true
def N?:=@List.length_cons
def O?:=@List.map_congr_left
def P?:=@if_true
def Q?:=@Bool.not_eq_true'
def R?:=@List.take_append_drop
def S?:=@Array.getElem?_eq_getElem
def T?:=@List.drop_eq_getElem_cons
def U?:=@List.cons_append
def V?:=@Option.some.inj
def W?:=@List.length_eq_zero_iff
def X?:=@List.getElem?_cons_zero
def Y?:=@Bool.or_eq_false_iff
def Z?:=@Nat.le_trans
def a?:=@List.drop_eq_nil_of_le
def b?:=@Bool.false_eq_true
def c?:=@List.getElem_of_mem
def d?:=@List.nil_append
def e?:=@Bool.or_eq_true
def f?:=@decide_eq_false
def g?:=@List.mem_map
def h?:=@List.pairwise_cons
def i?:=@List.take_of_length_le
def j?:=@List.drop_drop
def k?:=@Array.getElem?_toList
def l?:=@List.map_append
def m?:=@List.set_eq_take_append_cons_drop
def n?:=@Nat.add_mul
def o?:=@Nat.zero_add
def p?:=@Nat.add_sub_cancel_left
def q?:=@decide_eq_false_iff_not
def r?:=@List.getElem?_cons_succ
def s?:=@if_false
def t?:=@List.mem_singleton
def u?:=@Nat.mul_one
def v?:=@List.map_map
def w?:=@Nat.pow_succ
def x?:=@Int.eq_ofNat_of_zero_le
def y?:=@List.tail_eq_of_cons_eq
def z?:=@not_not_intro
namespace Go.Vg
open Go
inductive Ty where
 |int (k:IntKind)
 |bool
 |str
 |slice (row:List Ty)
mutual
def Ty.beq:Ty->Ty->Bool
 |.int k,.int k'=>decide (k=k')
 |.bool,.bool|.str,.str=>true
 |.slice r,.slice r'=>Ty.A8 r r'
 |_,_=>false
def Ty.A8:M Ty->M Ty->Bool
 |[],[]=>true
 |t::ts,u::us=>Ty.beq t u&&Ty.A8 ts us
 |_,_=>false
end
@[reducible] def DI:IntKind->Type
  |.u8=>UInt8
  |.i8=>Int|.i16=>Int|.i32=>Int|.i64=>Int|.u16=>Int|.u32=>Int|.u64=>Int
@[reducible] def aJC (ts:M Ty) (a b:Type):Type:=match ts with
  |[]=>a
  |_::_=>a×b
mutual
@[reducible] def D:Ty->Type
  |.int k=>DI k
  |.bool=>Bool
  |.str=>B8
  |.slice row=>M (Row row)
@[reducible] def Row:M Ty->Type
  |[]=>Unit
  |t::ts=>aJC ts (D t) (Row ts)
end
def DI.toInt:(k:IntKind)->DI k->Int
 |.u8,x=>(UInt8.toNat x:Int)
 |.i8,n=>n|.i16,n=>n|.i32,n=>n|.i64,n=>n|.u16,n=>n|.u32,n=>n|.u64,n=>n
def DI.ofInt:(k:IntKind)->Int->DI k
 |.u8,n=>UInt8.ofNat n.toNat
 |.i8,n=>n|.i16,n=>n|.i32,n=>n|.i64,n=>n|.u16,n=>n|.u32,n=>n|.u64,n=>n
variable {t:Ty}
def Row.hd: {ts:M Ty}->Row (t::ts)->D t
 |[],x=>x
 |_::_,x=>x.1
def Row.tl: {ts:M Ty}->Row (t::ts)->Row ts
 |[],_=>()
 |_::_,x=>x.2
def Row.mk: {ts:M Ty}->D t->Row ts->Row (t::ts)
 |[],x,_=>x
 |_::_,x,y=>(x,y)
def DI.zero:(k:IntKind)->DI k
 |.u8=>(0:UInt8)
 |.i8=>(0:Int)|.i16=>(0:Int)|.i32=>(0:Int)|.i64=>(0:Int)|.u16=>(0:Int)|.u32=>(0:Int)|.u64=>(0:Int)
def D.zero:(t:Ty)->D t
 |.int k=>DI.zero k
 |.bool=>false
 |.str=>[]
 |.slice _=>[]
def Row.zero:(ts:M Ty)->Row ts
 |[]=>()
 |t::ts=>Row.mk (D.zero t) (Row.zero ts)
def lo:IntKind->Int
 |.i8=> -128|.i16=> -32768|.i32=> -2147483648|.i64=> -9223372036854775808
 |.u8=>0|.u16=>0|.u32=>0|.u64=>0
def hi:IntKind->Int
 |.i8=>127|.i16=>32767|.i32=>2147483647|.i64=>9223372036854775807
 |.u8=>255|.u16=>65535|.u32=>4294967295|.u64=>18446744073709551615
def qT:IntKind->Option Int
 |.u8=>some 256|.u16=>some 65536|.u32=>some 4294967296|.u64=>some 18446744073709551616
 |.i8=>none|.i16=>none|.i32=>none|.i64=>none
inductive AV where
 |cM
 |undef
 |int (k:IntKind) (n:Int)
 |bool (b:Bool)
 |tt
 |ff
 |str (s:B8)
 |nil
 |kY
 |mf
 |sl (row:List Ty) (l:List (Row row))
 |full (row:List Ty) (l:List (Row row))
 |cz (row:List Ty) (x:Row row) (j:Nat)
 |qU (row:List Ty) (l:List (Row row))
 |own (k:Nat)
 |pre (k:Nat) (n:Nat)
 |view (k sz off len:Nat)
 |ref (k off:Nat)
 |elem (k sz i j:Nat)
 |agg (cs:List AV)
 |bc (vs:List AV)
 |fn (f:Fn) (first aO:List AV)
 |qV (row:List Ty) (l:List (Row row))
 |iA (ks:List Int) (cs:List AV)
inductive Z where
 |n
 |g (e ei:Nat) (l:List (List Int))
 |s (t:B8)
abbrev CF:=Z->Prop×AV×Z
inductive AB where
 |cells (cs:List AV)
 |row (e:Nat) (row:List Ty) (l:List (Row row)) (fr:Bool)
 |views (e:Nat) (j:Option Nat) (n m sz:Nat)
 |arr (row:List Ty) (l:List (Row row))
 |iy (e:Nat) (j:Option Nat) (row:List Ty) (l:List (Row row)) (i:Nat)
 |dq (e:Nat) (k:Option Nat) (l:List CF)
 |bj (e sz n:Nat) (cs:List AV)
 |ek (e:Nat) (j:Option Nat) (xs:List Value) (i:Nat)
 |fvar (row:List Ty) (x:Row row)
 |mp (b:Nat) (es:Array MapEntry) (ck:Nat)
def GA:(t:Ty)->D t->AV
 |.int k,x=>.int k (DI.toInt k x)
 |.bool,b=>.bool b
 |.str,s=>.str s
 |.slice row,l=>.sl row l
def ay:(ts:M Ty)->Row ts->M AV
 |[],_=>[]
 |t::ts,x=>GA t (Row.hd x)::ay ts (Row.tl x)
mutual
theorem Ty.eq_of_beq:∀(a b:Ty),Ty.beq a b=true->a=b
 |.int k,.int k',h=>by simp[Ty.beq] at h;rw[h]
 |.bool,.bool,_|.str,.str,_=>rfl
 |.slice r,.slice r',h=>by simp only[Ty.beq] at h;rw[Ty.mX r r' h]
 |.int _,.bool,h|.int _,.str,h|.int _,.slice _,h|.bool,.int _,h=>by simp[Ty.beq] at h
 |.bool,.str,h=>by simp[Ty.beq] at h
 |.bool,.slice _,h|.str,.int _,h=>by simp[Ty.beq] at h
 |.str,.bool,h=>by simp[Ty.beq] at h
 |.str,.slice _,h|.slice _,.int _,h|.slice _,.bool,h|.slice _,.str,h=>by simp[Ty.beq] at h
theorem Ty.mX:∀(a b:M Ty),Ty.A8 a b=true->a=b
 |[],[],_=>rfl
 |t::ts,u::us,h=>by
  simp only[Ty.A8,B!] at h;rw[Ty.eq_of_beq t u h.1,Ty.mX ts us h.2]
 |[],_::_,h|_::_,[],h=>by simp[Ty.A8] at h
end
def fG(r r':M Ty)(l:M (Row r)):Option (M (Row r')):=
 if h:Ty.A8 r r'=true then some ((Ty.mX r r' h)▸l) else none
def Xe:(t:Ty)->AV->Option (D t)
 |.int k,.int k' n=>if k=k' then some (DI.ofInt k n) else none
 |.bool,.bool b=>some b
 |.bool,.tt=>some true
 |.bool,.ff=>some false
 |.str,.str s=>some s
 |.slice r,.sl r' l|.slice r,.full r' l=>fG r' r l
 |.slice _,.nil=>some ([]:M _)
 |_,_=>none
def kZ:(ts:M Ty)->M AV->Option (Row ts)
 |[],[]=>some ()
 |t::ts,a::as_=>match Xe t a,kZ ts as_ with
  |some x,some y=>some (Row.mk x y)
  |_,_=>none
 |_,_=>none
def setRow:(ts:M Ty)->Row ts->Nat->AV->Option (Row ts)
 |[],_,_,_=>none
 |t::ts,x,0,a=>match Xe t a with
  |some d=>some (Row.mk d (Row.tl x))
  |none=>none
 |t::ts,x,j+1,a=>match setRow ts (Row.tl x) j a with
  |some y=>some (Row.mk (Row.hd x:D t) y)
  |none=>none
def sx:(ts:M Ty)->Row ts->Nat->M AV->Option (Row ts)
 |_,x,_,[]=>some x
 |ts,x,j,a::as_=>match setRow ts x j a with
  |some y=>sx ts y (j+1) as_
  |none=>none
def yS(ts:M Ty):Nat->M AV->Option (M (Row ts))
 |0,as_=>match as_ with|[]=>some []|_::_=>none
 |n+1,as_=>match kZ ts (as_.take ts.length),yS ts n (as_.drop ts.length) with
  |some x,some l=>some (x::l)
  |_,_=>none
structure TE where
 desc:TypeDesc
 size:Nat
 bytes:Nat
 zero:Value
inductive bX where
 |leaf
 |node (l:bX) (k:Nat) (v:TE) (r:bX)
def bX.find:bX->Nat->Option TE
 |.leaf,_=>none
 |.node l k v r,n=>bif Nat.beq n k then some v else bif Nat.blt n k then l.find n else r.find n
def _root_.Go.TypeDesc.nH:TypeDesc->Bool
 |.struct _|.array _ _=>true
 |_=>false
def Eg {α:Type}:Option (M α)->Option (M α)->Option (M α)
 |some a,some b=>some (a++b)
 |_,_=>none
def rowOf(T:bX):Nat->TypeId->Option (M Ty)
 |0,_=>none
 |n+1,t=>match T.find t with
  |none=>none
  |some te=>match te.desc with
   |.int k=>some [.int k]
   |.bool=>some [.bool]
   |.string=>some [.str]
   |.slice e=>match rowOf T n e with|some r=>some [.slice r]|none=>none
   |.struct fs=>fs.toList.foldr (λf acc=>Eg (rowOf T n f.type) acc) (some [])
   |.array k e=>match rowOf T n e with|some r=>some ((List.replicate k r).flatten)|none=>none
   |_=>none
def Df:Value->AV
 |.int k n=>if lo k<=n/\n<=hi k then .int k n else .cM
 |.bool b=>if b then .tt else .ff
 |.string s=>bif Nat.ble s.data.toList.length 1000000 then .str s.data.toList else .cM
 |.slice none 0 0=>.nil
 |.pointer none=>.kY
 |.nilFunc=>.mf
 |_=>.cM
def ofConst:Value->AV
 |.agg cs=>.agg (cs.toList.map Df)
 |v=>Df v
inductive KS where
 |one (k:Nat)
 |dst (d:Nat)
structure GD where
 row:List Ty
 l:List (Row row)
structure St where
 t:Nat->AV
 h:Nat->Option AB
 cd:List Nat
 news:List KS
 KM:List Nat
 n:Nat
 kb:Nat
 g:Nat->Option GD
abbrev aJ:=Nat->Option AB
def ev(st:St):Operand->AV
 |.tmp i=>st.t i
 |.const v=>ofConst v
 |.global i=>match st.g i with
   |some d=>.qU d.row d.l
   |none=>.cM
 |.func f=>.fn (.func f) [] []
def ja(h:aJ):AV->AV×M Nat
 |.own k=>match h k with
   |some (.row _ row l _)=>(.sl row l,[k])
   |_=>(.cM,[])
 |.pre k n=>match h k with
   |some (.row _ row l _)=>(.sl row (l.take n),[k])
   |_=>(.cM,[])
 |.view k sz off len=>match h k with
   |some (.row _ row l _)=>bif Nat.beq sz row.length then(.sl row ((l.drop off).take len),[k]) else(.cM,[])
   |_=>(.cM,[])
 |a=>(a,[])
def p0(h:aJ):M AV->M AV×M Nat
 |[]=>([],[])
 |a::as_=>((ja h a).1::(p0 h as_).1,(ja h a).2++(p0 h as_).2)
def mY(h:aJ):AV->AV×M Nat
 |.agg cs=>(.agg (p0 h cs).1,(p0 h cs).2)
 |a=>ja h a
def mZ(h:aJ):M AV->M AV×M Nat
 |[]=>([],[])
 |a::as_=>((mY h a).1::(mZ h as_).1,(mY h a).2++(mZ h as_).2)
def AV.cells:AV->M AV
 |.agg cs=>cs
 |a=>[a]
def AV.one:AV->Bool
 |.cM|.undef|.agg _|.bc _=>false
 |_=>true
structure Out where
 cond:List Prop
 res:AV
 gb:List (Nat×AB):=[]
 del:List Nat:=[]
 new:List (Nat×AB):=[]
 raw:List Nat:=[]
def b6(h:aJ):M Nat->M (Nat×AB)
 |[]=>[]
 |k::ks=>match h k with
  |some (.row e row l _)=>(k,.row e row l true)::b6 h ks
  |_=>b6 h ks
mutual
def eA(d:Nat):AV->AV
 |.own k=>bif Nat.beq k d then .cM else .own k
 |.pre k n=>bif Nat.beq k d then .cM else .pre k n
 |.view k sz off n=>bif Nat.beq k d then .cM else .view k sz off n
 |.ref k off=>bif Nat.beq k d then .cM else .ref k off
 |.elem k sz i j=>bif Nat.beq k d then .cM else .elem k sz i j
 |.agg cs=>.agg (gH d cs)
 |.bc vs=>.bc (gH d vs)
 |.fn f first aO=>.fn f (gH d first) (gH d aO)
 |.iA ks cs=>.iA ks (gH d cs)
 |a=>a
def gH(d:Nat):M AV->M AV
 |[]=>[]
 |a::as_=>eA d a::gH d as_
end
def rZ(d:Nat):Option Nat->Option Nat
 |some k=>bif Nat.beq k d then none else some k
 |none=>none
def yT(b:Bool)(e k:Nat)(l:M CF):AB:=bif b then .views e none l.length 0 0 else .dq e (some k) l
def mN(d:Nat):AB->AB
 |.cells cs=>.cells (gH d cs)
 |.dq e (some k) l=>yT (Nat.beq k d) e k l
 |.ek e j xs i=>.ek e (rZ d j) xs i
 |.views e j n m sz=>.views e (rZ d j) n m sz
 |.iy e j row l i=>.iy e (rZ d j) row l i
 |b=>b
def Mx(cs:M AV)(off:Nat)(vs:M AV):M AV:=cs.take off++vs++cs.drop (off+vs.length)
def IT(h:aJ):AV->Option Int
 |.str s=>some (s.length:Int)
 |.sl _ l|.full _ l=>some (l.length:Int)
 |.nil=>some 0
 |.own k=>match h k with
   |some (.row _ _ l _)=>some (l.length:Int)
   |_=>none
 |.pre k n=>match h k with
   |some (.row _ _ _ _)=>some (n:Int)
   |_=>none
 |.view k _ _ n=>match h k with
   |some (.row _ _ _ _)=>some (n:Int)
   |_=>none
 |_=>none
def lP(T:bX)(t:TypeId):Option TE:=match T.find t with
 |some te=>match te.desc with
  |.slice e=>T.find e
  |_=>none
 |none=>none
def nI(T:bX)(t:TypeId):Option TypeId:=match T.find t with
 |some te=>match te.desc with
  |.slice e=>some e
  |_=>none
 |none=>none
def iL(T:bX)(t:TypeId)(n:Nat):Bool:=match T.find t with
 |some te=>Nat.beq te.size n
 |none=>false
def aV(T:bX)(t:TypeId)(n:Nat):Bool:=match lP T t with
 |some te=>Nat.beq te.size n&&Nat.blt 0 n
 |none=>false
def M9(T:bX)(t:TypeId):Option (Nat×Nat):=match T.find t with
 |some te=>match te.desc with
  |.array k e=>match T.find e with
    |some ee=>bif Nat.blt 0 ee.size then some (k,ee.size) else none
    |none=>none
  |_=>none
 |none=>none
def gW(T:bX)(h:aJ)(t:TypeId):AV->AV->Option Out
 |.sl row l,.int _ i=>
   bif aV T t row.length then some {cond:=[0<=i/\i<(l.length:Int)],res:=.cz row (l.getD i.toNat (Row.zero row)) 0} else none
 |.full row l,.int _ i=>
   bif aV T t row.length then some {cond:=[0<=i/\i<(l.length:Int)],res:=.cz row (l.getD i.toNat (Row.zero row)) 0} else none
 |.own k,.int _ i=>match h k with
   |some (.row _ row l _)=>bif aV T t row.length then some {cond:=[0<=i/\i<(l.length:Int)],res:=.elem k row.length i.toNat 0} else none
   |_=>none
 |.pre k n,.int _ i=>match h k with
   |some (.row _ row l _)=>bif aV T t row.length then some {cond:=[0<=i/\i<(n:Int)],res:=.elem k row.length i.toNat 0} else none
   |_=>none
 |.view k sz off n,.int _ i=>bif aV T t sz then some {cond:=[0<=i/\i<(n:Int)],res:=.elem k sz (off+i.toNat) 0} else none
 |.qU row l,.int _ i=>match M9 T t with
   |some (n,sz)=>bif Nat.beq sz row.length then some {cond:=[n=l.length,0<=i/\i<(l.length:Int)],res:=.cz row (l.getD i.toNat (Row.zero row)) 0} else none
   |none=>none
 |.ref k off,.int _ i=>match M9 T t with
   |some (n,sz)=>some {cond:=[0<=i/\i<(n:Int)],res:=.ref k (off+i.toNat*sz)}
   |none=>none
 |_,_=>none
def R1(off:Nat)(n:Int)(sz:Nat):Nat:=off+n.toNat*sz
def arX:Operand->Option Int
 |.const (.int _ n)=>some n
 |_=>none
def uz(T:bX)(h:aJ)(t:TypeId)(n:Option Int)(x y:AV):Option Out:=match n,x,y with
 |some n,.ref k off,.int kd i=>match M9 T t with
  |some (m,sz)=>if n=i then some {cond:=[0<=i/\i<(m:Int)],res:=.ref k (R1 off n sz)} else gW T h t (.ref k off) (.int kd i)
  |none=>none
 |_,x,y=>gW T h t x y
def pick(te:TE)(cs:M AV)(off:Nat):Option AV:=
 bif te.desc.nH then(bif Nat.ble (off+te.size) cs.length then some (.agg ((cs.drop off).take te.size)) else none)
 else cs[off]?
def p9(T:bX)(h:aJ)(t:TypeId):AV->Option Out
 |.cz row x j=>match T.find t with
   |some te=>match pick te (ay row x) j with
    |some a=>some {cond:=[],res:=a}
    |none=>none
   |none=>none
 |.qU row l=>match T.find t with
   |some te=>match pick te (l.flatMap (ay row)) 0 with
    |some a=>some {cond:=[],res:=a}
    |none=>none
   |none=>none
 |.ref k off=>match T.find t,h k with
   |some te,some (.cells cs)=>match pick te cs off with
    |some a=>some {cond:=[],res:=a}
    |none=>none
   |_,_=>none
 |.elem k sz i j=>match T.find t,h k with
   |some te,some (.row _ row l _)=>
    bif Nat.beq sz row.length then match pick te (ay row (l.getD i (Row.zero row))) j with
     |some a=>some {cond:=[i<l.length],res:=a}
     |none=>none
    else none
   |_,_=>none
 |_=>none
def iB(T:bX)(h:aJ)(t:TypeId):AV->AV->Option Out
 |.ref k off,v=>match h k with
   |some (.cells cs)=>
    bif v.cells.all AV.one&&iL T t v.cells.length&&Nat.ble (off+v.cells.length) cs.length then
     some {cond:=[],res:=.undef,gb:=[(k,.cells (Mx cs off v.cells))]} else none
   |_=>none
 |.elem k sz i j,v=>match h k with
   |some (.row e row l false)=>
    bif Nat.beq sz row.length&&iL T t v.cells.length&&Nat.blt 0 v.cells.length then match sx row (l.getD i (Row.zero row)) j (mY h v).1.cells with
     |some x=>bif (mY h v).2.elem k then none else some {cond:=[i<l.length],res:=.undef,gb:=(k,.row e row (l.set i x) false)::b6 h (mY h v).2}
     |none=>none
    else none
   |_=>none
 |_,_=>none
def GB(T:bX)(s:TypeId)(f:Nat):Option (TypeId×Nat):=match T.find s with
 |some te=>match te.desc with
  |.struct fs=>match fs[f]? with
    |some fd=>some (fd.type,fd.offset)
    |none=>none
  |_=>none
 |none=>none
def GC(T:bX)(t:TypeId):Bool:=match T.find t with
 |some te=>Nat.blt 0 te.size
 |none=>false
def xf(T:bX)(s:TypeId)(f:Nat)(x:AV):Option Out:=match GB T s f with
 |some (ft,o)=>bif GC T ft then match x with
  |.ref k off=>some {cond:=[],res:=.ref k (off+o)}
  |.cz row x j=>some {cond:=[],res:=.cz row x (j+o)}
  |.elem k sz i j=>some {cond:=[],res:=.elem k sz i (j+o)}
  |_=>none
  else none
 |none=>none
def fit(k:IntKind)(n:Int):M Prop×AV:=match qT k with
 |some c=>([],.int k (n%c))
 |none=>([lo k<=n/\n<=hi k],.int k n)
def wh(k:IntKind)(cond:M Prop)(n:Int):Option Out:=some {cond:=cond++(fit k n).1,res:=(fit k n).2}
def Eh(k:IntKind)(n:Int):M Prop:=match qT k with
 |some _=>[]
 |none=>[0<=n]
def bitsOf:IntKind->Int
 |.i8|.u8=>8|.i16|.u16=>16|.i32|.u32=>32|.i64|.u64=>64
def aT(a b:Int):Int:=((a.toNat&&&b.toNat:Nat):Int)
def cn(a b:Int):Int:=((a.toNat ||| b.toNat:Nat):Int)
def eN(a b:Int):Int:=((a.toNat^^^b.toNat:Nat):Int)
def wi:AV->Option Bool
 |.bool b=>some b
 |.tt=>some true
 |.ff=>some false
 |_=>none
def cE(T:bX)(t:TypeId)(f:TypeDesc->Bool):Bool:=match T.find t with
 |some te=>f te.desc
 |none=>false
def gN:TypeDesc->Bool
 |.slice _=>true
 |_=>false
def Na:TypeDesc->Bool
 |.bool=>true
 |_=>false
def R2(T:bX)(E:TypeId->AV->AV->Option Bool)(xs ys:M AV):M Field->Option Bool
 |[]=>some true
 |f::fs=>match T.find f.type with
  |some te=>match pick te xs f.offset,pick te ys f.offset with
   |some a,some b=>match E f.type a b,R2 T E xs ys fs with
    |some r,some r'=>some (match fs with|[]=>r|_=>bif r then r' else false)
    |_,_=>none
   |_,_=>none
  |none=>none
def KN(T:bX):Nat->TypeId->AV->AV->Option Bool
 |0,_,_,_=>none
 |n+1,t,x,y=>match T.find t with
  |some te=>match te.desc with
   |.struct fs=>match x,y with
     |.agg xs,.agg ys=>R2 T (KN T n) xs ys fs.toList
     |_,_=>none
   |.int _=>match x,y with
     |.int k a,.int k' b=>if k=k' then some (decide (a=b)) else none
     |_,_=>none
   |.string=>match x,y with
     |.str a,.str b=>some (decide (a=b))
     |_,_=>none
   |.bool=>match wi x,wi y with
     |some a,some b=>some (a==b)
     |_,_=>none
   |_=>none
  |none=>none
def Ua(T:bX)(t:TypeId)(op:BinOp):AV->AV->Option Out
 |.int k n,.int k' m=>match op with
   |.shl=>wh k [0<=m/\m<=bitsOf k] (n*2^m.toNat)
   |.shr=>some {cond:=[0<=m/\m<=bitsOf k],res:=.int k (n/2^m.toNat)}
   |_=>if k=k' then match op with
    |.add=>wh k [] (n+m)
    |.sub=>wh k [] (n-m)
    |.mul=>wh k [] (n*m)
    |.quo=>some {cond:=Eh k n++[0<m],res:=.int k (n/m)}
    |.rem=>some {cond:=Eh k n++[0<m],res:=.int k (n%m)}
    |.and=>some {cond:=Eh k n++Eh k m,res:=.int k (aT n m)}
    |.or=>some {cond:=Eh k n++Eh k m,res:=.int k (cn n m)}
    |.xor=>some {cond:=Eh k n++Eh k m,res:=.int k (eN n m)}
    |.eql=>some {cond:=[],res:=.bool (decide (n=m))}
    |.neq=>some {cond:=[],res:=.bool (!decide (n=m))}
    |.lss=>some {cond:=[],res:=.bool (decide (n<m))}
    |.leq=>some {cond:=[],res:=.bool (decide (n<=m))}
    |.gtr=>some {cond:=[],res:=.bool (decide (m<n))}
    |.geq=>some {cond:=[],res:=.bool (decide (m<=n))}
    |_=>none
    else none
 |.str s,.str u=>match op with
   |.add=>some {cond:=[((s.length+u.length:Nat):Int)<=9223372036854775807],res:=.str (s++u)}
   |.eql=>some {cond:=[],res:=.bool (decide (s=u))}
   |.neq=>some {cond:=[],res:=.bool (!decide (s=u))}
   |.lss=>some {cond:=[],res:=.bool (Op.bytesLess s u)}
   |.leq=>some {cond:=[],res:=.bool (Op.bytesLess s u || decide (s=u))}
   |.gtr=>some {cond:=[],res:=.bool (!(Op.bytesLess s u || decide (s=u)))}
   |.geq=>some {cond:=[],res:=.bool (!Op.bytesLess s u)}
   |_=>none
 |.sl (r::rs) l,.nil=>bif cE T t gN then match op with
     |.eql=>some {cond:=[],res:=.qV (r::rs) l}
     |_=>none
     else none
 |.agg xs,.agg ys=>match KN T 8 t (.agg xs) (.agg ys) with
   |some r=>match op with
    |.eql=>some {cond:=[],res:=.bool r}
    |.neq=>some {cond:=[],res:=.bool (!r)}
    |_=>none
   |none=>none
 |a,b=>match wi a,wi b with
  |some x,some y=>bif cE T t Na then match op with
   |.eql=>some {cond:=[],res:=.bool (x==y)}
   |.neq=>some {cond:=[],res:=.bool (!(x==y))}
   |_=>none
   else none
  |_,_=>none
def Ü(op:UnOp):AV->Option Out
 |.bool b=>match op with|.not=>some {cond:=[],res:=.bool (!b)}|_=>none
 |.tt=>match op with|.not=>some {cond:=[],res:=.ff}|_=>none
 |.ff=>match op with|.not=>some {cond:=[],res:=.tt}|_=>none
 |.int k n=>match op with
   |.neg=>wh k [] (0-n)
   |.xor=>match qT k with
     |some c=>some {cond:=[],res:=.int k (c-1-n)}
     |none=>none
   |_=>none
 |_=>none
def ow(h:aJ)(row:M Ty)(a:AV):Option (M (Row row)):=match a with
 |.str s=>fG [.int .u8] row s
 |.nil=>some []
 |a=>match(ja h a).1 with
  |.sl r l|.full r l=>fG r row l
  |_=>none
def r6:Nat:=8
def Dg:TypeDesc->Bool
 |.slice _=>true
 |.string=>true
 |_=>false
def rm(T:bX)(h:aJ)(d:Nat)(t t':TypeId)(s x:AV):Option Out:=
 match nI T t,lP T t with
 |some e,some te=>match rowOf T r6 e with
  |some row=>bif Nat.beq row.length te.size&&Nat.blt 0 te.size&&Nat.beq (ofConst te.zero).cells.length te.size&&cE T t' Dg then
   match ow h row x with
   |some m=>match s with
    |.nil=>some {cond:=[m.length<=140737488355328/te.bytes],res:=.own d,new:=[(d,.row e row m false)]}
    |.own k=>match h k with
      |some (.row e' mg l false)=>bif Nat.beq e' e then match fG mg row l with
       |some l'=>some {cond:=[l'.length+m.length<=140737488355328/te.bytes],res:=.own d,del:=[k],new:=[(d,.row e row (l'++m) false)]}
       |none=>none
       else none
      |_=>none
    |.pre k n=>match h k with
      |some (.row e' mg l false)=>bif Nat.beq e' e then match fG mg row l with
       |some l'=>some {cond:=[n+m.length<=140737488355328/te.bytes],res:=.own d,del:=[k],new:=[(d,.row e row (l'.take n++m) false)]}
       |none=>none
       else none
      |_=>none
    |.full r l=>match fG r row l with
      |some l'=>some {cond:=[0<m.length,l'.length+m.length<=140737488355328/te.bytes],res:=.own d,new:=[(d,.row e row (l'++m) false)]}
      |none=>none
    |_=>none
   |none=>none
   else none
  |none=>none
 |_,_=>none
def uA(T:bX)(h:aJ)(t t':TypeId)(s x:AV):Option Out:=
 match s with
 |.own k=>match h k with
   |some (.row e row l false)=>bif aV T t row.length then match ow h row x with
    |some m=>some {cond:=[],res:=.int .i64 ((min m.length l.length:Nat):Int),gb:=[(k,.row e row (m.take l.length++l.drop m.length) false)]}
    |none=>none
    else none
   |_=>none
 |.view k sz off n=>match h k with
   |some (.row e row l false)=>bif aV T t row.length&&Nat.beq sz row.length then match ow h row x with
    |some m=>some {cond:=[off+n<=l.length],res:=.int .i64 ((min m.length n:Nat):Int),gb:=[(k,.row e row (l.take off++m.take n++l.drop (off+min m.length n)) false)]}
    |none=>none
    else none
   |_=>none
 |_=>none
def wj:Option AV->Option (Option Int)
 |none=>some none
 |some (.int _ i)=>some (some i)
 |some _=>none
def tL:TypeDesc->Bool
 |.string=>true
 |_=>false
def uj(T:bX)(h:aJ)(t:TypeId)(x:AV)(lo hi mx:Option AV):Option Out:=
 match x,wj lo,wj hi,wj mx with
 |.str s,some lo,some hi,some none=>bif cE T t tL then match lo,hi with
   |none,none=>some {cond:=[],res:=.str s}
   |none,some b=>some {cond:=[0<=b/\b<=(s.length:Int)],res:=.str (s.take b.toNat)}
   |some a,none=>some {cond:=[0<=a/\a<=(s.length:Int)],res:=.str (s.drop a.toNat)}
   |some a,some b=>some {cond:=[0<=a/\a<=b/\b<=(s.length:Int)],res:=.str ((s.take b.toNat).drop a.toNat)}
   else none
 |.sl row l,some lo,some hi,some none=>bif aV T t row.length then match lo,hi with
   |none,none=>some {cond:=[],res:=.sl row l}
   |none,some b=>some {cond:=[0<=b/\b<=(l.length:Int)],res:=.sl row (l.take b.toNat)}
   |some a,none=>some {cond:=[0<=a/\a<=(l.length:Int)],res:=.sl row (l.drop a.toNat)}
   |some a,some b=>some {cond:=[0<=a/\a<=b/\b<=(l.length:Int)],res:=.sl row ((l.take b.toNat).drop a.toNat)}
   else none
 |.sl row l,some none,some (some b),some (some c)=>bif aV T t row.length then some {cond:=[0<=b/\b=c/\b<=(l.length:Int)],res:=.full row (l.take b.toNat)} else none
 |.own k,some lo,some hi,some none=>match h k with
   |some (.row _ row l _)=>bif aV T t row.length then match lo,hi with
    |none,none=>some {cond:=[],res:=.own k}
    |none,some b=>some {cond:=[0<=b/\b<=(l.length:Int)],res:=.pre k b.toNat}
    |some a,none=>some {cond:=[0<=a/\a<=(l.length:Int)],res:=.view k row.length a.toNat (l.length-a.toNat)}
    |some a,some b=>some {cond:=[0<=a/\a<=b/\b<=(l.length:Int)],res:=.view k row.length a.toNat (b.toNat-a.toNat)}
    else none
   |_=>none
 |_,_,_,_=>none
def yU:AV->Bool
 |.str _=>false
 |_=>true
def Dh(T:bX)(h:aJ)(s d:TypeId)(k:Nat):Option Out:=
 bif Nat.beq s d then match T.find s with
  |some ts=>match ts.desc with
   |.slice e=>match T.find e,h k with
     |some te,some (.row _ row l false)=>match te.desc,fG row [.int .u8] l with
      |.int .u8,some l'=>some {cond:=[0<l'.length],res:=.sl [.int .u8] l',del:=[k]}
      |_,_=>none
     |_,_=>none
   |_=>none
  |none=>none
 else none
def pH(T:bX)(h:aJ)(s d:TypeId)(x:AV):Option Out:=
 match T.find s,T.find d with
 |some ts,some td=>match ts.desc,td.desc,x with
  |.int _,.int k,.int k' n=>
    if lo k<=lo k'/\hi k'<=hi k then some {cond:=[],res:=.int k n} else wh k [] n
  |.string,.string,.str u=>some {cond:=[],res:=.str u}
  |.string,.slice e,.str u=>match T.find e with
    |some te=>match te.desc with
     |.int .u8=>some {cond:=[],res:=.sl [.int .u8] u}
     |_=>none
    |none=>none
  |.slice e,.string,x=>match T.find e with
    |some te=>match te.desc with
     |.int .u8=>match yU x,ow h [.int .u8] x with
       |true,some u=>some {cond:=[],res:=.str u}
       |_,_=>none
     |_=>none
    |none=>none
  |.slice _,.slice _,.own k=>Dh T h s d k
  |_,_,_=>none
 |_,_=>none
def yV(place:Nat->Option (Nat×Nat))(cs:M AV):M (Nat×AV)->Option (M AV)
 |[]=>some cs
 |(i,v)::rest=>match place i with
  |none=>none
  |some (off,size)=>bif Nat.beq v.cells.length size&&Nat.ble (off+size) cs.length&&v.cells.all AV.one then yV place (Mx cs off v.cells) rest else none
def placesOf(T:bX):M Field->Option (M (Nat×Nat))
 |[]=>some []
 |f::fs=>match T.find f.type,placesOf T fs with
  |some te,some ps=>some ((f.offset,te.size)::ps)
  |_,_=>none
def IU(T:bX)(t:TypeId)(parts:M (Nat×AV)):Option Out:=match T.find t with
 |some te=>match te.desc with
  |.struct fs=>match placesOf T fs.toList with
    |some ps=>match yV (λi=>ps[i]?) (ofConst te.zero).cells parts with
     |some cs=>some {cond:=[],res:=.agg cs}
     |none=>none
    |none=>none
  |.array _ e=>match T.find e with
    |some ee=>match yV (λi=>some (i*ee.size,ee.size)) (ofConst te.zero).cells parts with
     |some cs=>some {cond:=[],res:=.agg cs}
     |none=>none
    |none=>none
  |_=>none
 |none=>none
def qa(h:aJ):M (Nat×AV)->M (Nat×AV)×M Nat
 |[]=>([],[])
 |(i,x)::ps=>((i,(mY h x).1)::(qa h ps).1,(mY h x).2++(qa h ps).2)
def k7(T:bX)(h:aJ)(d:Nat)(t:TypeId)(len:Nat)(parts:M (Nat×AV)):Option Out:=
 match nI T t,lP T t with
 |some e,some te=>match rowOf T r6 e with
  |some row=>bif Nat.beq row.length te.size&&Nat.blt 0 te.size&&Nat.beq (ofConst te.zero).cells.length te.size&&Nat.ble (len*te.size) 16777216 then
   match yV (λi=>some (i*te.size,te.size)) ((List.replicate len (ofConst te.zero).cells).flatten) (qa h parts).1 with
   |some cs=>match yS row len cs with
    |some l=>some {cond:=[],res:=.own d,gb:=b6 h (qa h parts).2,new:=[(d,.row e row l false)]}
    |none=>none
   |none=>none
   else none
  |none=>none
 |_,_=>none
def cY(row:M Ty)(z:Value):Bool:=match z with
 |.agg cs=>cP row cs.toList
 |v=>cP row [v]
where
 cP:M Ty->M Value->Bool
 |[],[]=>true
 |.int k::ts,.int k' n::vs=>decide (k=k')&&decide (n=0)&&cP ts vs
 |.bool::ts,.bool false ::vs=>cP ts vs
 |.str::ts,.string s::vs=>s.data.toList.isEmpty&&cP ts vs
 |.slice _::ts,.slice none 0 0::vs=>cP ts vs
 |_,_=>false
def uk(T:bX)(h:aJ)(t:TypeId)(x:AV):Option Out:=
 match x with
 |.view k sz off n=>match h k with
   |some (.row e row l false)=>match nI T t,lP T t with
    |some _,some te=>bif aV T t row.length&&Nat.beq sz row.length&&Nat.beq row.length te.size&&cY row te.zero then
      some {cond:=[off+n<=l.length],res:=.bc [],gb:=[(k,.row e row (l.take off++List.replicate n (Row.zero row)++l.drop (off+n)) false)]} else none
    |_,_=>none
   |_=>none
 |_=>none
def xg(T:bX)(d:Nat)(t:TypeId):AV->AV->Option Out
 |.int k n,.int k' c=>match nI T t,lP T t with
   |some e,some te=>match rowOf T r6 e with
    |some row=>bif Nat.beq row.length te.size&&Nat.blt 0 te.size&&cY row te.zero then
     some {cond:=[0<=n/\n<=c/\c<=140737488355328/te.bytes],res:=.own d,new:=[(d,.row e row (List.replicate n.toNat (Row.zero row)) false)]} else none
    |none=>none
   |_,_=>none
 |_,_=>none
abbrev Ub:=M AV->Option (Prop×AV×M AB)
structure bl where
 pre:Prop
 res:AV
 heap:List (Option AB)
 new:List AB
abbrev eC:=M AV->M AB->Option bl
structure Env where
 T:bX
 sig:Nat->Option Ub
 jY:Nat->Option GD:=λ_=>none
 qW:Nat->Option (List Bool×eC):=λ_=>none
 iy:Nat->Bool:=λ_=>false
 cls:Nat->Option Nat:=λ_=>none
 L6:Nat->Bool:=λ_=>false
 IV:Nat:=0
 cg:Nat->Option (List AV->Option (Option Nat×CF)):=λ_=>none
 L7:Nat->Option (List (Option TypeId)):=λ_=>none
mutual
def eo(base:Nat):AV->AV
 |.own k=>.own (base+k)
 |.agg cs=>.agg (um base cs)
 |.bc vs=>.bc (um base vs)
 |a=>a
def um(base:Nat):M AV->M AV
 |[]=>[]
 |a::as_=>eo base a::um base as_
end
def gO(base:Nat):M AB->M (Nat×AB)
 |[]=>[]
 |b::bs=>(base,b)::gO (base+1) bs
def pI(d:Nat):Nat:=100000+100*d
mutual
def AV.gl:AV->Bool
 |.int _ _|.bool _|.tt|.ff|.str _|.undef|.own _|.nil=>true
 |.agg cs=>GF cs
 |.bc vs=>GF vs
 |_=>false
def GF:M AV->Bool
 |[]=>true
 |a::as_=>a.gl&&GF as_
end
def Nb:AV->Bool
 |.fn (.func _) [] []=>true
 |_=>false
def alC:AV->Bool
 |.cz _ _ _=>true
 |_=>false
mutual
def lQ(n:Nat):AV->Bool
 |.own k=>Nat.blt k n
 |.agg cs=>GG n cs
 |.bc vs=>GG n vs
 |.iA _ cs=>cs.all Nb
 |.fn _ l m=>l.isEmpty&&m.all alC
 |.cM|.pre _ _|.view _ _ _ _|.ref _ _|.elem _ _ _ _|.cz _ _ _|.qU _ _=>false
 |_=>true
def GG(n:Nat):M AV->Bool
 |[]=>true
 |a::as_=>lQ n a&&GG n as_
end
def k8:M AB->Bool
 |[]=>true
 |.row _ _ _ false ::r=>k8 r
 |_=>false
def My:Ty->Bool
 |.slice _=>false
 |_=>true
def dY:M AB->Bool
 |[]=>true
 |.row _ row _ _::r=>row.all My&&dY r
 |_=>false
def qb(E:Env)(h:aJ)(d f:Nat)(args:M AV):Option Out:=match E.sig f with
 |some s=>match s (mZ h args).1 with
  |some (pre,res,bs)=>bif Nat.ble bs.length 100&&lQ bs.length res&&k8 bs then some {cond:=[pre],res:=eo (pI d) res,gb:=bif res.gl&&dY bs then [] else b6 h (mZ h args).2,new:=gO (pI d) bs} else none
  |none=>none
 |none=>none
def GH(b:Bool):AV->AV->AV
 |.int k n,.int k' m=>if k=k' then .int k (bif b then n else m) else .cM
 |.str s,.str u=>.str (bif b then s else u)
 |.sl r l,.sl r' m=>match fG r' r m with
   |some m'=>.sl r (bif b then l else m')
   |none=>.cM
 |.sl r l,.nil=>.sl r (bif b then l else [])
 |.nil,.sl r l=>.sl r (bif b then [] else l)
 |.nil,.nil=>.nil
 |.kY,.kY=>.kY
 |.own k,.own k'=>bif Nat.beq k k' then .own k else .cM
 |x,y=>match wi x,wi y with
  |some p,some q=>.bool (bif b then p else q)
  |_,_=>.cM
def uo(b:Bool):M AV->M AV->M AV
 |x::xs,y::ys=>GH b x y::uo b xs ys
 |_,_=>[]
def GI(b:Bool):AV->AV->AV
 |.agg xs,.agg ys=>bif Nat.beq xs.length ys.length then .agg (uo b xs ys) else .cM
 |.bc xs,.bc ys=>bif Nat.beq xs.length ys.length then .bc (uo b xs ys) else .cM
 |x,y=>GH b x y
def GJ(b:Bool):Option AB->Option AB->Option AB
 |some (.cells xs),some (.cells ys)=>bif Nat.beq xs.length ys.length then some (.cells (uo b xs ys)) else none
 |some (.row e r l fr),some (.row e' r' m GK)=>match fG r' r m with
  |some m'=>bif Nat.beq e e'&&(fr==GK) then some (.row e r (bif b then l else m') fr) else none
  |none=>none
 |_,_=>none
def GL:M AV->Option (IntKind×U)
 |[]=>none
 |a::r=>match a with
  |.int k n=>match r with
    |[]=>some (k,[n])
    |_::_=>match GL r with
     |some (k',l)=>if k=k' then some (k,n::l) else none
     |none=>none
  |_=>none
def every(sz j:Nat):Nat->M AV->M AV
 |0,_=>[]
 |n+1,cs=>cs.getD j .cM::every sz j n (cs.drop sz)
def GM(sz k:Nat)(cs:M AV)(n:Int):Nat->Option (M AV)
 |0=>some []
 |m+1=>match GM sz k cs n m,GL (every sz m k cs) with
  |some vs,some (kd,l)=>some (vs++[.int kd (l.getD n.toNat 0)])
  |_,_=>none
def Nc(T:bX)(t:TypeId):Option (Nat×TE):=match T.find t with
 |some te=>match te.desc with
  |.array k e=>match T.find e with
    |some ee=>some (k,ee)
    |none=>none
  |_=>none
 |none=>none
def yW(T:bX)(t:TypeId)(cs:M AV)(n:Int):Option Out:=match Nc T t with
 |some (k,ee)=>bif Nat.beq cs.length (k*ee.size) then match GM ee.size k cs n ee.size with
  |some vs=>bif ee.desc.nH then some {cond:=[0<=n/\n<(k:Int)],res:=.agg vs} else match vs with
   |[a]=>some {cond:=[0<=n/\n<(k:Int)],res:=a}
   |_=>none
  |none=>none
  else none
 |none=>none
def qQ(k:Nat):Bool:=Nat.ble 50000 k&&Nat.blt k 60000
def fresh(h:aJ)(k:Nat):Bool:=match h k with
 |none=>!(qQ k)
 |some _=>false
def yX(n:Int):U->Prop
 |[]=>True
 |k::r=>n≠k/\yX n r
def Nd(n:Int):U->Bool
 |[]=>false
 |k::r=>decide (n=k) || Nd n r
def gX:U->Bool
 |[]=>true
 |k::r=>!Nd k r&&gX r
def xh:TypeDesc->Bool
 |.int .i64=>true
 |_=>false
def Ý:Value->Bool
 |.nilFunc=>true
 |_=>false
def Fb(T:bX)(IV:Nat)(t:TypeId)(ok:Bool)(ks:U)(cs:M AV)(n:Int):Option Out:=match T.find t with
 |some te=>match te.desc with
  |.map kt et=>bif cE T kt xh&&gX ks then
      (match ks[IV]?,cs[IV]? with
      |some k,some c=>some {cond:=[n=k],res:=bif ok then .bc [c,.tt] else c}
      |_,_=>match T.find et with
       |some ee=>bif Ý ee.zero then some {cond:=[yX n ks],res:=bif ok then .bc [.mf,.ff] else .mf} else none
       |none=>none)
    else none
  |_=>none
 |none=>none
def dL(E:Env)(st:St)(o:Oper):Option Out:=
 let T:=E.T
 let h:=st.h
 let ρ:=ev st
 match o.op with
 |.move x|.assign x=>some {cond:=[],res:=ρ x}
 |.pick c a b=>match ρ c with
   |.tt=>some {cond:=[],res:=ρ a}
   |.ff=>some {cond:=[],res:=ρ b}
   |.bool p=>some {cond:=[],res:=GI p (ρ a) (ρ b)}
   |_=>none
 |.alloc t=>match T.find t,o.dst with
   |some te,some d=>bif Nat.ble te.size 40 then(bif (ofConst te.zero).cells.all AV.one then some {cond:=[],res:=.ref (st.kb+d) 0,new:=[(st.kb+d,.cells (gH (st.kb+d) (ofConst te.zero).cells))]} else none) else none
   |_,_=>none
 |.box _ x=>match o.dst with
   |some d=>bif (ρ x).cells.all AV.one then some {cond:=[],res:=.ref (st.kb+d) 0,new:=[(st.kb+d,.cells (gH (st.kb+d) (ρ x).cells))]} else none
   |none=>none
 |.build t parts=>IU T t (parts.toList.map λp=>(p.1,ρ p.2))
 |.buildSlice t len parts=>match o.dst with
   |some d=>bif fresh h (st.kb+d) then k7 T h (st.kb+d) t len (parts.toList.map λp=>(p.1,ρ p.2)) else none
   |none=>none
 |.load t p=>p9 T h t (ρ p)
 |.store t p v=>iB T h t (ρ p) (ρ v)
 |.nilCheck x=>match ρ x with
   |.ref k off=>some {cond:=[],res:=.ref k off}
   |.cz r x j=>some {cond:=[],res:=.cz r x j}
   |.elem k sz i j=>some {cond:=[],res:=.elem k sz i j}
   |.fn (.func f) first aO=>some {cond:=[],res:=.fn (.func f) first aO}
   |_=>none
 |.binOp op t x y _=>Ua T t op (ρ x) (ρ y)
 |.unOp op _ x=>Ü op (ρ x)
 |.convert s d x=>pH T h s d (ρ x)
 |.makeFunc f first aO=>some {cond:=[],res:=.fn f (first.toList.map ρ) (aO.toList.map ρ)}
 |.makeSlice t l c=>match o.dst with
   |some d=>bif fresh h (st.kb+d) then xg T (st.kb+d) t (ρ l) (ρ c) else none
   |none=>none
 |.slice t x lo hi mx=>uj T h t (ρ x) (lo.map ρ) (hi.map ρ) (mx.map ρ)
 |.fieldAddr s x f=>xf T s f (ρ x)
 |.field s x f=>match GB T s f,ρ x with
   |some (ft,off),.agg cs=>match T.find ft with
    |some te=>match pick te cs off with
     |some a=>some {cond:=[],res:=a}
     |none=>none
    |none=>none
   |_,_=>none
 |.indexAddr t x i=>uz T h t (arX i) (ρ x) (ρ i)
 |.index t x i=>match ρ x,ρ i with
   |.str s,.int _ n=>bif cE T t tL then some {cond:=[0<=n/\n<(s.length:Int)],res:=.int .u8 ((s.getD n.toNat 0).toNat:Int)} else none
   |.agg cs,.int _ n=>yW T t cs n
   |_,_=>none
 |.extract x i=>match ρ x with
   |.bc vs=>match vs[i]? with
     |some a=>some {cond:=[],res:=a}
     |none=>none
   |_=>none
 |.lookup t x i ok=>match ρ x,ρ i with
   |.iA ks cs,.int .i64 n=>Fb T E.IV t ok ks cs n
   |_,_=>none
 |.call c=>match c.callee with
   |.builtin b=>match b,c.args.toList,c.argTypes.toList with
     |.len,[x],[t]=>match IT h (ρ x) with
       |some n=>bif (bif yU (ρ x) then cE T t gN else cE T t tL) then some {cond:=[],res:=.int .i64 n} else none
       |none=>none
     |.append,[s,x],[t,t']=>match o.dst with
       |some d=>bif fresh h (st.kb+d) then rm T h (st.kb+d) t t' (ρ s) (ρ x) else none
       |none=>none
     |.copy,[s,x],[t,t']=>uA T h t t' (ρ s) (ρ x)
     |.clear,[x],[t]=>uk T h t (ρ x)
     |.min,[x,y],_=>match ρ x,ρ y with
       |.int k n,.int k' m=>if k=k' then some {cond:=[],res:=.int k (min n m)} else none
       |_,_=>none
     |.max,[x,y],_=>match ρ x,ρ y with
       |.int k n,.int k' m=>if k=k' then some {cond:=[],res:=.int k (max n m)} else none
       |_,_=>none
     |_,_,_=>none
   |.value f=>match ρ f,o.dst with
     |.fn (.func f) first aO,some d=>qb E h (st.kb+d) f (first++(c.args.toList.map ρ)++aO)
     |.fn (.func f) first aO,none=>qb E h st.kb f (first++(c.args.toList.map ρ)++aO)
     |_,_=>none
   |_=>none
 |_=>none
def jQ(h:aJ):M (Nat×AB)->Bool
 |[]=>true
 |(k,_)::r=>(match h k with|none=>!(qQ k)|some _=>false)&&jQ h r
def nJ(new:M (Nat×AB))(a:AV):AV:=match new with
 |[]=>a
 |(k,_)::r=>nJ r (eA k a)
def bF(new:M (Nat×AB))(a:AB):AB:=match new with
 |[]=>a
 |(k,_)::r=>bF r (mN k a)
def ai(l:M (Nat×AB))(k:Nat):Option AB:=match l with
 |[]=>none
 |(j,b)::r=>bif Nat.beq k j then some b else ai r k
def aq(l:M Nat)(k:Nat):Bool:=match l with
 |[]=>false
 |j::r=>Nat.beq k j || aq r k
def xQ(out:Out)(k:Nat)(b:AB):AB:=bif aq out.raw k then b else bF out.new b
def xR(h:aJ)(out:Out):aJ:=λk=>match ai out.new k with
 |some b=>some b
 |none=>bif aq out.del k then none else match ai out.gb k with
  |some b=>some (xQ out k b)
  |none=>match h k with
   |some b=>some (bF out.new b)
   |none=>none
def St.put(st:St)(d:Option Nat)(out:Out):St:=
 {st with
  t:=match d with
   |some d=>λi=>bif Nat.beq i d then out.res else nJ out.new (st.t i)
   |none=>λi=>nJ out.new (st.t i)
  h:=xR st.h out
  cd:=out.gb.map (·.1)++(out.del++(out.new.map (·.1)++st.cd))
  news:=st.news++out.new.map λx=>.one x.1
  KM:=out.del++st.KM}
def KO:M Prop->Prop
 |[]=>True
 |[p]=>p
 |p::ps=>p/\KO ps
def dn {α:Type}(R:M Value->α->Prop):M Value->M α->Prop
 |cs,[]=>cs=[]
 |cs,x::l=>∃c1 c2,cs=c1++c2/\R c1 x/\dn R c2 l
mutual
def Rd(w:World)(A:Nat->Prop):(t:Ty)->Value->D t->Prop
 |.int k,v,x=>v= .int k (DI.toInt k x)/\lo k<=DI.toInt k x/\DI.toInt k x<=hi k
 |.bool,v,b=>v= .bool b
 |.str,v,s=>v= .string ⟨s.toArray⟩/\s.length<=maxLen
 |.slice row,v,l=>∃a cap cs,v= .slice a l.length cap/\l.length<=cap/\cap<=maxLen/\dn (bw w A row) cs l/\
     (cs≠ []->∃b o,a=some ⟨b,o,none⟩/\A b/\w.rangeAt b o cs)
def bw(w:World)(A:Nat->Prop):(ts:M Ty)->M Value->Row ts->Prop
 |[],vs,_=>vs=[]
 |t::ts,vs,x=>∃v bY,vs=v::bY/\Rd w A t v (Row.hd x)/\bw w A ts bY (Row.tl x)
end
mutual
def aa(w:World)(A:Nat->Prop)(β:Nat->Value):Value->AV->Prop
 |_,.cM=>True
 |v,.undef=>v=undef
 |v,.int k n=>v= .int k n/\lo k<=n/\n<=hi k
 |v,.bool b=>v= .bool b
 |v,.tt=>v= .bool true
 |v,.ff=>v= .bool false
 |v,.str s=>v= .string ⟨s.toArray⟩/\s.length<=maxLen
 |v,.nil=>v= .slice none 0 0
 |v,.kY=>v= .pointer none
 |v,.mf=>v= .nilFunc
 |v,.sl row l=>Rd w A (.slice row) v l
 |v,.full row l=>Rd w A (.slice row) v l/\∃a,v= .slice a l.length l.length
 |v,.cz row x j=>∃b o cs,v= .pointer (some ⟨b,o+j,none⟩)/\A b/\w.rangeAt b o cs/\bw w A row cs x
 |v,.qU row l=>∃b o cs,v= .pointer (some ⟨b,o,none⟩)/\A b/\w.rangeAt b o cs/\dn (bw w A row) cs l
 |v,.own k=>v=β k/\v.oneCell'=true
 |v,.pre k n=>(β k= .slice none 0 0/\v= .slice none 0 0/\n=0)\/
    ∃b m cap,β k= .slice (some ⟨b,0,none⟩) m cap/\v= .slice (some ⟨b,0,none⟩) n cap/\n<=m
 |v,.view k sz off n=>(n=0/\∃a cap,v= .slice a 0 cap/\cap<=maxLen)\/
    ∃b m cap jM,β k= .slice (some ⟨b,0,none⟩) m cap/\v= .slice (some ⟨b,off*sz,none⟩) n jM/\n<=jM/\off+jM<=cap/\off+n<=m
 |v,.ref k off=>∃b,β k= .pointer (some ⟨b,0,none⟩)/\v= .pointer (some ⟨b,off,none⟩)
 |v,.elem k sz i j=>∃b m cap,β k= .slice (some ⟨b,0,none⟩) m cap/\v= .pointer (some ⟨b,i*sz+j,none⟩)
 |v,.agg cs=>∃arr:Array Value,v= .agg arr/\ae w A β arr.toList cs
 |v,.bc vs=>∃arr:Array Value,v= .tuple arr/\ae w A β arr.toList vs
 |v,.qV _ l=>∃b,v= .bool b/\(b=true->l=[])
 |v,.fn f first aO=>∃a1 a2:Array Value,v= .func f a1 a2/\ae w A β a1.toList first/\ae w A β a2.toList aO
 |v,.iA ks cs=>∃(b:Nat) (es:Array MapEntry) (clock:Nat),v= .map (some b)/\A b/\(∃yY,w.heap[b]? =some (.map yY clock)/\yY.toList.Perm es.toList)/\es.toList.map (·.key)=ks.map (Value.int .i64)/\ae w A β (es.toList.map (·.val)) cs
def ae(w:World)(A:Nat->Prop)(β:Nat->Value):M Value->M AV->Prop
 |vs,[]=>vs=[]
 |vs,a::as_=>∃v bY,vs=v::bY/\aa w A β v a/\ae w A β bY as_
end
def ah:Value->Option Nat
 |.pointer (some a)=>some a.block
 |.slice (some a) _ _=>some a.block
 |_=>none
def bG(w w':World)(A A':Nat->Prop):Prop:=∀b,A b->A' b/\w'.heap[b]? =w.heap[b]?
def du(P:Program)(f:FuncId):Prop:=∀(args:Array Value) (w:World),(callFunc f args).run P w= .ok (.enter f args) w
def alD(P:Program)(f g:FuncId):Prop:=du P f/\∀(w:World) (y:FuncId) (p:Value),Calls P f #[.func (.func y) #[] #[],p] w λe w'=>∃ty,e= .returned (.func (.func g) #[] #[p,.pointer (some ⟨w.heap.size,0,none⟩)])/\w'=w.alloc (.cells #[.func (.func y) #[] #[]] ty)
class HP where
 is:Program->Prop
 mkf:Nat->Option Nat
 Uc:∀P,is P->∀f g,mkf f=some g->alD P f g
end Go.Vg
namespace Go.Vg
open Go
variable [HP]
def oZ(w:World)(S:Nat->Prop)(e:Nat):M Value->M U->Prop
 |[],[]=>True
 |v::vs,x::l=>w.ownsRow 0 e 1 v x.length (x.map (Value.int .i64))/\(∀n∈x,lo .i64<=n/\n<=hi .i64)/\(∀b,ah v=some b->S b/\∀u∈vs,ah u≠some b)/\oZ w S e vs l
 |_,_=>False
def HB(w:World)(S:Nat->Prop)(p:Value):Z->Prop
 |.n=>True
 |.s t=>∃b e,p= .pointer (some ⟨b,0,none⟩)/\w.heap[b]? =some (.cells #[.string ⟨t.toArray⟩] e (0,0))/\t.length<=maxLen/\S b
 |.g e ei l=>∃b e0 v xs,p= .pointer (some ⟨b,0,none⟩)/\w.heap[b]? =some (.cells #[v] e0 (0,0))/\S b/\v.oneCell'=true/\w.ownsRow 0 e 1 v l.length xs/\
     (∀g,ah v=some g->S g/\g≠b/\∀u∈xs,ah u≠some g)/\(∀u∈xs,ah u≠some b)/\oZ w S ei xs l
def aBE(w:World)(p v:Value):Prop:=∃b e,p= .pointer (some ⟨b,0,none⟩)/\w.heap[b]? =some (.cells #[v] e (0,0))
def ZR(w:World)(p:Value)(w':World):Z->Z->Prop
 |.n,.n=>True
 |.s _,.s _=>True
 |.g e ei _,.g e' ei' _=>e=e'/\ei=ei'/\∀v,aBE w p v->aBE w' p v
 |_,_=>False
structure tG (w:World) (A S:Nat->Prop) (z:Z) (w':World) (A' S':Nat->Prop) (p v:Value) (r:AV×Z):Prop where
 kin:ZR w p w' z r.2
 os:w'.os=w.os
 tape:w'.tape=w.tape
 output:w'.output=w.output
 size:w.heap.size<=w'.heap.size
 same:∀b,b<w.heap.size->¬S b->w'.heap[b]? =w.heap[b]?
 mono:∀b,A b->A' b
 fk:∀b,b<w.heap.size->A' b->A b
 bound:∀b,A' b->b<w'.heap.size
 Nf:∀b,S' b->(S b\/w.heap.size<=b)/\¬A' b/\b<w'.heap.size
 res:∀β,aa w' A' β v r.1
 hb:HB w' S' p r.2
def A9(w:World)(A:Nat->Prop)(p v:Value)(F:CF):Prop:=
 v.oneCell'=true/\((∀z,¬(F z).1)\/∃f a1 a2,v= .func (.func f) a1 a2/\∀P,HP.is P->du P f/\∀w' A' z S,bG w w' A A'->(∀b,A' b->b<w'.heap.size)->(∀b,S b->¬A' b/\b<w'.heap.size)->HB w' S p z->(F z).1->
  Calls P f (a1++a2) w' λe Ud=>∃v',e= .returned v'/\∃A'' S',tG w' A' S z Ud A'' S' p v' (F z).2)
def na(w:World)(A:Nat->Prop)(p:Value):M Value->M CF->Prop
 |[],[]=>True
 |v::vs,F::l=>A9 w A p v F/\na w A p vs l
 |_,_=>False
variable {A A' A1:Nat->Prop}{v vi vx z v' vs vp:Value}{w w':World}{cs xs:List Value}{o j n off sz e b cap bytes dCap:Nat}{az β pY:Nat->Value}{ab:AB}{a:Act}{d dst:Option Nat}{K:Act->World->Prop}{P:Program}{Q:Exit->Act->World->Prop}{st:St}{c l:List Prop}{r x res:AV}{T:bX}{t s t' ty:TypeId}{te:TE}{i:TypeInfo}{α:Type}{out:Out}{fr:Bool}{arr:Array Value}{m:Int}{op:BinOp}{y:Operand}{es yY:List MapEntry}{vh vl:Option Value}{row:List Ty}{h:aJ}{u:B8}{fz:List Nat}{E:Env}
theorem A9.mono{p:Value}{F:CF}(hK:bG w w' A A')(h:A9 w A p v F):A9 w' A' p v F:=by
 obtain⟨h0,h|⟨f,a1,a2,h1,h2⟩⟩:=h;exact⟨h0,.inl h⟩;exact⟨h0,.inr ⟨f,a1,a2,h1,λP hP=>⟨(h2 P hP).1,λw2 A2 z S Rl=>(h2 P hP).2 w2 A2 z S λb hb=>⟨(Rl b (hK b hb).1).1,(Rl b (hK b hb).1).2.trans (hK b hb).2⟩⟩⟩⟩
theorem na.mono {w w':World}{A A':Nat->Prop}{p:Value}(hK:bG w w' A A'):∀ {xs:M Value} {l:M CF},na w A p xs l->na w' A' p xs l
 |[],[],_=>trivial
 |_::_,_::_,h=>⟨h.1.mono hK,na.mono hK h.2⟩
def BR(w:World)(A:Nat->Prop)(β:Nat->Value)(k:Nat):AB->Prop
 |.cells cs=>∃b arr e,β k= .pointer (some ⟨b,0,none⟩)/\w.heap[b]? =some (.cells arr e (0,0))/\¬A b/\
     ae w A β arr.toList cs/\∀v∈arr.toList,v.oneCell'=true
 |.row e row l fr=>∃xs,w.ownsRow 0 e row.length (β k) l.length xs/\dn (bw w A row) xs l/\
     ∀b,ah (β k)=some b->if fr then A b else ¬A b
 |.arr row l=>∃b arr e,β k= .pointer (some ⟨b,0,none⟩)/\w.heap[b]? =some (.cells arr e (0,0))/\¬A b/\dn (bw w A row) arr.toList l
 |.iy e j row l i=>∃xs v0,w.ownsRow 0 e row.length (β k) l.length xs/\(∀b,ah (β k)=some b->¬A b)/\dn (bw w A row) (xs.set (i*row.length+(row.length-1)) v0) l/\
     ∀j',j=some j'->xs[i*row.length+(row.length-1)]? =some (β j')
 |.views e j n m sz=>∃xs,w.ownsRow 0 e 1 (β k) n xs/\(∀b,ah (β k)=some b->¬A b)/\
     ∀j',j=some j'->∀i,i<m->∃v,xs[i]? =some v/\aa w A β v (.view j' 1 (i*sz) sz)
 |.dq e j l=>∃xs,w.ownsRow 0 e 1 (β k) l.length xs/\(∀b,ah (β k)=some b->¬A b)/\∀p,(∀j',j=some j'->p=β j')->na w A p xs l
 |.ek e j xs i=>∃ys,w.ownsRow 0 e 1 (β k) xs.length ys/\(∀b,ah (β k)=some b->¬A b)/\(∀m,m≠i->ys[m]? =xs[m]?)/\∀j',j=some j'->ys[i]? =some (β j')/\(β j').oneCell'=true
 |.fvar row x=>∃b arr e,β k= .pointer (some ⟨b,0,none⟩)/\w.heap[b]? =some (.cells arr e (0,0))/\A b/\bw w A row arr.toList x
 |.bj e sz n cs=>∃xs,w.ownsRow 0 e sz (β k) n xs/\(∀b,ah (β k)=some b->¬A b)/\∀az,ae w A az xs cs
 |.mp b es ck=>β k= .pointer (some ⟨b,0,none⟩)/\w.heap[b]? =some (.map es ck)/\¬A b
def nb(w:World)(A:Nat->Prop)(i:Nat)(d:GD):Prop:=A i/\∃cs,w.rangeAt i 0 cs/\dn (bw w A d.row) cs d.l
structure Ctx where
 w0:World
 A0:Nat->Prop
 M0:Nat->Prop
 G:Nat->Option GD
 GN:Nat->Value
structure Fr (C:Ctx) (w:World):Prop where
 os:w.os=C.w0.os
 tape:w.tape=C.w0.tape
 output:w.output=C.w0.output
 size:C.w0.heap.size<=w.heap.size
 block:∀b,b<C.w0.heap.size->¬C.M0 b->w.heap[b]? =C.w0.heap[b]?
structure al (C:Ctx) (A:Nat->Prop) (β:Nat->Value) (st:St) (a:Act) (w:World):Prop where
 defers:a.defers=[]
 size:a.tmps.size=st.n
 tmps:∀i,aa w A β (a.tmps.getD i undef) (st.t i)
 blocks:∀k ab,st.h k=some ab->BR w A β k ab
 apart:∀k k' b,(st.h k).isSome->(st.h k').isSome->ah (β k)=some b->ah (β k')=some b->k=k'
 bound:∀b,A b->b<w.heap.size
 frame:Fr C w
 fk:∀b,b<C.w0.heap.size->A b->C.A0 b\/C.M0 b
 base:∀b,C.A0 b->A b
 ot:∀k b,(st.h k).isSome->ah (β k)=some b->C.w0.heap.size<=b\/C.M0 b
 qc:∀i d,st.g i=some d->C.G i=some d
 laid:∀i d,C.G i=some d->nb w A i d
 held:∀k,qQ k=true->β k=C.GN k
def Rel(C:Ctx)(st:St)(a:Act)(w:World):Prop:=∃A β,al C A β st a w
def r7 {w:World}{b:Nat}(h:w'.heap[b]? =w.heap[b]?)(hr:w.rangeAt b o cs):w'.rangeAt b o cs:=by
 intro j v hj;have:=hr j v hj;grind[World.cell?_of_block]
theorem bx {α:Type}{R R':M Value->α->Prop}(h:∀c x,R c x->R' c x):∀(l:M α) (cs:M Value),dn R cs l->dn R' cs l
 |[],_,hr=>hr
 |_::l,_,⟨c1,c2,hc,h1,h2⟩=>⟨c1,c2,hc,h _ _ h1,bx h l c2 h2⟩
mutual
theorem sy {w w':World}{A A':Nat->Prop}(h:bG w w' A A'):∀(t:Ty) (v:Value) (x:D t),Rd w A t v x->Rd w' A' t v x
 |.int _,_,_,hr|.bool,_,_,hr|.str,_,_,hr=>by simpa only[Rd] using hr
 |.slice row,v,l,hr=>by
   simp only[Rd] at hr |-;obtain⟨a,cap,cs,h1,h2,h3,h4,h5⟩:=hr;refine⟨a,cap,cs,h1,h2,h3,bx (λc x hx=>br h row c x hx) l cs h4,λdi=>?_⟩;obtain⟨b,o,ha,hA,hra⟩:=h5 di;exact⟨b,o,ha,(h b hA).1,r7 (h b hA).2 hra⟩
theorem br {w w':World}{A A':Nat->Prop}(h:bG w w' A A'):∀(ts:M Ty) (vs:M Value) (x:Row ts),bw w A ts vs x->bw w' A' ts vs x
 |[],_,_,hr=>by simpa only[bw] using hr
 |t::ts,vs,x,hr=>by
  simp only[bw] at hr |-;obtain⟨v,bY,h1,h2,h3⟩:=hr;exact⟨v,bY,h1,sy h t v _ h2,br h ts bY _ h3⟩
end
theorem nb.mono{i:Nat}{d:GD}(hd:nb w A i d)(h:bG w w' A A'):nb w' A' i d:=by
 obtain⟨h1,cs,h2,h3⟩:=hd;exact⟨(h i h1).1,cs,r7 (h i h1).2 h2,bx (λc x hx=>br h _ _ _ hx) _ _ h3⟩
mutual
theorem jb {w w':World}{A A':Nat->Prop}{β:Nat->Value}(h:bG w w' A A'):∀(a:AV) (v:Value),aa w A β v a->aa w' A' β v a
 |.cM,_,hr=>by simp[aa]
 |.undef,_,hr|.int _ _,_,hr|.bool _,_,hr|.tt,_,hr|.ff,_,hr|.str _,_,hr|.nil,_,hr|.kY,_,hr|.qV _ _,_,hr|.mf,_,hr=>by simpa only[aa] using hr
 |.sl row l,v,hr=>by
   simp only[aa] at hr |-;exact sy h _ _ _ hr
 |.full row l,v,hr=>by
   simp only[aa] at hr |-;exact⟨sy h _ _ _ hr.1,hr.2⟩
 |.cz row x j,v,hr=>by
   simp only[aa] at hr |-;obtain⟨b,o,cs,h1,h2,h3,h4⟩:=hr;exact⟨b,o,cs,h1,(h b h2).1,r7 (h b h2).2 h3,br h _ _ _ h4⟩
 |.qU row l,v,hr=>by
   simp only[aa] at hr |-;obtain⟨b,o,cs,h1,h2,h3,h4⟩:=hr;exact⟨b,o,cs,h1,(h b h2).1,r7 (h b h2).2 h3,bx (λc x hx=>br h _ _ _ hx) _ _ h4⟩
 |.own _,_,hr|.pre _ _,_,hr|.view _ _ _ _,_,hr|.ref _ _,_,hr|.elem _ _ _ _,_,hr=>by simpa only[aa] using hr
 |.agg cs,v,hr=>by
   simp only[aa] at hr |-;obtain⟨arr,h1,h2⟩:=hr;exact⟨arr,h1,cF h cs _ h2⟩
 |.bc cs,v,hr=>by
   simp only[aa] at hr |-;obtain⟨arr,h1,h2⟩:=hr;exact⟨arr,h1,cF h cs _ h2⟩
 |.fn f first aO,v,hr=>by
   simp only[aa] at hr |-;obtain⟨a1,a2,h1,h2,h3⟩:=hr;exact⟨a1,a2,h1,cF h first _ h2,cF h aO _ h3⟩
 |.iA ks cs,v,hr=>by
   simp only[aa] at hr |-;obtain⟨b,es,ck,h1,h2,h3,h4,h5⟩:=hr;exact⟨b,es,ck,h1,(h b h2).1,by rw[(h b h2).2];exact h3,h4,cF h cs _ h5⟩
theorem cF {w w':World}{A A':Nat->Prop}{β:Nat->Value}(h:bG w w' A A'):∀(as_:M AV) (vs:M Value),ae w A β vs as_->ae w' A' β vs as_
 |[],_,hr=>by simpa only[ae] using hr
 |a::as_,vs,hr=>by
  simp only[ae] at hr |-;obtain⟨v,bY,h1,h2,h3⟩:=hr;exact⟨v,bY,h1,jb h a v h2,cF h as_ bY h3⟩
end
theorem aL {k d:Nat}(h:¬k=d):Nat.beq k d=false:=by
 grind[Nat.eq_of_beq_eq_true]
theorem cU(k:Nat):Nat.beq k k=true:=Nat.beq_refl k
def bg(β:Nat->Value)(d:Nat)(v:Value):Nat->Value:=λk=>if k=d then v else β k
mutual
theorem yZ {w:World}{A:Nat->Prop}{β:Nat->Value}(d:Nat)(u:Value):∀(a:AV) (v:Value),aa w A β v a->aa w A (bg β d u) v (eA d a)
 |.cM,_,hr=>by simp[eA,aa]
 |.undef,_,hr|.int _ _,_,hr|.bool _,_,hr|.tt,_,hr|.ff,_,hr|.str _,_,hr|.nil,_,hr|.kY,_,hr|.qV _ _,_,hr|.mf,_,hr|.sl _ _,_,hr|.full _ _,_,hr|.cz _ _ _,_,hr|.qU _ _,_,hr=>by simpa only[eA,aa] using hr
 |.own k,v,hr=>by
   simp only[eA];by_cases hk:k=d;subst hk;simp[aa];have :Nat.beq k d=false:=aL hk;simp only[this,N!];simpa only[aa,bg,W! hk] using hr
 |.pre k n,v,hr=>by
   simp only[eA];by_cases hk:k=d;subst hk;simp[aa];have :Nat.beq k d=false:=aL hk;simp only[this,N!];simpa only[aa,bg,W! hk] using hr
 |.view k sz off n,v,hr=>by
   simp only[eA];by_cases hk:k=d;subst hk;simp[aa];have :Nat.beq k d=false:=aL hk;simp only[this,N!];simpa only[aa,bg,W! hk] using hr
 |.ref k off,v,hr=>by
   simp only[eA];by_cases hk:k=d;subst hk;simp[aa];have :Nat.beq k d=false:=aL hk;simp only[this,N!];simpa only[aa,bg,W! hk] using hr
 |.elem k sz i j,v,hr=>by
   simp only[eA];by_cases hk:k=d;subst hk;simp[aa];have :Nat.beq k d=false:=aL hk;simp only[this,N!];simpa only[aa,bg,W! hk] using hr
 |.agg cs,v,hr=>by
   simp only[eA,aa] at hr |-;obtain⟨arr,h1,h2⟩:=hr;exact⟨arr,h1,jc d u cs _ h2⟩
 |.bc cs,v,hr=>by
   simp only[eA,aa] at hr |-;obtain⟨arr,h1,h2⟩:=hr;exact⟨arr,h1,jc d u cs _ h2⟩
 |.fn f first aO,v,hr=>by
   simp only[eA,aa] at hr |-;obtain⟨a1,a2,h1,h2,h3⟩:=hr;exact⟨a1,a2,h1,jc d u first _ h2,jc d u aO _ h3⟩
 |.iA ks cs,v,hr=>by
   simp only[eA,aa] at hr |-;obtain⟨b,es,ck,h1,h2,h3,h4,h5⟩:=hr;exact⟨b,es,ck,h1,h2,h3,h4,jc d u cs _ h5⟩
theorem jc {w:World}{A:Nat->Prop}{β:Nat->Value}(d:Nat)(u:Value):∀(as_:M AV) (vs:M Value),ae w A β vs as_->ae w A (bg β d u) vs (gH d as_)
 |[],_,hr=>by simpa only[gH,ae] using hr
 |a::as_,vs,hr=>by
  simp only[gH,ae] at hr |-;obtain⟨v,bY,h1,h2,h3⟩:=hr;exact⟨v,bY,h1,yZ d u a v h2,jc d u as_ bY h3⟩
end
theorem Þ(h:∀k,az k=β k){a:AV}(hr:aa w A β v a):aa w A az v a:=by
 rw[funext h];exact hr
theorem Ei {w:World}{A:Nat->Prop}:∀(new:M (Nat×AB)) (β az:Nat->Value) (v:Value) (a:AV),(∀k,ai new k=none->az k=β k)->aa w A β v a->aa w A az v (nJ new a)
 |[],β,az,v,a,h,hr=>by
   grind[nJ,Þ,ai]
 |(d,b)::r,β,az,v,a,h,hr=>by
  refine Ei r (bg β d (az d)) az v (eA d a) (λk hk=>?_) (yZ d (az d) a v hr);by_cases hkd:k=d;grind[bg];simp_all[bg,if_neg,ai,aL,cond_false]
def Ba(new:M (Nat×AB))(cs:M AV):M AV:=match new with
 |[]=>cs
 |(k,_)::r=>Ba r (gH k cs)
theorem Bb {w:World}{A:Nat->Prop}:∀(new:M (Nat×AB)) (β az:Nat->Value) (vs:M Value) (as_:M AV),(∀k,ai new k=none->az k=β k)->ae w A β vs as_->ae w A az vs (Ba new as_)
 |[],β,az,v,a,h,hr=>by
   simp_all[Ba,funext,ai]
 |(d,b)::r,β,az,v,a,h,hr=>by
  refine Bb r (bg β d (az d)) az v (gH d a) (λk hk=>?_) (jc d (az d) a v hr);by_cases hkd:k=d;grind[bg];simp_all[bg,if_neg,ai,aL,cond_false]
def Bc:∀(new:M (Nat×AB)) (cs:M AV),bF new (.cells cs)= .cells (Ba new cs)
 |[],_=>rfl
 |(k,_)::r,cs=>by simp[bF,mN,Ba,Bc r]
theorem lR:∀(new:M (Nat×AB)) (e:Nat) (row:M Ty) (l:M (Row row)) (fr:Bool),bF new (.row e row l fr)= .row e row l fr
 |[],_,_,_,_=>rfl
 |(k,_)::r,e,row,l,fr=>by simp[bF,mN,lR r]
def GO:∀(new:M (Nat×AB)) (row:M Ty) (l:M (Row row)),bF new (.arr row l)= .arr row l
 |[],_,_=>rfl
 |(k,_)::r,row,l=>by simp[bF,mN,GO r]
def oH(new:M (Nat×AB))(j:Option Nat):Option Nat:=match new with
 |[]=>j
 |(k,_)::r=>oH r (rZ k j)
theorem uB:∀(new:M (Nat×AB)) (e:Nat) (j:Option Nat) (n m sz:Nat),bF new (.views e j n m sz)= .views e (oH new j) n m sz
 |[],_,_,_,_,_=>rfl
 |(k,_)::r,e,j,n,m,sz=>by simp[bF,mN,oH,uB r]
theorem GP:∀(new:M (Nat×AB)) (e:Nat) (j:Option Nat) (row:M Ty) (l:M (Row row)) (i:Nat),bF new (.iy e j row l i)= .iy e (oH new j) row l i
 |[],_,_,_,_,_=>rfl
 |(k,_)::r,e,j,row,l,i=>by simp[bF,mN,oH,GP r]
def GQ:∀(new:M (Nat×AB)) (e sz n:Nat) (cs:M AV),bF new (.bj e sz n cs)= .bj e sz n cs
 |[],_,_,_,_=>rfl
 |_::r,e,sz,n,cs=>GQ r e sz n cs
def Ej:∀(new:M (Nat×AB)) (e:Nat) (j:Option Nat) (xs:M Value) (i:Nat),bF new (.ek e j xs i)= .ek e (oH new j) xs i
 |[],_,_,_,_=>rfl
 |(d,_)::r,e,j,xs,i=>Ej r e (rZ d j) xs i
def Ek:∀(new:M (Nat×AB)) (row:M Ty) (x:Row row),bF new (.fvar row x)= .fvar row x
 |[],_,_=>rfl
 |_::r,row,x=>Ek r row x
def KP:∀(new:M (Nat×AB)) (b:Nat) (es:Array MapEntry) (ck:Nat),bF new (.mp b es ck)= .mp b es ck
 |[],_,_,_=>rfl
 |_::r,b,es,ck=>KP r b es ck
def Bd:∀(new:M (Nat×AB)) (e:Nat) (l:M CF),bF new (.dq e none l)= .dq e none l
 |[],_,_=>rfl
 |_::r,e,l=>Bd r e l
theorem r8:∀(new:M (Nat×AB)),oH new none=none
 |[]=>rfl
 |(k,_)::r=>by simp[oH,rZ,r8 r]
theorem r9:∀(new:M (Nat×AB)) (j:Option Nat) (j':Nat),oH new j=some j'->j=some j'/\ai new j'=none
 |[],j,j',h=>⟨h,rfl⟩
 |(k,_)::r,none,j',h=>by grind[r8]
 |(k,_)::r,some i,j',h=>by
  simp[oH,rZ] at h;cases hb:Nat.beq i k with
  |true=>simp_all[K!,r8]
  |false=>
   rw[hb] at h;obtain⟨h1,h2⟩:=r9 r (some i) j' h;simp at h1;subst h1;exact⟨rfl,by simp_all[ai,N!]⟩
def Em:∀(new:M (Nat×AB)) (e j:Nat) (l:M CF),(bF new (.dq e (some j) l)= .dq e (some j) l/\ai new j=none)\/bF new (.dq e (some j) l)= .views e none l.length 0 0
 |[],_,_,_=>.inl ⟨rfl,rfl⟩
 |(d,b)::r,e,j,l=>by
  cases h:Nat.beq j d with
  |true=>exact .inr (by simp only[bF,mN,yT,h,K!,uB,r8])
  |false=>
   simp only[bF,mN,yT,ai,h,N!];exact Em r e j l
theorem Be(h:az j=β j)(hr:aa w A β v (.view j sz off n)):aa w' A' az v (.view j sz off n):=by
 grind[aa]
theorem dw{size:Nat}(h:w.ownsRow 0 e size v n xs)(hb:∀b,ah v=some b->w'.heap[b]? =w.heap[b]?):w'.ownsRow 0 e size v n xs:=by
 refine⟨h.1,?_⟩;rcases h.2 with hn|⟨g,cap,cur,rfl,h0,hg,rest⟩;grind;refine .inr ⟨g,cap,cur,rfl,h0,?_,rest⟩;rw[hb g rfl];omega
def xS {w w':World}{A A':Nat->Prop}{β:Nat->Value}{new:M (Nat×AB)}{k:Nat}(bI:∀k,ai new k=none->az k=β k)(hk:az k=β k)
  (hblk:∀b,ah (β k)=some b->w'.heap[b]? =w.heap[b]? /\(A' b->A b)) (hK:bG w w' A A') (h:BR w A β k ab):BR w' A' az k (bF new ab):=by
 cases ab with
 |cells cs=>
  rw[Bc];obtain⟨b,arr,e,h1,h2,h3,h4,h5⟩:=h;have hb:=hblk b (by rw[h1];rfl);exact⟨b,arr,e,hk.trans h1,hb.1.trans h2,λhA=>h3 (hb.2 hA),Bb new β az _ _ bI (cF hK _ _ h4),h5⟩
 |row e row l fr=>
  rw[lR];obtain⟨xs,h1,h2,h3⟩:=h;simp[BR,hk];refine⟨xs,dw h1 (λb hb=>(hblk b hb).1),bx (λc x hx=>br hK row c x hx) l xs h2,λb hb=>?_⟩;have:=h3 b hb;cases fr with
  |true=>exact(hK b this).1
  |false=>grind
 |arr row l=>
  rw[GO];obtain⟨b,arr,e,h1,h2,h3,h4⟩:=h;have hb:=hblk b (by rw[h1];rfl);exact⟨b,arr,e,hk.trans h1,hb.1.trans h2,λhA=>h3 (hb.2 hA),bx (λc x hx=>br hK row c x hx) l _ h4⟩
 |views e j n m sz=>
  rw[uB];obtain⟨xs,h1,h2,h3⟩:=h;simp[BR,hk];refine⟨xs,dw h1 (λb hb=>(hblk b hb).1),λb hb hA=>h2 b hb ((hblk b hb).2 hA),λj' gz i hi=>?_⟩;obtain⟨hj,fD⟩:=r9 new j j' gz;grind[Be]
 |iy e j row l i=>
  grind[GP,BR,dw,bx,br,r9]
 |mp b es ck=>
  rw[KP];obtain⟨h1,h2,h3⟩:=h;have hb:=hblk b (by rw[h1];rfl);exact⟨hk.trans h1,hb.1.trans h2,λhA=>h3 (hb.2 hA)⟩
 |fvar row x=>
  rw[Ek];obtain⟨b,arr,e,h1,h2,h3,h4⟩:=h;exact⟨b,arr,e,hk.trans h1,(hblk b (by rw[h1];rfl)).1.trans h2,(hK b h3).1,br hK _ _ _ h4⟩
 |ek e j xs i=>
  rw[Ej];obtain⟨ys,h1,h2,h3,h4⟩:=h;simp only[BR,hk];refine⟨ys,dw h1 (λb hb=>(hblk b hb).1),λb hb hA=>h2 b hb ((hblk b hb).2 hA),h3,λj' gz=>?_⟩;obtain⟨hj,hn⟩:=r9 new j j' gz;rw[bI j' hn];exact h4 j' hj
 |bj e sz n cs=>
  rw[GQ];obtain⟨xs,h1,h2,h3⟩:=h;simp only[BR,hk];exact⟨xs,dw h1 (λb hb=>(hblk b hb).1),λb hb hA=>h2 b hb ((hblk b hb).2 hA),λfm=>cF hK _ _ (h3 fm)⟩
 |dq e j l=>
  obtain⟨xs,h1,h2,h3⟩:=h;have g1:=dw h1 (λb hb=>(hblk b hb).1);have g2:∀b,ah (β k)=some b->¬A' b:=λb hb hA=>h2 b hb ((hblk b hb).2 hA);cases j with
  |none=>
   rw[Bd];simp only[BR,hk];exact⟨xs,g1,g2,λp hp=>(h3 p (λ_ h=>by cases h)).mono hK⟩
  |some j=>
   rcases Em new e j l with⟨h,h'⟩|h<;>rw[h]<;>simp only[BR,hk];exact⟨xs,g1,g2,λp hp=>(h3 p (λj' hj=>(hp j' hj).trans (by cases hj;exact bI j h'))).mono hK⟩;exact⟨xs,g1,g2,λ_ h=>by cases h⟩
def oI(st:St)(out:Out)(k:Nat):Prop:=(st.h k).isSome/\((ai out.gb k).isSome\/aq out.del k=true)
variable {C:Ctx}
def al.ß{β az:Nat->Value}{st:St}{w w':World}{out:Out}
  (hB:al C A β st a w) (hd:∀t,d=some t->t<st.n)
  (IW:∀k b,ai out.new k=some b->st.h k=none/\qQ k=false)
  (IX:∀k b,ai out.gb k=some b->(st.h k).isSome)
  (bI:∀k,ai out.new k=none->az k=β k)
  (hK:bG w w' A A')
  (hos:w'.os=w.os) (à:w'.tape=w.tape) (wk:w'.output=w.output) (qd:w.heap.size<=w'.heap.size)
  (Bf:∀b,b<w.heap.size->(∀k,oI st out k->ah (β k)≠some b)->w'.heap[b]? =w.heap[b]?)
  (hbound:∀b,A' b->b<w'.heap.size)
  (hA:∀b,A' b->A b\/w.heap.size<=b\/∃k,oI st out k/\ah (β k)=some b)
  (Ng:∀k ab,ai out.gb k=some ab->aq out.del k=false->BR w' A' az k (xQ out k ab))
  (fD:∀k ab,ai out.new k=some ab->BR w' A' az k ab)
  (Bg:∀k b ab,ai out.new k=some ab->ah (az k)=some b->w.heap.size<=b\/∃k0,aq out.del k0=true/\(st.h k0).isSome/\ah (β k0)=some b)
  (Fc:∀k k' b,(ai out.new k).isSome->(ai out.new k').isSome->ah (az k)=some b->ah (az k')=some b->k=k')
  (uD:aa w' A' az v out.res):al C A' az (st.put d out) (a.put d v) w':=by
 have gf:∀k b,(st.h k).isSome->ah (β k)=some b->b<w.heap.size:=by
  intro k b hk hb;obtain⟨ab,k9⟩:=S!.1 hk;have fl:=hB.blocks k ab k9;cases ab with
  |mp b' es ck=>
   obtain⟨h1,h2,_⟩:=fl;grind[ah,Option.some.injEq,Array.getElem?_eq_some_iff]
  |arr _ _|fvar _ _=>
   obtain⟨b',arr,e,h1,h2,_⟩:=fl;grind[ah,Option.some.injEq,Array.getElem?_eq_some_iff]
  |cells cs=>
   obtain⟨b',arr,e,h1,h2,_⟩:=fl;grind[ah,Option.some.injEq,Array.getElem?_eq_some_iff]
  |row e row l fr=>
   obtain⟨xs,h1,_⟩:=fl;rcases h1.2 with⟨hn,_⟩|⟨g,cap,cur,hv,_,hg,_⟩;grind[ah];grind[ah,Option.some.injEq,Array.getElem?_eq_some_iff]
  |iy e j row l i=>
   obtain⟨xs,v0,h1,_⟩:=fl;rcases h1.2 with⟨hn,_⟩|⟨g,cap,cur,hv,_,hg,_⟩;rw[hn] at hb;simp[ah] at hb;rw[hv] at hb;simp only[ah,A!] at hb;subst hb;exact(M!.1 hg).1
  |views _ _ _ _ _|dq _ _ _|bj _ _ _ _|ek _ _ _ _=>
   obtain⟨xs,h1,_⟩:=fl;rcases h1.2 with⟨hn,_⟩|⟨g,cap,cur,hv,_,hg,_⟩;rw[hn] at hb;simp[ah] at hb;rw[hv] at hb;simp only[ah,A!] at hb;subst hb;exact(M!.1 hg).1
 have alF:∀k IY,(st.put d out).h k=some IY->(∃ab,ai out.new k=some ab/\ab=IY)\/(ai out.new k=none/\aq out.del k=false/\
   ((∃ab,ai out.gb k=some ab/\IY=xQ out k ab)\/(ai out.gb k=none/\∃ab,st.h k=some ab/\IY=bF out.new ab))):=by
  intro k IY hk;simp only[St.put,xR] at hk;cases hn:ai out.new k with
  |some ab=>simp only[hn,A!] at hk;exact .inl ⟨ab,rfl,hk⟩
  |none=>
   simp only[hn] at hk;cases aBF:aq out.del k with
   |true=>simp[aBF] at hk
   |false=>
    simp only[aBF,N!] at hk;cases hu:ai out.gb k with
    |some ab=>simp only[hu,A!] at hk;exact .inr ⟨rfl,rfl,.inl ⟨ab,rfl,hk.symm⟩⟩
    |none=>
     simp only[hu] at hk;cases hs:st.h k with
     |none=>simp[hs] at hk
     |some ab=>simp only[hs,A!] at hk;exact .inr ⟨rfl,rfl,.inr ⟨rfl,ab,rfl,hk.symm⟩⟩
 have fH:∀k,((st.put d out).h k).isSome->(ai out.new k).isSome\/(ai out.new k=none/\aq out.del k=false/\(st.h k).isSome):=by
  intro k hk;obtain⟨IY,aJD⟩:=S!.1 hk;rcases alF k IY aJD with⟨ab,h,_⟩|⟨h1,h2,⟨ab,h,_⟩|⟨_,ab,h,_⟩⟩;exact .inl (by simp[h]);exact .inr ⟨h1,h2,IX k ab h⟩;exact .inr ⟨h1,h2,by simp[h]⟩
 have aBG:∀v a,aa w A β v a->aa w' A' az v (nJ out.new a):=λv a h=>Ei out.new β az v a bI (jb hK a v h)
 refine⟨?_,?_,?_,?_,?_,hbound,?_,?_,?_,?_,hB.qc,λi d hd=>(hB.laid i d hd).mono hK,λk hk=>by
  rw[bI k (by
   cases hn:ai out.new k with
   |none=>rfl
   |some ab=>rw[(IW k ab hn).2] at hk;cases hk)]
  exact hB.held k hk⟩
 cases d<;>exact hB.defers
 . cases d with
   |none=>exact hB.size
   |some t=>show(a.put (some t) v).tmps.size=st.n;simp[Act.put,hB.size]
 . intro i;cases d with
   |none=>exact aBG _ _ (hB.tmps i)
   |some t=>
    have ht:=hd t rfl;simp only[St.put,Act.put];by_cases hi:i=t;subst hi;simp only[cU,K!];rw[A?,Array.getElem?_setIfInBounds_self_of_lt (by rw[hB.size];exact ht)];exact uD;simp only[aL hi,N!];have:=aBG _ _ (hB.tmps i);rw[A?,Array.getElem?_setIfInBounds_ne (λh=>hi h.symm),<-A?];exact this
 intro k IY hk;rcases alF k IY hk with⟨ab,h,rfl⟩|⟨h1,h2,⟨ab,h,rfl⟩|⟨h3,ab,h,rfl⟩⟩;exact fD k _ h;exact Ng k ab h h2;have Ue:=hB.blocks k ab h;refine xS bI (bI k h1) (λb hb=>?_) hK Ue
 have hnt:∀k',oI st out k'->ah (β k')≠some b:=by
  intro k' ht eO;have :k'=k:=hB.apart k' k b ht.1 (by simp[h]) eO hb;subst this;rcases ht.2 with hu|hu;simp[h3] at hu;simp[h2] at hu
 refine⟨Bf b (gf k b (by simp[h]) hb) hnt,λNh=>?_⟩;rcases hA b Nh with hh|hh|⟨k',ht,eO⟩;exact hh;exact absurd (gf k b (by simp[h]) hb) w!;exact absurd eO (hnt k' ht);intro k k' b hk fc hb eO;rcases fH k hk with h1|⟨h1,h2,h3⟩<;>rcases fH k' fc with g1|⟨g1,g2,g3⟩;exact Fc k k' b h1 g1 hb eO;obtain⟨ab,k9⟩:=S!.1 h1;rw[bI k' g1] at eO;rcases Bg k b ab k9 hb with hh|⟨k0,hd0,Uf,Fe⟩;exact absurd (gf k' b g3 eO) w!;have :k0=k':=hB.apart k0 k' b Uf g3 Fe eO;subst this;rw[hd0] at g2;cases g2;obtain⟨ab,k9⟩:=S!.1 g1;rw[bI k h1] at hb;rcases Bg k' b ab k9 eO with hh|⟨k0,hd0,Uf,Fe⟩;exact absurd (gf k b h3 hb) w!;have :k0=k:=hB.apart k0 k b Uf h3 Fe hb;subst this;rw[hd0] at h2;cases h2;rw[bI k h1] at hb;rw[bI k' g1] at eO;exact hB.apart k k' b h3 g3 hb eO;refine⟨hos.trans hB.frame.os,à.trans hB.frame.tape,wk.trans hB.frame.output,Z? hB.frame.size qd,λb hb hM=>?_⟩;rw[Bf b (C? hb hB.frame.size) (λk ht Ue=>?_)];exact hB.frame.block b hb hM;rcases hB.ot k b ht.1 Ue with h|h;omega;exact hM h;intro b hb Nh;rcases hA b Nh with hh|hh|⟨k,ht,Ue⟩;exact hB.fk b hb hh;exact absurd hB.frame.size w!;rcases hB.ot k b ht.1 Ue with h|h;omega;exact .inr h;exact λb hb=>(hK b (hB.base b hb)).1;intro k b hk hb;rcases fH k hk with h1|⟨h1,h2,h3⟩;obtain⟨ab,k9⟩:=S!.1 h1;rcases Bg k b ab k9 hb with hh|⟨k0,hd0,Uf,Fe⟩;exact .inl (Z? hB.frame.size hh);exact hB.ot k0 b Uf Fe;rw[bI k h1] at hb;exact hB.ot k b h3 hb
theorem al.step{β az:Nat->Value}{st:St}{w w':World}{out:Out}
  (hB:al C A β st a w) (hd:∀t,d=some t->t<st.n)
  (IW:∀k b,ai out.new k=some b->st.h k=none/\qQ k=false)
  (IX:∀k b,ai out.gb k=some b->(st.h k).isSome)
  (bI:∀k,ai out.new k=none->az k=β k)
  (hK:bG w w' A A')
  (hos:w'.os=w.os) (à:w'.tape=w.tape) (wk:w'.output=w.output) (qd:w.heap.size<=w'.heap.size)
  (Bf:∀b,b<w.heap.size->(∀k,oI st out k->ah (β k)≠some b)->w'.heap[b]? =w.heap[b]?)
  (hbound:∀b,A' b->b<w'.heap.size)
  (hA:∀b,A' b->A b\/w.heap.size<=b\/∃k,oI st out k/\ah (β k)=some b)
  (Ng:∀k ab,ai out.gb k=some ab->aq out.del k=false->BR w' A' az k (bF out.new ab))
  (fD:∀k ab,ai out.new k=some ab->BR w' A' az k ab)
  (Bg:∀k b ab,ai out.new k=some ab->ah (az k)=some b->w.heap.size<=b\/∃k0,aq out.del k0=true/\(st.h k0).isSome/\ah (β k0)=some b)
  (Fc:∀k k' b,(ai out.new k).isSome->(ai out.new k').isSome->ah (az k)=some b->ah (az k')=some b->k=k')
  (uD:aa w' A' az v out.res) (hr:out.raw=[]:=by rfl):al C A' az (st.put d out) (a.put d v) w':=
 hB.ß hd IW IX bI hK hos à wk qd Bf hbound hA (λk ab h1 h2=>by
  grind[xQ,bF,aq]) fD Bg Fc uD
def á(P:Program)(t:TypeId):TypeDesc->Prop
 | .struct fs=>P.stoodInHeld t=false/\P.eqGuardType P.depth t=false/\(fs.toList.all λf=>f.name != "_")=true
 |_=>True
structure bz (T:bX) (P:Program):Prop where
 ok:∀t te,T.find t=some te->P.underlying t=some te.desc/\∃i,P.info? t=some i/\i.size=te.size/\i.bytes=te.bytes/\i.zero=some te.zero
 held:∀t te,T.find t=some te->á P t te.desc
theorem bn {o:Oper}{v:Value}{w':World}(h:(execOp a.eval o).run P w= .ok (.value v) w')(hk:K (a.put o.dst v) w'):o.wp P a w K Q:=by
 unfold Oper.wp;rw[h];exact hk
theorem nK {o:Oper}{w':World}(h:(execOp a.eval o).run P w= .ok .skip w')(hk:K (a.put o.dst undef) w'):o.wp P a w K Q:=by
 unfold Oper.wp;rw[h];exact hk
theorem Xf(v:Value):aa w A β v (Df v):=by
 unfold Df;split;split;simp_all[aa,trivial]
 grind[aa];grind[aa]
 . rename_i s;cases hb:Nat.ble s.data.toList.length 1000000 with
   |false=>simp[aa]
   |true=>
    have:=Nat.le_of_ble_eq_true hb;simp only[cond_true,aa];grind[maxLen]
 rfl;rfl;rfl;grind[aa]
theorem KQ(f:Value->AV)(hf:∀v,aa w A β v (f v)):∀(vs:M Value),ae w A β vs (vs.map f)
 |[]=>by rfl
 |v::vs=>by
  exact⟨v,vs,rfl,hf v,KQ f hf vs⟩
def y4(v:Value):aa w A β v (ofConst v):=by
 unfold ofConst;grind[aa,KQ,Xf]
theorem aC(hB:al C A β st a w)(x:Operand):aa w A β (a.eval x) (ev st x):=by
 cases x with
 |tmp i=>exact hB.tmps i
 |const v=>exact y4 v
 |global g=>
  simp[ev,Act.eval];cases hg:st.g g with
  |none=>simp[aa]
  |some d=>
   obtain⟨h1,cs,h2,h3⟩:=hB.laid g d (hB.qc g d hg);grind[aa]
 |func f=>
  exact⟨#[], #[],rfl,by rfl,by rfl⟩
theorem bG.refl(w:World)(A:Nat->Prop):bG w w A A:=λ_ h=>⟨h,rfl⟩
def al.pure(hB:al C A β st a w)(hd:∀t,d=some t->t<st.n)(h:aa w A β v r):
  al C A β (st.put d {cond:=c,res:=r}) (a.put d v) w:=
 hB.step (out:={cond:=c,res:=r}) hd (by simp[ai]) (by simp[ai]) (λ_ _=>rfl) (bG.refl w A) rfl rfl rfl (P! _) (λ_ _ _=>rfl) hB.bound
  (λb h=>.inl h) (by simp[ai]) (by simp[ai]) (by simp[ai]) (by simp[ai]) h
theorem Rel.jl(h:al C A β st a w):Rel C st a w:=⟨A,β,h⟩
theorem y5(b:Bool):∀(x y:AV),(if b then aa w A β v x else aa w A β v y)->aa w A β v (GH b x y):=by
 intro x y h
 have hb:∀x y p q,wi x=some p->wi y=some q->(if b then aa w A β v x else aa w A β v y)->aa w A β v (.bool (bif b then p else q)):=by
  intro x y p q hx hy h;cases b<;>cases x<;>simp_all[wi,aa]<;>cases y<;>simp_all[aa]
 unfold GH;split;grind[aa];grind;grind[fG,aa,Ty.mX,Option.some.injEq]
 . cases b with
   |true=>grind
   |false=>
    simp only[aa,b?,s?] at h;simp only[aa,Rd,N!];exact⟨none,0,[],w!,z!,z!,by rfl,z!⟩
 . cases b with
   |false=>grind
   |true=>
    simp only[aa,P?] at h;simp only[aa,Rd,K!];exact⟨none,0,[],w!,z!,z!,by rfl,z!⟩
 grind;grind;grind[Nat.beq,aa,Nat.eq_of_beq_eq_true];grind[aa]
theorem dM:∀(as_:M AV) (vs:M Value),ae w A β vs as_->vs.length=as_.length
 |[],vs,h=>by grind[ae]
 |a::as_,vs,h=>by
  obtain⟨v,bY,rfl,_,h2⟩:=h;simp[dM as_ bY h2]
theorem kq(b:Bool):∀(xs ys:M AV) (vs:M Value),xs.length=ys.length->(if b then ae w A β vs xs else ae w A β vs ys)->ae w A β vs (uo b xs ys)
 |[],[],vs,_,h=>by grind[uo]
 |x::xs,y::ys,vs,hl,h=>by
  cases b with
  |true=>
   obtain⟨v,bY,rfl,h1,h2⟩:=h;exact⟨v,bY,rfl,y5 true x y (by simpa using h1),kq true xs ys bY (by simpa using hl) (by simpa using h2)⟩
  |false=>
   obtain⟨v,bY,rfl,h1,h2⟩:=h;exact⟨v,bY,rfl,y5 false x y (by simpa using h1),kq false xs ys bY (by simpa using hl) (by simpa using h2)⟩
 |[],_::_,_,hl,_|_::_,[],_,hl,_=>by grind
theorem En(b:Bool)(x y:AV)(h:if b then aa w A β v x else aa w A β v y):aa w A β v (GI b x y):=by
 unfold GI;split
 . rename_i xs ys;cases hl:Nat.beq xs.length ys.length with
   |false=>simp[aa]
   |true=>
    have hl:=D! hl;simp[K!,aa];cases b with
    |true=>
     simp[if_true,aa] at h;grind[kq]
    |false=>
     simp[Bool.false_eq_true,if_false,aa] at h;grind[kq]
 . rename_i xs ys;cases hl:Nat.beq xs.length ys.length with
   |false=>simp[aa]
   |true=>
    have hl:=D! hl;simp[K!,aa];cases b with
    |true=>
     simp[if_true,aa] at h;grind[kq]
    |false=>
     simp[Bool.false_eq_true,if_false,aa] at h;grind[kq]
 grind[y5]
theorem hZ:∀(ts:M Ty) (vs:M Value) (x:Row ts),bw w A ts vs x->vs.length=ts.length
 |[],vs,_,h=>by grind[bw]
 |t::ts,vs,x,h=>by
  obtain⟨v,bY,rfl,_,h2⟩:=h;simp[hZ ts bY _ h2]
theorem gC {row:M Ty}:∀(l:M (Row row)) (cs:M Value),dn (bw w A row) cs l->cs.length=l.length*row.length
 |[],cs,h=>by grind[dn]
 |x::l,cs,⟨c1,c2,hc,h1,h2⟩=>by
  subst hc;simp[hZ row c1 x h1,gC l c2 h2,n?,Nat.add_comm]
def uE {row:M Ty}:∀(l:M (Row row)) (cs:M Value) (i:Nat) (hi:i<l.length),dn (bw w A row) cs l->
  ∃c1 c c2,cs=c1++(c++c2)/\c1.length=i*row.length/\bw w A row c l[i]/\dn (bw w A row) c1 (l.take i)/\dn (bw w A row) c2 (l.drop (i+1))
 |[],_,_,hi,_=>by grind
 |x::l,cs,0,_,⟨c1,c2,hc,h1,h2⟩=>⟨[],c1,c2,x!,z!,x!,by rfl,x!⟩
 |x::l,cs,i+1,hi,⟨c1,c2,hc,h1,h2⟩=>by
  obtain⟨d1,d,d2,e1,e2,e3,e4,e5⟩:=uE l c2 i x! h2;subst hc;subst e1;exact⟨c1++d1,d,d2,z!,by grind[hZ,Nat.add_mul,Nat.add_comm],by simpa using e3,⟨c1,d1,rfl,h1,e4⟩,by simpa using e5⟩
theorem jd {α:Type}{R:M Value->α->Prop}:∀(l m:M α) (cs ds:M Value),dn R cs l->dn R ds m->dn R (cs++ds) (l++m)
 |[],m,cs,ds,h,h'=>by grind[dn]
 |x::l,m,cs,ds,⟨c1,c2,hc,h1,h2⟩,h'=>by
  subst hc;exact⟨c1,c2++ds,z!,h1,jd l m c2 ds h2 h'⟩
theorem fI {row:M Ty}:∀(l:M (Row row)) (cs:M Value) (i:Nat),dn (bw w A row) cs l->
  dn (bw w A row) (cs.take (i*row.length)) (l.take i)/\dn (bw w A row) (cs.drop (i*row.length)) (l.drop i)
 |[],cs,i,h=>by grind[dn]
 |x::l,cs,0,h=>by grind[dn]
 |x::l,cs,i+1,⟨c1,c2,hc,h1,h2⟩=>by
  subst hc;have hl:=hZ row c1 x h1;have ih:=fI l c2 i h2;have e:(i+1)*row.length=c1.length+i*row.length:=by grind
  rw[e];refine⟨⟨c1,c2.take (i*row.length),?_,h1,ih.1⟩,?_⟩;grind;rw[List.drop_length_add_append];grind
theorem y6{c1 c c2:M Value}(h:w.rangeAt b o (c1++(c++c2))):w.rangeAt b (o+c1.length) c:=by
 intro j v hj
 have:=h (c1.length+j) v (by
  grind)
 grind
theorem sa(h:w.rangeAt b o cs):w.rangeAt b (o+n) (cs.drop n):=by
 intro j v hj;have:=h (n+j) v x!;grind
theorem ku(h:w.rangeAt b o cs):w.rangeAt b o (cs.take n):=by
 intro j v hj;refine h j v ?_;grind
theorem Xg:∀(t:Ty) (v:Value) (x:D t),Rd w A t v x->aa w A β v (GA t x)
 |.int k,v,x,h=>by grind[GA,aa,Rd]
 |.bool,v,x,h|.str,v,x,h=>by grind[GA,aa,Rd]
 |.slice row,v,x,h=>by grind[GA,aa]
theorem ia:∀(ts:M Ty) (vs:M Value) (x:Row ts),bw w A ts vs x->ae w A β vs (ay ts x)
 |[],vs,_,h=>by grind[ay,ae,bw]
 |t::ts,vs,x,h=>by
  obtain⟨v,bY,rfl,h1,h2⟩:=h;exact⟨v,bY,rfl,Xg t v _ h1,ia ts bY _ h2⟩
theorem fo:∀(ts:M Ty) (x:Row ts),(ay ts x).length=ts.length
 |[],_=>rfl
 |t::ts,x=>by simp[ay,fo ts]
theorem mw:∀(as_:M AV) (vs:M Value) (n:Nat),ae w A β vs as_->ae w A β (vs.take n) (as_.take n)/\ae w A β (vs.drop n) (as_.drop n)
 |[],vs,n,h=>by grind[ae]
 |a::as_,vs,0,h=>by grind[ae]
 |a::as_,vs,n+1,h=>by
  obtain⟨v,bY,rfl,h1,h2⟩:=h;have ih:=mw as_ bY n h2;exact⟨⟨v,_,rfl,h1,ih.1⟩,ih.2⟩
def wo:∀(as_:M AV) (vs:M Value) (i:Nat) (r:AV),ae w A β vs as_->as_[i]? =some r->∃v,vs[i]? =some v/\aa w A β v r
 |[],vs,i,r,h,hr=>by grind
 |a::as_,vs,0,r,h,hr=>by
  grind[ae]
 |a::as_,vs,i+1,r,h,hr=>by
  obtain⟨v,bY,rfl,h1,h2⟩:=h;obtain⟨u,hu,qe⟩:=wo as_ bY i r h2 (by simpa using hr);exact⟨u,by simpa using hu,qe⟩
theorem Rm(d:TypeDesc):d.nH=d.isRow:=by rfl
def kv(hT:bz T P)(ht:T.find t=some te){as_:M AV}(hrel:ae w A β cs as_)(hp:pick te as_ off=some r)
  (hr:w.rangeAt b o cs):∃v,(Instr.loadAt t (.pointer (some ⟨b,o+off,none⟩))).run P w= .ok v w/\aa w A β v r:=by
 obtain⟨hu,i,hi,hs,_,_⟩:=hT.ok t te ht;unfold pick at hp;cases Xh:te.desc.nH with
 |true=>
  simp[Xh,K!] at hp;cases hle:Nat.ble (off+te.size) as_.length with
  |false=>grind
  |true=>
   have hle:=Nat.le_of_ble_eq_true hle;simp[hle,Nat.ble_eq_true_of_le,cond_true,Option.some.injEq] at hp;subst hp;have hlen:=dM as_ cs hrel;refine⟨.agg ((cs.drop off).take te.size).toArray,?_,?_⟩;refine run_loadAt_mid w b (o+off) t ((cs.drop off).take te.size) te.desc (ku (sa hr)) hu (by grind[Rm]) ?_;grind;exact⟨_,rfl,by simp_all[mw]⟩
 |false=>
  simp[Xh,N!] at hp;obtain⟨v,hv,hrv⟩:=wo as_ cs off r hrel hp;have hc:=hr off v hv
  have hia:(isAgg t).run P w= .ok false w:=by
   unfold isAgg;rw[Sem.run_bind,run_underlying hu w];cases hd:te.desc<;>simp_all[TypeDesc.nH]
  simp_all[Instr.loadAt,Instr.sureAddr,loadVar]
def fe(hT:bz T P)(h:aV T t n=true):∃e i,P.underlying t=some (.slice e)/\P.info? e=some i/\i.size=n/\0<n:=by
 unfold aV lP at h;cases ht:T.find t with
 |none=>grind
 |some te=>
  simp[ht] at h;cases hd:te.desc with
  |slice e=>
   simp[hd] at h;cases he:T.find e with
   |none=>grind
   |some ee=>
    simp only[he,B!] at h;obtain⟨_,i,hi,hs,_⟩:=hT.ok e ee he;exact⟨e,i,by rw[(hT.ok t te ht).1,hd],hi,hs.trans (D! h.1),by simp_all⟩
  |_=>grind
theorem iM {e:TypeId}(hu:P.underlying t=some (.slice e))(hi:P.info? e=some i)(b o len cap:Nat)(k:IntKind)(n:Int)(h0:0<=n)(h1:n<(len:Int)):
  (Instr.indexAt t (.slice (some ⟨b,o,none⟩) len cap) (.int k n)).run P w= .ok (.pointer (some ⟨b,o+n.toNat*i.size,none⟩)) w:=by
 simp[Instr.indexAt,asIntOf,run_underlying hu,sizeOf,typeInfo,hi,h0,h1,Addr.add_mid]
def R3(hT:bz T P)(h:M9 T t=some (n,sz)):∃e i,P.underlying t=some (.array n e)/\P.info? e=some i/\i.size=sz:=by
 unfold M9 at h;split at h;rename_i te iO;obtain⟨hu,_⟩:=hT.ok t te iO;split at h;rename_i k e hd;split at h;rename_i ee xi;obtain⟨_,i,hi,hs,_⟩:=hT.ok e ee xi;grind;grind;grind;grind
theorem Eo {e:TypeId}{len:Nat}(hu:P.underlying t=some (.array len e))(hi:P.info? e=some i)(b o:Nat)(k:IntKind)(n:Int)(h0:0<=n)(h1:n<(len:Int)):
  (Instr.indexAt t (.pointer (some ⟨b,o,none⟩)) (.int k n)).run P w= .ok (.pointer (some ⟨b,o+n.toNat*i.size,none⟩)) w:=by
 simp[Instr.indexAt,Instr.sureAddr,asIntOf,run_underlying hu,sizeOf,typeInfo,hi,h0,h1,Addr.add_mid]
theorem Bh:∀(xs ys:M AV) (us vs:M Value),ae w A β us xs->ae w A β vs ys->ae w A β (us++vs) (xs++ys)
 |[],ys,us,vs,h,g=>by
   grind[ae]
 |a::as_,ys,us,vs,h,g=>by
  obtain⟨v,IZ,rfl,h1,h2⟩:=h;exact⟨v,IZ++vs,rfl,h1,Bh as_ ys IZ vs h2 g⟩
theorem R4(row:M Ty):∀(l:M (Row row)) (cs:M Value),dn (bw w A row) cs l->ae w A β cs (l.flatMap (ay row))
 |[],cs,h=>by grind[dn,ae]
 |x::l,cs,⟨c1,c2,hc,h1,h2⟩=>by
  subst hc;exact Bh _ _ _ _ (ia row c1 x h1) (R4 row l c2 h2)
theorem getD_eq(l:M α)(i:Nat)(d:α)(h:i<l.length):l.getD i d=l[i]:=by
 grind
def R5(row:M Ty)(l:M (Row row))(v:Value)(n:Int)(hR:Rd w A (.slice row) v l)(h0:0<=n)(h1:n<(l.length:Int)):
  row≠ []->∃b o cap,v= .slice (some ⟨b,o,none⟩) l.length cap/\aa w A β (.pointer (some ⟨b,o+n.toNat*row.length,none⟩)) (.cz row (l.getD n.toNat (Row.zero row)) 0):=by
 intro mO;obtain⟨a,cap,cs,hv,_,_,hL,ep⟩:=hR;have hn:n.toNat<l.length:=by omega
 obtain⟨c1,c,c2,e1,e2,e3,_,_⟩:=uE l cs n.toNat hn hL;have hc:=hZ row c _ e3
 have di:cs≠ []:=by
  intro h;rw[h] at e1;have:=congrArg List.length e1;simp at this;exact mO (U! w!)
 obtain⟨b,o,ha,hA,hra⟩:=ep di;refine⟨b,o,cap,by rw[hv,ha],?_⟩;refine⟨b,o+n.toNat*row.length,c,z!,hA,?_,?_⟩;rw[e1] at hra;have:=y6 hra;rwa [e2] at this
 rw[getD_eq l _ _ hn];exact e3
def wu(T:bX)(h:aJ)(t:TypeId)(n:Option Int)(x y:AV):uz T h t n x y=gW T h t x y:=by
 unfold uz;grind[gW,R1]
theorem eD {x:Prop}(h:∀p∈(x::l),p):x:=h _ (List.Mem.head _)
def aBH {x y:Prop}(h:∀p∈(x::y::l),p):y:=h _ (List.Mem.tail _ (List.Mem.head _))
def Out.quiet(out:Out):Prop:=out.gb=[]/\out.del=[]/\out.new=[]
theorem al.quiet(hB:al C A β st a w)(hd:∀t,d=some t->t<st.n)(hq:out.quiet)(h:aa w A β v out.res):
  al C A β (st.put d out) (a.put d v) w:=by
 obtain⟨c,r,u,dl,nw,rw'⟩:=out;obtain⟨h1,h2,h3⟩:=hq;subst h1 h2 h3;exact hB.pure (c:=c) hd h
def Reads(P:Program)(A:Nat->Prop)(β:Nat->Value)(w:World)(s:Sem Value)(out:Out):Prop:=out.quiet/\∃v,s.run P w= .ok v w/\aa w A β v out.res
theorem iE(hB:al C A β st a w){k:Nat}{row:M Ty}{l:M (Row row)}(h:st.h k=some (.row e row l fr)):
  (β k= .slice none 0 0/\l=[])\/∃b cap cur,β k= .slice (some ⟨b,0,none⟩) l.length cap/\w.heap[b]? =some (.cells cur e (0,0))/\l.length<=cap/\cap<=maxLen/\cur.size=cap*row.length/\
    dn (bw w A row) (cur.toList.take (l.length*row.length)) l/\(if fr then A b else ¬A b):=by
 obtain⟨xs,h1,h2,h3⟩:=hB.blocks k _ h;rcases h1.2 with⟨hv,hn⟩|⟨g,cap,cur,hv,_,hg,h4,h5,h6,h7⟩;grind;exact .inr ⟨g,cap,cur,hv,hg,h4,h5,h6,x!,h3 g (by rw[hv];rfl)⟩
def I0(hT:bz T P)(hB:al C A β st a w){i:AV}(hx:aa w A β vx x)(hi:aa w A β vi i)
  (h:gW T st.h t x i=some out) (hc:∀p∈out.cond,p):Reads P A β w (Instr.indexAt t vx vi) out:=by
 unfold gW at h;split at h
 . rename_i row l k n;cases hs:aV T t row.length with
   |false=>grind
   |true=>
    simp only[hs,cond_true,Option.some.injEq] at h;subst h;obtain⟨h0,h1⟩:=eD hc;obtain⟨e,ii,hu,ju,dH,lF⟩:=fe hT hs;simp only[aa] at hx hi;obtain⟨b,o,cap,hv,hr⟩:=R5 (β:=β) row l vx n hx h0 h1 x!;refine⟨⟨rfl,rfl,rfl⟩,_,?_,hr⟩;grind[iM]
 . rename_i row l k n;cases hs:aV T t row.length with
   |false=>grind
   |true=>
    simp only[hs,cond_true,Option.some.injEq] at h;subst h;obtain⟨h0,h1⟩:=eD hc;obtain⟨e,ii,hu,ju,dH,lF⟩:=fe hT hs;simp only[aa] at hx hi;obtain⟨b,o,cap,hv,hr⟩:=R5 (β:=β) row l vx n hx.1 h0 h1 x!;refine⟨⟨rfl,rfl,rfl⟩,_,?_,hr⟩;grind[iM]
 . rename_i k kk n;split at h
   . rename_i e' row l fr hk;cases hs:aV T t row.length with
     |false=>grind
     |true=>
      simp only[hs,cond_true,Option.some.injEq] at h;subst h;obtain⟨h0,h1⟩:=eD hc;obtain⟨e,ii,hu,ju,dH,lF⟩:=fe hT hs;simp only[aa] at hx hi;rcases iE hB hk with⟨_,hl⟩|⟨b,cap,cur,hv,_⟩;grind;refine⟨⟨rfl,rfl,rfl⟩,.pointer (some ⟨b,0+n.toNat*row.length,none⟩),?_,?_⟩;simp_all[hi,iM]
      grind[aa]
   grind
 . rename_i k m kk n;split at h
   . rename_i e' row l fr hk;cases hs:aV T t row.length with
     |false=>grind
     |true=>
      simp only[hs,K!,A!] at h;subst h;obtain⟨h0,h1⟩:=eD hc;obtain⟨e,ii,hu,ju,dH,lF⟩:=fe hT hs;simp only[aa] at hx hi;rcases hx with⟨_,_,hl⟩|⟨b,mm,cap,hv,Xi,_⟩;omega;refine⟨⟨rfl,rfl,rfl⟩,.pointer (some ⟨b,0+n.toNat*row.length,none⟩),?_,?_⟩;simp_all[hi,iM]
      grind[aa]
   grind
 . rename_i k sz off m kk n;cases hs:aV T t sz with
   |false=>grind
   |true=>
    simp only[hs,cond_true,Option.some.injEq] at h;subst h;obtain⟨h0,h1⟩:=eD hc;obtain⟨e,ii,hu,ju,dH,lF⟩:=fe hT hs;simp only[aa] at hx hi;rcases hx with⟨hm,_⟩|⟨b,mm,cap,jM,hv,Xi,_⟩;omega;refine⟨⟨rfl,rfl,rfl⟩,.pointer (some ⟨b,off*sz+n.toNat*sz,none⟩),?_,?_⟩;grind[iM];grind[aa,Nat.add_mul]
 . rename_i row l k n;split at h
   . rename_i m sz ha;cases hb:Nat.beq sz row.length with
     |false=>grind
     |true=>
      rw[hb] at h;simp only[K!,A!] at h;subst h;have hm:=eD hc;have hz:=D! hb;obtain⟨h0,h1⟩:=aBH hc;obtain⟨e,ii,hu,ju,dH⟩:=R3 hT ha;simp only[aa] at hx hi;obtain⟨b,o,cs,rfl,hA,hr,hL⟩:=hx;have hn:n.toNat<l.length:=by omega
      obtain⟨c1,c,c2,e1,e2,e3,_,_⟩:=uE l cs n.toNat hn hL;refine⟨⟨rfl,rfl,rfl⟩,.pointer (some ⟨b,o+n.toNat*row.length,none⟩),?_,?_⟩;grind[Eo];grind[aa,y6,getD_eq]
   grind
 rename_i k off kk n;split at h;rename_i m sz ha;simp only[Option.some.injEq] at h;subst h;obtain⟨h0,h1⟩:=eD hc;obtain⟨e,ii,hu,ju,dH⟩:=R3 hT ha;simp only[aa] at hx hi;obtain⟨b,bI,rfl⟩:=hx;refine⟨⟨rfl,rfl,rfl⟩,.pointer (some ⟨b,off+n.toNat*sz,none⟩),?_,?_⟩;rw[hi.1,Eo hu ju b off kk n h0 h1,dH];simp only[aa];exact⟨b,bI,rfl⟩;grind;grind
def Bi(hT:bz T P)(hB:al C A β st a w)(hx:aa w A β vx x)
  (h:p9 T st.h t x=some out) (hc:∀p∈out.cond,p):Reads P A β w (Instr.loadAt t vx) out:=by
 unfold p9 at h;split at h;rename_i row x j;split at h;rename_i te ht;split at h;rename_i r hp;simp only[Option.some.injEq] at h;subst h;simp only[aa] at hx;obtain⟨b,o,cs,rfl,hA,hr,hv⟩:=hx;obtain⟨v,h1,h2⟩:=kv (β:=β) hT ht (ia row cs x hv) hp hr;exact⟨⟨rfl,rfl,rfl⟩,v,h1,h2⟩;grind;grind;rename_i row l;split at h;rename_i te ht;split at h;rename_i r hp;simp only[Option.some.injEq] at h;subst h;simp only[aa] at hx;obtain⟨b,o,cs,rfl,hA,hr,hv⟩:=hx;obtain⟨v,h1,h2⟩:=kv (β:=β) hT ht (R4 row l cs hv) hp hr;exact⟨⟨rfl,rfl,rfl⟩,v,w!,h2⟩;grind;grind;rename_i k off;split at h;rename_i te cs ht hk;split at h;rename_i r hp;simp only[Option.some.injEq] at h;subst h;simp only[aa] at hx;obtain⟨b,bI,rfl⟩:=hx;obtain⟨b',arr,e,h1,h2,_,h4,_⟩:=hB.blocks k _ hk;rw[bI] at h1;simp at h1;subst h1
 have hr:w.rangeAt b 0 arr.toList:=λj v hj=>by
  grind[World.cell?]
 obtain⟨v,g1,g2⟩:=kv (β:=β) hT ht h4 hp hr;exact⟨⟨rfl,rfl,rfl⟩,v,x!,g2⟩;grind;grind
 . rename_i k sz i j;split at h
   . rename_i te e row l fr ht hk;cases dH:Nat.beq sz row.length with
     |false=>grind
     |true=>
      have dH:=Nat.eq_of_beq_eq_true dH;subst dH;simp only[cU,cond_true] at h;split at h;rename_i r hp;simp only[Option.some.injEq] at h;subst h;have hi:i<l.length:=eD hc;obtain⟨b,m,cap,bI,rfl⟩:=hx;rcases iE hB hk with⟨_,hl⟩|⟨b',jM,cur,hv,hg,_,_,ep,hL,_⟩;grind;rw[bI] at hv;simp at hv;obtain⟨â,_,_⟩:=hv;subst â;obtain⟨c1,c,c2,e1,e2,e3,_,_⟩:=uE l _ i hi hL
      have hr:w.rangeAt b 0 (cur.toList.take (l.length*row.length)):=λj v hj=>by
       grind[World.cell?]
      rw[e1] at hr;have hr:=y6 hr;rw[e2] at hr;rw[getD_eq l _ _ hi] at hp;obtain⟨v,g1,g2⟩:=kv (β:=β) hT ht (ia row c _ e3) hp hr;exact⟨⟨rfl,rfl,rfl⟩,v,x!,g2⟩;grind
   grind
 grind
def KR(hT:bz T P){f ft:Nat}(h:GB T s f=some (ft,o)):∃fs fd,P.underlying s=some (.struct fs)/\fs[f]? =some fd/\fd.type=ft/\fd.offset=o:=by
 unfold GB at h;cases ht:T.find s with
 |none=>grind
 |some te=>
  simp[ht] at h;cases hd:te.desc with
  |struct fs=>
   simp[hd] at h;cases hf:fs[f]? with
   |none=>grind
   |some fd=>
    simp[hf,A!,Prod.mk.injEq] at h;exact⟨fs,fd,by rw[(hT.ok s te ht).1,hd],hf,h.1,h.2⟩
  |_=>grind
def Xj(hT:bz T P)(h:GC T t=true):∃i,P.info? t=some i/\i.size≠0:=by
 unfold GC at h;cases ht:T.find t with
 |none=>grind
 |some te=>
  simp only[ht] at h;obtain⟨_,i,hi,hs,_⟩:=hT.ok t te ht;have:=Nat.le_of_ble_eq_true h;grind
theorem y7 {s f:Nat}{fs:Array Field}{fd:Field}(hu:P.underlying s=some (.struct fs))(hf:fs[f]? =some fd)(hi:P.info? fd.type=some i)(hs:i.size≠0)(b o:Nat):
  (Instr.fieldAt s (.pointer (some ⟨b,o,none⟩)) f).run P w= .ok (.pointer (some ⟨b,o+fd.offset,none⟩)) w:=by
 simp[Instr.fieldAt,run_underlying hu,hf,Instr.sureAddr,fieldPlace,sizeOf,typeInfo,hi,hs,Addr.add_mid]
def I1(hT:bz T P){s f:Nat}(hx:aa w A β vx x)
  (h:xf T s f x=some out):Reads P A β w (Instr.fieldAt s vx f) out:=by
 unfold xf at h;split at h
 . rename_i ft o hf;obtain⟨fs,fd,hu,hfd,e1,e2⟩:=KR hT hf;cases hs:GC T ft with
   |false=>grind
   |true=>
    simp[hs,cond_true] at h;obtain⟨i,hi,di⟩:=Xj hT hs;rw[<-e1] at hi;split at h;simp at h;subst h;obtain⟨b,h1,rfl⟩:=hx;refine⟨⟨rfl,rfl,rfl⟩,_,y7 hu hfd hi di b _,?_⟩;grind[aa];simp at h;subst h;obtain⟨b,oo,cs,rfl,h2,h3,h4⟩:=hx;refine⟨⟨rfl,rfl,rfl⟩,_,y7 hu hfd hi di b _,?_⟩;grind[aa,Nat.add_assoc];simp at h;subst h;obtain⟨b,m,cap,h1,rfl⟩:=hx;refine⟨⟨rfl,rfl,rfl⟩,_,y7 hu hfd hi di b _,?_⟩;grind[aa,Nat.add_assoc];grind
 grind
def xT(hT:bz T P)(ht:T.find t=some te){cs:M AV}(hrel:ae w A β arr.toList cs)(hp:pick te cs off=some r):
  ∃v,(part t arr off).run P w= .ok v w/\aa w A β v r:=by
 obtain⟨hu,i,hi,hs,_,_⟩:=hT.ok t te ht;unfold pick at hp;cases Xh:te.desc.nH with
 |true=>
  simp[Xh,K!] at hp;cases hle:Nat.ble (off+te.size) cs.length with
  |false=>grind
  |true=>
   simp[hle,Nat.ble_eq_true_of_le,K!,A!] at hp;subst hp
   have hia:(isAgg t).run P w= .ok true w:=by
    unfold isAgg;rw[Sem.run_bind,run_underlying hu w];cases hd:te.desc<;>simp_all[TypeDesc.nH]
   refine⟨.agg (arr.extract off (off+te.size)),?_,?_⟩;simp_all[part,sizeOf,typeInfo,hi]
   simp[aa];simp_all[mw,Array.toList_extract,List.extract]
 |false=>
  simp[Xh,N!] at hp;obtain⟨v,hv,hrv⟩:=wo cs _ off r hrel hp
  have hia:(isAgg t).run P w= .ok false w:=by
   unfold isAgg;rw[Sem.run_bind,run_underlying hu w];cases hd:te.desc<;>simp_all[TypeDesc.nH]
  simp_all[part]
variable {n:Int}{d:Nat}{b:AB}{o:Oper}
def ã(hB:al C A β st a w)(hx:aa w A β vx x)(h:IT st.h x=some n):
  (∃ad l c,vx= .slice ad l c/\n=(l:Int)/\l<=maxLen)\/(∃s,x= .str s/\n=(s.length:Int)):=by
 unfold IT at h;grind[Option.some.injEq,aa,Rd,iE,trans,Value.slice.injEq]
theorem Bj {k:IntKind}(h:lo k<=n/\n<=hi k):k.wrap n=n:=by
 cases k<;>simp[lo,hi] at h<;>simp[IntKind.wrap,IntKind.signed,IntKind.bits]<;>omega
def ä {k:IntKind}{c:Int}(h:qT k=some c):k.wrap n=n%c:=by
 cases k<;>simp[qT] at h<;>subst h<;>simp[IntKind.wrap,IntKind.signed,IntKind.bits]
def Xk {k:IntKind}{c:Int}(h:qT k=some c):lo k<=n%c/\n%c<=hi k:=by
 cases k<;>simp[qT] at h<;>subst h<;>simp[lo,hi]<;>omega
def rn {k:IntKind}{cs:M Prop}(h:wh k cs n=some out)(hc:∀p∈out.cond,p):
  out.quiet/\aa w A β (.int k (k.wrap n)) out.res/\∀p∈cs,p:=by
 unfold wh at h;simp at h;subst h;unfold fit at hc |-;cases hk:qT k with
 |none=>
  refine⟨⟨rfl,rfl,rfl⟩,?_,λp hp=>hc p x!⟩;simp_all[Bj,aa,trivial]
 |some c=>
  refine⟨⟨rfl,rfl,rfl⟩,?_,λp hp=>hc p x!⟩;simp_all[ä,aa,trivial,Xk]
variable {x:Operand}
theorem I2{k k':IntKind}:(eqGuard op t x y (.int k n) (.int k' m)).run P w= .ok () w:=by
 simp_all[eqGuard]
theorem I3{s u:ByteArray}:(eqGuard op t x y (.string s) (.string u)).run P w= .ok () w:=by
 simp_all[eqGuard]
theorem Ff{p q:Option Addr}{n m n' m':Nat}:(eqGuard op t x y (.slice p n m) (.slice q n' m')).run P w= .ok () w:=by
 simp_all[eqGuard]
def I4(w:World)(d:Nat)(t e:TypeId)(a:Option Addr)(n c n' c':Nat)(h:P.underlying t=some (.slice e)):
  (Op.equalIn (d+1) t (.slice a n c) (.slice none n' c')).run P w= .ok a.isNone w:=by
 cases a<;>simp[Op.equalIn,run_underlying h]
theorem Ug(w:World)(t e:TypeId)(a:Option Addr)(n c n' c':Nat)(h:P.underlying t=some (.slice e)):
  (binOp .eql t (.slice a n c) (.slice none n' c')).run P w= .ok (.bool a.isNone) w:=by
 simp_all[binOp,Op.equal,Op.maxDepth,I4]
theorem GR{s u:Bool}:(eqGuard op t x y (.bool s) (.bool u)).run P w= .ok () w:=by
 simp_all[eqGuard]
def sA {k:IntKind}(hr:lo k<=n)(h:∀p∈Eh k n,p):0<=n:=by
 unfold Eh at h;cases hc:qT k with
 |none=>simp[hc] at h;exact h _ z!
 |some c=>cases k<;>simp[qT] at hc<;>simpa[lo] using hr
def sB:IntKind->Nat
 |.i8=>7|.i16=>15|.i32=>31|.i64=>63|.u8=>8|.u16=>16|.u32=>32|.u64=>64
theorem toNat_lt {k:IntKind}(h0:0<=n)(h:n<=hi k):n.toNat<2^sB k:=by
 cases k<;>simp[hi] at h<;>simp[sB]<;>omega
def aib {k:IntKind}{n:Nat}(h:n<2^sB k):lo k<=(n:Int)/\(n:Int)<=hi k:=by
 cases k<;>simp[sB] at h<;>simp[lo,hi]<;>omega
def tM {k:IntKind}(h0:0<=n)(h:n<=hi k):(BitVec.ofInt k.bits n).toNat=n.toNat:=by
 cases k<;>simp[hi] at h<;>simp[IntKind.bits]<;>omega
def Ni {k:IntKind}(f:Nat->Nat->Nat)(g:BitVec k.bits->BitVec k.bits->BitVec k.bits)(hfg:∀x y,(g x y).toNat=f x.toNat y.toNat)
  (hf:∀a b,a<2^sB k->b<2^sB k->f a b<2^sB k) (hn:lo k<=n/\n<=hi k) (hm:lo k<=m/\m<=hi k) (h0:0<=n) (h1:0<=m):
  k.wrap ((g (BitVec.ofInt k.bits n) (BitVec.ofInt k.bits m)).toNat:Int)=(f n.toNat m.toNat:Int)/\lo k<=(f n.toNat m.toNat:Int)/\(f n.toNat m.toNat:Int)<=hi k:=by
 rw[hfg,tM h0 hn.2,tM h1 hm.2];have:=aib (hf _ _ (toNat_lt h0 hn.2) (toNat_lt h1 hm.2));exact⟨Bj this,this⟩
theorem Ep(s:B8):(⟨s.toArray⟩:ByteArray).toList=s:=by
 simp_all
theorem Bk(s:B8):(⟨s.toArray⟩:ByteArray).size=s.length:=by rfl
def å(s u:B8):(⟨s.toArray⟩:ByteArray)++⟨u.toArray⟩=⟨(s++u).toArray⟩:=by
 rfl
variable {x:AV}
theorem Nj{p:Bool}(hx:aa w A β v x)(h:wi x=some p):v= .bool p:=by cases x<;>simp_all[wi,aa]
theorem R6 {d:Nat}{E:TypeId->AV->AV->Option Bool}(hT:bz T P)(hE:∀t x y v u r,aa w A β v x->aa w A β u y->E t x y=some r->(Op.equalIn d t v u).run P w= .ok r w)
  {arr brr:Array Value} {xs ys:M AV} (hx:ae w A β arr.toList xs) (hy:ae w A β brr.toList ys):∀(fs:M Field) (r:Bool),(fs.all λf=>f.name != "_")=true->R2 T E xs ys fs=some r->(Op.eqFields d arr brr fs).run P w= .ok r w
 |[],r,_,h=>by simp_all[R2,A!,Op.eqFields]
 |f::fs,r,hn,h=>by
  simp only[List.all_cons,Bool.and_eq_true] at hn;have Xl:f.name≠ "_":=by grind
  simp[R2] at h;cases hf:T.find f.type with
  |none=>grind
  |some te=>
   simp[hf] at h;cases ha:pick te xs f.offset with
   |none=>grind
   |some a=>cases hb:pick te ys f.offset with
    |none=>grind
    |some b=>
     simp[ha,hb] at h;cases he:E f.type a b with
     |none=>grind
     |some q=>cases hr:R2 T E xs ys fs with
      |none=>grind
      |some q'=>
       simp[he,hr,A!] at h;subst h;obtain⟨va,a1,a2⟩:=xT hT hf hx ha;obtain⟨vb,b1,b2⟩:=xT hT hf hy hb;have e1:=hE _ _ _ _ _ _ a2 b2 he;have e2:=R6 hT hE hx hy fs q' hn.2 hr;simp[Op.eqFields,Xl,ne_eq,not_false_eq_true,P?,Sem.run_bind,a1,b1,e1,Result.andThen_ok];cases fs with
       |nil=>
        cases q<;>simp[Op.eqFields]
       |cons g gs=>cases q<;>simp[e2]
def R7(hT:bz T P):∀(n d:Nat) (t:TypeId) (x y:AV) (v u:Value) (r:Bool),n<=d->aa w A β v x->aa w A β u y->KN T n t x y=some r->(Op.equalIn d t v u).run P w= .ok r w
 |0,_,_,_,_,_,_,_,_,_,_,h=>by grind[KN]
 |n+1,0,_,_,_,_,_,_,hd,_,_,_=>by omega
 |n+1,d+1,t,x,y,v,u,r,hd,hx,hy,h=>by
  simp[KN] at h;cases hf:T.find t with
  |none=>grind
  |some te=>
   simp[hf] at h;obtain⟨hu,_⟩:=hT.ok t te hf;split at h;rename_i fs I5;split at h;obtain⟨arr,rfl,hx⟩:=hx;obtain⟨brr,rfl,hy⟩:=hy;have hh:=hT.held t te hf;rw[I5] at hh hu;have hfo:P.fieldsOf t=fs:=by grind[Program.fieldsOf]
   rw[run_equalIn_struct w d t arr brr x! hh.1,hfo];exact R6 hT (λt x y v u r g1 g2 g3=>R7 hT n d t x y v u r w! g1 g2 g3) hx hy _ _ hh.2.2 h;grind;grind[Option.some.injEq,aa,run_equalIn_int];grind[Option.some.injEq,aa,run_equalIn_string,Ep];rename_i I5;rw[I5] at hu;split at h;rename_i p q hp hq;simp at h;subst h;rw[Nj hx hp,Nj hy hq,run_equalIn_bool' w d t _ _ hu];grind;grind
def Xm(hT:bz T P){n:Nat}{xs ys:M AV}{r:Bool}(h:KN T n t (.agg xs) (.agg ys)=some r):P.eqGuardType P.depth t=false:=by
 cases n with
 |zero=>grind[KN]
 |succ n=>
  simp[KN] at h;cases hf:T.find t with
  |none=>grind
  |some te=>
   simp[hf] at h;have hh:=hT.held t te hf;split at h;rename_i fs I5;rw[I5] at hh;exact hh.2.1;cases h;cases h;grind[wi];grind
set_option maxHeartbeats 1000000 in
def æ(hT:bz T P){ox oy:Operand}{y:AV}{vy:Value}(hx:aa w A β vx x)(hy:aa w A β vy y)
  (h:Ua T t op x y=some out) (hc:∀p∈out.cond,p):Reads P A β w (do eqGuard op t ox oy vx vy;binOp op t vx vy) out:=by
 unfold Ua at h;split at h
 . rename_i k n k' m;simp only[aa] at hx hy;obtain⟨rfl,hn⟩:=hx;obtain⟨rfl,hm⟩:=hy;unfold Reads;simp only[Sem.run_bind,I2,Result.andThen_ok];split at h;obtain⟨hq,hr,ep⟩:=rn (w:=w) (A:=A) (β:=β) h hc;obtain⟨h0,h1⟩:=eD ep;refine⟨hq,_,?_,hr⟩;have alH:¬m<0:=by omega
   have alI:min m.toNat k.bits=m.toNat:=by
    cases k<;>simp[bitsOf] at h1<;>simp[IntKind.bits]<;>omega
   simp[binOp,Op.shift,alH,alI];simp only[A!] at h;subst h;obtain⟨h0,h1⟩:=eD hc;have alH:¬m<0:=by omega
   have alI:min m.toNat k.bits=m.toNat:=by
    cases k<;>simp[bitsOf] at h1<;>simp[IntKind.bits]<;>omega
   refine⟨⟨rfl,rfl,rfl⟩,.int k (n/2^m.toNat),?_,?_⟩;simp only[binOp,Op.shift,alH,alI,if_false,Sem.run_pure];grind;simp only[aa];have hp:(1:Int)<=2^m.toNat:=Int.pow_pos w!;refine⟨trivial,?_,?_⟩;have h2:lo k<=0:=by cases k<;>simp[lo]
   rcases Int.le_total 0 n with hh|hh;exact Int.le_trans h2 (Int.ediv_nonneg hh w!)
   have :n<=n/2^m.toNat:=by
    rw[Int.le_ediv_iff_mul_le w!];have:=Int.mul_le_mul_of_nonpos_left hh hp;omega
   omega;have h2:0<=hi k:=by cases k<;>simp[hi]
   rcases Int.le_total 0 n with hh|hh;have :n/2^m.toNat<=n:=Int.ediv_le_self _ hh;omega;have :n/2^m.toNat<=0:=Int.ediv_nonpos_of_nonpos_of_neg hh w!;omega
   . rename_i L8 Uh;by_cases Xn:k=k'
     . subst Xn;simp only[P?] at h
       have hb:binOp op t (.int k n) (.int k m)=match op with
         |.add|.sub|.mul=>Op.intArith op k n m
         |.quo|.rem=>Op.intDiv op k n m
         |.and|.or|.xor|.andNot=>Op.intBits op k n m
         |_=>Op.intCmp op n m:=by
        cases op<;>first|exact absurd rfl L8|exact absurd rfl Uh|simp[binOp]
       rw[hb];split at h;obtain⟨hq,hr,_⟩:=rn (w:=w) (A:=A) (β:=β) h hc;simp_all[Op.intArith]
       obtain⟨hq,hr,_⟩:=rn (w:=w) (A:=A) (β:=β) h hc;simp_all[Op.intArith]
       obtain⟨hq,hr,_⟩:=rn (w:=w) (A:=A) (β:=β) h hc;simp_all[Op.intArith]
       simp only[Option.some.injEq] at h;subst h;have h0:0<=n:=sA hn.1 (λp hp=>hc p x!);have h1:0<m:=hc _ z!;have di:¬m=0:=by omega
       have h2:0<=n/m:=Int.ediv_nonneg h0 w!;have h3:n/m<=n:=Int.ediv_le_self _ h0;have Ui:lo k<=0:=by cases k<;>simp[lo]
       have hr:lo k<=n/m/\n/m<=hi k:=⟨w!,w!⟩;refine⟨⟨rfl,rfl,rfl⟩,.int k (n/m),?_,by simp_all[aa,trivial]⟩;simp_all[Op.intDiv,s?,Int.tdiv_eq_ediv_of_nonneg,Bj,Sem.run_pure]
       simp only[Option.some.injEq] at h;subst h;have h0:0<=n:=sA hn.1 (λp hp=>hc p x!);have h1:0<m:=hc _ z!;have di:¬m=0:=by omega
       have h2:0<=n%m:=Int.emod_nonneg _ di
       have h3:n%m<=n:=by
        have e1:=Int.emod_def n m;have e2:0<=m*(n/m):=Int.mul_nonneg w! (Int.ediv_nonneg h0 w!);omega
       have Ui:lo k<=0:=by cases k<;>simp[lo]
       have hr:lo k<=n%m/\n%m<=hi k:=⟨w!,w!⟩;refine⟨⟨rfl,rfl,rfl⟩,.int k (n%m),?_,by simp_all[aa,trivial]⟩;simp_all[Op.intDiv,s?,Int.tmod_eq_emod_of_nonneg,Sem.run_pure]
       simp only[Option.some.injEq] at h;subst h;have h0:0<=n:=sA hn.1 (λp hp=>hc p x!);have h1:0<=m:=sA hm.1 (λp hp=>hc p x!);obtain⟨e1,e2⟩:=Ni (k:=k) (· &&& ·) (· &&& ·) (λx y=>BitVec.toNat_and x y) (λa b ha hb=>Nat.lt_of_le_of_lt Nat.and_le_left ha) hn hm h0 h1;exact⟨⟨rfl,rfl,rfl⟩,_,by simp only[Op.intBits,Sem.run_pure,e1];rfl,by simp only[aa];exact⟨rfl,e2⟩⟩;simp only[Option.some.injEq] at h;subst h;have h0:0<=n:=sA hn.1 (λp hp=>hc p x!);have h1:0<=m:=sA hm.1 (λp hp=>hc p x!);obtain⟨e1,e2⟩:=Ni (k:=k) (· ||| ·) (· ||| ·) (λx y=>BitVec.toNat_or x y) (λa b ha hb=>Nat.or_lt_two_pow ha hb) hn hm h0 h1;exact⟨⟨rfl,rfl,rfl⟩,_,by simp only[Op.intBits,Sem.run_pure,e1];rfl,by simp only[aa];exact⟨rfl,e2⟩⟩;simp only[Option.some.injEq] at h;subst h;have h0:0<=n:=sA hn.1 (λp hp=>hc p x!);have h1:0<=m:=sA hm.1 (λp hp=>hc p x!);obtain⟨e1,e2⟩:=Ni (k:=k) (· ^^^ ·) (· ^^^ ·) (λx y=>BitVec.toNat_xor x y) (λa b ha hb=>Nat.xor_lt_two_pow ha hb) hn hm h0 h1;exact⟨⟨rfl,rfl,rfl⟩,_,by simp only[Op.intBits,Sem.run_pure,e1];rfl,by simp only[aa];exact⟨rfl,e2⟩⟩;simp only[Option.some.injEq] at h;subst h;exact⟨⟨rfl,rfl,rfl⟩,.bool (decide (n=m)),by rfl,by rfl⟩;simp only[Option.some.injEq] at h;subst h;exact⟨⟨rfl,rfl,rfl⟩,.bool (!decide (n=m)),by rfl,by rfl⟩;simp only[Option.some.injEq] at h;subst h;exact⟨⟨rfl,rfl,rfl⟩,.bool (decide (n<m)),by rfl,by rfl⟩;simp only[Option.some.injEq] at h;subst h;exact⟨⟨rfl,rfl,rfl⟩,.bool (decide (n<=m)),by rfl,by rfl⟩;simp only[Option.some.injEq] at h;subst h;exact⟨⟨rfl,rfl,rfl⟩,.bool (decide (m<n)),by rfl,by rfl⟩;simp only[Option.some.injEq] at h;subst h;exact⟨⟨rfl,rfl,rfl⟩,.bool (decide (m<=n)),by rfl,by rfl⟩;grind
     grind
 . rename_i s u;simp only[aa] at hx hy;obtain⟨rfl,hn⟩:=hx;obtain⟨rfl,hm⟩:=hy;unfold Reads;simp only[Sem.run_bind,I3,Result.andThen_ok];have hb:binOp op t (.string ⟨s.toArray⟩) (.string ⟨u.toArray⟩)=Op.stringOp op ⟨s.toArray⟩ ⟨u.toArray⟩:=by cases op<;>rfl
   have aJE:(s==u)=decide (s=u):=by
    grind
   rw[hb];split at h;simp only[A!] at h;subst h;have h0:=eD hc;refine⟨⟨rfl,rfl,rfl⟩,.string ⟨(s++u).toArray⟩,?_,?_⟩;simp_all[IntKind.max,IntKind.signed,IntKind.bits,Op.stringOp,Bk,å]
   simp only[aa];refine⟨trivial,?_⟩;grind[List.length_append,maxLen];all_goals first|(simp only[Option.some.injEq] at h;subst h;exact⟨⟨rfl,rfl,rfl⟩,_,by simp only[Op.stringOp,Sem.run_pure,Ep,aJE];rfl,by rfl⟩)|cases h
 . rename_i r rs l;cases hd:cE T t gN with
   |false=>grind
   |true=>
    simp only[hd,K!] at h
    obtain⟨e,hu⟩:∃e,P.underlying t=some (.slice e):=by
     unfold cE at hd;cases ht:T.find t with
     |none=>grind
     |some te=>
      simp only[ht] at hd;rw[(hT.ok t te ht).1];cases Fg:te.desc<;>simp_all[gN]
    simp only[aa,Rd] at hx hy;obtain⟨ad,cap,cs,rfl,h1,h2,h3,h4⟩:=hx;subst hy;split at h
    . simp only[Option.some.injEq] at h;subst h;unfold Reads;simp only[Sem.run_bind,Ff,Result.andThen_ok];refine⟨⟨rfl,rfl,rfl⟩,.bool ad.isNone,Ug w t e ad _ _ _ _ hu,?_⟩;simp only[aa];refine⟨_,rfl,λhn=>?_⟩;cases l with
      |nil=>rfl
      |cons x l=>
       grind[dn,bw]
    grind
 rename_i xs ys;split at h;rename_i r hr;have hg:=Xm hT hr;have hq:=R7 (w:=w) (A:=A) (β:=β) hT 8 10000 t _ _ _ _ r w! hx hy hr;simp only[aa] at hx hy;obtain⟨arr,rfl,hx⟩:=hx;obtain⟨brr,rfl,hy⟩:=hy;unfold Reads;simp only[Sem.run_bind,run_eqGuard_agg w op t ox oy arr brr hg,Result.andThen_ok];split at h;simp only[Option.some.injEq] at h;subst h;exact⟨⟨rfl,rfl,rfl⟩,_,by rw[run_eql_struct,hq];rfl,by rfl⟩;simp only[Option.some.injEq] at h;subst h;exact⟨⟨rfl,rfl,rfl⟩,_,by rw[run_neq_struct,hq];rfl,by rfl⟩;grind;grind
 . rename_i Rn hy1 hz1;split at h
   . rename_i p q hp hq;have ex:vx= .bool p:=by cases x<;>simp_all[wi,aa]
     have ey:vy= .bool q:=by cases y<;>simp_all[wi,aa]
     subst ex;subst ey;unfold Reads;simp only[Sem.run_bind,GR,Result.andThen_ok];cases hd:cE T t Na with
     |false=>grind
     |true=>
      simp only[hd,K!] at h
      have hu:P.underlying t=some .bool:=by
       unfold cE at hd;cases ht:T.find t with
       |none=>grind
       |some te=>
        simp only[ht] at hd;rw[(hT.ok t te ht).1];grind[Na]
      split at h;simp only[Option.some.injEq] at h;subst h;exact⟨⟨rfl,rfl,rfl⟩,.bool (p==q),run_eql_bool w t p q hu,by rfl⟩;simp only[Option.some.injEq] at h;subst h;exact⟨⟨rfl,rfl,rfl⟩,.bool (!(p==q)),run_neq_bool w t p q hu,by rfl⟩;grind
   grind
theorem Nk(sz j:Nat):∀(k:Nat) (cs:M AV) (i:Nat),i<k->(every sz j k cs)[i]? =some (cs.getD (i*sz+j) .cM)
 |k+1,cs,0,_=>by simp[every]
 |k+1,cs,i+1,h=>by
  simp[every,r?];rw[Nk sz j k (cs.drop sz) i w!];simp;rw[show sz+(i*sz+j)=(i+1)*sz+j by rw[n?];omega]
theorem GS:∀(l:M AV) (kd:IntKind) (ns:U),GL l=some (kd,ns)->∀(i:Nat) (a:AV),l[i]? =some a->a= .int kd (ns.getD i 0)
 |[],kd,ns,h,i,a,hi=>by grind
 |x::r,kd,ns,h,i,a,hi=>by
  unfold GL at h;split at h
  . split at h
    . obtain⟨rfl,rfl⟩:=h;cases i with
      |zero=>simp at hi;subst hi;simp
      |succ i=>simp at hi
    . split at h
      . rename_i k' l hl;split at h
        . rename_i hk;subst hk;obtain⟨rfl,rfl⟩:=h;cases i with
          |zero=>simp at hi;subst hi;simp
          |succ i=>
           have:=GS _ _ _ hl i a hi;rw[this];simp[List.getD]
        cases h
      cases h
  cases h
def Bl {sz k:Nat}{cs:M AV}{n:Int}(hn:n.toNat<k):∀(m:Nat) (vs:M AV),GM sz k cs n m=some vs->vs.length=m/\∀j,j<m->vs[j]? =some (cs.getD (n.toNat*sz+j) .cM)
 |0,vs,h=>by grind[GM,Option.some.injEq]
 |m+1,vs,h=>by
  simp only[GM] at h;split at h;rename_i us kd l h1 h2;simp only[Option.some.injEq] at h;obtain⟨g1,g2⟩:=Bl hn m us h1;refine⟨x!,λj hj=>?_⟩;by_cases hjm:j<m;grind;have :j=m:=by omega
  grind[GS,Nk];grind
def Xo(hT:bz T P){k:Nat}{ee:TE}(h:Nc T t=some (k,ee)):∃e i,P.underlying t=some (.array k e)/\T.find e=some ee/\P.info? e=some i/\i.size=ee.size:=by
 unfold Nc at h;split at h;rename_i te iO;obtain⟨hu,_⟩:=hT.ok t te iO;split at h;rename_i k' e hd;split at h;rename_i ee' xi;obtain⟨_,i,hi,hs,_⟩:=hT.ok e ee' xi;grind;grind;grind;grind
theorem L9(hT:bz T P){cs:M AV}{kd:IntKind}(hx:ae w A β arr.toList cs)(hi:vi= .int kd n)
  (h:yW T t cs n=some out) (hc:∀p∈out.cond,p):Reads P A β w (Instr.index t (.agg arr) vi) out:=by
 unfold yW at h;split at h
 . rename_i k ee ha;cases hb:Nat.beq cs.length (k*ee.size) with
   |false=>grind
   |true=>
    rw[hb] at h;simp only[K!] at h;have hlen:=D! hb;obtain⟨e,i,hu,xi,hie,hs⟩:=Xo hT ha
    have gI:∀(h0:0<=n) (h1:n<(k:Int)),(Instr.index t (.agg arr) vi).run P w=(part e arr (n.toNat*ee.size)).run P w:=by
     simp_all[hi,Instr.index,asIntOf,run_underlying,sizeOf,typeInfo]
    split at h
    . rename_i vs hv;cases Uj:ee.desc.nH with
      |true=>
       rw[Uj] at h;simp only[K!,A!] at h;subst h;obtain⟨h0,h1⟩:=eD hc;obtain⟨g1,g2⟩:=Bl w! _ _ hv
       have hle:n.toNat*ee.size+ee.size<=cs.length:=by
        rw[hlen,<-Nat.succ_mul];exact H? _ w!
       have hp:pick ee cs (n.toNat*ee.size)=some (.agg vs):=by
        unfold pick;rw[Uj,cond_true,show Nat.ble (n.toNat*ee.size+ee.size) cs.length=true from Nat.ble_eq_true_of_le hle,cond_true];congr 2
        refine List.ext_getElem? λj=>?_;grind
       obtain⟨v,k1,k2⟩:=xT hT xi hx hp;exact⟨⟨rfl,rfl,rfl⟩,v,x!,k2⟩
      |false=>
       rw[Uj] at h;simp only[cond_false] at h;split at h;rename_i a;simp only[Option.some.injEq] at h;subst h;obtain⟨h0,h1⟩:=eD hc;obtain⟨g1,g2⟩:=Bl w! _ _ hv;have dH:ee.size=1:=by grind
       have hp:pick ee cs (n.toNat*ee.size)=some a:=by
        simp_all[pick,N!,X?,A!,Nat.add_zero,C!,List.getD]
       obtain⟨v,k1,k2⟩:=xT hT xi hx hp;exact⟨⟨rfl,rfl,rfl⟩,v,x!,k2⟩;grind
    grind
 grind
theorem uq(n:Int):∀ks,Nd n ks=true↔n∈ks
 |[]=>by simp[Nd]
 |k::r=>by simp[Nd,uq n r]
theorem Bm(n:Int):∀ks,yX n ks↔n∉ks
 |[]=>by simp[yX]
 |k::r=>by simp[yX,Bm n r]
def sb(n:Int):∀(es:M MapEntry) (ks:U) (i:Nat),es.map (·.key)=ks.map (Value.int .i64)->n∉ks->Instr.findNow (.int .i64) (.int .i64 n) es i=some none
 |[],_,_,_,_=>rfl
 |e::es,[],_,h,_=>by grind
 |e::es,k::ks,i,h,hn=>by
  simp at h;have hk:n≠k:=λq=>hn (by rw[q];exact G! ..)
  have hs:Instr.sameNow (.int .i64) (.int .i64 n) e.key=some false:=by
   rw[h.1];simp[Instr.sameNow,hk]
  simp[Instr.findNow,hs];exact sb n es ks (i+1) h.2 (λq=>hn (F! _ q))
def Bn(n:Int):∀(es:M MapEntry) (ks:U) (i j:Nat),es.map (·.key)=ks.map (Value.int .i64)->gX ks=true->ks[j]? =some n->
  ∃e,es[j]? =some e/\Instr.findNow (.int .i64) (.int .i64 n) es i=some (some (i+j,e.val))
 |[],[],_,j,_,_,hj=>by grind
 |[],_::_,_,_,h,_,_=>by grind
 |e::es,[],_,_,h,_,_=>by grind
 |e::es,k::ks,i,j,h,hd,hj=>by
  simp at h;simp[gX,B!,Q?] at hd;cases j with
  |zero=>
   have hs:Instr.sameNow (.int .i64) (.int .i64 k) e.key=some true:=by
    grind[Instr.sameNow]
   exact⟨e,rfl,by grind[Instr.findNow]⟩
  |succ j=>
   have hk:n≠k:=by
    grind[List.mem_of_getElem?,uq]
   have hs:Instr.sameNow (.int .i64) (.int .i64 n) e.key=some false:=by
    grind[Instr.sameNow]
   obtain⟨e',h1,h2⟩:=Bn n es ks (i+1) j h.2 hd.2 hj;grind[Instr.findNow]
def wv:∀(ks:U),gX ks=true↔ks.Nodup
 |[]=>by simp[gX]
 |k::r=>by
  simp only[gX,B!,Q?,List.nodup_cons,wv r];rw[<-uq,Bool.not_eq_true]
def Fh {γ:Type}{f:α->γ}{m m':M γ}(h:m.Perm m'):∀(l:M α),m'=l.map f->∃l':M α,l'.Perm l/\m=l'.map f:=by
 induction h with
 |nil=>exact λl h=>⟨[],by simp_all,rfl⟩
 |cons x _ ih=>
  intro l hl;cases l with
  |nil=>cases hl
  |cons a l=>
   simp only[K?,List.cons.injEq] at hl;obtain⟨l',p,q⟩:=ih l hl.2;exact⟨a::l',p.cons a,by rw[K?,q,hl.1]⟩
 |swap x y l0=>
  intro l hl;match l,hl with
  |a::b::r,hl=>
   simp only[K?,List.cons.injEq] at hl;exact⟨b::a::r,.swap a b r,by simp[hl.1,hl.2.1,hl.2.2]⟩
 |trans _ _ ih1 ih2=>
  intro l hl;obtain⟨l2,p2,q2⟩:=ih2 l hl;obtain⟨l1,p1,q1⟩:=ih1 l2 q2;exact⟨l1,p1.trans p2,q1⟩
def Xp{ks:U}(hp:yY.Perm es)(hk:es.map (·.key)=ks.map (Value.int .i64)):∃GU:U,GU.Perm ks/\yY.map (·.key)=GU.map (Value.int .i64):=
 Fh (hp.map (·.key)) ks hk
def perm_keys{ks:U}(hp:yY.Perm es)(hk:es.map (·.key)=ks.map (Value.int .i64))(hn:n∉ks):∃GU:U,yY.map (·.key)=GU.map (Value.int .i64)/\n∉GU:=by
 obtain⟨GU,p,q⟩:=Xp hp hk;exact⟨GU,q,λh=>hn (p.mem_iff.1 h)⟩
def Ro(n:Int){ks:U}(hp:yY.Perm es)(hk:es.map (·.key)=ks.map (Value.int .i64))(hd:gX ks=true)(hj:ks[j]? =some n):
  ∃e,es[j]? =some e/\∃i,Instr.findNow (.int .i64) (.int .i64 n) yY 0=some (some (i,e.val)):=by
 obtain⟨GU,p,q⟩:=Xp hp hk;obtain⟨e,h1,_⟩:=Bn n es ks 0 j hk hd hj;refine⟨e,h1,?_⟩
 have he:e.key= .int .i64 n:=by
  have :(es.map (·.key))[j]? =(ks.map (Value.int .i64))[j]? :=by rw[hk]
  simpa[E?,h1,hj] using this
 obtain⟨i,hi,hie⟩:=c? (hp.mem_iff.2 (D? h1));have fN:yY[i]? =some e:=by rw[C! hi,hie]
 have hk0:GU[i]? =some n:=by
  have :(yY.map (·.key))[i]? =(GU.map (Value.int .i64))[i]? :=by rw[q]
  rw[E?,fN,E?] at this;cases h:GU[i]? with
  |none=>rw[h] at this;cases this
  |some m=>rw[h] at this;simp[he] at this;rw[this]
 obtain⟨e',g1,g2⟩:=Bn n yY GU 0 i q ((wv _).2 (p.nodup_iff.2 ((wv _).1 hd))) hk0;rw[fN] at g1;cases g1;exact⟨_,g2⟩
def Nl:∀(as_:M AV) (vs:M Value) (i:Nat) (x:AV) (v:Value),ae w A β vs as_->as_[i]? =some x->vs[i]? =some v->aa w A β v x
 |[],_,i,x,v,_,h,_=>by grind
 |a::as_,vs,i,x,v,h,hx,hv=>by
  obtain⟨u,bY,rfl,h1,h2⟩:=h;cases i with
  |zero=>
   simp at hx hv;rw[<-hx,<-hv];exact h1
  |succ i=>exact Nl as_ bY i x v h2 (by simpa using hx) (by simpa using hv)
theorem Rp(hT:bz T P){ok:Bool}{ks:U}{cs:M AV}{IV:Nat}{vm:Value}(hm:aa w A β vm (.iA ks cs))
  (h:Fb T IV t ok ks cs n=some out) (hc:∀p∈out.cond,p):Reads P A β w (Instr.lookup t vm (.int .i64 n) ok) out:=by
 simp only[aa] at hm;obtain⟨b,es,ck,rfl,hA,⟨yY,hb,hp⟩,hk,hv⟩:=hm;unfold Fb at h;split at h
 . rename_i te iO;obtain⟨hu,_⟩:=hT.ok t te iO;split at h
   . rename_i kt et hd;rw[hd] at hu;cases hq:(cE T kt xh&&gX ks) with
     |false=>grind
     |true=>
     rw[hq] at h;simp only[K!] at h;simp only[B!] at hq
     have xU:P.underlying kt=some (.int .i64):=by
      have h1:=hq.1;unfold cE at h1;split at h1;rename_i tk Bo;obtain⟨hku,_⟩:=hT.ok kt tk Bo;grind[xh];grind
     have hck:∀e,(Instr.checkKey e 10000 kt (.int .i64 n)).run P w= .ok () w:=λe=>MapKept.run_checkKey xU (by rfl) e 9999;split at h;rename_i k c Ma hc1;simp only[Option.some.injEq] at h;subst h;have hn:n=k:=hc _ (List.mem_cons_self ..);subst hn;obtain⟨e,he,j0,hf⟩:=Ro n hp hk hq.2 Ma;have hrel:=Nl cs _ IV c e.val hv hc1 x!;refine⟨⟨rfl,rfl,rfl⟩,(if ok then .tuple #[e.val,.bool true] else e.val),?_,?_⟩;simp[Instr.lookup,run_underlying hu,MapKept.run_getObj_map hb,hck,MapKept.run_findKey xU hf,Result.andThen];cases ok;grind;simp only[cond_true,if_true,aa];exact⟨_,rfl,by simp only[ae];exact⟨_,_,rfl,hrel,_,_,rfl,by rfl,rfl⟩⟩
     . split at h
       . rename_i ee xi;cases hz:Ý ee.zero with
         |false=>grind
         |true=>
         rw[hz] at h;simp only[K!,A!] at h;subst h;have hn:n∉ks:=(Bm n ks).1 (hc _ (G! ..));obtain⟨GU,hk0,hn0⟩:=perm_keys hp hk hn;have hf:=sb n yY.toList GU 0 hk0 hn0;obtain⟨_,i,hi,_,_,hzz⟩:=hT.ok et ee xi
         have hz':ee.zero= .nilFunc:=by
          grind[Ý]
         have hzr:(zeroValue et).run P w= .ok .nilFunc w:=by
          simp_all[zeroValue,typeInfo,hi]
         refine⟨⟨rfl,rfl,rfl⟩,(if ok then .tuple #[.nilFunc,.bool false] else .nilFunc),?_,?_⟩;simp[Instr.lookup,run_underlying hu,MapKept.run_getObj_map hb,hck,MapKept.run_findKey xU hf,hzr,Result.andThen];cases ok;rfl;exact⟨_,rfl,by simp only[ae];exact⟨_,_,rfl,by simp[aa],_,_,rfl,by simp[aa],rfl⟩⟩
       grind
   grind
 grind
def aie {op:UnOp}(hx:aa w A β vx x)(h:Ü op x=some out)(hc:∀p∈out.cond,p):Reads P A β w (Op.unary op vx) out:=by
 unfold Ü at h;split at h;split at h;simp at h;subst h;subst hx;exact⟨⟨rfl,rfl,rfl⟩,_,rfl,by rfl⟩;grind;split at h;simp at h;subst h;subst hx;exact⟨⟨rfl,rfl,rfl⟩,_,rfl,by rfl⟩;grind;split at h;simp at h;subst h;subst hx;exact⟨⟨rfl,rfl,rfl⟩,_,rfl,by rfl⟩;grind
 . rename_i k n;obtain⟨rfl,hn⟩:=hx;split at h;obtain⟨hq,hr,_⟩:=rn (w:=w) (A:=A) (β:=β) h hc;exact⟨hq,.int k (k.wrap (0-n)),by rfl,hr⟩
   . cases hk:qT k with
     |none=>grind
     |some c=>
      simp[hk,A!] at h;subst h;have hs:k.signed=false:=by cases k<;>simp[qT] at hk<;>rfl
      have h0:0<=n:=by cases k<;>simp[qT] at hk<;>simpa[lo] using hn.1
      have hc1:c-1=hi k:=by cases k<;>simp[qT] at hk<;>subst hk<;>rfl
      have hx:(c-1-n)=k.wrap ((BitVec.ofInt k.bits (hi k)^^^BitVec.ofInt k.bits n).toNat:Int):=by
       rw[BitVec.toNat_xor,tM w! (Int.le_refl _),tM h0 hn.2]
       have e:(hi k).toNat^^^n.toNat=(hi k).toNat-n.toNat:=by
        have e2:(hi k).toNat=2^sB k-1:=by cases k<;>simp[qT] at hk<;>rfl
        rw[e2];apply Nat.eq_of_testBit_eq;grind[Nat.lt_or_ge,Nat.testBit_lt_two_pow,Nat.lt_of_lt_of_le,Nat.pow_le_pow_right]
       have hr:lo k<=(((hi k).toNat-n.toNat:Nat):Int)/\(((hi k).toNat-n.toNat:Nat):Int)<=hi k:=by
        have :lo k=0:=by cases k<;>simp[qT] at hk<;>rfl
        omega
       grind[Bj]
      have aNm:lo k<=c-1-n/\c-1-n<=hi k:=by
       have :lo k=0:=by cases k<;>simp[qT] at hk<;>rfl
       omega
      refine⟨⟨rfl,rfl,rfl⟩,.int k (c-1-n),?_,by simp_all[aa,trivial]⟩;have ada:k.max=hi k:=by cases k<;>simp[qT] at hk<;>rfl
      simp_all[Op.unary,Op.intBits,b?,s?,Sem.run_pure]
   grind
 grind
def GV(s:B8)(x y:Nat)(hy:y<=s.length):(⟨s.toArray⟩:ByteArray).extract x y=⟨((s.take y).drop x).toArray⟩:=by
 apply ByteArray.ext;grind[Array.ext',ByteArray.data_extract,List.drop_take]
def run_sliceBound {k:IntKind}{y:Nat}{code:BoundsCode}(h0:0<=n)(h1:n<=(y:Int)):(Instr.sliceBound (.int k n) y code).run P w= .ok n.toNat w:=by
 simp_all[Instr.sliceBound,asIntOf]
def fJ:Option Int->Nat
 |none=>0
 |some a=>a.toNat
def bC(len:Nat):Option Int->Nat
 |none=>len
 |some b=>b.toNat
def sc(w:World)(A:Nat->Prop)(β:Nat->Value):Option AV->Option Value->Prop
 |none,none=>True
 |some x,some v=>aa w A β v x
 |_,_=>False
theorem iF {x:Option AV}{n:Option Int}{v:Option Value}(h:wj x=some n)(hr:sc w A β x v):
  (n=none/\v=none)\/∃k m,n=some m/\v=some (.int k m):=by
 cases x with
 |none=>
  grind[wj,sc]
 |some x=>
  cases v with
  |none=>grind[sc]
  |some v=>
   cases x with
   |int k m=>
    grind[wj,Option.some.injEq,sc,aa]
   |_=>grind[wj]
def nM {s:Bool}{len:Nat}{lo hi:Option Int}{vl vh:Option Value}(hl:(lo=none/\vl=none)\/∃k m,lo=some m/\vl=some (.int k m))(hh:(hi=none/\vh=none)\/∃k m,hi=some m/\vh=some (.int k m))
  (hlen:len<=cap) (h0:∀m,hi=some m->0<=m/\m<=(len:Int)) (h1:∀m,lo=some m->0<=m/\m<=(bC len hi:Int)):
  (Instr.sliceBounds s len cap vl vh none).run P w= .ok (fJ lo,bC len hi,cap) w:=by
 rcases hl with⟨rfl,rfl⟩|⟨k,m,rfl,rfl⟩<;>rcases hh with⟨rfl,rfl⟩|⟨k',m',rfl,rfl⟩;rfl;obtain⟨g0,g1⟩:=h0 m' rfl;simp[Instr.sliceBounds,fJ,bC,run_sliceBound (P:=P) (w:=w) (k:=k') g0 (show m'<=(cap:Int) by omega)];simp_all[bC,Instr.sliceBounds,fJ,run_sliceBound]
 obtain⟨g0,g1⟩:=h0 m' rfl;obtain⟨f0,f1⟩:=h1 m rfl;simp only[bC] at f1;simp[Instr.sliceBounds,fJ,bC,run_sliceBound (P:=P) (w:=w) (k:=k') g0 (show m'<=(cap:Int) by omega),run_sliceBound (P:=P) (w:=w) (k:=k) f0 f1]
theorem y8 {row:M Ty}{l:M (Row row)}(h:Rd w A (.slice row) v l):∃ad cap,v= .slice ad l.length cap/\l.length<=cap/\cap<=maxLen:=by
 grind[Rd]
theorem Xq {row:M Ty}{ad:Option Addr}{len cap:Nat}{l:M (Row row)}(h:Rd w A (.slice row) (.slice ad len cap) l)(x y:Nat)(hx:x<=y)(hy:y<=l.length)(I6:Option Addr)
  (Uk:x<cap->I6=ad.map (·.add (x*row.length))):Rd w A (.slice row) (.slice I6 (y-x) (cap-x)) ((l.take y).drop x):=by
 obtain⟨a0,aJJ,cs,h1,h2,h3,h4,h5⟩:=h;obtain⟨rfl,rfl,rfl⟩:=h1;have hs:=fI (w:=w) (A:=A) l cs y h4;have Uh:=fI (w:=w) (A:=A) (l.take y) _ x hs.1;have hlen:((l.take y).drop x).length=y-x:=by grind
 refine⟨I6,cap-x,((cs.take (y*row.length)).drop (x*row.length)),x!,w!,w!,Uh.2,λdi=>?_⟩;have ep:cs≠ []:=by grind
 grind[sa,ku,Addr.add_mid]
theorem I7(hu:P.underlying t=some .string)(s:B8){x y c:Nat}(hy:y<=s.length)(hb:(Instr.sliceBounds false s.length s.length vl vh none).run P w= .ok (x,y,c) w):
  (Instr.sliceAt t (.string ⟨s.toArray⟩) vl vh none).run P w= .ok (.string ⟨((s.take y).drop x).toArray⟩) w:=by
 simp_all[Instr.sliceAt,Instr.slice,run_underlying,Bk,GV]
theorem sW {e:TypeId}(hu:P.underlying t=some (.slice e))(hi:P.info? e=some i)(ad:Option Addr)(len cap:Nat){x y:Nat}(hb:(Instr.sliceBounds true len cap vl vh none).run P w= .ok (x,y,cap) w):
  (Instr.sliceAt t (.slice ad len cap) vl vh none).run P w= .ok (.slice (if cap=x then ad else ad.map (·.add (x*i.size))) (y-x) (cap-x)) w:=by
 simp_all[Instr.sliceAt,Instr.slice,run_underlying,sizeOf,typeInfo,hi]
theorem nc(hT:bz T P)(ht:T.find t=some te):P.underlying t=some te.desc:=(hT.ok t te ht).1
def Ul(hT:bz T P)(hB:al C A β st a w){lo hi mx:Option AV}{vm:Option Value}(hx:aa w A β vx x)
  (hl:sc w A β lo vl)
  (hh:sc w A β hi vh)
  (hm:sc w A β mx vm)
  (h:uj T st.h t x lo hi mx=some out) (hc:∀p∈out.cond,p):Reads P A β w (Instr.sliceAt t vx vl vh vm) out:=by
 unfold uj at h;split at h
 . rename_i s Fi fN Ui ç DZ
   have hvm:vm=none:=by
    grind[iF]
   subst hvm;have la:=iF Ui hl;have hh':=iF ç hh;simp only[aa] at hx;obtain⟨rfl,hs⟩:=hx;cases hd:cE T t tL with
   |false=>grind
   |true=>
    simp only[hd,K!] at h
    have hu:P.underlying t=some .string:=by
     unfold cE at hd;cases ht:T.find t with
     |none=>grind
     |some te=>
      simp only[ht] at hd;rw[(hT.ok t te ht).1];grind[tL]
    have fin:∀(r:B8),(bC s.length fN<=s.length)->(∀m,fN=some m->0<=m/\m<=(s.length:Int))->(∀m,Fi=some m->0<=m/\m<=(bC s.length fN:Int))->
      r=((s.take (bC s.length fN)).drop (fJ Fi))->∃v,(Instr.sliceAt t (.string ⟨s.toArray⟩) vl vh none).run P w= .ok v w/\aa w A β v (.str r):=by
     intro r h1 h2 h3 h4;have hb:=nM (P:=P) (w:=w) (s:=false) (cap:=s.length) la hh' (Nat.le_refl _) h2 h3;refine⟨_,I7 hu s h1 hb,?_⟩;grind[aa]
    split at h;simp only[Option.some.injEq] at h;subst h;exact⟨⟨rfl,rfl,rfl⟩,fin s (by simp[bC]) z! z! (by simp[bC,fJ])⟩;rename_i b;simp only[Option.some.injEq] at h;subst h;obtain⟨c0,c1⟩:=eD hc;exact⟨⟨rfl,rfl,rfl⟩,fin _ (by grind[bC]) x! z! (by rfl)⟩;rename_i x;simp only[Option.some.injEq] at h;subst h;obtain⟨c0,c1⟩:=eD hc;exact⟨⟨rfl,rfl,rfl⟩,fin _ (by simp[bC]) z! (by grind[Option.some.injEq,bC]) (by simp[bC,fJ])⟩;rename_i x b;simp only[Option.some.injEq] at h;subst h;obtain⟨c0,c1,c2⟩:=eD hc;exact⟨⟨rfl,rfl,rfl⟩,fin _ (by grind[bC]) x! (by grind[Option.some.injEq,bC]) (by rfl)⟩
 . rename_i row l Fi fN Ui ç DZ
   have hvm:vm=none:=by
    grind[iF]
   subst hvm;have la:=iF Ui hl;have hh':=iF ç hh;simp only[aa] at hx;cases hs:aV T t row.length with
   |false=>grind
   |true=>
    simp only[hs,K!] at h;obtain⟨e,ii,hu,ju,dH,lF⟩:=fe hT hs;obtain⟨ad,cap,rfl,hle,Um⟩:=y8 hx
    have fin:∀(r:M (Row row)),(bC l.length fN<=l.length)->(fJ Fi<=bC l.length fN)->(∀m,fN=some m->0<=m/\m<=(l.length:Int))->(∀m,Fi=some m->0<=m/\m<=(bC l.length fN:Int))->
      r=((l.take (bC l.length fN)).drop (fJ Fi))->∃v,(Instr.sliceAt t (.slice ad l.length cap) vl vh none).run P w= .ok v w/\aa w A β v (.sl row r):=by
     intro r h1 h1' h2 h3 h4;have hb:=nM (P:=P) (w:=w) (s:=true) (cap:=cap) la hh' hle h2 h3;refine⟨_,sW hu ju ad l.length cap hb,?_⟩;grind[aa,Xq]
    split at h;simp only[Option.some.injEq] at h;subst h;exact⟨⟨rfl,rfl,rfl⟩,fin l (by simp[bC]) (by simp[fJ]) z! z! (by simp[bC,fJ])⟩;rename_i b;simp only[Option.some.injEq] at h;subst h;obtain⟨c0,c1⟩:=eD hc;exact⟨⟨rfl,rfl,rfl⟩,fin _ (by grind[bC]) (by simp[fJ]) x! z! (by rfl)⟩;rename_i x;simp only[Option.some.injEq] at h;subst h;obtain⟨c0,c1⟩:=eD hc;exact⟨⟨rfl,rfl,rfl⟩,fin _ (by simp[bC]) (by grind[bC,fJ]) z! (by grind[Option.some.injEq,bC]) (by simp[bC,fJ])⟩;rename_i x b;simp only[Option.some.injEq] at h;subst h;obtain⟨c0,c1,c2⟩:=eD hc;exact⟨⟨rfl,rfl,rfl⟩,fin _ (by grind[bC]) (by grind[bC,fJ]) x! (by simp only[Option.some.injEq,bC];rintro m rfl;omega) (by simp[bC,fJ])⟩
 . rename_i row l b c Ui ç DZ
   have hvl:vl=none:=by
    rcases iF Ui hl with⟨_,h⟩|⟨k,m,h,_⟩;exact h;cases h
   subst hvl
   obtain⟨kb,rfl⟩:∃kb,vh=some (.int kb b):=by
    rcases iF ç hh with⟨h,_⟩|⟨k,m,h,h2⟩;cases h;cases h;exact⟨k,h2⟩
   obtain⟨kc,rfl⟩:∃kc,vm=some (.int kc c):=by
    rcases iF DZ hm with⟨h,_⟩|⟨k,m,h,h2⟩;cases h;cases h;exact⟨k,h2⟩
   simp only[aa] at hx;cases hs:aV T t row.length with
   |false=>simp[hs] at h
   |true=>
    simp only[hs,K!] at h;obtain⟨e,ii,hu,ju,dH,lF⟩:=fe hT hs;obtain⟨ad,cap,rfl,hle,Um⟩:=y8 hx;simp only[A!] at h;subst h;obtain⟨c0,c1,c2⟩:=eD hc;subst c1
    have hb:(Instr.sliceBounds true l.length cap none (some (.int kb b)) (some (.int kc b))).run P w= .ok (0,b.toNat,b.toNat) w:=by
     simp[Instr.sliceBounds,run_sliceBound (P:=P) (w:=w) (k:=kc) (n:=b) (y:=cap) w! w!,run_sliceBound (P:=P) (w:=w) (k:=kb) (n:=b) (y:=b.toNat) w! w!]
    have gI:(Instr.sliceAt t (.slice ad l.length cap) none (some (.int kb b)) (some (.int kc b))).run P w=
      .ok (.slice (if b.toNat=0 then ad else ad.map (·.add (0*ii.size))) (b.toNat-0) (b.toNat-0)) w:=by
     simp[Instr.sliceAt,Instr.slice,run_underlying hu,sizeOf,typeInfo,ju,hb]
    have hR:=Xq hx 0 b.toNat w! w! (if b.toNat=0 then ad else ad.map (·.add (0*ii.size))) (λ_=>by
     by_cases hz:b.toNat=0;rw[Q! hz];cases ad<;>simp[Addr.add];rw[W! hz];cases ad<;>simp[Addr.add])
    have hlen:((l.take b.toNat).drop 0).length=b.toNat:=by rw[List.drop_zero,Y!];omega
    simp only[Rd] at hR;obtain⟨a0,aJJ,cs,g1,g2,g3,g4,g5⟩:=hR;simp only[Value.slice.injEq] at g1;obtain⟨g6,g7,g8⟩:=g1;rw[List.drop_zero] at hlen g4;rw[g6,Nat.sub_zero] at gI;refine⟨⟨rfl,rfl,rfl⟩,.slice a0 b.toNat b.toNat,gI,?_⟩;simp only[aa,Rd];refine⟨⟨a0,b.toNat,cs,?_,w!,w!,g4,g5⟩,a0,?_⟩<;>rw[hlen]
 . rename_i k Fi fN Ui ç DZ
   have hvm:vm=none:=by
    rcases iF DZ hm with⟨_,h⟩|⟨k,m,h,_⟩;exact h;cases h
   subst hvm;have la:=iF Ui hl;have hh':=iF ç hh;split at h
   . rename_i e' row l fr hk;cases hs:aV T t row.length with
     |false=>simp[hs] at h
     |true=>
      simp only[hs,K!] at h;obtain⟨e,ii,hu,ju,dH,lF⟩:=fe hT hs;simp only[aa] at hx;obtain⟨rfl,_⟩:=hx
      have fin:(bC l.length fN<=l.length)->(fJ Fi<=bC l.length fN)->(∀m,fN=some m->0<=m/\m<=(l.length:Int))->(∀m,Fi=some m->0<=m/\m<=(bC l.length fN:Int))->
        (β k= .slice none 0 0/\l=[]/\(Instr.sliceAt t (β k) vl vh none).run P w= .ok (.slice none 0 0) w)\/∃b cap I6,β k= .slice (some ⟨b,0,none⟩) l.length cap/\(l.length<=cap/\cap<=maxLen)/\
          (Instr.sliceAt t (β k) vl vh none).run P w= .ok (.slice I6 (bC l.length fN-fJ Fi) (cap-fJ Fi)) w/\(fJ Fi<cap->I6=some ⟨b,fJ Fi*row.length,none⟩)/\(fJ Fi=0->I6=some ⟨b,0,none⟩):=by
       intro h1 h1' h2 h3;rcases iE hB hk with⟨g1,g2⟩|⟨b,cap,cur,g1,_,g3,g4,_⟩;subst g2;have hb:=nM (P:=P) (w:=w) (s:=true) (cap:=0) la hh' (P! _) h2 h3;have hz:bC 0 fN=0:=by simpa using h1
       have hz2:fJ Fi=0:=by simp only[List.length_nil] at h1';omega
       refine .inl ⟨g1,rfl,?_⟩;rw[g1,sW hu ju none 0 0 hb,hz,hz2];simp;have hb:=nM (P:=P) (w:=w) (s:=true) (cap:=cap) la hh' g3 h2 h3;refine .inr ⟨b,cap,_,g1,⟨g3,g4⟩,by rw[g1];exact sW hu ju (some ⟨b,0,none⟩) l.length cap hb,λgf=>?_,λhz=>?_⟩;rw[W! w!,dH];simp[Addr.add_mid];split;rfl;rw[hz];simp[Addr.add]
      split at h;simp only[A!] at h;subst h;rcases fin (by simp[bC]) (by simp[fJ]) z! z! with⟨g1,g2,g3⟩|⟨b,cap,I6,g1,g2,g3,_,g5⟩;exact⟨⟨rfl,rfl,rfl⟩,_,g3,by simp only[aa];exact⟨g1.symm,rfl⟩⟩;refine⟨⟨rfl,rfl,rfl⟩,_,g3,?_⟩;simp only[aa];rw[g5 rfl,g1];simp[bC,fJ,Value.oneCell'];rename_i b;simp only[A!] at h;subst h;obtain⟨c0,c1⟩:=eD hc;rcases fin (by simp only[bC];omega) (by simp[fJ]) (by simp only[A!];rintro m rfl;exact⟨c0,c1⟩) z! with⟨g1,g2,g3⟩|⟨bb,cap,I6,g1,g2,g3,_,g5⟩;refine⟨⟨rfl,rfl,rfl⟩,_,g3,?_⟩;simp only[aa];refine .inl ⟨g1,trivial,?_⟩;subst g2;simp at c1;omega;refine⟨⟨rfl,rfl,rfl⟩,_,g3,?_⟩;simp only[aa];rw[g5 rfl];exact .inr ⟨bb,_,cap,g1,by simp[bC,fJ],w!⟩;rename_i x;simp only[A!] at h;subst h;obtain⟨c0,c1⟩:=eD hc;rcases fin (by simp[bC]) (by simp only[bC,fJ];omega) z! (by simp only[A!,bC];rintro m rfl;exact⟨c0,c1⟩) with⟨g1,g2,g3⟩|⟨bb,cap,I6,g1,g2,g3,g4,_⟩;refine⟨⟨rfl,rfl,rfl⟩,_,g3,?_⟩;simp only[aa];subst g2;exact .inl ⟨z!,none,0,rfl,z!⟩;refine⟨⟨rfl,rfl,rfl⟩,_,g3,?_⟩;simp only[aa,bC,fJ] at g4 |-;by_cases hz:l.length-x.toNat=0;exact .inl ⟨hz,I6,_,by rw[hz],w!⟩;exact .inr ⟨bb,_,cap,cap-x.toNat,g1,by rw[g4 w!],w!,w!,w!⟩;rename_i x b;simp only[A!] at h;subst h;obtain⟨c0,c1,c2⟩:=eD hc;rcases fin (by simp only[bC];omega) (by simp only[bC,fJ];omega) (by simp only[A!];rintro m rfl;exact⟨w!,c2⟩) (by simp only[A!,bC];rintro m rfl;omega) with⟨g1,g2,g3⟩|⟨bb,cap,I6,g1,g2,g3,g4,_⟩;refine⟨⟨rfl,rfl,rfl⟩,_,g3,?_⟩;simp only[aa];subst g2;exact .inl ⟨by simp at c2;omega,none,0,rfl,z!⟩;refine⟨⟨rfl,rfl,rfl⟩,_,g3,?_⟩;simp only[aa,bC,fJ] at g4 |-;by_cases hz:b.toNat-x.toNat=0;exact .inl ⟨hz,I6,_,by rw[hz],w!⟩;exact .inr ⟨bb,_,cap,cap-x.toNat,g1,by rw[g4 w!],w!,w!,w!⟩
   cases h
 grind
theorem Un:∀(t:Ty) (v:Value) (x:D t),Rd w A t v x->v.oneCell'=true
 |.int _,v,x,h=>by rw[h.1];rfl
 |.bool,v,x,h=>by rw[h];rfl
 |.str,v,x,h=>by rw[h.1];rfl
 |.slice _,v,x,h=>by obtain⟨_,_,_,h1,_⟩:=h;rw[h1];rfl
theorem Bp:∀(ts:M Ty) (vs:M Value) (x:Row ts),bw w A ts vs x->∀v∈vs,v.oneCell'=true
 |[],vs,_,h=>by grind[bw]
 |t::ts,vs,x,h=>by
  obtain⟨v,bY,rfl,h1,h2⟩:=h;intro u hu;rcases O!.1 hu with rfl|hu;exact Un t _ _ h1;exact Bp ts bY _ h2 u hu
def xV {row:M Ty}:∀(l:M (Row row)) (cs:M Value),dn (bw w A row) cs l->∀v∈cs,v.oneCell'=true
 |[],cs,h=>by grind[dn]
 |x::l,cs,⟨c1,c2,hc,h1,h2⟩=>by
  subst hc;intro u hu;rcases I!.1 hu with hu|hu;exact Bp row c1 x h1 u hu;exact xV l c2 h2 u hu
theorem jm {r r':M Ty}{l:M (Row r)}{l':M (Row r')}(h:fG r r' l=some l'):∃e:r=r',e▸l=l':=by
 grind[fG,Option.some.injEq,Ty.mX]
structure Src (P:Program) (w:World) (A:Nat->Prop) (row:List Ty) (m:List (Row row)) (v:Value) (cs:List Value):Prop where
 rd:dn (bw w A row) cs m
 len:(Builtin.lenOf v).run P w= .ok m.length w
 first :∀w':World,w'.heap=w.heap->∀n,n<=m.length->(Builtin.firstCells row.length n v).run P w'= .ok (cs.take (n*row.length)).toArray w'
 max:m.length<=maxLen
theorem y9(h:w'.heap=w.heap)(p:Addr):w'.cell? p=w.cell? p:=by grind[World.cell?]
theorem rp {row:M Ty}{m:M (Row row)}{cs:M Value}{ad:Option Addr}(qf:dn (bw w A row) cs m)(ep:cs≠ []->∃b o,ad=some ⟨b,o,none⟩/\w.rangeAt b o cs)(ada:m.length<=maxLen):
  Src P w A row m (.slice ad m.length cap) cs:=by
 refine⟨qf,by rfl,λw' hw n hn=>?_,ada⟩;have hlen:=gC m cs qf;by_cases h0:cs=[]
 . subst h0
   have hz:n*row.length=0:=by
    grind[Nat.eq_zero_or_pos,Nat.mul_eq_zero]
   cases ad with
   |none=>simp[Builtin.firstCells]
   |some p=>simp[Builtin.firstCells,hz,loadCells,loadCellsFrom]
 obtain⟨b,o,rfl,hr⟩:=ep h0
 have gf:(cs.take (n*row.length)).length=n*row.length:=by
  simp_all
 have:=run_loadCells_list (P:=P) w' ⟨b,o,none⟩ (cs.take (n*row.length)) (λj v hv=>by
  rw[Addr.add_mid,y9 hw];exact ku hr j v hv)
 grind[Builtin.firstCells]
theorem Nn:Src P w A row ([]:M (Row row)) (.slice none 0 0) []:=
 rp (m:=([]:M (Row row))) (by rfl) (λh=>absurd rfl h) z!
theorem Uo {row:M Ty}{l:M (Row row)}(h:Rd w A (.slice row) v l):∃cs,Src P w A row l v cs:=by
 obtain⟨ad,cap,cs,rfl,h2,h3,h4,h5⟩:=h;exact⟨cs,rp h4 (λdi=>let⟨b,o,h1,_,h2⟩:=h5 di;⟨b,o,h1,h2⟩) w!⟩
theorem Np(s:B8):dn (bw w A [.int .u8]) (s.map λb=>Value.int .u8 (b.toNat:Int)) s:=by
 induction s with
 |nil=>rfl
 |cons b s ih=>
  refine⟨[.int .u8 (b.toNat:Int)],s.map λb=>Value.int .u8 (b.toNat:Int),rfl,?_,ih⟩;refine⟨_,[],rfl,⟨rfl,?_,?_⟩,rfl⟩;simp[lo,Row.hd,DI.toInt];have:=b.toNat_lt;grind[hi,Row.hd,DI.toInt]
theorem alN(s:B8)(hs:s.length<=maxLen):Src P w A [.int .u8] s (.string ⟨s.toArray⟩) (s.map λb=>Value.int .u8 (b.toNat:Int)):=by
 refine⟨Np s,by rfl,λw' hw n hn=>?_,hs⟩;simp_all[Builtin.firstCells,J?,u?,Sem.run_pure,GV,Array.ext',List.map_take]
theorem pf {k:Nat}{row:M Ty}{l:M (Row row)}(hB:al C A β st a w)(h:st.h k=some (.row e row l fr)):
  (β k= .slice none 0 0/\l=[])\/∃b cap cs,β k= .slice (some ⟨b,0,none⟩) l.length cap/\l.length<=cap/\cap<=maxLen/\dn (bw w A row) cs l/\w.rangeAt b 0 cs:=by
 rcases iE hB h with h|⟨b,cap,cur,h1,h2,h3,h4,h5,h6,_⟩;grind;refine .inr ⟨b,cap,_,h1,h3,h4,h6,λj v hj=>?_⟩;grind[World.cell?]
def Mz(hB:al C A β st a w)(hx:aa w A β v x){row:M Ty}{m:M (Row row)}(h:ow st.h row x=some m):∃cs,Src P w A row m v cs:=by
 unfold ow at h;split at h;rename_i s;obtain⟨e,h⟩:=jm h;subst e;simp only at h;subst h;simp only[aa] at hx;obtain⟨rfl,hs⟩:=hx;exact⟨_,alN s hs⟩;simp only[Option.some.injEq] at h;subst h;simp only[aa] at hx;subst hx;exact⟨[],Nn⟩
 . rename_i h1 h2
   have key:∀r (l:M (Row r)),(ja st.h x).1= .sl r l->fG r row l=some m->∃cs,Src P w A row m v cs:=by
    intro r l hp hc;obtain⟨e,hc⟩:=jm hc;subst e;simp only at hc;subst hc;unfold ja at hp;split at hp;rename_i k;simp only[aa] at hx;split at hp;rename_i e' mg l' fr hk;simp only[AV.sl.injEq] at hp;obtain⟨rfl,hp⟩:=hp;simp only[heq_eq_eq] at hp;subst hp;rcases pf hB hk with⟨g1,g2⟩|⟨b,cap,cs,g1,g2,g3,g4,g5⟩;subst g2;rw[hx.1,g1];exact⟨[],Nn⟩;rw[hx.1,g1];exact⟨cs,rp g4 (λ_=>⟨b,0,rfl,g5⟩) w!⟩;grind;rename_i k n;simp only[aa] at hx;split at hp;rename_i e' mg l' fr hk;simp only[AV.sl.injEq] at hp;obtain⟨rfl,hp⟩:=hp;simp only[heq_eq_eq] at hp;subst hp;rcases pf hB hk with⟨g1,g2⟩|⟨b,cap,cs,g1,g2,g3,g4,g5⟩;subst g2;rcases hx with⟨_,hv,hn⟩|⟨b,m,cap,hv,_⟩;subst hn;rw[hv];exact⟨[],by grind[Nn]⟩;grind;rcases hx with⟨hv,_,_⟩|⟨b',m,jM,hv,Xi,hle⟩;grind;rw[g1] at hv;obtain⟨rfl,rfl,rfl⟩:=hv;have hl:(l'.take n).length=n:=by grind
    rw[Xi];have:=rp (P:=P) (ad:=some ⟨b,0,none⟩) (cap:=cap) (fI l' cs n g4).1 (λ_=>⟨b,0,rfl,ku g5⟩) w!;grind;grind
    . rename_i k sz off n;simp only[aa] at hx;split at hp
      . rename_i e' mg l' fr hk;cases dH:Nat.beq sz mg.length with
        |false=>grind
        |true=>
         have dH:=Nat.eq_of_beq_eq_true dH;subst dH;simp only[cU,cond_true,AV.sl.injEq] at hp;obtain⟨rfl,hp⟩:=hp;simp only[heq_eq_eq] at hp;subst hp;rcases hx with⟨hn,ad,cap,hv,_⟩|⟨b',m,jM,Fj,hv,Xi,hle,aPy,aNx⟩;subst hn;rw[hv];have:=rp (P:=P) (w:=w) (A:=A) (row:=mg) (m:=[]) (ad:=ad) (cap:=cap) (cs:=[]) (by rfl) (λh=>absurd rfl h) z!;grind;rcases pf hB hk with⟨g1,g2⟩|⟨b,cap,cs,g1,g2,g3,g4,g5⟩;grind;rw[g1] at hv;simp only[Value.slice.injEq,Option.some.injEq,Addr.mk.injEq,and_true] at hv;obtain⟨rfl,rfl,rfl⟩:=hv;have hl:((l'.drop off).take n).length=n:=by grind
         rw[Xi];have:=rp (P:=P) (ad:=some ⟨b,off*mg.length,none⟩) (cap:=Fj) (fI _ _ n (fI l' cs off g4).2).1 (λ_=>⟨b,_,rfl,by have:=ku (n:=n*mg.length) (sa (n:=off*mg.length) g5);grind⟩) w!;grind
      grind
    simp_all[aa,Uo]
   split at h;grind;rename_i r l hp
   have D1:x= .full r l:=by
    unfold ja at hp;grind
   grind[aa,jm,Uo];grind
structure GW (P:Program) (t t' e:TypeId) (size bytes:Nat) (z:Value):Prop where
 under:P.underlying t=some (.slice e)
 aNn:∃d,P.underlying t'=some d/\(d= .string\/∃e',d= .slice e')
 info:∃i,P.info? e=some i/\i.size=size/\i.bytes=bytes/\i.zero=some z
 è:z.cells.size=size
 pos:0<size
def qg {e:TypeId}{size:Nat}(hE:GW P t t' e size bytes z){base:Option Addr}{n cap:Nat}{Xr:M Value}{x:Value}{m:Nat}{news:M Value}
  (hold:∀w':World,w'.heap=w.heap->(Builtin.firstCells size n (.slice base n cap)).run P w'= .ok Xr.toArray w')
  (hlen:(Builtin.lenOf x).run P w= .ok m w) (kM:∀w':World,w'.heap=w.heap->(Builtin.firstCells size m x).run P w'= .ok news.toArray w')
  (hg:cap<n+m) (Mb:n+m<=maxLen) (qh:(n+m)*bytes<=140737488355328):
  (Builtin.append_ #[t,t'] ty #[.slice base n cap,x]).run P w=
    .ok (.slice (some ⟨w.heap.size,0,none⟩) (n+m) (grownCap w (n+m) cap e))
      (w.drew.alloc (.cells (Xr.toArray++(news.toArray++Builtin.zeroCells z.cells (grownCap w (n+m) cap e-(n+m)))) e)):=by
 obtain⟨hu,⟨d',mV,qR⟩,⟨i,hi,hs,hb,hz⟩,Rq,lF⟩:=hE;subst hs;subst hb;have hn:¬(n+m<=cap):=by omega
 have adb:¬(9223372036854775807<((n:Int)+(m:Int))):=by grind[maxLen]
 have h48:=growslice_fits hg qh;have Xs:¬(281474976710656<Builtin.nextslicecap (n+m) cap*i.bytes):=by omega
 have hfo:=hold w.drew rfl;have hf:=kM w.drew rfl;rcases qR with rfl|⟨e',rfl⟩;simp[Builtin.append_,run_underlying hu,run_underlying mV,sizeOf,typeInfo,zeroValue,hi,hz,hlen,hn,adb,Xs,Question.forced,hf,hfo,newRow,grownCap];simp[Builtin.append_,run_underlying hu,run_underlying mV,sizeOf,typeInfo,zeroValue,hi,hz,hlen,hn,adb,Xs,Question.forced,hf,hfo,newRow,grownCap]
variable {n:Nat}
def GX {e:TypeId}{size:Nat}(hE:GW P t t' e size bytes z){g:Nat}{cur:Array Value}(hg:w.heap[g]? =some (.cells cur e (0,0))){x:Value}{m:Nat}{news:M Value}
  (hlen:(Builtin.lenOf x).run P w= .ok m w) (kM:∀w':World,w'.heap=w.heap->(Builtin.firstCells size m x).run P w'= .ok news.toArray w')
  (hl:news.length=m*size) (h1:∀u∈news,u.oneCell'=true) (xj:n+m<=cap) (ep:cur.size=cap*size):
  (Builtin.append_ #[t,t'] ty #[.slice (some ⟨g,0,none⟩) n cap,x]).run P w=
    .ok (.slice (some ⟨g,0,none⟩) (n+m) cap) (w.setRow g (cur.toList.take (n*size)++news++cur.toList.drop (n*size+news.length)).toArray):=by
 obtain⟨hu,⟨d',mV,qR⟩,⟨i,hi,hs,hb,hz⟩,Rq,lF⟩:=hE;subst hs;have KT:n*i.size+news.length<=cur.size:=by rw[hl,ep,<-n?];simp_all[H?]
 have pX:=run_storeCells_at P g (n*i.size) e news 0 cur w hg w! h1;have hf:=kM w rfl;rcases qR with rfl|⟨e',rfl⟩;simp[Builtin.append_,run_underlying hu,run_underlying mV,sizeOf,typeInfo,hi,hlen,xj,hf,Addr.add_lit,pX];simp[Builtin.append_,run_underlying hu,run_underlying mV,sizeOf,typeInfo,hi,hlen,xj,hf,Addr.add_lit,pX]
def nN {e:TypeId}{size:Nat}(hE:GW P t t' e size bytes z)(gU:w.ownsRow 0 e size v n xs){x:Value}{m:Nat}{news:M Value}
  (hlen:(Builtin.lenOf x).run P w= .ok m w) (kM:∀w':World,w'.heap=w.heap->(Builtin.firstCells size m x).run P w'= .ok news.toArray w')
  (hl:news.length=m*size) (h1:∀u∈news,u.oneCell'=true) (Mb:n+m<=maxLen) (qh:(n+m)*bytes<=140737488355328):
  ∃v' w',(Builtin.append_ #[t,t'] ty #[v,x]).run P w= .ok v' w'/\w'.ownsRow 0 e size v' (n+m) (xs++news)/\w.grownBy w' v.ownBlock/\∀b,ah v'=some b->ah v=some b\/w.heap.size<=b:=by
 have Fk:(xs++news).length=(n+m)*size:=by rw[H!,gU.1,hl,n?]
 have grown:∀(fk:Nat) (row:Option Nat),
   (w.drew.alloc (.cells (xs.toArray++(news.toArray++Builtin.zeroCells z.cells (grownCap w (n+m) fk e-(n+m)))) e)).ownsRow 0 e size
     (.slice (some ⟨w.heap.size,0,none⟩) (n+m) (grownCap w (n+m) fk e)) (n+m) (xs++news)/\
   w.grownBy (w.drew.alloc (.cells (xs.toArray++(news.toArray++Builtin.zeroCells z.cells (grownCap w (n+m) fk e-(n+m)))) e)) row:=by
  intro fk row;have Mc:=grownCap_ge w (n+m) fk e;have za:grownCap w (n+m) fk e<=maxLen:=grownCap_le_maxLen w (n+m) fk e Mb;refine⟨⟨Fk,.inr ⟨w.heap.size,_,_,rfl,w!,heap_alloc_new w.drew _,Mc,za,?_,?_⟩⟩,⟨rfl,rfl,rfl,z!,λk hk _=>heap_alloc_old w.drew _ k hk⟩⟩;simp only[Array.size_append,List.size_toArray,size_zeroCells,hE.è,gU.1,hl,<-Nat.add_mul];grind;grind
 rcases gU.2 with⟨rfl,rfl⟩|⟨g,cap,cur,rfl,hbg,hg,hnc,za,ep,aC8⟩;have hx:xs=[]:=List.eq_nil_of_length_eq_zero x!;subst hx;by_cases hm:m=0;subst hm;have hn:news=[]:=List.eq_nil_of_length_eq_zero w!;subst hn;refine⟨.slice none 0 0,w,?_,x!,⟨rfl,rfl,rfl,Nat.le_refl _,λ_ _ _=>rfl⟩,x!⟩;obtain⟨hu,⟨d',mV,qR⟩,⟨i,hi,hs,hb,hz⟩,Rq,lF⟩:=hE;subst hs;have hf:=kM w rfl;rcases qR with rfl|⟨e',rfl⟩;simp[Builtin.append_,run_underlying hu,run_underlying mV,sizeOf,typeInfo,hi,hlen,hf];simp[Builtin.append_,run_underlying hu,run_underlying mV,sizeOf,typeInfo,hi,hlen,hf];have hold:∀w':World,w'.heap=w.heap->(Builtin.firstCells size 0 (.slice none 0 0)).run P w'= .ok ([]:M Value).toArray w':=λw' _=>by rfl
 have hr:=qg (ty:=ty) hE hold hlen kM w! Mb qh;have hgr:=grown 0 (Value.ownBlock (.slice none 0 0));grind[ah,Option.some.injEq];by_cases xj:n+m<=cap;have KT:n*size+news.length<=cur.size:=by rw[hl,ep,<-Nat.add_mul];simp_all[Nat.mul_le_mul_right]
 have hr:=GX (ty:=ty) hE hg hlen kM hl h1 xj ep;refine⟨_,_,hr,⟨Fk,.inr ⟨g,cap,_,rfl,hbg,setRow_heap w g cur _ e _ hg,xj,za,?_,?_⟩⟩,⟨rfl,rfl,rfl,z!,λk _ hk=>setRow_other w g k _ (λe=>hk (by grind[Value.ownBlock]))⟩,λb hb=>.inl hb⟩;grind;grind;have holds:=gU.cells (g:=g) rfl
 have hold:∀w':World,w'.heap=w.heap->(Builtin.firstCells size n (.slice (some ⟨g,0,none⟩) n cap)).run P w'= .ok xs.toArray w':=λw' é=>by
  grind[run_loadCells_list,y9,Builtin.firstCells]
 have hr:=qg (ty:=ty) hE hold hlen kM w! Mb qh;have hgr:=grown cap (Value.ownBlock (.slice (some ⟨g,0,none⟩) n cap));grind[ah,Option.some.injEq]
theorem al.newRow(hB:al C A β st a w)(hd:∀t,dst=some t->t<st.n){row:M Ty}{l:M (Row row)}{cond:M Prop}{del:M Nat}{rw :Option Nat}{xs:M Value}
  (gm:st.h d=none/\qQ d=false) (hg:w.grownBy w' rw) (mO:∀b,rw=some b->∃k,aq del k=true/\(st.h k).isSome/\ah (β k)=some b) (kK:∀b,rw=some b->¬A b)
  (gU:w'.ownsRow 0 e row.length v' l.length xs) (qf:dn (bw w A row) xs l) (hblk:∀b,ah v'=some b->rw=some b\/w.heap.size<=b):
  al C A (bg β d v') (st.put dst {cond:=cond,res:=.own d,del:=del,new:=[(d,.row e row l false)]}) (a.put dst v') w':=by
 have hK:bG w w' A A:=λb hb=>⟨hb,hg.block b (hB.bound b hb) (λh=>kK b h.symm hb)⟩
 have hf:∀k b,ai [(d,AB.row e row l false)] k=some b->k=d/\b= .row e row l false:=by
  grind[ai,aL]
 refine hB.step (out:={cond:=cond,res:=.own d,del:=del,new:=[(d,.row e row l false)]}) hd ?_ (by simp[ai]) ?_ hK hg.os hg.tape hg.output hg.size ?_ (λb hb=>Nat.lt_of_lt_of_le (hB.bound b hb) hg.size) (λb hb=>.inl hb) (by simp[ai]) ?_ ?_ ?_ ?_;grind;intro k h;have :k≠d:=by rintro rfl;simp[ai] at h
 grind[bg];intro b hb ht;refine hg.block b hb (λh=>?_);obtain⟨k,h1,h2,h3⟩:=mO b h.symm;exact ht k ⟨h2,.inr h1⟩ h3;intro k ab h;obtain⟨rfl,rfl⟩:=hf k ab h;refine⟨xs,by simpa[bg] using gU,bx (λc x hx=>br hK row c x hx) l xs qf,λb hb=>?_⟩;simp[bg,if_true] at hb;rcases hblk b hb with h|h;exact kK b h;intro hA;exact absurd (hB.bound b hA) w!;intro k b ab h hb;obtain⟨rfl,_⟩:=hf k ab h;simp[bg,if_true] at hb;rcases hblk b hb with h|h;exact .inr (let⟨k,h1,h2,h3⟩:=mO b h;⟨k,h1,h2,h3⟩);exact .inl h;intro k k' b h h' _ _;obtain⟨x,hx⟩:=Option.isSome_iff_exists.1 h;obtain⟨y,hy⟩:=Option.isSome_iff_exists.1 h';rw[(hf k x hx).1,(hf k' y hy).1];simp[aa,bg,if_true,true_and]
 obtain⟨ad,l',c,rfl⟩:∃ad l c,v'= .slice ad l c:=by
  rcases gU.2 with⟨rfl,_⟩|⟨g,cap,cur,rfl,_⟩;exact⟨_,_,_,rfl⟩;exact⟨_,_,_,rfl⟩
 rfl
def sD(hT:bz T P){e:TypeId}(h1:nI T t=some e)(h2:lP T t=some te):P.underlying t=some (.slice e)/\T.find e=some te/\∃i,P.info? e=some i/\i.size=te.size/\i.bytes=te.bytes/\i.zero=some te.zero:=by
 unfold nI at h1;unfold lP at h2;cases ht:T.find t with
 |none=>grind
 |some tt=>
  simp[ht] at h1 h2;cases hd:tt.desc with
  |slice e'=>
   simp[hd,Option.some.injEq] at h1 h2;subst h1;exact⟨by grind[nc],h2,(hT.ok _ _ h2).2⟩
  |_=>grind
theorem qi(z:Value):(ofConst z).cells.length=z.cells.size:=by
 unfold ofConst;split;simp[AV.cells,Value.cells]
 . rename_i h
   have h1:(Df z).cells.length=1:=by
    unfold Df;split;split<;>rfl
    split<;>rfl
    rename_i s;cases Nat.ble s.data.toList.length 1000000<;>rfl;all_goals rfl
   rw[h1];cases z<;>first|rfl|grind
theorem uF {k x:Nat}(h:n<=x/k):n*k<=x:=Z? (H? _ h) (Nat.div_mul_le_self x k)
def nd(hT:bz T P){f:TypeDesc->Bool}(h:cE T t f=true):∃d,P.underlying t=some d/\f d=true:=by
 grind[cE,nc]
theorem Nq {d:TypeDesc}(h:Dg d=true):d= .string\/∃e,d= .slice e:=by
 cases d<;>simp_all[Dg]
def GY(hB:al C A β st a w){k:Nat}{row:M Ty}{l:M (Row row)}(h:st.h k=some (.row e row l false)):
  ∃xs,w.ownsRow 0 e row.length (β k) l.length xs/\dn (bw w A row) xs l/\∀b,ah (β k)=some b->¬A b:=by
 obtain⟨xs,h1,h2,h3⟩:=hB.blocks k _ h;grind
theorem tN(h:(∃ad l c,v= .slice ad l c)):v.ownBlock=ah v:=by
 obtain⟨ad,l,c,rfl⟩:=h;cases ad<;>rfl
theorem ib{size:Nat}(h:w.ownsRow 0 e size v n xs):∃ad l c,v= .slice ad l c:=by
 rcases h.2 with⟨rfl,_⟩|⟨g,cap,cur,rfl,_⟩;grind;grind
def Rr(hT:bz T P)(hB:al C A β st a w)(hd:∀t,dst=some t->t<st.n)(gm:st.h d=none/\qQ d=false){s:AV}(hs:aa w A β vs s)(hx:aa w A β vx x)
  (h:rm T st.h d t t' s x=some out) (hc:∀p∈out.cond,p):∃v' w',(Builtin.append_ #[t,t'] ty #[vs,vx]).run P w= .ok v' w'/\Rel C (st.put dst out) (a.put dst v') w':=by
 unfold rm at h;split at h
 . rename_i e te he iO;split at h
   . rename_i row mO;obtain⟨hu,Bq,i,hi,qX,Md,Fl⟩:=sD hT he iO;cases hq:(Nat.beq row.length te.size&&Nat.blt 0 te.size&&Nat.beq (ofConst te.zero).cells.length te.size&&cE T t' Dg) with
     |false=>grind
     |true=>
      simp only[hq,cond_true] at h;simp only[Bool.and_eq_true] at hq;obtain⟨⟨⟨q1,q2⟩,q3⟩,q4⟩:=hq;have q1:=Nat.eq_of_beq_eq_true q1;have q2:=Nat.le_of_ble_eq_true q2;have q3:=Nat.eq_of_beq_eq_true q3;obtain⟨d',mV,qR⟩:=nd hT q4;have hE:GW P t t' e row.length te.bytes te.zero:=⟨hu,⟨d',mV,Nq qR⟩,⟨i,hi,w!,Md,Fl⟩,by grind[qi],w!⟩;split at h
      . rename_i m hm;obtain⟨cs,iG⟩:=Mz (P:=P) hB hx hm;have hlen:=gC m cs iG.rd;have jv:=xV m cs iG.rd
        have kM:∀w':World,w'.heap=w.heap->(Builtin.firstCells row.length m.length vx).run P w'= .ok cs.toArray w':=λw' é=>by
         have:=iG.first w' é m.length (Nat.le_refl _);grind
        split at h
        . 
         simp only[Option.some.injEq] at h;subst h;have pg:=eD hc;simp only[aa] at hs;subst hs;have gU:=World.ownsRow_nil w 0 e row.length;obtain⟨v',w',g1,g2,g3,g4⟩:=nN (ty:=ty) hE gU iG.len kM hlen jv (by have:=Nat.le_trans pg (Nat.div_le_self _ _);grind[maxLen]) (by simp_all[uF]);refine⟨v',w',g1,Rel.jl (hB.newRow hd gm (rw:=none) (by grind[Value.ownBlock]) z! z! x! iG.rd (λb hb=>?_))⟩;grind[ah]
        . rename_i k;split at h
          . rename_i e' mg l hk;cases xi:Nat.beq e' e with
            |false=>grind
            |true=>
             have xi:=Nat.eq_of_beq_eq_true xi;subst xi;simp only[cU,cond_true] at h;split at h;rename_i l' la;simp only[Option.some.injEq] at h;subst h;have pg:=eD hc;obtain⟨er,la⟩:=jm la;subst er;simp only at la;subst la;simp only[aa] at hs;obtain⟨rfl,_⟩:=hs;obtain⟨xs,o1,o2,o3⟩:=GY hB hk;obtain⟨v',w',g1,g2,g3,g4⟩:=nN (ty:=ty) hE o1 iG.len kM hlen jv (by have:=Nat.le_trans pg (Nat.div_le_self _ _);unfold maxLen;omega) (uF pg);rw[tN (ib o1)] at g3;refine⟨v',w',g1,Rel.jl (hB.newRow hd gm (rw:=ah (β k)) g3 (λb hb=>⟨k,by simp[aq],by simp[hk],hb⟩) o3 (by simpa using g2) (jd l m xs cs o2 iG.rd) (λb hb=>g4 b hb))⟩;grind
          grind
        . rename_i k n;split at h
          . rename_i e' mg l hk;cases xi:Nat.beq e' e with
            |false=>simp[xi] at h
            |true=>
             have xi:=D! xi;subst xi;simp only[cU,K!] at h;split at h;rename_i l' la;simp only[A!] at h;subst h;have pg:=eD hc;obtain⟨er,la⟩:=jm la;subst er;simp only at la;subst la;obtain⟨xs,o1,o2,o3⟩:=GY hB hk;have Fm:=fI l xs n o2;simp only[aa] at hs
             have gU:w.ownsRow 0 e' mg.length vs n (xs.take (n*mg.length))/\n<=l.length/\ah vs=ah (β k):=by
              rcases hs with⟨h1,h2,h3⟩|⟨b,mm,cap,h1,h2,h3⟩;subst h3;subst h2;rw[h1];exact⟨by simpa using World.ownsRow_nil w 0 e' mg.length,w!,rfl⟩;rcases o1.2 with⟨g1,_⟩|⟨g,jM,cur,g1,g2,g3,g4,g5,g6,g7⟩;rw[h1] at g1;cases g1;rw[h1] at g1;simp only[Value.slice.injEq,A!,Addr.mk.injEq,and_true] at g1;obtain⟨rfl,rfl,rfl⟩:=g1;refine⟨⟨?_,.inr ⟨b,cap,cur,h2,w!,g3,w!,g5,g6,?_⟩⟩,h3,by rw[h1,h2];rfl⟩;rw[Y!,o1.1];exact Nat.min_eq_left (H? _ h3);rw[<-g7,List.take_take,Nat.min_eq_left (H? _ h3)]
             obtain⟨gU,hnl,hbv⟩:=gU;obtain⟨v',w',g1,g2,g3,g4⟩:=nN (ty:=ty) hE gU iG.len kM hlen jv (by have:=Nat.le_trans pg (Nat.div_le_self _ _);unfold maxLen;omega) (uF pg);rw[tN (ib gU),hbv] at g3;refine⟨v',w',g1,Rel.jl (hB.newRow hd gm (rw:=ah (β k)) g3 (λb hb=>⟨k,by simp[aq],by simp[hk],hb⟩) o3 ?_ (jd _ m _ cs Fm.1 iG.rd) (λb hb=>by rw[<-hbv];exact g4 b hb))⟩;have :(l.take n++m).length=n+m.length:=by simp;omega
             rw[this];exact g2;cases h
          cases h
        rename_i r l;split at h;rename_i l' la;simp only[A!] at h;subst h;have hc0:=eD hc;have pg:=aBH hc;obtain⟨er,la⟩:=jm la;subst er;simp only at la;subst la;simp only[aa] at hs;obtain⟨qf,ad,rfl⟩:=hs;obtain⟨GZ,ê⟩:=Uo (P:=P) qf;have ë:=gC l GZ ê.rd
        have hold:∀w':World,w'.heap=w.heap->(Builtin.firstCells r.length l.length (.slice ad l.length l.length)).run P w'= .ok GZ.toArray w':=λw' é=>by
         have:=ê.first w' é l.length (P! _);rwa [<-ë,List.take_length] at this
        have Mb:l.length+m.length<=maxLen:=by have:=Nat.le_trans pg (Nat.div_le_self _ _);unfold maxLen;omega
        have hr:=qg (ty:=ty) hE hold iG.len kM w! Mb (uF pg);refine⟨_,_,hr,Rel.jl (hB.newRow hd gm (rw:=none) (xs:=GZ++cs) ⟨rfl,rfl,rfl,z!,λk hk _=>heap_alloc_old w.drew _ k hk⟩ z! z! ?_ (jd l m GZ cs ê.rd iG.rd) (λb hb=>.inr (by simp only[ah,A!] at hb;omega)))⟩;have Mc:=grownCap_ge w (l.length+m.length) l.length e;have za:=grownCap_le_maxLen w (l.length+m.length) l.length e Mb;have Xt:(GZ++cs).length=(l.length+m.length)*r.length:=by rw[H!,ë,hlen,n?]
        rw[H!];refine⟨Xt,.inr ⟨w.heap.size,_,_,rfl,w!,heap_alloc_new w.drew _,Mc,za,?_,?_⟩⟩;simp only[Array.size_append,List.size_toArray,size_zeroCells,hE.è,ë,hlen,<-n?];congr 1
        omega;simp only[Array.toList_append];rw[<-List.append_assoc,<-Xt];exact List.take_left;cases h;grind
      grind
   grind
 grind
def wx {e:TypeId}{k:IntKind}(hE:GW P t t e 1 1 z)(sE:P.underlying t'=some (.int k)){base:Option Addr}{n cap:Nat}{Xr:M Value}
  (hold:∀w':World,w'.heap=w.heap->(Builtin.firstCells 1 n (.slice base n cap)).run P w'= .ok Xr.toArray w')
  (hg:cap<n+16) (Mb:n+16<=maxLen) (qh:(n+16)*1<=140737488355328):
  (Builtin.append_ #[t,t'] ty #[.slice base n cap,.int .i64 16]).run P w=
    .ok (.slice (some ⟨w.heap.size,0,none⟩) (n+16) (grownCap w (n+16) cap e))
      (w.drew.alloc (.cells (Xr.toArray++(Builtin.zeroCells z.cells 16++Builtin.zeroCells z.cells (grownCap w (n+16) cap e-(n+16)))) e)):=by
 obtain⟨hu,_,⟨i,hi,hs,hb,hz⟩,Rq,lF⟩:=hE;have hn:¬(n+16<=cap):=by omega
 have adb:¬(9223372036854775807<((n:Int)+16)):=by omega
 have h48:=growslice_fits hg qh;have Xs:¬(281474976710656<Builtin.nextslicecap (n+16) cap*1):=by omega
 have hfo:=hold w.drew rfl;have hw:IntKind.i64.wrap 16=16:=by decide
 have hm:max (16:Int) 0=16:=by decide
 rw[u?] at Xs;simp[Builtin.append_,run_underlying hu,run_underlying sE,sizeOf,typeInfo,zeroValue,hi,hs,hb,hz,hn,hm,adb,Xs,Question.forced,hfo,newRow,grownCap,asInt,asIntOf,hw]
def G1 {e:TypeId}{z:Value}{k:IntKind}(hE:GW P t t e 1 1 z)(sE:P.underlying t'=some (.int k)){g:Nat}{cur:Array Value}(hg:w.heap[g]? =some (.cells cur e (0,0)))
  (h1:∀u∈(Builtin.zeroCells z.cells 16).toList,u.oneCell'=true) (xj:n+16<=cap) (ep:cur.size=cap*1):
  (Builtin.append_ #[t,t'] ty #[.slice (some ⟨g,0,none⟩) n cap,.int .i64 16]).run P w=
    .ok (.slice (some ⟨g,0,none⟩) (n+16) cap) (w.setRow g (cur.toList.take (n*1)++(Builtin.zeroCells z.cells 16).toList++cur.toList.drop (n*1+(Builtin.zeroCells z.cells 16).toList.length)).toArray):=by
 obtain⟨hu,_,⟨i,hi,hs,hb,hz⟩,Rq,lF⟩:=hE;have hl:(Builtin.zeroCells z.cells 16).toList.length=16:=by grind[Array.length_toList,size_zeroCells]
 have pX:=run_storeCells_at P g (n*1) e (Builtin.zeroCells z.cells 16).toList 0 cur w hg w! h1;have hw:IntKind.i64.wrap 16=16:=by decide
 simp at pX;simp[Builtin.append_,run_underlying hu,run_underlying sE,sizeOf,typeInfo,zeroValue,hi,hs,hb,hz,xj,Addr.add_lit,pX,asInt,asIntOf,hw]
def I8 {e:TypeId}{z:Value}{k:IntKind}(hE:GW P t t e 1 1 z)(sE:P.underlying t'=some (.int k))(gU:w.ownsRow 0 e 1 v n xs)
  (h1:∀u∈(Builtin.zeroCells z.cells 16).toList,u.oneCell'=true) (Mb:n+16<=maxLen) (qh:(n+16)*1<=140737488355328):
  ∃v' w',(Builtin.append_ #[t,t'] ty #[v,.int .i64 16]).run P w= .ok v' w'/\w'.ownsRow 0 e 1 v' (n+16) (xs++(Builtin.zeroCells z.cells 16).toList)/\w.grownBy w' v.ownBlock/\∀b,ah v'=some b->ah v=some b\/w.heap.size<=b:=by
 have hl:(Builtin.zeroCells z.cells 16).toList.length=16:=by rw[Array.length_toList,size_zeroCells,hE.è]
 have Fk:(xs++(Builtin.zeroCells z.cells 16).toList).length=(n+16)*1:=by rw[H!,gU.1,hl,n?]
 have grown:∀(fk:Nat) (row:Option Nat),
   (w.drew.alloc (.cells (xs.toArray++(Builtin.zeroCells z.cells 16++Builtin.zeroCells z.cells (grownCap w (n+16) fk e-(n+16)))) e)).ownsRow 0 e 1
     (.slice (some ⟨w.heap.size,0,none⟩) (n+16) (grownCap w (n+16) fk e)) (n+16) (xs++(Builtin.zeroCells z.cells 16).toList)/\
   w.grownBy (w.drew.alloc (.cells (xs.toArray++(Builtin.zeroCells z.cells 16++Builtin.zeroCells z.cells (grownCap w (n+16) fk e-(n+16)))) e)) row:=by
  intro fk row;have Mc:=grownCap_ge w (n+16) fk e;have za:grownCap w (n+16) fk e<=maxLen:=grownCap_le_maxLen w (n+16) fk e Mb;refine⟨⟨Fk,.inr ⟨w.heap.size,_,_,rfl,w!,heap_alloc_new w.drew _,Mc,za,?_,?_⟩⟩,⟨rfl,rfl,rfl,z!,λk hk _=>heap_alloc_old w.drew _ k hk⟩⟩;grind[Array.size_append,List.size_toArray,size_zeroCells];grind
 rcases gU.2 with⟨rfl,rfl⟩|⟨g,cap,cur,rfl,hbg,hg,hnc,za,ep,aC8⟩;have hx:xs=[]:=List.eq_nil_of_length_eq_zero x!;have hold:∀w':World,w'.heap=w.heap->(Builtin.firstCells 1 0 (.slice none 0 0)).run P w'= .ok ([]:M Value).toArray w':=λw' _=>by rfl
 have hr:=wx (ty:=ty) hE sE hold w! Mb qh;have hgr:=grown 0 (Value.ownBlock (.slice none 0 0));grind[ah,Option.some.injEq];by_cases xj:n+16<=cap;have hr:=G1 (ty:=ty) hE sE hg h1 xj ep;refine⟨_,_,hr,⟨Fk,.inr ⟨g,cap,_,rfl,hbg,setRow_heap w g cur _ e _ hg,xj,za,?_,?_⟩⟩,⟨rfl,rfl,rfl,z!,λk _ hk=>setRow_other w g k _ (λe=>hk (by grind[Value.ownBlock]))⟩,λb hb=>.inl hb⟩;grind;grind;have holds:=gU.cells (g:=g) rfl
 have hold:∀w':World,w'.heap=w.heap->(Builtin.firstCells 1 n (.slice (some ⟨g,0,none⟩) n cap)).run P w'= .ok xs.toArray w':=λw' é=>by
  grind[run_loadCells_list,y9,Builtin.firstCells]
 have hr:=wx (ty:=ty) hE sE hold w! Mb qh;have hgr:=grown cap (Value.ownBlock (.slice (some ⟨g,0,none⟩) n cap));grind[ah,Option.some.injEq]
def one_cell:∀(x:AV),x.one=true->aa w A β v x->v.oneCell'=true
 |.cM,h,_|.undef,h,_|.agg _,h,_|.bc _,h,_=>by grind[AV.one]
 |.int _ _,_,h=>by rw[h.1];rfl
 |.bool _,_,h|.tt,_,h|.ff,_,h=>by rw[h];rfl
 |.str _,_,h=>by rw[h.1];rfl
 |.nil,_,h|.kY,_,h=>by rw[h];rfl
 |.qV _ _,_,h=>by obtain⟨b,h,_⟩:=h;rw[h];rfl
 |.mf,_,h=>by rw[h];rfl
 |.sl _ _,_,h|.full _ _,_,h=>by grind[aa,Un]
 |.cz _ _ _,_,h|.qU _ _,_,h=>by obtain⟨b,o,cs,h,_⟩:=h;rw[h];rfl
 |.own _,_,h=>by grind[aa]
 |.pre _ _,_,h=>by
   rcases h with⟨_,h,_⟩|⟨b,m,cap,_,h,_⟩<;>rw[h]<;>rfl
 |.view _ _ _ _,_,h=>by
   rcases h with⟨_,ad,c,h,_⟩|⟨b,m,cap,jM,_,h,_⟩<;>rw[h]<;>rfl
 |.ref _ _,_,h=>by obtain⟨b,_,h⟩:=h;rw[h];rfl
 |.elem _ _ _ _,_,h=>by obtain⟨b,m,cap,_,h⟩:=h;rw[h];rfl
 |.fn _ _ _,_,h=>by obtain⟨_,_,h,_⟩:=h;rw[h];rfl
 |.iA _ _,_,h=>by obtain⟨_,_,_,h,_⟩:=h;rw[h];rfl
theorem cells_one(h:v.oneCell'=true):v.cells= #[v]:=by
 cases v<;>simp_all[Value.oneCell',Value.cells]
theorem Nr:∀(xs:M AV) (vs:M Value),xs.all AV.one=true->ae w A β vs xs->∀v∈vs,v.oneCell'=true
 |[],vs,_,h=>by grind[ae]
 |x::xs,vs,ho,h=>by
  obtain⟨v,bY,rfl,h1,h2⟩:=h;simp only[List.all_cons,B!] at ho;intro u hu;rcases O!.1 hu with rfl|hu;exact one_cell x ho.1 h1;exact Nr xs bY ho.2 h2 u hu
def zb(ho:x.cells.all AV.one=true)(h:aa w A β v x):ae w A β v.cells.toList x.cells/\(∀u∈v.cells.toList,u.oneCell'=true)/\v.cells.size=x.cells.length:=by
 by_cases hx:∃cs,x= .agg cs;obtain⟨cs,rfl⟩:=hx;obtain⟨arr,rfl,h⟩:=h;have:=dM cs _ h;grind[Nr,Value.cells,AV.cells];have hc:x.cells=[x]:=by cases x<;>first|rfl|grind
 rw[hc] at ho |-;have ho':x.one=true:=by grind
 have h1:=one_cell x ho' h;rw[cells_one h1];refine⟨by grind[ae],x!,rfl⟩
theorem fp:∀(xs ys:M AV) (us vs:M Value),ae w A β us xs->ae w A β vs ys->ae w A β (us++vs) (xs++ys)
 |[],ys,us,vs,h,h'=>by grind[ae]
 |x::xs,ys,us,vs,h,h'=>by
  obtain⟨v,IZ,rfl,h1,h2⟩:=h;exact⟨v,IZ++vs,rfl,h1,fp xs ys IZ vs h2 h'⟩
theorem Br {cs vs:M AV}{arr us:M Value}(h:ae w A β arr cs)(hv:ae w A β us vs):ae w A β (arr.take off++us++arr.drop (off+us.length)) (Mx cs off vs):=by
 have hl:=dM vs us hv;rw[hl];exact fp _ _ _ _ (fp _ _ _ _ (mw cs arr off h).1 hv) (mw cs arr _ h).2
def ph(hT:bz T P){t:Nat}(h:iL T t n=true):∃i,P.info? t=some i/\i.size=n:=by
 unfold iL at h;cases ht:T.find t with
 |none=>grind
 |some te=>
  obtain⟨_,i,hi,hs,_⟩:=hT.ok t te ht;simp_all
theorem lS(hi:P.info? t=some i)(hs:v.cells.size=i.size)(h1:∀u∈v.cells.toList,u.oneCell'=true){b:Nat}{arr:Array Value}{e:TypeId}(hg:w.heap[b]? =some (.cells arr e (0,0)))
  (KT:off+v.cells.size<=arr.size):(Instr.storeAt t (.pointer (some ⟨b,off,none⟩)) v).run P w= .ok () (w.setRow b (arr.toList.take off++v.cells.toList++arr.toList.drop (off+v.cells.toList.length)).toArray):=by
 have:=run_storeCells_at P b off e v.cells.toList 0 arr w hg w! h1;simp_all[Nat.add_zero,Instr.storeAt,Instr.sureAddr,storeVar,sizeOf,typeInfo,hi]
def Rt(b:Nat)(cs:Array Value):(w.setRow b cs).os=w.os/\(w.setRow b cs).tape=w.tape/\(w.setRow b cs).output=w.output/\(w.setRow b cs).heap.size=w.heap.size:=⟨rfl,rfl,rfl,z!⟩
theorem al.write(hB:al C A β st a w)(hd:∀t,dst=some t->t<st.n){out:Out}{k b:Nat}{ab:AB}{fz:M Nat}{new:Array Value}{e:Nat}{fk:Array Value}{v:Value}
  (fH:(st.h k).isSome) (hb:ah (β k)=some b) (kK:¬A b) (hg:w.heap[b]? =some (.cells fk e (0,0)))
  (wk:out.new=[]/\out.del=[]/\out.gb=(k,ab)::b6 st.h fz) (AU:∀j∈fz,j≠k/\∃e row l fr,st.h j=some (.row e row l fr))
  (k9:∀A',(∀b',A b'->A' b')->(∀b',A' b'->A b'\/∃j∈fz,ah (β j)=some b')->(∀j∈fz,∀b',ah (β j)=some b'->A' b')->BR (w.setRow b new) A' β k ab)
  (uD:aa (w.setRow b new) A β v out.res) (aJK:out.raw=[]:=by rfl):Rel C (st.put dst out) (a.put dst v) (w.setRow b new):=by
 obtain⟨o1,o2,o3⟩:=wk;let A':Nat->Prop:=λb'=>A b'\/∃j∈fz,ah (β j)=some b'
 have gf:∀j b',(st.h j).isSome->ah (β j)=some b'->b'<w.heap.size:=by
  intro j b' hj eO;obtain⟨ab,k9⟩:=S!.1 hj;have fl:=hB.blocks j ab k9;cases ab with
  |mp b2 es ck=>
   obtain⟨h1,h2,_⟩:=fl;grind[ah,Option.some.injEq,Array.getElem?_eq_some_iff]
  |arr _ _|fvar _ _=>
   obtain⟨b'',arr,e,h1,h2,_⟩:=fl;rw[h1] at eO;simp only[ah,A!] at eO;subst eO;exact(M!.1 h2).1
  |cells cs=>
   obtain⟨b'',arr,e,h1,h2,_⟩:=fl;grind[ah,Option.some.injEq,Array.getElem?_eq_some_iff]
  |row e row l fr=>
   obtain⟨xs,h1,_⟩:=fl;rcases h1.2 with⟨hn,_⟩|⟨g,cap,cur,hv,_,hg,_⟩;rw[hn] at eO;simp[ah] at eO;grind[ah,Option.some.injEq,Array.getElem?_eq_some_iff]
  |iy e j row l i=>
   obtain⟨xs,v0,h1,_⟩:=fl;rcases h1.2 with⟨hn,_⟩|⟨g,cap,cur,hv,_,hg,_⟩;grind[ah];grind[ah,Option.some.injEq,Array.getElem?_eq_some_iff]
  |views _ _ _ _ _|dq _ _ _|bj _ _ _ _|ek _ _ _ _=>
   obtain⟨xs,h1,_⟩:=fl;rcases h1.2 with⟨hn,_⟩|⟨g,cap,cur,hv,_,hg,_⟩;grind[ah];grind[ah,Option.some.injEq,Array.getElem?_eq_some_iff]
 have sd:∀b',b'≠b->(w.setRow b new).heap[b']? =w.heap[b']? :=λb' h=>setRow_other w b b' new (λh'=>h h');have hK0:bG w (w.setRow b new) A A:=λb' h=>⟨h,sd b' (λh'=>kK (h'▸h))⟩;have hK:bG w (w.setRow b new) A A':=λb' h=>⟨.inl h,sd b' (λh'=>kK (h'▸h))⟩;have Ru:bG (w.setRow b new) (w.setRow b new) A A':=λb' h=>⟨.inl h,rfl⟩
 have ì:∀(fz:M Nat) j x,ai (b6 st.h fz) j=some x->j∈fz/\∃e row l fr,st.h j=some (.row e row l fr)/\x= .row e row l true:=by
  intro fz;induction fz with
  |nil=>grind[b6,ai]
  |cons i fz ih=>
   intro j x h;simp only[b6] at h;split at h;rename_i e row l fr hi;simp only[ai] at h;by_cases Xu:j=i;grind;simp_all[aL,cond_false]
   grind
 have aJL:∀(fz:M Nat) j,j∈fz->(∃e row l fr,st.h j=some (.row e row l fr))->(ai (b6 st.h fz) j).isSome:=by
  intro fz;induction fz with
  |nil=>grind
  |cons i fz ih=>
   intro j h hr;simp only[b6];by_cases Xu:j=i;subst Xu;obtain⟨e,row,l,fr,hr⟩:=hr;simp[hr,ai];have:=ih j ((O!.1 h).resolve_left Xu) hr;split;simp only[ai,aL Xu,N!];exact this;exact this
 have Ng:∀j x,ai out.gb j=some x->(j=k/\x=ab)\/(j≠k/\j∈fz/\∃e row l fr,st.h j=some (.row e row l fr)/\x= .row e row l true):=by
  intro j x h;rw[o3] at h;simp only[ai] at h;by_cases Rv:j=k;subst Rv;simp only[cU,K!,A!] at h;exact .inl ⟨rfl,h.symm⟩;simp only[aL Rv,N!] at h;obtain⟨h1,h2⟩:=ì fz j x h;exact .inr ⟨Rv,h1,h2⟩
 have Bo:oI st out k:=⟨fH,.inl (by rw[o3];simp[ai])⟩;refine⟨A',β,hB.step hd (by rw[o1];simp[ai]) ?_ (λ_ _=>rfl) hK rfl rfl rfl z! ?_ ?_ ?_ ?_ (by rw[o1];simp[ai]) (by rw[o1];simp[ai]) (by rw[o1];simp[ai]) (jb Ru _ _ uD) aJK⟩;intro j x h;rcases Ng j x h with⟨rfl,_⟩|⟨_,_,e,row,l,fr,h,_⟩;exact fH;simp[h];intro b' _ ht;exact sd b' (λh=>ht k Bo (h▸hb));intro b' h;rw[(Rt b new).2.2.2];rcases h with h|⟨j,hj,í⟩;exact hB.bound b' h;obtain⟨_,e,row,l,fr,hr⟩:=AU j hj;exact gf j b' (by simp[hr]) í;intro b' h;rcases h with h|⟨j,hj,í⟩;exact .inl h;obtain⟨Rv,hr⟩:=AU j hj;refine .inr (.inr ⟨j,⟨by obtain⟨e,row,l,fr,hr⟩:=hr;simp[hr],.inl ?_⟩,í⟩);rw[o3];simp only[ai,aL Rv,N!];exact aJL fz j hj hr;intro j x h _;rw[o1];simp only[bF];rcases Ng j x h with⟨rfl,rfl⟩|⟨Rv,hj,e',row,l,fr,hr,rfl⟩;exact k9 A' (λ_ h=>.inl h) (λ_ h=>h) (λj hj b' h=>.inr ⟨j,hj,h⟩);obtain⟨xs,h1,h2,h3⟩:=hB.blocks j _ hr;have Bs:∀b',ah (β j)=some b'->b'≠b:=λb' h h'=>Rv (hB.apart j k b (by simp[hr]) fH (h'▸h) hb);refine⟨xs,dw h1 (λb' h=>sd b' (Bs b' h)),bx (λc x hx=>br hK row c x hx) l xs h2,λb' h=>?_⟩;simp only[P?];exact .inr ⟨j,hj,h⟩
def xW(hT:bz T P)(hB:al C A β st a w)(hd:∀t,dst=some t->t<st.n){k off:Nat}(hp:aa w A β vp (.ref k off))(hx:aa w A β vx x)
  (h:iB T st.h t (.ref k off) x=some out):∃w',(Instr.storeAt t vp vx).run P w= .ok () w'/\Rel C (st.put dst out) (a.put dst undef) w':=by
 simp[iB] at h;split at h
 . rename_i cs hk;cases hq:(x.cells.all AV.one&&iL T t x.cells.length&&Nat.ble (off+x.cells.length) cs.length) with
   |false=>grind
   |true=>
    simp[hq,K!,A!] at h;subst h;simp only[B!] at hq;obtain⟨⟨q1,q2⟩,q3⟩:=hq;have q3:=L! q3;obtain⟨i,hi,dH⟩:=ph hT q2;obtain⟨c1,c2,c3⟩:=zb q1 hx;obtain⟨b,bI,rfl⟩:=hp;obtain⟨b',arr,e,h1,h2,h3,h4,h5⟩:=hB.blocks k _ hk;rw[bI] at h1;simp at h1;subst h1;have hlen:=dM cs _ h4;have hb:ah (β k)=some b:=by rw[bI];rfl
    refine⟨_,lS hi w! c2 h2 x!,?_⟩;refine hB.write hd (k:=k) (fz:=[]) (ab:=.cells (Mx cs off x.cells)) x! hb h3 h2 ⟨rfl,rfl,rfl⟩ z! ?_ (by rfl);intro A' hA1 Up hA3;have hK:bG w (w.setRow b (arr.toList.take off++vx.cells.toList++arr.toList.drop (off+vx.cells.toList.length)).toArray) A A':=λb' h=>⟨hA1 b' h,setRow_other w b b' _ (λh'=>h3 (h'▸h))⟩;refine⟨b,_,e,bI,setRow_heap w b arr _ e _ h2,λh=>?_,cF hK _ _ (Br h4 c1),?_⟩;grind;grind
 grind
theorem R8 {k:IntKind}{n:Int}(h:lo k<=n/\n<=hi k):DI.toInt k (DI.ofInt k n)=n:=by
 cases k<;>try rfl
 grind[lo,hi,DI.toInt,DI.ofInt,UInt8.toNat_ofNat']
theorem Ns:∀(t:Ty) (x:AV) (v:Value) (d:D t),aa w A β v x->Xe t x=some d->Rd w A t v d:=by
 intro t x v d h hd;unfold Xe at hd;split at hd;grind[Option.some.injEq,aa,Rd,R8];grind[Option.some.injEq,Rd,aa];grind[Option.some.injEq,Rd,aa];grind[Option.some.injEq,Rd,aa];grind[Option.some.injEq,Rd,aa];grind[jm,aa];grind[jm,aa];simp at hd;subst hd;simp[aa] at h;exact⟨none,0,[],w!,z!,z!,by rfl,z!⟩;grind
theorem xk {t:Ty}:∀(ts:M Ty) (x:D t) (y:Row ts),Row.hd (Row.mk x y:Row (t::ts))=x
 |[],_,_|_::_,_,_=>rfl
theorem Bt {t:Ty}:∀(ts:M Ty) (x:D t) (y:Row ts),Row.tl (Row.mk x y:Row (t::ts))=y
 |[],_,_|_::_,_,_=>rfl
theorem ng:∀(ts:M Ty) (xs:M AV) (vs:M Value) (r:Row ts),ae w A β vs xs->kZ ts xs=some r->bw w A ts vs r
 |[],[],vs,r,h,_=>by grind[ae,bw]
 |t::ts,x::xs,vs,r,h,hr=>by
  obtain⟨v,bY,rfl,h1,h2⟩:=h;simp[kZ] at hr;split at hr;rename_i d y hd hy;simp at hr;subst hr;exact⟨v,bY,rfl,by rw[xk];exact Ns t x v d h1 hd,by rw[Bt];exact ng ts xs bY y h2 hy⟩;cases hr
 |[],_::_,_,_,_,hr|_::_,[],_,_,_,hr=>by grind[kZ]
def KU:∀(ts:M Ty) (r:Row ts) (j:Nat) (x:AV) (cs:M Value) (v:Value) (r':Row ts),bw w A ts cs r->aa w A β v x->setRow ts r j x=some r'->bw w A ts (cs.set j v) r'/\j<cs.length
 |[],_,_,_,_,_,_,_,_,hr=>by grind[setRow]
 |t::ts,r,0,x,cs,v,r',h,hx,hr=>by
  simp[bw] at h;simp[setRow] at hr;split at hr;simp[bw,List.set_cons_zero];grind[xk,Ns,Bt];grind
 |t::ts,r,j+1,x,cs,v,r',h,hx,hr=>by
  obtain⟨u,gk,rfl,h1,h2⟩:=h;simp[setRow] at hr;split at hr;rename_i y hy;simp at hr;subst hr;obtain⟨g1,g2⟩:=KU ts _ j x gk v y h2 hx hy;exact⟨⟨u,_,rfl,by rw[xk];exact h1,by rw[Bt];exact g1⟩,by simp[g2]⟩;cases hr
def Xv(cs:M Value)(j:Nat)(v:Value)(us:M Value)(h:j<cs.length):(cs.set j v).take (j+1)++us++(cs.set j v).drop (j+1+us.length)=cs.take j++(v::us)++cs.drop (j+(v::us).length):=by
 grind[List.take_succ_eq_append_getElem,List.take_set_of_le,List.drop_set_of_lt]
theorem zc(ts:M Ty):∀(xs:M AV) (r:Row ts) (j:Nat) (cs us:M Value) (r':Row ts),bw w A ts cs r->ae w A β us xs->sx ts r j xs=some r'->bw w A ts (cs.take j++us++cs.drop (j+us.length)) r'/\(us≠ []->j+us.length<=cs.length)
 |[],r,j,cs,us,r',h,hx,hr=>by
   simp_all[ae,sx,A!]
 |x::xs,r,j,cs,us,r',h,hx,hr=>by
  obtain⟨v,IZ,rfl,h1,h2⟩:=hx;simp[sx] at hr;split at hr;rename_i y hy;obtain⟨g1,g2⟩:=KU ts r j x cs v y h h1 hy;obtain⟨f1,f2⟩:=zc ts xs y (j+1) (cs.set j v) IZ r' g1 h2 hr;rw[Xv cs j v IZ g2] at f1;refine⟨f1,λ_=>?_⟩;by_cases hu:IZ=[];subst hu;simp;omega;have:=f2 hu;simp at this |-;omega;cases hr
theorem ur(hB:al C A β st a w)(h:aa w A β v x)(hA:∀b,A b->A' b)(oJ:∀k∈(ja st.h x).2,∀b,ah (β k)=some b->A' b):
  aa w A' β v (ja st.h x).1/\∀k∈(ja st.h x).2,∃e row l fr,st.h k=some (.row e row l fr):=by
 have hK:bG w w A A':=λb hb=>⟨hA b hb,rfl⟩;unfold ja at oJ |-;split at oJ;rename_i k;simp only[aa] at h;split at oJ;rename_i e row l fr hk;refine⟨?_,λj hj=>by grind⟩;simp only[aa,Rd];rcases pf hB hk with⟨g1,g2⟩|⟨b,cap,cs,g1,g2,g3,g4,g5⟩;subst g2;rw[h.1,g1];exact⟨none,0,[],rfl,z!,z!,by rfl,z!⟩;rw[h.1,g1];exact⟨_,cap,cs,rfl,g2,g3,bx (λc x hx=>br hK row c x hx) l cs g4,λ_=>⟨b,0,rfl,oJ k z! b (by rw[g1];rfl),g5⟩⟩;grind[aa];rename_i k n;simp only[aa] at h;split at oJ;rename_i e row l fr hk;refine⟨?_,λj hj=>by grind⟩;simp only[aa,Rd];rcases h with⟨h1,h2,h3⟩|⟨b',m,jM,h1,h2,h3⟩;subst h3;rw[h2];exact⟨none,0,[],z!,z!,z!,by rfl,z!⟩;rcases pf hB hk with⟨g1,g2⟩|⟨b,cap,cs,g1,g2,g3,g4,g5⟩;grind;rw[g1] at h1;simp at h1;have hl:(l.take n).length=n:=by grind
 refine⟨_,cap,cs.take (n*row.length),x!,w!,g3,bx (λc x hx=>br hK row c x hx) _ _ (fI l cs n g4).1,λ_=>⟨b,0,rfl,oJ k z! b (by rw[g1];rfl),ku g5⟩⟩;grind[aa]
 . rename_i k sz off n;simp only[aa] at h;split at oJ
   . rename_i e row l fr hk;cases dH:Nat.beq sz row.length with
     |false=>grind[aa]
     |true=>
      simp only[dH,cond_true] at oJ |-;have dH:=Nat.eq_of_beq_eq_true dH;subst dH;refine⟨?_,λj hj=>by grind⟩;rcases h with⟨hn,ad,cap,h2,za⟩|⟨b',m,jM,Fj,h1,h2,h3,h4,h5⟩;subst hn;rw[h2];exact⟨ad,cap,[],z!,z!,za,by rfl,z!⟩;rcases pf hB hk with⟨g1,g2⟩|⟨b,cap,cs,g1,g2,g3,g4,g5⟩;grind;rw[g1] at h1;simp at h1;obtain⟨rfl,rfl,rfl⟩:=h1;have hl:((l.drop off).take n).length=n:=by grind
      refine⟨_,Fj,(cs.drop (off*row.length)).take (n*row.length),by rw[h2,hl],w!,w!,bx (λc x hx=>br hK row c x hx) _ _ (fI _ _ n (fI l cs off g4).2).1,λ_=>⟨b,_,rfl,oJ k z! b (by rw[g1];rfl),?_⟩⟩;have:=ku (n:=n*row.length) (sa (n:=off*row.length) g5);grind
   grind[aa]
 grind[jb]
theorem R9(hB:al C A β st a w)(hA:∀b,A b->A' b):∀(xs:M AV) (vs:M Value),ae w A β vs xs->(∀k∈(p0 st.h xs).2,∀b,ah (β k)=some b->A' b)->
  ae w A' β vs (p0 st.h xs).1/\∀k∈(p0 st.h xs).2,∃e row l fr,st.h k=some (.row e row l fr)
 |[],vs,h,_=>by grind[ae,p0]
 |x::xs,vs,h,oJ=>by
  obtain⟨v,bY,rfl,h1,h2⟩:=h;simp only[p0] at oJ |-;obtain⟨p1,p2⟩:=ur hB h1 hA (λk hk=>oJ k (by simp[hk]));obtain⟨q1,q2⟩:=R9 hB hA xs bY h2 (λk hk=>oJ k (by simp[hk]));refine⟨by exact⟨v,bY,rfl,p1,q1⟩,λk hk=>?_⟩;rcases I!.1 hk with hk|hk;exact p2 k hk;exact q2 k hk
def xX(hB:al C A β st a w)(hA:∀b,A b->A' b)(x:AV)(v:Value)(h:aa w A β v x)(oJ:∀k∈(mY st.h x).2,∀b,ah (β k)=some b->A' b):
  aa w A' β v (mY st.h x).1/\∀k∈(mY st.h x).2,∃e row l fr,st.h k=some (.row e row l fr):=by
 unfold mY at oJ |-;split at oJ;grind[R9,aa];grind[ur]
def I9(hB:al C A β st a w)(hA:∀b,A b->A' b):∀(xs:M AV) (vs:M Value),ae w A β vs xs->(∀k∈(mZ st.h xs).2,∀b,ah (β k)=some b->A' b)->
  ae w A' β vs (mZ st.h xs).1/\∀k∈(mZ st.h xs).2,∃e row l fr,st.h k=some (.row e row l fr)
 |[],vs,h,_=>by grind[ae,mZ]
 |x::xs,vs,h,oJ=>by
  obtain⟨v,bY,rfl,h1,h2⟩:=h;simp only[mZ] at oJ |-;obtain⟨p1,p2⟩:=xX hB hA x v h1 (λk hk=>oJ k (by simp[hk]));obtain⟨q1,q2⟩:=I9 hB hA xs bY h2 (λk hk=>oJ k (by simp[hk]));refine⟨by exact⟨v,bY,rfl,p1,q1⟩,λk hk=>?_⟩;rcases I!.1 hk with hk|hk;exact p2 k hk;exact q2 k hk
theorem G2 {h:aJ}:∀(xs:M AV),(p0 h xs).1.length=xs.length
 |[]=>rfl
 |x::xs=>by simp[p0,G2 xs]
theorem G3(x:AV):(mY h x).1.cells.length=x.cells.length:=by
 unfold mY;split;simp[AV.cells,G2];rename_i hna;have hz:x.cells.length=1:=by cases x<;>first|rfl|grind
 rw[hz];unfold ja;split;split<;>rfl
 split<;>rfl
 split;rename_i sz _ _ _ _ rr _ _ _;cases Nat.beq sz rr.length<;>rfl;rfl;omega
def Nt(h:aa w A β v x){r r':Row row}(hr:bw w A row cs r)(hs:sx row r j x.cells=some r'):
  ae w A β v.cells.toList x.cells/\bw w A row (cs.take j++v.cells.toList++cs.drop (j+v.cells.toList.length)) r'/\(∀u∈v.cells.toList,u.oneCell'=true)/\(v.cells.toList≠ []->j+v.cells.toList.length<=cs.length)/\v.cells.size=x.cells.length:=by
 have key:∀us,ae w A β us x.cells->bw w A row (cs.take j++us++cs.drop (j+us.length)) r'/\(∀u∈us,u.oneCell'=true)/\(us≠ []->j+us.length<=cs.length):=by
  grind[zc,Bp]
 by_cases hx:∃cs,x= .agg cs;obtain⟨xs,rfl⟩:=hx;simp[aa] at h;grind[Value.cells,AV.cells,dM];have hc:x.cells=[x]:=by cases x<;>first|rfl|exact absurd ⟨_,rfl⟩ hx
 have D3:ae w A β [v] x.cells:=by rw[hc];exact⟨v,[],rfl,h,rfl⟩
 obtain⟨k1,k2,k3⟩:=key [v] D3;have h1:=k2 v z!;rw[cells_one h1];exact⟨D3,k1,k2,k3,by rw[hc];rfl⟩
theorem Nu {row:M Ty}{l:M (Row row)}{i j:Nat}{cur:Array Value}{us:M Value}{y:Row row}(hi:i<l.length)(hL:dn (bw w A row) (cur.toList.take (l.length*row.length)) l)
  (hy:∀c,bw w A row c l[i]->bw w A row (c.take j++us++c.drop (j+us.length)) y/\(us≠ []->j+us.length<=c.length)) (ep:l.length*row.length<=cur.size):
  let new:=(cur.toList.take (i*row.length+j)++us++cur.toList.drop (i*row.length+j+us.length)).toArray
  new.size=cur.size/\dn (bw w A row) (new.toList.take (l.length*row.length)) (l.set i y)/\i*row.length+j+us.length<=cur.size\/us=[]:=by
 intro new;by_cases D3:us=[];exact .inr D3;left;obtain⟨c1,c,c2,e1,e2,e3,e4,e5⟩:=uE l _ i hi hL;obtain⟨f1,f2⟩:=hy c e3;have f2:=f2 D3;have hc:=hZ row c _ e3
 have gf:i*row.length+row.length<=l.length*row.length:=by
  have :(i+1)*row.length<=l.length*row.length:=H? _ hi;rwa [n?,Nat.one_mul] at this
 have KT:i*row.length+j+us.length<=cur.size:=by omega
 refine⟨by simp[new];omega,?_,KT⟩;have MA:cur.toList=c1++(c++c2)++cur.toList.drop (l.length*row.length):=by rw[<-e1,R?]
 have fD:new.toList=c1++((c.take j++us++c.drop (j+us.length))++c2)++cur.toList.drop (l.length*row.length):=by
  have t1:cur.toList.take (i*row.length+j)=c1++c.take j:=by
   rw[MA,<-e2,V!,List.take_length_add_append,V!,List.take_append_of_le_length w!]
  have t2:cur.toList.drop (i*row.length+j+us.length)=c.drop (j+us.length)++c2++cur.toList.drop (l.length*row.length):=by
   conv=>lhs;rw[MA]
   rw[show i*row.length+j+us.length=c1.length+(j+us.length) by omega,V!,List.drop_length_add_append,V!,List.drop_append_of_le_length w!,V!]
  simp only[new,t1,t2];simp
 rw[fD]
 have aDc:(c1++((c.take j++us++c.drop (j+us.length))++c2)).length=l.length*row.length:=by
  have:=congrArg List.length e1;simp at this |-;omega
 rw[<-aDc,List.take_left]
 have qY:l.set i y=l.take i++(y::l.drop (i+1)):=by
  rw[m?,Q! hi]
 rw[qY];exact jd _ _ _ _ e4 ⟨_,c2,rfl,f1,e5⟩
def G4(hT:bz T P)(hB:al C A β st a w)(hd:∀t,dst=some t->t<st.n){k sz i j:Nat}{x:AV}(hp:aa w A β vp (.elem k sz i j))(hx:aa w A β vx x){out:Out}
  (h:iB T st.h t (.elem k sz i j) x=some out) (hc:∀p∈out.cond,p):∃w',(Instr.storeAt t vp vx).run P w= .ok () w'/\Rel C (st.put dst out) (a.put dst undef) w':=by
 simp only[iB] at h;split at h
 . rename_i e row l hk;cases hq:(Nat.beq sz row.length&&iL T t x.cells.length&&Nat.blt 0 x.cells.length) with
   |false=>grind
   |true=>
    simp only[hq,K!] at h;simp only[B!] at hq;obtain⟨⟨q1,q2⟩,q3⟩:=hq;have q3:=L! q3;have q1:=D! q1;subst q1;split at h
    . rename_i y hy;cases Rw:(mY st.h x).2.elem k with
      |true=>grind
      |false=>
       rw[Rw] at h;simp only[cond_false,Option.some.injEq] at h;subst h;have hi:i<l.length:=eD hc;rw[getD_eq l _ _ hi] at hy;simp only[aa] at hp;obtain⟨b,m,cap,bI,rfl⟩:=hp;rcases iE hB hk with⟨_,hl⟩|⟨b',jM,cur,hv,hg,hle,DZ,ep,hL,kK⟩;grind;rw[bI] at hv;obtain⟨rfl,rfl,rfl⟩:=hv;simp only[Bool.false_eq_true,if_false] at kK;have hb:ah (β k)=some b:=by rw[bI];rfl
       obtain⟨ii,ju,qX⟩:=ph hT q2;let A1:Nat->Prop:=λb'=>A b'\/∃j∈(mY st.h x).2,ah (β j)=some b'
       obtain⟨px,pk⟩:=xX (A':=A1) hB (λb h=>.inl h) x vx hx (λk hk b hb=>.inr ⟨k,hk,hb⟩);have hKA:bG w w A A1:=λb h=>⟨.inl h,rfl⟩;have hL1:dn (bw w A1 row) (cur.toList.take (l.length*row.length)) l:=bx (λc x hx=>br hKA row c x hx) l _ hL;have G5:l.length*row.length<=cur.size:=by simp_all[H?]
       have hyy:∀c,bw w A1 row c l[i]->bw w A1 row (c.take j++vx.cells.toList++c.drop (j+vx.cells.toList.length)) y/\(vx.cells.toList≠ []->j+vx.cells.toList.length<=c.length):=
        λc hc=>let h:=Nt px hc hy;⟨h.2.1,h.2.2.2.1⟩
       obtain⟨c1,c,c2,e1,e2,e3,e4,e5⟩:=uE l _ i hi hL1;have Rx:=Nt px e3 hy
       have qd:vx.cells.size=ii.size:=by
        grind[G3]
       rcases Nu hi hL1 hyy G5 with⟨g1,g2,g3⟩|D3;refine⟨_,lS ju qd Rx.2.2.1 hg (by simpa using g3),?_⟩;refine hB.write hd (k:=k) (fz:=(mY st.h x).2) (ab:=.row e row (l.set i y) false) (by simp[hk]) hb kK hg ⟨rfl,rfl,rfl⟩ (λq hq=>⟨?_,pk q hq⟩) ?_ (by simp[aa]);rintro rfl;rw[List.elem_eq_mem] at Rw;simp[hq] at Rw;intro A2 h1 h2 h3
       have hK:bG w (w.setRow b (cur.toList.take (i*row.length+j)++vx.cells.toList++cur.toList.drop (i*row.length+j+vx.cells.toList.length)).toArray) A1 A2:=by
        intro b' eO;rcases eO with eO|⟨q,hq,G6⟩;exact⟨h1 b' eO,setRow_other w b b' _ (λh'=>kK (h'▸eO))⟩;refine⟨h3 q hq b' G6,setRow_other w b b' _ (λh'=>?_)⟩;subst h';obtain⟨e',mg,l',GK,qe⟩:=pk q hq;have :q=k:=hB.apart q k b' (by simp[qe]) (by simp[hk]) G6 hb;subst this;rw[List.elem_eq_mem] at Rw;simp[hq] at Rw
       refine⟨_,⟨?_,.inr ⟨b,cap,_,by rw[bI];simp,w!,setRow_heap w b cur _ e _ hg,by simpa using hle,DZ,g1.trans ep,rfl⟩⟩,?_,λb' eO=>?_⟩;rw[List.length_take];refine Nat.min_eq_left ?_;rw[List.length_set];exact Nat.le_trans G5 (Nat.le_of_eq g1.symm);simp only[List.length_set];exact bx (λc x hx=>br hK row c x hx) _ _ g2;rw[hb] at eO;simp only[Option.some.injEq] at eO;subst eO;simp only[Bool.false_eq_true,if_false];intro Up;rcases h2 _ Up with h|⟨q,hq,G6⟩;exact kK h;obtain⟨e',mg,l',GK,qe⟩:=pk q hq;have :q=k:=hB.apart q k _ (by simp[qe]) (by simp[hk]) G6 hb;subst this;rw[List.elem_eq_mem] at Rw;simp[hq] at Rw;grind
    grind
 grind
theorem gn {k:Nat}(h:ai [(d,ab)] k=some b):k=d/\b=ab:=by
 grind[ai,aL]
theorem ej(o:Obj)(k:Nat)(hk:k<w.heap.size):(w.alloc o).heap[k]? =w.heap[k]? :=heap_alloc_old w o k hk
theorem al.Ja(hB:al C A β st a w)(hd:∀t,dst=some t->t<st.n){cs:M AV}{cond:M Prop}
  (gm:st.h d=none/\qQ d=false) (hrel:ae w A β arr.toList cs) (jv:∀v∈arr.toList,v.oneCell'=true):
  al C A (bg β d (.pointer (some ⟨w.heap.size,0,none⟩))) (st.put dst {cond:=cond,res:=.ref d 0,new:=[(d,.cells (gH d cs))]}) (a.put dst (.pointer (some ⟨w.heap.size,0,none⟩))) (w.alloc (.cells arr e)):=by
 have hK:bG w (w.alloc (.cells arr e)) A A:=λb hb=>⟨hb,ej _ b (hB.bound b hb)⟩
 have bI:∀k,ai [(d,AB.cells (gH d cs))] k=none->bg β d (.pointer (some ⟨w.heap.size,0,none⟩)) k=β k:=by
  intro k h;have :k≠d:=by rintro rfl;simp[ai] at h
  grind[bg]
 refine hB.step (out:={cond:=cond,res:=.ref d 0,new:=[(d,.cells (gH d cs))]}) hd ?_ (by simp[ai]) bI hK rfl rfl rfl z! (λb hb _=>ej _ b hb) (λb hb=>by have:=hB.bound b hb;simp;omega) (λb hb=>.inl hb) (by simp[ai]) ?_ ?_ ?_ ?_;grind[gn];intro k ab h;obtain⟨rfl,rfl⟩:=gn h;refine⟨w.heap.size,arr,e,by simp[bg],heap_alloc_new w _,λh=>absurd (hB.bound _ h) w!,jc k _ _ _ (cF hK _ _ hrel),jv⟩;intro k b ab h hb;obtain⟨rfl,_⟩:=gn h;simp_all[bg,if_true,ah,Option.some.injEq]
 grind[Option.isSome_iff_exists,gn];exact⟨w.heap.size,by simp[bg],rfl⟩
theorem gY:∀(fz:M Nat) j x,ai (b6 h fz) j=some x->j∈fz/\∃e row l fr,h j=some (.row e row l fr)/\x= .row e row l true:=by
 intro fz;induction fz with
 |nil=>grind[b6,ai]
 |cons i fz ih=>
  intro j x h;simp[b6] at h;split at h;simp[ai] at h;by_cases Xu:j=i;grind;simp_all[aL,cond_false]
  grind
theorem oK:∀(fz:M Nat) j,j∈fz->(∃e row l fr,h j=some (.row e row l fr))->(ai (b6 h fz) j).isSome:=by
 intro fz;induction fz with
 |nil=>grind
 |cons i fz ih=>
  intro j h hr;simp[b6];by_cases Xu:j=i;subst Xu;obtain⟨e,row,l,fr,hr⟩:=hr;simp[hr,ai];have:=ih j ((O!.1 h).resolve_left Xu) hr;split;simp_all[ai,aL,N!]
  omega
def bL(A:Nat->Prop)(β:Nat->Value)(fz:M Nat):Nat->Prop:=λb=>A b\/∃j∈fz,ah (β j)=some b
theorem mh(hB:al C A β st a w){j b':Nat}(hj:(st.h j).isSome)(eO:ah (β j)=some b'):b'<w.heap.size:=by
 obtain⟨ab,k9⟩:=S!.1 hj;have fl:=hB.blocks j ab k9;cases ab with
 |mp b2 es ck=>
  obtain⟨h1,h2,_⟩:=fl;grind[ah,Option.some.injEq,Array.getElem?_eq_some_iff]
 |arr _ _|fvar _ _=>
  obtain⟨b'',arr,e,h1,h2,_⟩:=fl;grind[ah,Option.some.injEq,Array.getElem?_eq_some_iff]
 |cells cs=>
  obtain⟨b'',arr,e,h1,h2,_⟩:=fl;grind[ah,Option.some.injEq,Array.getElem?_eq_some_iff]
 |row e row l fr=>
  obtain⟨xs,h1,_⟩:=fl;rcases h1.2 with⟨hn,_⟩|⟨g,cap,cur,hv,_,hg,_⟩;grind[ah];grind[ah,Option.some.injEq,Array.getElem?_eq_some_iff]
 |iy e j row l i=>
  obtain⟨xs,v0,h1,_⟩:=fl;rcases h1.2 with⟨hn,_⟩|⟨g,cap,cur,hv,_,hg,_⟩;grind[ah];grind[ah,Option.some.injEq,Array.getElem?_eq_some_iff]
 |views _ _ _ _ _|dq _ _ _|bj _ _ _ _|ek _ _ _ _=>
  obtain⟨xs,h1,_⟩:=fl;rcases h1.2 with⟨hn,_⟩|⟨g,cap,cur,hv,_,hg,_⟩;grind[ah];grind[ah,Option.some.injEq,Array.getElem?_eq_some_iff]
theorem al.Xw(hB:al C A β st a w)(hd:∀t,dst=some t->t<st.n){e:Nat}{row:M Ty}{l:M (Row row)}{cond:M Prop}{fz:M Nat}{xs:M Value}
  (gm:st.h d=none/\qQ d=false) (hg:w.grownBy w' none) (AU:∀j∈fz,∃e row l fr,st.h j=some (.row e row l fr))
  (gU:w'.ownsRow 0 e row.length v' l.length xs) (qf:dn (bw w (bL A β fz) row) xs l) (hblk:∀b,ah v'=some b->w.heap.size<=b):
  al C (bL A β fz) (bg β d v') (st.put dst {cond:=cond,res:=.own d,gb:=b6 st.h fz,new:=[(d,.row e row l false)]}) (a.put dst v') w':=by
 have Ry:∀b,bL A β fz b->b<w.heap.size:=by
  intro b h;rcases h with h|⟨j,hj,hb⟩;exact hB.bound b h;exact mh hB x! hb
 have hK:bG w w' A (bL A β fz):=λb hb=>⟨.inl hb,hg.block b (hB.bound b hb) z!⟩;have Rl:bG w w' (bL A β fz) (bL A β fz):=λb hb=>⟨hb,hg.block b (Ry b hb) z!⟩
 have bI:∀k,ai [(d,AB.row e row l false)] k=none->bg β d v' k=β k:=by
  intro k h;have :k≠d:=by rintro rfl;simp[ai] at h
  grind[bg]
 refine hB.step (out:={cond:=cond,res:=.own d,gb:=b6 st.h fz,new:=[(d,.row e row l false)]}) hd ?_ ?_ bI hK hg.os hg.tape hg.output hg.size (λb hb _=>hg.block b hb z!) (λb hb=>Nat.lt_of_lt_of_le (Ry b hb) hg.size) ?_ ?_ ?_ ?_ ?_ ?_;grind[gn];intro k b h;obtain⟨_,_,_,_,_,h,_⟩:=gY fz k b h;grind;intro b h;rcases h with h|⟨j,hj,hb⟩;grind;have hr:=AU j hj;exact .inr (.inr ⟨j,⟨x!,.inl (oK fz j hj hr)⟩,hb⟩);intro k ab h _;obtain⟨hk,e',mg,l',GK,hr,rfl⟩:=gY fz k ab h;rw[lR];have hkd:k≠d:=by grind
 have Ue:bg β d v' k=β k:=by grind[bg]
 obtain⟨Uq,h1,h2,h3⟩:=hB.blocks k _ hr;simp only[BR,Ue];refine⟨Uq,dw h1 (λb hb=>hg.block b (mh hB x! hb) z!),bx (λc x hx=>br hK mg c x hx) l' Uq h2,λb hb=>?_⟩;simp only[if_true];exact .inr ⟨k,hk,hb⟩;intro k ab h;obtain⟨rfl,rfl⟩:=gn h;refine⟨xs,by grind[bg],bx (λc x hx=>br Rl row c x hx) l xs qf,λb hb=>?_⟩;simp only[bg,if_true] at hb;grind;intro k b ab h hb;obtain⟨rfl,_⟩:=gn h;simp_all[bg,if_true]
 grind[Option.isSome_iff_exists,gn];simp only[aa,bg,if_true,true_and];obtain⟨ad,l',c,rfl⟩:=ib gU;rfl
def Ur(hT:bz T P)(hB:al C A β st a w)(hd:∀t,dst=some t->t<st.n)(gm:st.h d=none/\qQ d=false)(ht:T.find t=some te)(jv:(ofConst te.zero).cells.all AV.one=true):
  ∃v' w',(Instr.alloc t true (.tuple #[])).run P w= .ok v' w'/\Rel C (st.put dst {cond:=[],res:=.ref d 0,new:=[(d,.cells (gH d (ofConst te.zero).cells))]}) (a.put dst v') w':=by
 obtain⟨hu,i,hi,hs,hb,hz⟩:=hT.ok t te ht;obtain⟨c1,c2,c3⟩:=zb jv (y4 (w:=w) (A:=A) (β:=β) te.zero);refine⟨.pointer (some ⟨w.heap.size,0,none⟩),w.alloc (.cells te.zero.cells t),?_,Rel.jl (hB.Ja hd gm c1 c2)⟩;simp_all[Instr.alloc,zeroValue,typeInfo,hi,newVar,newRow]
def î(hB:al C A β st a w)(hd:∀t,dst=some t->t<st.n)(gm:st.h d=none/\qQ d=false)(hx:aa w A β v x)(jv:x.cells.all AV.one=true):
  ∃v' w',(Instr.box t v).run P w= .ok v' w'/\Rel C (st.put dst {cond:=[],res:=.ref d 0,new:=[(d,.cells (gH d x.cells))]}) (a.put dst v') w':=by
 obtain⟨c1,c2,c3⟩:=zb jv hx;refine⟨.pointer (some ⟨w.heap.size,0,none⟩),w.alloc (.cells v.cells t),?_,Rel.jl (hB.Ja hd gm c1 c2)⟩;rfl
def KV(off:Nat):∀(l:M Value) (k:Nat) (arr:Array Value),off+k+l.length<=arr.size->
  ((l.zipIdx k).foldl (λcs (x:Value×Nat)=>cs.setIfInBounds (off+x.2) x.1) arr).toList=arr.toList.take (off+k)++l++arr.toList.drop (off+k+l.length)
 |[],k,arr,_=>by simp
 |v::l,k,arr,h=>by
  simp;rw[KV off l (k+1) _ (by simp at h |-;omega)];have e:=list_seg_step arr.toList (off+k) v l w!;simpa[Nat.add_assoc] using e
def xY(place:Nat->Option (Nat×Nat)):∀(parts:M (Nat×AV)) (vparts:M (Nat×Value)) (cs:M AV) (arr:Array Value) (r:M AV),ae w A β arr.toList cs->
  vparts.map (·.1)=parts.map (·.1)->ae w A β (vparts.map (·.2)) (parts.map (·.2))->yV place cs parts=some r->
  ∃jZ,Instr.fill place arr vparts=some jZ/\ae w A β jZ.toList r
 |[],[],cs,arr,r,h,_,_,hr=>by
   simp[yV,A!] at hr;subst hr;exact⟨arr,rfl,h⟩
 |(i,x)::parts,(i',v)::vparts,cs,arr,r,h,hk,hv,hr=>by
  simp at hk;obtain⟨hi,hk⟩:=hk;obtain⟨v0,Nv,h0,h1,h2⟩:=hv;obtain⟨rfl,rfl⟩:=h0;simp[yV] at hr;split at hr;grind
  . rename_i off size hp;cases hq:(Nat.beq x.cells.length size&&Nat.ble (off+size) cs.length&&x.cells.all AV.one) with
    |false=>grind
    |true=>
     simp[hq,K!] at hr;simp only[B!] at hq;obtain⟨⟨q1,q2⟩,q3⟩:=hq;have q1:=D! q1;have q2:=L! q2;obtain⟨c1,c2,c3⟩:=zb q3 h1;have hlen:=dM cs _ h;have Fm:=Br (off:=off) h c1
     have aND:(v.cells.zipIdx.foldl (λcs (x:Value×Nat)=>cs.setIfInBounds (off+x.2) x.1) arr).toList=arr.toList.take off++v.cells.toList++arr.toList.drop (off+v.cells.toList.length):=by
      have:=KV off v.cells.toList 0 arr x!;grind[Array.toList_zipIdx]
     obtain⟨jZ,g1,g2⟩:=xY place parts vparts _ (v.cells.zipIdx.foldl (λcs (x:Value×Nat)=>cs.setIfInBounds (off+x.2) x.1) arr) r x! hk h2 hr;simp_all[Instr.fill,if_neg]
 |[],_::_,_,_,_,_,hk,_,_|_::_,[],_,_,_,_,hk,_,_=>by grind
def run_places(hT:bz T P):∀(fs:M Field) (ps:M (Nat×Nat)),placesOf T fs=some ps->
  (List.mapM (m:=Sem) (λ(f:Field)=>do pure (f.offset,<-sizeOf f.type)) fs).run P w= .ok ps w
 |[],ps,h=>by simp_all[placesOf,A!]
 |f::fs,ps,h=>by
  simp[placesOf] at h;split at h;rename_i te ps' ht hp;simp at h;subst h;obtain⟨_,i,hi,hs,_⟩:=hT.ok _ _ ht;have ih:=run_places hT fs ps' hp;have h1:(sizeOf f.type).run P w= .ok te.size w:=by simp[sizeOf,typeInfo,hi,hs]
  simp only[List.mapM_cons,Sem.run_bind,h1,Result.andThen_ok,Sem.run_pure];rw[ih];rfl;cases h
theorem lb(z:Value):ae w A β z.cells.toList (ofConst z).cells:=by
 have h:=y4 (w:=w) (A:=A) (β:=β) z;by_cases hx:∃cs,ofConst z= .agg cs;obtain⟨cs,hc⟩:=hx;rw[hc] at h |-;obtain⟨arr,rfl,h⟩:=h;exact h
 have hc:(ofConst z).cells=[ofConst z]:=by
  cases hz:ofConst z<;>first|rfl|grind
 have hz:z.cells= #[z]:=by
  cases z<;>first|rfl|exact absurd ⟨_,rfl⟩ hx
 grind[ae]
def Us(hT:bz T P){parts:M (Nat×AV)}{vparts:Array (Nat×Value)}(hk:vparts.toList.map (·.1)=parts.map (·.1))(hv:ae w A β (vparts.toList.map (·.2)) (parts.map (·.2)))
  (h:IU T t parts=some out):Reads P A β w (Instr.build t vparts) out:=by
 unfold IU at h;split at h;rename_i te ht;obtain⟨hu,i,hi,hs,hb,hz⟩:=hT.ok t te ht;split at h;rename_i fs hd;split at h;rename_i ps hp;split at h;rename_i cs hf;simp at h;subst h;obtain⟨jZ,g1,g2⟩:=xY (λi=>ps[i]?) parts vparts.toList _ te.zero.cells cs (lb te.zero) hk hv hf;refine⟨⟨rfl,rfl,rfl⟩,.agg jZ,?_,by grind[aa]⟩;have hm:=run_places (w:=w) hT fs.toList ps hp;simp only[Instr.build,zeroValue,typeInfo,Sem.run_bind,run_program,Result.andThen_ok,hi,hz,Sem.run_pure,run_underlying hu,Array.mapM_eq_mapM_toList,Sem.run_map,hm];simp_all
 grind;grind;rename_i n e hd;split at h;rename_i ee he;split at h;rename_i cs hf;simp at h;subst h;obtain⟨_,i2,hi2,Uh,_⟩:=hT.ok e ee he;obtain⟨jZ,g1,g2⟩:=xY (λi=>some (i*ee.size,ee.size)) parts vparts.toList _ te.zero.cells cs (lb te.zero) hk hv hf;refine⟨⟨rfl,rfl,rfl⟩,.agg jZ,?_,by grind[aa]⟩;simp_all[Instr.build,zeroValue,typeInfo,hi,run_underlying,sizeOf]
 grind;grind;grind;grind
def nO(z:Array Value)(hz:0<z.size):∀n,(List.range (n*z.size)).map (λi=>z[i%z.size]!)=(List.replicate n z.toList).flatten
 |0=>by simp
 |n+1=>by
  rw[n?,Nat.one_mul,List.range_add,l?,nO z hz n,List.replicate_succ',List.flatten_append];congr 1
  apply List.ext_getElem;simp;simp_all[Nat.add_mod,Nat.mod_eq_of_lt]
theorem qj {vs:M Value}{xs:M AV}(h:ae w A β vs xs):∀n,ae w A β (List.replicate n vs).flatten (List.replicate n xs).flatten
 |0=>by rfl
 |n+1=>by
  exact fp _ _ _ _ h (qj h n)
def Bu(ts:M Ty):∀(n:Nat) (xs:M AV) (vs:M Value) (l:M (Row ts)),ae w A β vs xs->yS ts n xs=some l->dn (bw w A ts) vs l/\l.length=n
 |0,[],vs,l,h,hl=>by
  grind[yS,Option.some.injEq,ae,dn]
 |0,_::_,_,_,_,hl=>by grind[yS]
 |n+1,xs,vs,l,h,hl=>by
  simp[yS] at hl;split at hl;rename_i x l' hx la;simp at hl;subst hl;obtain⟨s1,s2⟩:=mw xs vs ts.length h;obtain⟨g1,g2⟩:=Bu ts n _ _ l' s2 la;exact⟨⟨_,_,(R? _ _).symm,ng ts _ _ x s1 hx,g1⟩,by simp[g2]⟩;cases hl
def Sa(hB:al C A β st a w)(hA:∀b,A b->A' b):∀(ps:M (Nat×AV)) (vs:M Value),ae w A β vs (ps.map (·.2))->(∀k∈(qa st.h ps).2,∀b,ah (β k)=some b->A' b)->
  ae w A' β vs ((qa st.h ps).1.map (·.2))/\(qa st.h ps).1.map (·.1)=ps.map (·.1)/\∀k∈(qa st.h ps).2,∃e row l fr,st.h k=some (.row e row l fr)
 |[],vs,h,_=>by grind[ae,qa]
 |(i,x)::ps,vs,h,oJ=>by
  obtain⟨v,bY,rfl,h1,h2⟩:=h;simp only[qa] at oJ |-;obtain⟨p1,p2⟩:=xX hB hA x v h1 (λk hk=>oJ k (by simp[hk]));obtain⟨q1,q2,q3⟩:=Sa hB hA ps bY h2 (λk hk=>oJ k (by simp[hk]));refine⟨by exact⟨v,bY,rfl,p1,q1⟩,by simp[q2],λk hk=>?_⟩;rcases I!.1 hk with hk|hk;exact p2 k hk;exact q3 k hk
def G7(hT:bz T P)(hB:al C A β st a w)(hd:∀t,dst=some t->t<st.n)(gm:st.h d=none/\qQ d=false){len:Nat}{parts:M (Nat×AV)}{vparts:Array (Nat×Value)}
  (hk:vparts.toList.map (·.1)=parts.map (·.1)) (hv:ae w A β (vparts.toList.map (·.2)) (parts.map (·.2)))
  (h:k7 T st.h d t len parts=some out):∃v' w',(Instr.buildSlice t len vparts).run P w= .ok v' w'/\Rel C (st.put dst out) (a.put dst v') w':=by
 unfold k7 at h;split at h
 . rename_i e te he iO;split at h
   . rename_i row mO;obtain⟨hu,Bq,i,hi,qX,Md,Fl⟩:=sD hT he iO;cases hq:(Nat.beq row.length te.size&&Nat.blt 0 te.size&&Nat.beq (ofConst te.zero).cells.length te.size&&Nat.ble (len*te.size) 16777216) with
     |false=>grind
     |true=>
      simp only[hq,cond_true] at h;simp only[Bool.and_eq_true] at hq;obtain⟨⟨⟨q1,q2⟩,q3⟩,q4⟩:=hq;have q2:=Nat.le_of_ble_eq_true q2;have q3:=Nat.eq_of_beq_eq_true q3;have q4:=Nat.le_of_ble_eq_true q4;split at h;rename_i cs hf;split at h;rename_i l hl;simp only[Option.some.injEq] at h;subst h;have Rq:te.zero.cells.size=te.size:=by grind[qi]
      obtain⟨p1,p2,p3⟩:=Sa (A':=bL A β (qa st.h parts).2) hB (λb h=>.inl h) parts _ hv (λk hk b hb=>.inr ⟨k,hk,hb⟩)
      have lT:(((Array.range (len*i.size)).map (te.zero.cells[· %te.zero.cells.size]!)).toList)=(List.replicate len te.zero.cells.toList).flatten:=by
       have:=nO te.zero.cells w! len;simp_all
      obtain⟨jZ,g1,g2⟩:=xY (w:=w) (A:=bL A β (qa st.h parts).2) (β:=β) (λi=>some (i*te.size,te.size)) _ vparts.toList _ ((Array.range (len*i.size)).map (te.zero.cells[· %te.zero.cells.size]!)) cs
       (by grind[qj,lb]) (hk.trans p2.symm) p1 hf
      obtain⟨f1,f2⟩:=Bu row len cs _ l g2 hl;have hlen:=gC l _ f1
      have gI:(Instr.buildSlice t len vparts).run P w= .ok (.slice (some ⟨w.heap.size,0,none⟩) len len) (w.alloc (.cells jZ e)):=by
       have h24:¬(16777216<len*i.size):=by grind
       by_cases hz:len*i.size=0
       have hln:len=0:=by
        grind[Nat.mul_eq_zero]
       subst hln;simp[Instr.buildSlice,run_underlying hu,sizeOf,typeInfo,hi,qX,newRow];simp_all[Array.range,Array.eq_empty_of_size_eq_zero]
       rw[<-qX] at g1;simp[Instr.buildSlice,run_underlying hu,sizeOf,typeInfo,zeroValue,hi,Fl,h24,hz,g1,newRow]
      refine⟨_,_,gI,Rel.jl (hB.Xw hd gm (xs:=jZ.toList) ⟨rfl,rfl,rfl,z!,λk hk _=>heap_alloc_old w _ k hk⟩ p3 ?_ f1 (λb hb=>by grind[ah,Option.some.injEq]))⟩;refine⟨hlen,.inr ⟨w.heap.size,len,jZ,by rw[f2],w!,heap_alloc_new w _,w!,?_,?_,?_⟩⟩;have :len<=len*te.size:=Nat.le_mul_of_pos_right _ w!;grind[maxLen];grind;grind;grind;grind
   grind
 grind
theorem lf:∀(row:M Ty) (vs:M Value),cY.cP row vs=true->bw w A row vs (Row.zero row)
 |[],[],_=>by rfl
 |.int k::ts,.int k' n::vs,h=>by
   simp[cY.cP,B!,J!] at h;obtain⟨⟨h1,h2⟩,h3⟩:=h;subst h1;subst h2;simp only[bw,Row.zero,xk,Bt];refine⟨_,vs,rfl,?_,lf ts vs h3⟩;simp[Rd,D.zero];cases k<;>simp[DI.zero,DI.toInt,lo,hi]
 |.bool::ts,.bool b::vs,h=>by
   cases b with
   |true=>simp[cY.cP] at h
   |false=>
    simp only[bw,Row.zero,xk,Bt];exact⟨_,vs,rfl,by simp[Rd,D.zero],lf ts vs h⟩
 |.str::ts,.string s::vs,h=>by
   simp[cY.cP,B!] at h;simp only[bw,Row.zero,xk,Bt];refine⟨_,vs,rfl,?_,lf ts vs h.2⟩;simp only[Rd,D.zero];refine⟨?_,z!⟩
   have hs:s=⟨#[]⟩:=by
    apply ByteArray.ext;grind
   rw[hs]
 |.slice r::ts,.slice ad l c::vs,h=>by
   cases ad with
   |some p=>simp[cY.cP] at h
   |none=>
    cases l with
    |succ l=>simp[cY.cP] at h
    |zero=>
     cases c with
     |succ c=>simp[cY.cP] at h
     |zero=>
      simp only[bw,Row.zero,xk,Bt];refine⟨_,vs,rfl,?_,lf ts vs h⟩;simp only[Rd,D.zero];exact⟨none,0,[],z!,z!,z!,by simp[dn],z!⟩
 |[],_::_,h|.int _::_,[],h|.bool::_,[],h|.str::_,[],h|.slice _::_,[],h=>by grind[cY.cP]
 |.int _::_,.bool _::_,h|.int _::_,.string _::_,h|.int _::_,.slice .. ::_,h|.int _::_,.float .. ::_,h|.int _::_,.complex .. ::_,h|.int _::_,.pointer _::_,h
 |.int _::_,.map _::_,h|.int _::_,.chan _::_,h|.int _::_,.func .. ::_,h|.int _::_,.nilFunc::_,h|.int _::_,.iface .. ::_,h|.int _::_,.nilIface::_,h|.int _::_,.agg _::_,h|.int _::_,.tuple _::_,h=>by grind[cY.cP]
 |.bool::_,.int .. ::_,h|.bool::_,.string _::_,h|.bool::_,.slice .. ::_,h|.bool::_,.float .. ::_,h|.bool::_,.complex .. ::_,h|.bool::_,.pointer _::_,h
 |.bool::_,.map _::_,h|.bool::_,.chan _::_,h|.bool::_,.func .. ::_,h|.bool::_,.nilFunc::_,h|.bool::_,.iface .. ::_,h|.bool::_,.nilIface::_,h|.bool::_,.agg _::_,h|.bool::_,.tuple _::_,h=>by grind[cY.cP]
 |.str::_,.int .. ::_,h|.str::_,.bool _::_,h|.str::_,.slice .. ::_,h|.str::_,.float .. ::_,h|.str::_,.complex .. ::_,h|.str::_,.pointer _::_,h
 |.str::_,.map _::_,h|.str::_,.chan _::_,h|.str::_,.func .. ::_,h|.str::_,.nilFunc::_,h|.str::_,.iface .. ::_,h|.str::_,.nilIface::_,h|.str::_,.agg _::_,h|.str::_,.tuple _::_,h=>by grind[cY.cP]
 |.slice _::_,.int .. ::_,h|.slice _::_,.bool _::_,h|.slice _::_,.string .. ::_,h|.slice _::_,.float .. ::_,h|.slice _::_,.complex .. ::_,h|.slice _::_,.pointer _::_,h
 |.slice _::_,.map _::_,h|.slice _::_,.chan _::_,h|.slice _::_,.func .. ::_,h|.slice _::_,.nilFunc::_,h|.slice _::_,.iface .. ::_,h|.slice _::_,.nilIface::_,h|.slice _::_,.agg _::_,h|.slice _::_,.tuple _::_,h=>by grind[cY.cP]
theorem se(h:cY row z=true):bw w A row z.cells.toList (Row.zero row):=by
 unfold cY at h;split at h;exact lf row _ h;have hz:z.cells= #[z]:=by cases z<;>first|rfl|grind
 grind[lf]
theorem qk {row:M Ty}{vs:M Value}{x:Row row}(h:bw w A row vs x):∀n,dn (bw w A row) (List.replicate n vs).flatten (List.replicate n x)
 |0=>by rfl
 |n+1=>by
  exact⟨vs,_,rfl,h,qk h n⟩
def Jb(hT:bz T P)(hB:al C A β st a w)(hd:∀t,dst=some t->t<st.n)(gm:st.h d=none/\qQ d=false){y:AV}{vy:Value}(hx:aa w A β vx x)(hy:aa w A β vy y)
  (h:xg T d t x y=some out) (hc:∀p∈out.cond,p):∃v' w',(Instr.makeSlice t vx vy).run P w= .ok v' w'/\Rel C (st.put dst out) (a.put dst v') w':=by
 unfold xg at h;split at h
 . rename_i k n k' c;split at h
   . rename_i e te he iO;split at h
     . rename_i row mO;obtain⟨hu,Bq,i,hi,qX,Md,Fl⟩:=sD hT he iO;cases hq:(Nat.beq row.length te.size&&Nat.blt 0 te.size&&cY row te.zero) with
       |false=>grind
       |true=>
        simp only[hq,cond_true,Option.some.injEq] at h;subst h;simp only[Bool.and_eq_true] at hq;obtain⟨⟨q1,q2⟩,q3⟩:=hq;have q1:=Nat.eq_of_beq_eq_true q1;have q2:=Nat.le_of_ble_eq_true q2;obtain⟨c0,c1,c2⟩:=eD hc;simp only[aa] at hx hy;obtain⟨rfl,_⟩:=hx;obtain⟨rfl,Rx⟩:=hy;have hz:=se (w:=w) (A:=A) q3;have hzl:=hZ row _ _ hz;have Rq:te.zero.cells.size=te.size:=by grind
        have aJN:(te.bytes:Int)*c<=281474976710656:=by
         grind[Nat.eq_zero_or_pos,Int.le_ediv_iff_mul_le,Int.mul_comm]
        have za:c<=9223372036854775807:=by
         have:=Int.ediv_le_self (te.bytes:Int) (show(0:Int)<=140737488355328 by omega);omega
        have hr:=run_make (P:=P) w t e i te.zero hu hi Fl k k' n c c0 c1 x! za;refine⟨_,_,hr,Rel.jl (hB.Xw hd gm (fz:=[]) (xs:=(List.replicate n.toNat te.zero.cells.toList).flatten) ⟨rfl,rfl,rfl,z!,λk hk _=>heap_alloc_old w _ k hk⟩ z! ?_ ?_ (λb hb=>by grind[ah,Option.some.injEq]))⟩
        have lT:(madeCells te.zero.cells (c.toNat*i.size)).toList=(List.replicate c.toNat te.zero.cells.toList).flatten:=by
         have:=nO te.zero.cells w! c.toNat;simp_all[madeCells]
        have hfl:∀m,(List.replicate m te.zero.cells.toList).flatten.length=m*te.size:=by
         simp_all
        simp only[List.length_replicate];refine⟨x!,.inr ⟨w.heap.size,c.toNat,_,rfl,w!,heap_alloc_new w _,w!,by grind[maxLen],?_,?_⟩⟩;grind;rw[lT];have Fm:c.toNat=n.toNat+(c.toNat-n.toNat):=by omega
        rw[Fm,<-List.replicate_append_replicate,List.flatten_append,q1,<-hfl n.toNat,List.take_left];grind[qk,se]
     grind
   grind
 grind
def Nw {e:TypeId}{i:TypeInfo}(hu:P.underlying t=some (.slice e))(hi:P.info? e=some i){b dLen:Nat}{cur:Array Value}{be:TypeId}(hg:w.heap[b]? =some (.cells cur be (0,0))){x:Value}{m:Nat}{cs:M Value}
  (hlen:(Builtin.lenOf x).run P w= .ok m w) (kM:(Builtin.firstCells i.size (min m dLen) x).run P w= .ok cs.toArray w) (h1:∀u∈cs,u.oneCell'=true) (KT:off+cs.length<=cur.size):
  (Builtin.copy_ #[t,t'] ty #[.slice (some ⟨b,off,none⟩) dLen dCap,x]).run P w= .ok (.int .i64 ((min m dLen:Nat):Int)) (w.setRow b (cur.toList.take off++cs++cur.toList.drop (off+cs.length)).toArray):=by
 have pX:=run_storeCells_at P b off be cs 0 cur w hg w! h1;simp_all[Builtin.copy_,run_underlying,sizeOf,typeInfo,hi,goInt]
theorem Bv {e:TypeId}(hu:P.underlying t=some (.slice e))(hi:P.info? e=some i){ad:Option Addr}{x:Value}{m:Nat}
  (hlen:(Builtin.lenOf x).run P w= .ok m w) (kM:(Builtin.firstCells i.size 0 x).run P w= .ok #[] w):
  (Builtin.copy_ #[t,t'] ty #[.slice ad 0 dCap,x]).run P w= .ok (.int .i64 0) w:=by
 cases ad<;>simp[Builtin.copy_,run_underlying hu,sizeOf,typeInfo,hi,hlen,kM,goInt,storeCells]
theorem al.same(hB:al C A β st a w)(hd:∀t,dst=some t->t<st.n){k:Nat}(hk:st.h k=some ab)(h:aa w A β v r):
  al C A β (st.put dst {cond:=c,res:=r,gb:=[(k,ab)]}) (a.put dst v) w:=by
 refine hB.step (out:={cond:=c,res:=r,gb:=[(k,ab)]}) hd (by simp[ai]) ?_ (λ_ _=>rfl) (bG.refl w A) rfl rfl rfl (Nat.le_refl _) (λ_ _ _=>rfl) hB.bound (λb h=>.inl h) ?_ (by simp[ai]) (by simp[ai]) (by simp[ai]) h;grind[gn];intro j b h _;obtain⟨rfl,rfl⟩:=gn h;exact hB.blocks _ _ hk
theorem xZ(n:Nat)(h:n<=maxLen):aa w A β (.int .i64 (n:Int)) (.int .i64 (n:Int)):=by
 simp[aa,lo,hi,true_and];grind[maxLen]
theorem Jc(hB:al C A β st a w)(hd:∀t,dst=some t->t<st.n){k e:Nat}{row:M Ty}{l m':M (Row row)}(hk:st.h k=some (.row e row l false)){b cap:Nat}(bI:β k= .slice (some ⟨b,0,none⟩) l.length cap)
  {cs:M Value} (ep:dn (bw w A row) cs m') (KT:off+m'.length<=l.length) (uD:∀w',aa w' A β v r) {cur:Array Value} (hg:w.heap[b]? =some (.cells cur e (0,0)))
  (dH:cur.size=cap*row.length) (hle:l.length<=cap) (DZ:cap<=maxLen) (hL:dn (bw w A row) (cur.toList.take (l.length*row.length)) l) (kK:¬A b):
  Rel C (st.put dst {cond:=c,res:=r,gb:=[(k,.row e row (l.take off++m'++l.drop (off+m'.length)) false)]}) (a.put dst v)
   (w.setRow b (cur.toList.take (off*row.length)++cs++cur.toList.drop (off*row.length+cs.length)).toArray):=by
 have hb:ah (β k)=some b:=by rw[bI];rfl
 have hlen:=gC m' cs ep;have hlr:l.length*row.length<=cur.size:=by simp_all[H?]
 have ì:off*row.length+cs.length<=l.length*row.length:=by rw[hlen,<-n?];simp_all[H?]
 refine hB.write hd (k:=k) (fz:=[]) (ab:=.row e row _ false) x! hb kK hg ⟨rfl,rfl,rfl⟩ z! ?_ (uD _);intro A2 h1 h2 h3;have hK:bG w (w.setRow b (cur.toList.take (off*row.length)++cs++cur.toList.drop (off*row.length+cs.length)).toArray) A A2:=λb' eO=>⟨h1 b' eO,setRow_other w b b' _ (λh'=>kK (h'▸eO))⟩;have Xt:(l.take off++m'++l.drop (off+m'.length)).length=l.length:=by grind
 have hns:(cur.toList.take (off*row.length)++cs++cur.toList.drop (off*row.length+cs.length)).toArray.size=cur.size:=by grind
 refine⟨_,⟨?_,.inr ⟨b,cap,_,x!,w!,setRow_heap w b cur _ e _ hg,w!,DZ,hns.trans dH,rfl⟩⟩,?_,λb' eO=>?_⟩;grind;rw[Xt]
 have MA:(cur.toList.take (off*row.length)++cs++cur.toList.drop (off*row.length+cs.length)).take (l.length*row.length)=
   (cur.toList.take (l.length*row.length)).take (off*row.length)++cs++(cur.toList.take (l.length*row.length)).drop ((off+m'.length)*row.length):=by
  rw[List.take_take,Nat.min_eq_left w!,List.take_append,i? (by simp;omega),n?,<-hlen,List.drop_take];congr 1
  congr 1
  simp;omega
 have e1:(cur.toList.take (off*row.length)++cs++cur.toList.drop (off*row.length+cs.length)).toArray.toList=cur.toList.take (off*row.length)++cs++cur.toList.drop (off*row.length+cs.length):=by simp
 rw[e1,MA];have s1:=fI l _ off hL;have s2:=fI l _ (off+m'.length) hL;exact bx (λc x hx=>br hK row c x hx) _ _ (jd _ _ _ _ (jd _ _ _ _ s1.1 ep) s2.2);grind
theorem Xx(hT:bz T P)(hB:al C A β st a w)(hd:∀t,dst=some t->t<st.n){s:AV}(hs:aa w A β vs s)(hx:aa w A β vx x)
  (h:uA T st.h t t' s x=some out) (hc:∀p∈out.cond,p):∃v' w',(Builtin.copy_ #[t,t'] ty #[vs,vx]).run P w= .ok v' w'/\Rel C (st.put dst out) (a.put dst v') w':=by
 unfold uA at h;split at h
 . rename_i k;split at h
   . rename_i e row l hk;cases hq:aV T t row.length with
     |false=>grind
     |true=>
      simp only[hq,cond_true] at h;obtain⟨el,i,hu,hi,dH,lF⟩:=fe hT hq;split at h;rename_i m hm;simp only[Option.some.injEq] at h;subst h;obtain⟨cs,iG⟩:=Mz (P:=P) hB hx hm;simp only[aa] at hs;obtain⟨rfl,_⟩:=hs;rcases iE hB hk with⟨g1,g2⟩|⟨b,cap,cur,g1,g2,g3,g4,g5,g6,g7⟩;subst g2;have hf:=iG.first w rfl 0 (Nat.zero_le _);rw[g1];refine⟨_,_,Bv (ty:=ty) hu hi iG.len x!,?_⟩;have:=hB.same (dst:=dst) hd (c:=[]) (r:=.int .i64 0) (v:=.int .i64 0) hk (by simp[aa,lo,Vg.hi]);grind[Rel.jl];simp only[Bool.false_eq_true,if_false] at g7;have hn:min m.length l.length<=m.length:=Nat.min_le_left _ _;have hf:=iG.first w rfl _ hn;have Er:=(fI m cs (min m.length l.length) iG.rd).1;have hlen:=gC _ _ Er;have Um:(m.take (min m.length l.length)).length=min m.length l.length:=by simp
      have hr:=Nw (P:=P) (ty:=ty) (t':=t') (dLen:=l.length) (dCap:=cap) (off:=0) hu hi g2 iG.len x! (xV _ _ Er) (by
       rw[hlen,Um,g5];have :min m.length l.length*row.length<=cap*row.length:=H? _ w!;omega)
      rw[g1];refine⟨_,_,hr,?_⟩;have Xy:=Jc hB hd hk g1 (off:=0) (c:=[]) Er w! (λw'=>xZ (w:=w') (min m.length l.length) w!) g2 g5 g3 g4 g6 g7
      have e1:m.take l.length++l.drop m.length=l.take 0++m.take (min m.length l.length)++l.drop (0+(m.take (min m.length l.length)).length):=by
       rw[Um];rcases Nat.le_total m.length l.length with hh|hh;grind;simp_all
      grind;grind
   grind
 . rename_i k sz off n;split at h
   . rename_i e row l hk;cases hq:(aV T t row.length&&Nat.beq sz row.length) with
     |false=>grind
     |true=>
      simp only[hq,cond_true] at h;simp only[Bool.and_eq_true] at hq;obtain⟨q1,q2⟩:=hq;have q2:=Nat.eq_of_beq_eq_true q2;subst q2;obtain⟨el,i,hu,hi,dH,lF⟩:=fe hT q1;split at h;rename_i m hm;simp only[Option.some.injEq] at h;subst h;obtain⟨cs,iG⟩:=Mz (P:=P) hB hx hm;have hon:=eD hc;simp only[aa] at hs;rcases hs with⟨hn0,ad,cap,hv,za⟩|⟨b',mm,jM,Fj,hv,Xi,aJO,aJP,aJQ⟩;subst hn0;have hf:=iG.first w rfl 0 (Nat.zero_le _);simp only[Nat.zero_mul,List.take_zero] at hf;rw[hv];refine⟨_,_,Bv (ty:=ty) hu hi iG.len x!,?_⟩;have:=hB.same (dst:=dst) hd (c:=[off+0<=l.length]) (r:=.int .i64 0) (v:=.int .i64 0) hk (by simp[aa,lo,Vg.hi]);simpa using Rel.jl this;rcases iE hB hk with⟨g1,g2⟩|⟨b,cap,cur,g1,g2,g3,g4,g5,g6,g7⟩;grind;rw[g1] at hv;obtain⟨rfl,rfl,rfl⟩:=hv;have hn:min m.length n<=m.length:=Nat.min_le_left _ _;have hf:=iG.first w rfl _ hn;have Er:=(fI m cs (min m.length n) iG.rd).1;have hlen:=gC _ _ Er;have Um:(m.take (min m.length n)).length=min m.length n:=by simp
      have hr:=Nw (P:=P) (ty:=ty) (t':=t') (dLen:=n) (dCap:=Fj) (off:=off*row.length) hu hi g2 iG.len x! (xV _ _ Er) (by
       rw[hlen,Um,g5,<-n?];exact H? _ w!)
      grind[Jc,xZ];grind
   grind
 grind
def ade:TypeDesc->Bool
 |.int _=>true
 |_=>false
def ya(T:bX)(h:aJ)(d:Nat)(t t':TypeId)(s x:AV):Option Out:=match nI T t,lP T t,s,x with
 |some e,some te,.own k,.int .i64 n=>match h k with
  |some (.row e' [.int .u8] l false)=>bif Nat.beq e' e&&(Nat.beq te.size 1&&(Nat.beq te.bytes 1&&(cY [.int .u8] te.zero&&cE T t' ade))) then
    some {cond:=[n=16,l.length+16<=140737488355328],res:=.own d,del:=[k],new:=[(d,.row e [.int .u8] (l++List.replicate 16 (Row.zero [.int .u8])) false)]}
   else none
  |_=>none
 |_,_,_,_=>none
theorem Nx{h':aJ}{s:AV}(hs:∀k,s= .own k->h' k=h k):ya T h' d t t' s x=ya T h d t t' s x:=by
 unfold ya;grind
def Xz(hT:bz T P)(hB:al C A β st a w)(hd:∀t,dst=some t->t<st.n)(gm:st.h d=none/\qQ d=false){s:AV}(hs:aa w A β vs s)(hx:aa w A β vx x)
  (h:ya T st.h d t t' s x=some out) (hc:∀p∈out.cond,p):∃v' w',(Builtin.append_ #[t,t'] ty #[vs,vx]).run P w= .ok v' w'/\Rel C (st.put dst out) (a.put dst v') w':=by
 unfold ya at h;split at h
 . rename_i e te k n he iO;split at h
   . rename_i e' l hk;cases hq:(Nat.beq e' e&&(Nat.beq te.size 1&&(Nat.beq te.bytes 1&&(cY [.int .u8] te.zero&&cE T t' ade)))) with
     |false=>grind
     |true=>
      rw[hq] at h;simp only[K!,A!] at h;subst h;simp only[B!] at hq;obtain⟨q0,q1,q2,q3,q4⟩:=hq;have q0:=D! q0;have q1:=D! q1;have q2:=D! q2;subst q0;obtain⟨hu,Bq,i,hi,qX,Md,Fl⟩:=sD hT he iO;obtain⟨d',mV,qR⟩:=nd hT q4;have c1:n=16:=hc _ (G! ..);have c2:l.length+16<=140737488355328:=hc _ (F! _ (G! ..));subst c1;have hz:=se (w:=w) (A:=A) q3;have hzl:=hZ [.int .u8] _ _ hz;have Rq:te.zero.cells.size=1:=by omega
      have hE:GW P t t e' 1 1 te.zero:=⟨hu,⟨_,hu,.inr ⟨_,rfl⟩⟩,⟨i,hi,w!,w!,Fl⟩,Rq,w!⟩
      have hint:∃k,P.underlying t'=some (.int k):=by
       cases d' with
       |int k=>grind
       |_=>cases qR
      obtain⟨k',sE⟩:=hint
      have lT:(Builtin.zeroCells te.zero.cells 16).toList=(List.replicate 16 te.zero.cells.toList).flatten:=by
       have:=nO te.zero.cells w! 16;simp_all[Builtin.zeroCells]
      have qf:dn (bw w A [.int .u8]) (Builtin.zeroCells te.zero.cells 16).toList (List.replicate 16 (Row.zero [.int .u8])):=by
       grind[qk]
      obtain⟨rfl,_⟩:=hs;obtain⟨rfl,_⟩:=hx;obtain⟨xs,o1,o2,o3⟩:=GY hB hk;have jv:=xV _ _ qf;obtain⟨v',w',g1,g2,g3,g4⟩:=I8 (ty:=ty) hE sE o1 jv (by grind[maxLen]) w!;rw[tN (ib o1)] at g3;exact⟨v',w',g1,Rel.jl (hB.newRow hd gm (rw:=ah (β k)) g3 (λb hb=>⟨k,by simp[aq],x!,hb⟩) o3 x! (jd l _ xs _ o2 qf) (λb hb=>g4 b hb))⟩
   grind
 grind
def XA {e:TypeId}(hu:P.underlying t=some (.slice e))(hi:P.info? e=some i){z:Value}(hz:i.zero=some z){b n:Nat}{cur:Array Value}{be:TypeId}(hg:w.heap[b]? =some (.cells cur be (0,0)))
  {cs:M Value} (ep:(Builtin.zeroCells z.cells n).toList=cs) (h1:∀u∈cs,u.oneCell'=true) (KT:off+cs.length<=cur.size) (hn:0<n):
  (Builtin.clear_ #[t] ty #[.slice (some ⟨b,off,none⟩) n cap]).run P w= .ok (.tuple #[]) (w.setRow b (cur.toList.take off++cs++cur.toList.drop (off+cs.length)).toArray):=by
 have pX:=run_storeCells_at P b off be cs 0 cur w hg w! h1;obtain⟨m,rfl⟩:∃m,n=m+1:=⟨n-1,w!⟩;simp_all[Builtin.clear_,run_underlying,zeroValue,typeInfo,hi]
theorem Ut(hT:bz T P)(hB:al C A β st a w)(hd:∀t,dst=some t->t<st.n)(hx:aa w A β vx x)
  (h:uk T st.h t x=some out) (hc:∀p∈out.cond,p):∃v' w',(Builtin.clear_ #[t] ty #[vx]).run P w= .ok v' w'/\Rel C (st.put dst out) (a.put dst v') w':=by
 have alS:∀w',aa w' A β (.tuple #[]) (.bc []):=λw'=>by simp only[aa];exact⟨#[],rfl,by rfl⟩
 unfold uk at h;split at h
 . rename_i k sz off n;split at h
   . rename_i e row l hk;split at h
     . rename_i el te he iO;obtain⟨hu,Bq,i,hi,qX,Md,Fl⟩:=sD hT he iO;cases hq:(aV T t row.length&&Nat.beq sz row.length&&Nat.beq row.length te.size&&cY row te.zero) with
       |false=>grind
       |true=>
        simp only[hq,cond_true,Option.some.injEq] at h;subst h;simp only[Bool.and_eq_true] at hq;obtain⟨⟨⟨q0,q1⟩,q2⟩,q3⟩:=hq;have q1:=Nat.eq_of_beq_eq_true q1;have q2:=Nat.eq_of_beq_eq_true q2;subst q1;obtain⟨el',i',mV,fN,aPz,lF⟩:=fe hT q0;have hz:=se (w:=w) (A:=A) q3;have hzl:=hZ row _ _ hz;have Rq:te.zero.cells.size=te.size:=by grind
        rcases hx with⟨hn0,ad,cap,hv,za⟩|⟨b',mm,jM,Fj,hv,Xi,aJO,aJP,aJQ⟩;subst hn0;rw[hv];refine⟨.tuple #[],w,by cases ad<;>simp[Builtin.clear_,run_underlying hu],?_⟩;have:=hB.same (dst:=dst) hd (c:=[off+0<=l.length]) (r:=.bc []) (v:=.tuple #[]) hk (alS w);simpa using Rel.jl this;rcases iE hB hk with⟨g1,g2⟩|⟨b,cap,cur,g1,g2,g3,g4,g5,g6,g7⟩;grind;rw[g1] at hv;obtain⟨rfl,rfl,rfl⟩:=hv
        have lT:(Builtin.zeroCells te.zero.cells n).toList=(List.replicate n te.zero.cells.toList).flatten:=by
         have:=nO te.zero.cells w! n;simp_all[Builtin.zeroCells]
        have Er:=qk hz n;have hlen:=gC _ _ Er;rw[List.length_replicate] at hlen;rw[Xi];by_cases hn:n=0;subst hn;refine⟨.tuple #[],w,by simp[Builtin.clear_,run_underlying hu],?_⟩;have:=hB.same (dst:=dst) hd (c:=[off+0<=l.length]) (r:=.bc []) (v:=.tuple #[]) hk (alS w);simpa using Rel.jl this
        have hr:=XA (P:=P) (ty:=ty) (n:=n) (cap:=Fj) (off:=off*row.length) hu hi Fl g2 lT (xV _ _ Er) (by
         rw[hlen,g5,<-n?];exact H? _ w!) w!
        refine⟨_,_,hr,?_⟩;have Xy:=Jc hB hd hk g1 (off:=off) (c:=[off+n<=l.length]) (r:=.bc []) (v:=.tuple #[]) Er (by rw[List.length_replicate];omega) alS g2 g5 g3 g4 g6 g7;rw[List.length_replicate] at Xy;exact Xy
     grind
   grind
 grind
def G8:∀(u:B8) (cs:M Value),dn (bw w A [.int .u8]) cs u->cs=u.map λb=>Value.int .u8 (b.toNat:Int)
 |[],cs,h=>by grind[dn]
 |b::u,cs,⟨c1,c2,hc,h1,h2⟩=>by
  subst hc;obtain⟨v,vs,rfl,h3,rfl⟩:=h1;rw[G8 u c2 h2];simp;exact h3.1
def foldl_push:∀(u:B8) (r:ByteArray),(u.map λb=>(b.toNat:Int)).foldl (λr n=>r.push (UInt8.ofNat n.toNat)) r=⟨(r.data.toList++u).toArray⟩
 |[],r=>by simp
 |b::u,r=>by
  simp;rw[foldl_push u];simp
def Bw(hB:al C A β st a w){x:AV}(hx:aa w A β v x){u:B8}(h:ow st.h [.int .u8] x=some u)(KW:∀n c,v= .slice none n c->n=0)(G9:∃ad n c,v= .slice ad n c):
  (Conv.bytesToString v).run P w= .ok (.string ⟨u.toArray⟩) w/\u.length<=maxLen:=by
 obtain⟨cs,iG⟩:=Mz (P:=P) hB hx h;have ep:=G8 u cs iG.rd;obtain⟨ad,n,c,rfl⟩:=G9
 have hn:n=u.length:=by
  have:=iG.len;simp_all[Builtin.lenOf]
 refine⟨?_,iG.max⟩;cases ad with
 |none=>
  have:=KW n c rfl;have hu:u=[]:=U! w!;subst hu;rfl
 |some p=>
  have hf:=iG.first w rfl u.length (P! _);have hl:=gC (row:=[.int .u8]) u cs iG.rd;rw[<-hl,List.take_length] at hf
  have aDh:(loadCells p n).run P w= .ok ((u.map λb=>(b.toNat:Int)).map (Value.int .u8)).toArray w:=by
   simp_all[Builtin.firstCells,u?]
  rw[run_bytesToString w p n c _ aDh,foldl_push];simp
def Bx(hB:al C A β st a w)(hd:∀t,dst=some t->t<st.n){e:TypeId}(hu:u.length<=maxLen):
  ∃v' w',(Conv.stringToBytes e ⟨u.toArray⟩).run P w= .ok v' w'/\Rel C (st.put dst {cond:=c,res:=.sl [.int .u8] u}) (a.put dst v') w':=by
 let cap:=grownCap w u.length 0 e
 have Sb:u.length<=cap:=grownCap_ge w u.length 0 e;have za:cap<=maxLen:=grownCap_le_maxLen w u.length 0 e hu;let arr:Array Value:=(u.map λb=>Value.int .u8 (b.toNat:Int)).toArray++Array.replicate (cap-u.length) (.int .u8 0)
 let w':World:=(w.drew.alloc (.cells arr e)).freeze ⟨w.heap.size,arr.size,none⟩ 1
 have gI:(Conv.stringToBytes e ⟨u.toArray⟩).run P w= .ok (.slice (some ⟨w.heap.size,0,none⟩) u.length cap) w':=by
  have Uu:(w.drew.alloc (.cells arr e)).shape? w.heap.size=some (e,arr.size):=by
   have:=heap_alloc_new w.drew (.cells arr e);simp_all[World.shape?]
  have h1:(⟨u.toArray⟩:ByteArray).size=u.length:=Bk u;simp only[Conv.stringToBytes,Sem.run_bind,run_choose,Question.forced,b?,s?,Result.andThen_ok,h1,newRow,run_newObj,Sem.run_pure,markStringish,run_shape];have hg:(Question.appendCap u.length 0 e).cut (w.tape w.drawn (Question.appendCap u.length 0 e))=cap:=rfl;rw[hg]
  have Ha:Array.map (λb:UInt8=>Value.int IntKind.u8 (b.toNat:Int)) u.toArray++Array.replicate (cap-u.length) (Value.int IntKind.u8 0)=arr:=by
   grind
  rw[Ha];have hw2:({heap:=w.heap.push (Obj.cells arr e),tape:=w.tape,drawn:=w.drawn+1,os:=w.os,output:=w.output}:World)=w.drew.alloc (.cells arr e):=rfl;grind[run_freeze,Result.andThen_ok]
 have sd:∀b,b<w.heap.size->w'.heap[b]? =w.heap[b]? :=by
  intro b hb;have h2:(w.drew.alloc (.cells arr e)).heap[b]? =w.heap[b]? :=ej (w:=w.drew) _ b hb;simp only[w',World.freeze,Nat.one_ne_zero,if_false,Array.getElem?_modify];grind
 have fD:∃fz,w'.heap[w.heap.size]? =some (.cells arr e fz):=by
  have h2:(w.drew.alloc (.cells arr e)).heap[w.heap.size]? =some (.cells arr e):=heap_alloc_new w.drew _;simp only[w',World.freeze,Nat.one_ne_zero,if_false,Array.getElem?_modify,if_true,h2,Option.map_some];grind
 have qd:w'.heap.size=w.heap.size+1:=by
  have :(w.drew.alloc (.cells arr e)).heap.size=w.heap.size+1:=by simp
  simp only[w',World.freeze,Nat.one_ne_zero,s?,Array.size_modify];omega
 let A':Nat->Prop:=λb=>A b\/b=w.heap.size
 have hK:bG w w' A A':=λb hb=>⟨.inl hb,sd b (hB.bound b hb)⟩;refine⟨_,w',gI,A',β,?_⟩;refine hB.step (out:={cond:=c,res:=.sl [.int .u8] u}) hd (by simp[ai]) (by simp[ai]) (λ_ _=>rfl) hK rfl rfl rfl w! (λb hb _=>sd b hb) ?_ ?_ (by simp[ai]) (by simp[ai]) (by simp[ai]) (by simp[ai]) ?_;intro b hb;rcases hb with hb|rfl;have:=hB.bound b hb;omega;omega;grind;refine⟨_,cap,_,rfl,Sb,za,Np u,λ_=>⟨w.heap.size,0,rfl,.inr rfl,λj v hj=>?_⟩⟩;simp only[World.cell?,fD,Nat.zero_add];grind
theorem alT {row:M Ty}{n c:Nat}{l:M (Row row)}(h:Rd w A (.slice row) (.slice none n c) l)(hp:0<row.length):n=0:=by
 obtain⟨ad,cap,cs,h1,h2,h3,h4,h5⟩:=h;obtain⟨rfl,rfl,rfl⟩:=h1;grind[gC,List.length_nil,Nat.mul_eq_zero]
def ï(hB:al C A β st a w)(hx:aa w A β v x)(hn:yU x=true)(h:ow st.h [.int .u8] x=some u):
  (∃ad n c,v= .slice ad n c)/\∀n c,v= .slice none n c->n=0:=by
 have G9:∀ {row:M Ty} {l:M (Row row)},row=[.int .u8]->Rd w A (.slice row) v l->(∃ad n c,v= .slice ad n c)/\∀n c,v= .slice none n c->n=0:=by
  grind[y8,Value.slice.injEq,alT]
 unfold ow at h;split at h;grind[yU];simp[aa] at hx;grind
 . cases x with
   |sl r l=>
    obtain⟨e,_⟩:=jm h;exact G9 e hx
   |full r l=>
    grind[ja,jm,aa]
   |own k=>
    grind[ja,aa,pf,Value.slice.injEq]
   |pre k n=>
    simp[aa] at hx;grind
   |view k sz off n=>
    grind[aa]
   |_=>grind[ja]
def alU(P:Program)(C:Ctx)(st:St)(a:Act)(w:World)(d:Option Nat)(out:Out)(s:Sem Value):Prop:=∃v w',s.run P w= .ok v w'/\Rel C (st.put d out) (a.put d v) w'
theorem Reads.uG(hB:al C A β st a w)(hd:∀t,dst=some t->t<st.n){s:Sem Value}(h:Reads P A β w s out):alU P C st a w dst out s:=
 let⟨hq,v,h1,h2⟩:=h
 ⟨v,w,h1,Rel.jl (hB.quiet hd hq h2)⟩
theorem ð(hT:bz T P)(hB:al C A β st a w)(hd:∀t,dst=some t->t<st.n){d:TypeId}{k:Nat}(hx:aa w A β v (.own k))
  (h:Dh T st.h s d k=some out) (hc:∀p∈out.cond,p):alU P C st a w dst out (convert s d v):=by
 unfold Dh at h;cases hsd:Nat.beq s d with
 |false=>grind
 |true=>
  have hsd:=D! hsd;subst hsd;simp at h;split at h;rename_i ts Jd;have D3:=nc hT Jd;split at h;rename_i e By;rw[By] at D3;split at h;rename_i te e0 row l iO hk;have hue:=nc hT iO;split at h;rename_i l' ñ mD;rw[ñ] at hue;obtain⟨he,hl⟩:=jm mD;subst he;simp only at hl;subst hl;simp at h;subst h;have lF:0<l.length:=eD hc;obtain⟨xs,ho,qf,kK⟩:=hB.blocks k _ hk;rcases ho.2 with⟨_,h0⟩|⟨g,cap,cur,hv,_,hg,hn,Sb,dH,Bo⟩;omega;have Ue:ah (β k)=some g:=by rw[hv];rfl
  have aJR:¬A g:=by grind
  have aPA:g<w.heap.size:=(M!.1 hg).1;rw[hx.1,hv];let w':World:=w.freeze ⟨g,cur.size,none⟩ 1
  have Uu:w.shape? g=some (e0,cur.size):=by grind[World.shape?]
  have gI:(convert s s (.slice (some ⟨g,0,none⟩) l.length cap)).run P w= .ok (.slice (some ⟨g,0,none⟩) l.length cap) w':=by
   simp only[convert,Sem.run_bind,run_underlying D3,run_underlying hue,Result.andThen_ok,beq_self_eq_true,markStringish,run_shape,Uu,run_freeze,Sem.run_pure];rfl
  have sd:∀b,b≠g->w'.heap[b]? =w.heap[b]? :=by
   intro b hb;simp only[w',World.freeze,Nat.one_ne_zero,if_false,Array.getElem?_modify];grind
  have fD:∃fz,w'.heap[g]? =some (.cells cur e0 fz):=by
   simp only[w',World.freeze,Nat.one_ne_zero,if_false,Array.getElem?_modify,if_true,hg,Option.map_some];grind
  obtain⟨fz,fD⟩:=fD;have qd:w'.heap.size=w.heap.size:=by simp only[w',World.freeze,Nat.one_ne_zero,s?,Array.size_modify]
  have hK:bG w w' A (λb=>A b\/b=g):=λb hb=>⟨.inl hb,sd b (λh=>aJR (h▸hb))⟩;have aJS:oI st {cond:=[0<l.length],res:=.sl [.int .u8] l,del:=[k]} k:=⟨x!,.inr (by simp[aq])⟩;refine⟨_,w',gI,λb=>A b\/b=g,β,?_⟩;refine hB.step (out:={cond:=[0<l.length],res:=.sl [.int .u8] l,del:=[k]}) hd (by simp[ai]) (by simp[ai]) (λ_ _=>rfl) hK rfl rfl rfl w! (λb hb hnt=>sd b (λh=>hnt k aJS x!)) ?_ ?_ (by simp[ai]) (by simp[ai]) (by simp[ai]) (by simp[ai]) ?_;intro b hb;rcases hb with hb|rfl;have:=hB.bound b hb;omega;omega;grind;refine⟨_,cap,xs,rfl,hn,Sb,bx (λc x hx=>br hK _ c x hx) _ _ qf,λ_=>⟨g,0,rfl,.inr rfl,λj u hj=>?_⟩⟩;rw[<-Bo,List.getElem?_take] at hj;simp_all[World.cell?,Nat.zero_add,Option.isSome_none,Bool.false_eq_true,if_false]
  grind;grind;grind;grind
def Ny(hT:bz T P)(hB:al C A β st a w)(hd:∀t,dst=some t->t<st.n){d:TypeId}(hx:aa w A β v x)
  (h:pH T st.h s d x=some out) (hc:∀p∈out.cond,p):alU P C st a w dst out (convert s d v):=by
 unfold pH at h;split at h;rename_i ts td Jd htd;have D3:=nc hT Jd;have hud:=nc hT htd;split at h;rename_i k0 k k' n By Fg;rw[By] at D3;rw[Fg] at hud;simp only[aa] at hx;obtain⟨rfl,hn⟩:=hx
 have gI:(convert s d (.int k' n)).run P w= .ok (.int k (k.wrap n)) w:=by
  simp_all[convert,run_underlying,Conv.intToInt]
 split at h;rename_i hr;simp only[A!] at h;subst h;have XB:lo k<=n/\n<=hi k:=by omega
 rw[Bj XB] at gI;exact Reads.uG hB hd ⟨⟨rfl,rfl,rfl⟩,_,gI,by simp_all[aa,trivial]⟩;obtain⟨hq,hr,_⟩:=rn (w:=w) (A:=A) (β:=β) h hc;exact Reads.uG hB hd ⟨hq,_,gI,hr⟩;rename_i u By Fg;rw[By] at D3;rw[Fg] at hud;simp only[Option.some.injEq] at h;subst h;have D1:=hx;simp only[aa] at hx;exact Reads.uG hB hd ⟨⟨rfl,rfl,rfl⟩,_,by simp_all[convert,run_underlying],D1⟩;rename_i e u By Fg;rw[By] at D3;rw[Fg] at hud;simp only[aa] at hx;obtain⟨rfl,hn⟩:=hx;split at h;rename_i te iO;have hue:=nc hT iO;split at h;rename_i ñ;rw[ñ] at hue;simp only[Option.some.injEq] at h;subst h;obtain⟨v',w',h1,h2⟩:=Bx (P:=P) hB hd (e:=e) hn (c:=[]);exact⟨v',w',by simp_all[convert,run_underlying],h2⟩;grind;grind;rename_i e By Fg;rw[By] at D3;rw[Fg] at hud;split at h;rename_i te iO;have hue:=nc hT iO;split at h;rename_i ñ;rw[ñ] at hue;split at h;rename_i u hns hu;simp only[Option.some.injEq] at h;subst h;have hvs:=ï hB hx hns hu;obtain⟨h1,h2⟩:=Bw (P:=P) hB hx hu hvs.2 hvs.1;obtain⟨ad,n,c,rfl⟩:=hvs.1;refine Reads.uG hB hd ⟨⟨rfl,rfl,rfl⟩,.string ⟨u.toArray⟩,?_,by simp_all[aa,trivial]⟩;simp_all[convert,run_underlying]
 grind;grind;grind;grind[ð];grind;grind
structure my (w:World) (A:Nat->Prop) (w':World) (v:Value) (res:AV) (bs:List AB) (A':Nat->Prop) (az:Nat->Value):Prop where
 os:w'.os=w.os
 tape:w'.tape=w.tape
 output:w'.output=w.output
 size:w.heap.size<=w'.heap.size
 same:∀b,b<w.heap.size->w'.heap[b]? =w.heap[b]?
 mono:∀b,A b->A' b
 fk:∀b,b<w.heap.size->A' b->A b
 bound:∀b,A' b->b<w'.heap.size
 res:aa w' A' az v res
 rows:∀i ab,bs[i]? =some ab->BR w' A' az i ab/\∀b,ah (az i)=some b->w.heap.size<=b
 apart:∀i j b,i<bs.length->j<bs.length->ah (az i)=some b->ah (az j)=some b->i=j
def Valid(P:Program)(G:Nat->Option GD)(f:FuncId)(s:Ub):Prop:=
 ∀(w:World) (A:Nat->Prop) (β:Nat->Value) (args:M Value) (bj:M AV) (pre:Prop) (res:AV) (bs:M AB),
  (∀b,A b->b<w.heap.size)->(∀i d,G i=some d->nb w A i d)->ae w A β args bj->s bj=some (pre,res,bs)->pre->
  Calls P f args.toArray w λe w'=>∃v,e= .returned v/\∃A' az,my w A w' v res bs A' az
def HM(β:Nat->Value)(n b:Nat):Prop:=∃i,i<n/\ah (β (50000+i))=some b
def Bz(r:bl)(k:Nat):Prop:=(∃i ab,k=50000+i/\i<10000/\r.heap[i]? =some (some ab))\/∃j,k=60000+j/\j<r.new.length
structure Je (w:World) (A:Nat->Prop) (β:Nat->Value) (n:Nat) (w':World) (v:Value) (r:bl) (A':Nat->Prop) (az:Nat->Value):Prop where
 os:w'.os=w.os
 tape:w'.tape=w.tape
 output:w'.output=w.output
 size:w.heap.size<=w'.heap.size
 same:∀b,b<w.heap.size->¬HM β n b->w'.heap[b]? =w.heap[b]?
 mono:∀b,A b->A' b/\w'.heap[b]? =w.heap[b]?
 fk:∀b,b<w.heap.size->A' b->A b\/HM β n b
 bound:∀b,A' b->b<w'.heap.size
 res:aa w' A' az v r.res
 kept:∀i ab,r.heap[i]? =some (some ab)->BR w' A' az (50000+i) ab/\az (50000+i)=β (50000+i)
 rows:∀j ab,r.new[j]? =some ab->BR w' A' az (60000+j) ab/\∀b,ah (az (60000+j))=some b->w.heap.size<=b\/HM β n b
 apart:∀k k' b,Bz r k->Bz r k'->ah (az k)=some b->ah (az k')=some b->k=k'
def aI(P:Program)(G:Nat->Option GD)(f:FuncId)(s:eC):Prop:=
 ∀(w:World) (A:Nat->Prop) (β:Nat->Value) (args:M Value) (bj:M AV) (hs:M AB) (r:bl),
  (∀b,A b->b<w.heap.size)->(∀i d,G i=some d->nb w A i d)->ae w A β args bj->
  (∀i ab,hs[i]? =some ab->BR w A β (50000+i) ab)->(∀i j b,i<hs.length->j<hs.length->ah (β (50000+i))=some b->ah (β (50000+j))=some b->i=j)->
  s bj hs=some r->r.pre->r.heap.length=hs.length->hs.length<=100->
  Calls P f args.toArray w λe w'=>∃v,e= .returned v/\∃A' az,Je w A β hs.length w' v r A' az
theorem Nz {β az:Nat->Value}:∀(cs:M AV) (vs:M Value),cs.all Nb=true->ae w A β vs cs->ae w A az vs cs
 |[],vs,_,h=>by grind[ae]
 |c::cs,vs,ho,h=>by
  simp only[List.all_cons,Bool.and_eq_true] at ho;obtain⟨v,bY,rfl,h1,h2⟩:=h;refine⟨v,bY,rfl,?_,Nz cs bY ho.2 h2⟩;have Uv:=ho.1;unfold Nb at Uv;split at Uv;simpa only[aa,ae] using h1;cases Uv
def Sc {β az:Nat->Value}:∀(cs:M AV) (vs:M Value),cs.all alC=true->ae w A β vs cs->ae w A az vs cs
 |[],_,_,h=>h
 |.cz _ _ _::cs,_,ho,h=>by
   obtain⟨v,bY,rfl,h1,h2⟩:=h;exact⟨v,bY,rfl,h1,Sc cs bY ho h2⟩
mutual
theorem zd(base n:Nat)(bI:∀i,i<n->az (base+i)=β i):∀(x:AV) (v:Value),lQ n x=true->aa w A β v x->aa w A az v (eo base x)
 |.own k,v,ho,h=>by
   simp only[lQ] at ho;have:=L! ho;simp only[eo,aa] at h |-;rw[bI k w!];exact h
 |.agg cs,v,ho,h=>by
   simp only[lQ] at ho;simp only[eo,aa] at h |-;obtain⟨arr,h1,h2⟩:=h;exact⟨arr,h1,BA base n bI cs _ ho h2⟩
 |.bc cs,v,ho,h=>by
   simp only[lQ] at ho;simp only[eo,aa] at h |-;obtain⟨arr,h1,h2⟩:=h;exact⟨arr,h1,BA base n bI cs _ ho h2⟩
 |.cM,v,ho,h=>by simp[lQ] at ho
 |.pre _ _,v,ho,h|.view _ _ _ _,v,ho,h|.ref _ _,v,ho,h|.elem _ _ _ _,v,ho,h=>by simp[lQ] at ho
 |.fn _ l m,v,ho,h=>by
   simp only[lQ,B!,List.isEmpty_iff] at ho;obtain⟨rfl,ho⟩:=ho;obtain⟨a1,a2,h1,h2,h3⟩:=h;exact⟨a1,a2,h1,h2,Sc m _ ho h3⟩
 |.cz _ _ _,v,ho,h=>by simp[lQ] at ho
 |.undef,v,_,h|.int _ _,v,_,h|.bool _,v,_,h|.tt,v,_,h|.ff,v,_,h|.str _,v,_,h|.nil,v,_,h|.kY,v,_,h|.qV _ _,v,_,h|.mf,v,_,h=>by simpa only[eo,aa] using h
 |.iA ks cs,v,ho,h=>by
   simp only[lQ] at ho;simp only[eo,aa] at h |-;obtain⟨b,es,ck,h1,h2,h3,h4,h5⟩:=h;exact⟨b,es,ck,h1,h2,h3,h4,Nz cs _ ho h5⟩
 |.sl _ _,v,_,h|.full _ _,v,_,h=>by simpa only[eo,aa] using h
theorem BA(base n:Nat)(bI:∀i,i<n->az (base+i)=β i):∀(xs:M AV) (vs:M Value),GG n xs=true->ae w A β vs xs->ae w A az vs (um base xs)
 |[],vs,_,h=>by simpa only[um,ae] using h
 |x::xs,vs,ho,h=>by
  simp only[GG,B!] at ho;simp only[ae] at h;obtain⟨v,bY,rfl,h1,h2⟩:=h;simp only[um,ae];exact⟨v,bY,rfl,zd base n bI x v ho.1 h1,BA base n bI xs bY ho.2 h2⟩
end
mutual
theorem NA:∀(x:AV) (v:Value),x.gl=true->aa w A β v x->aa w A' β v x
 |.own _,v,_,h=>by simpa only[aa] using h
 |.agg cs,v,ho,h=>by
   simp only[AV.gl] at ho;simp only[aa] at h |-;obtain⟨arr,h1,h2⟩:=h;exact⟨arr,h1,BB cs _ ho h2⟩
 |.bc cs,v,ho,h=>by
   simp only[AV.gl] at ho;simp only[aa] at h |-;obtain⟨arr,h1,h2⟩:=h;exact⟨arr,h1,BB cs _ ho h2⟩
 |.cM,v,ho,h=>by simp[AV.gl] at ho
 |.pre _ _,v,ho,h|.view _ _ _ _,v,ho,h|.ref _ _,v,ho,h|.elem _ _ _ _,v,ho,h|.fn _ _ _,v,ho,h|.cz _ _ _,v,ho,h=>by simp[AV.gl] at ho
 |.kY,v,ho,h=>by simp[AV.gl] at ho
 |.qV _ _,v,ho,h=>by simp[AV.gl] at ho
 |.mf,v,ho,h=>by simp[AV.gl] at ho
 |.iA _ _,v,ho,h|.sl _ _,v,ho,h|.full _ _,v,ho,h=>by simp[AV.gl] at ho
 |.undef,v,_,h|.int _ _,v,_,h|.bool _,v,_,h|.tt,v,_,h|.ff,v,_,h|.str _,v,_,h|.nil,v,_,h=>by simpa only[aa] using h
theorem BB:∀(xs:M AV) (vs:M Value),GF xs=true->ae w A β vs xs->ae w A' β vs xs
 |[],vs,_,h=>by simpa only[ae] using h
 |x::xs,vs,ho,h=>by
  simp only[GF,B!] at ho;simp only[ae] at h |-;obtain⟨v,bY,rfl,h1,h2⟩:=h;exact⟨v,bY,rfl,NA x v ho.1 h1,BB xs bY ho.2 h2⟩
end
def XC:∀(row:M Ty) (vs:M Value) (x:Row row),row.all My=true->bw w A row vs x->bw w A' row vs x
 |[],vs,_,_,h=>by grind[bw]
 |t::ts,vs,x,hf,h=>by
  simp only[List.all_cons,B!] at hf;obtain⟨v,bY,rfl,h1,h2⟩:=h;refine⟨v,bY,rfl,?_,XC ts bY _ hf.2 h2⟩;cases t with
  |slice r=>simp[My] at hf
  |int k=>simpa only[Rd] using h1
  |bool=>simpa only[Rd] using h1
  |str=>simpa only[Rd] using h1
def wy(base:Nat):∀(bs:M AB) (n k:Nat),ai (gO (base+n) bs) k=(if base+n<=k then bs[k-(base+n)]? else none)
 |[],n,k=>by simp[gO,ai]
 |b::bs,n,k=>by
  simp only[gO,ai];by_cases hk:k=base+n;simp_all
  simp;have:=wy base bs (n+1) k;grind
def Es:∀(bs:M AB) (i:Nat) (ab:AB),k8 bs=true->bs[i]? =some ab->∃e row l,ab= .row e row l false
 |[],i,ab,_,h=>by grind
 |.cells _::bs,_,_,h,_|.arr _ _::bs,_,_,h,_|.iy _ _ _ _ _::bs,_,_,h,_|.views _ _ _ _ _::bs,_,_,h,_=>by grind[k8]
 |.row e row l true ::bs,_,_,h,_=>by grind[k8]
 |.row e row l false ::bs,0,ab,_,h=>by grind
 |.row e row l false ::bs,i+1,ab,ho,h=>Es bs i ab (by grind[k8]) x!
def Et:∀(bs:M AB) (i e:Nat) (row:M Ty) (l:M (Row row)) (fr:Bool),dY bs=true->bs[i]? =some (.row e row l fr)->row.all My=true
 |[],i,_,_,_,_,_,h=>by grind
 |.cells _::bs,_,_,_,_,_,h,_|.arr _ _::bs,_,_,_,_,_,h,_|.iy _ _ _ _ _::bs,_,_,_,_,_,h,_|.views _ _ _ _ _::bs,_,_,_,_,_,h,_=>by grind[dY]
 |.row e row l fr::bs,0,e',mg,l',GK,ho,h=>by
   simp_all[dY,B!]
 |.row e row l fr::bs,i+1,e',mg,l',GK,ho,h=>by
   simp[dY,B!] at ho;exact Et bs i e' mg l' GK ho.2 (by simpa using h)
theorem lG {h:aJ}:∀(new:M (Nat×AB)) (k:Nat) (b:AB),jQ h new=true->ai new k=some b->h k=none/\qQ k=false
 |[],k,b,_,hf=>by grind[ai]
 |(j,x)::r,k,b,ho,hf=>by
  simp[jQ,Bool.and_eq_true] at ho;simp[ai] at hf;by_cases hk:k=j;grind;simp[aL hk,cond_false] at hf;exact lG r k b ho.2 hf
theorem al.call(hB:al C A β st a w)(hd:∀t,dst=some t->t<st.n){base:Nat}{bs:M AB}{cond:M Prop}
  (AU:∀j∈fz,∃e row l fr,st.h j=some (.row e row l fr)) (fD:jQ st.h (gO base bs)=true) (BC:lQ bs.length res=true) (hor:k8 bs=true)
  (hp:my w (bL A β fz) w' v res bs A1 pY):
  Rel C (st.put dst {cond:=cond,res:=eo base res,gb:=bif res.gl&&dY bs then [] else b6 st.h fz,new:=gO base bs}) (a.put dst v) w':=by
 let az:Nat->Value:=λk=>if base<=k/\k<base+bs.length then pY (k-base) else β k
 have Sd:∀i,i<bs.length->az (base+i)=pY i:=by
  grind
 have MB:∀k,ai (gO base bs) k=(if base<=k then bs[k-base]? else none):=λk=>by simpa using wy base bs 0 k
 have bI:∀k,ai (gO base bs) k=none->az k=β k:=by
  grind
 have sF:∀k ab,ai (gO base bs) k=some ab->base<=k/\bs[k-base]? =some ab/\k-base<bs.length:=by
  grind
 have Eu:∀k ab,ai (gO base bs) k=some ab->az k=pY (k-base):=by
  grind
 let A2:Nat->Prop:=bif res.gl&&dY bs then A else A1
 have aJT:∀b,A b->A2 b:=by
  intro b hb;simp only[A2];cases res.gl&&dY bs with
  |true=>grind
  |false=>exact hp.mono b (.inl hb)
 have hK:bG w w' A A2:=λb hb=>⟨aJT b hb,hp.same b (hB.bound b hb)⟩
 have Ng:∀k ab,ai (bif res.gl&&dY bs then [] else b6 st.h fz) k=some ab->(res.gl&&dY bs)=false/\k∈fz/\∃e row l fr,st.h k=some (.row e row l fr)/\ab= .row e row l true:=by
  grind[dY,ai,gY]
 refine⟨A2,az,?_⟩;refine hB.step (out:={cond:=cond,res:=eo base res,gb:=bif res.gl&&dY bs then [] else b6 st.h fz,new:=gO base bs}) hd (λk b h=>lG _ k b fD h) ?_ bI hK hp.os hp.tape hp.output hp.size (λb hb _=>hp.same b hb) ?_ ?_ ?_ ?_ ?_ ?_ ?_;grind
 . intro b hb;simp only[A2] at hb;cases hl:res.gl&&dY bs with
   |true=>rw[hl] at hb;exact C? (hB.bound b hb) hp.size
   |false=>rw[hl] at hb;exact hp.bound b hb
 . intro b hb;simp only[A2] at hb;cases hl:res.gl&&dY bs with
   |true=>grind
   |false=>
    rw[hl] at hb;rcases Nat.lt_or_ge b w.heap.size with gf|Mc;rcases hp.fk b gf hb with h|⟨j,hj,í⟩;exact .inl h;have hr:=AU j hj;refine .inr (.inr ⟨j,⟨by obtain⟨_,_,_,_,hr⟩:=hr;simp[hr],.inl ?_⟩,í⟩);simp only[N!];exact oK fz j hj hr;exact .inr (.inl Mc)
 . intro k ab h _;obtain⟨hl,hk,e,row,l,fr,hr,rfl⟩:=Ng k ab h;rw[lR]
   have hkn:ai (gO base bs) k=none:=by
    cases hh:ai (gO base bs) k with
    |none=>rfl
    |some y=>have:=(lG _ k y fD hh).1;rw[hr] at this;cases this
   obtain⟨xs,h1,h2,h3⟩:=hB.blocks k _ hr;simp only[BR,bI k hkn];refine⟨xs,dw h1 (λb hb=>hp.same b (mh hB (by simp[hr]) hb)),bx (λc x hx=>br hK row c x hx) l xs h2,λb hb=>?_⟩;simp only[P?,A2,hl,N!];exact hp.mono b (.inr ⟨k,hk,hb⟩)
 . intro k ab h;obtain⟨h1,h2,h3⟩:=sF k ab h;obtain⟨e,row,l,rfl⟩:=Es bs _ ab hor h2;obtain⟨⟨xs,g1,g2,g3⟩,g4⟩:=hp.rows _ _ h2;simp only[BR,Eu k _ h]
   have qf:dn (bw w' A2 row) xs l:=by
    simp only[A2];cases hl:res.gl&&dY bs with
    |true=>
     simp only[B!] at hl;exact bx (λc x hx=>XC row c x (Et bs _ e row l false hl.2 h2) hx) l xs g2
    |false=>exact g2
   refine⟨xs,g1,qf,λb hb=>?_⟩;have g3':=g3 b hb;simp only[b?,s?] at g3' |-;simp only[A2];cases hl:res.gl&&dY bs with
   |true=>intro hA;exact absurd (hB.bound b hA) (by have:=g4 b hb;omega)
   |false=>exact g3'
 intro k b ab h hb;obtain⟨h1,h2,h3⟩:=sF k ab h;rw[Eu k _ h] at hb;exact .inl ((hp.rows _ _ h2).2 b hb);intro k k' b h h' hb eO;obtain⟨x,hx⟩:=S!.1 h;obtain⟨y,hy⟩:=S!.1 h';obtain⟨h1,h2,h3⟩:=sF k x hx;obtain⟨g1,g2,g3⟩:=sF k' y hy;rw[Eu k _ hx] at hb;rw[Eu k' _ hy] at eO;have:=hp.apart _ _ b h3 g3 hb eO;omega
 . have uD:=zd (az:=az) base bs.length Sd res v BC hp.res;simp only[A2];cases hl:res.gl&&dY bs with
   |false=>exact uD
   |true=>
    simp only[B!] at hl;exact zd (az:=az) base bs.length Sd res v BC (NA res v hl.1 hp.res)
def NB(G:Nat->Option GD)(f:FuncId)(t:M AV->Option (Option Nat×CF)):Prop:=
 ∀(w:World) (A:Nat->Prop) (β:Nat->Value) (aO:Array Value) (bj:M AV) (k:Option Nat) (F:CF),(∀i d,G i=some d->nb w A i d)->ae w A β aO.toList bj->t bj=some (k,F)->
  ∀p,(∀j,k=some j->p=β j)->A9 w A p (.func (.func f) #[] aO) F
structure aW (P:Program) (E:Env):Prop where
 eY:bz E.T P
 sig:∀f s,E.sig f=some s->Valid P E.jY f s/\du P f
 qW:∀f m s,E.qW f=some (m,s)->aI P E.jY f s/\du P f
 hp:∀Q,HP.is Q↔Q=P
 cg:∀f t,E.cg f=some t->NB E.jY f t
structure dx (P:Program) (C:Ctx) (E:Env):Prop where
 ok:aW P E
 g:C.G=E.jY
theorem dx.eY {P:Program}{C:Ctx}{E:Env}(h:dx P C E):bz E.T P:=h.ok.eY
theorem dx.qW {P:Program}{C:Ctx}{E:Env}(h:dx P C E):∀f m s,E.qW f=some (m,s)->aI P E.jY f s/\du P f:=h.ok.qW
theorem dx.sig {P:Program}{C:Ctx}{E:Env}(h:dx P C E):∀f s,E.sig f=some s->Valid P E.jY f s/\du P f:=h.ok.sig
def fq(st:St)(o:Oper):Bool:=match o.dst with
 |some d=>Nat.blt d st.n
 |none=>true
theorem nh(hB:al C A β st a w):∀(xs:M Operand),ae w A β (xs.map a.eval) (xs.map (ev st))
 |[]=>by rfl
 |x::xs=>by
  exact⟨_,_,rfl,aC hB x,nh hB xs⟩
theorem cT {dst:Option Tmp}{op:Op}{type:TypeId}{pos:String}{after:Array Edge}{guard:Option (Nat×Bool)}{s:Sem Value}{out:Out}
  (hs:∀w,(execOp a.eval ⟨dst,op,type,pos,after,guard⟩).run P w=(s.run P w).andThen λv w'=>.ok (.value v) w') (h:∃v w',s.run P w= .ok v w'/\Rel C (st.put dst out) (a.put dst v) w')
  (hK:∀a' w',Rel C (st.put dst out) a' w'->K a' w'):Oper.wp P ⟨dst,op,type,pos,after,guard⟩ a w K Q:=by
 obtain⟨v,w',h1,h2⟩:=h;refine bn (v:=v) (w':=w') ?_ (hK _ _ h2);simp_all
def NC(hB:al C A β st a w):∀(x:Option Operand),sc w A β (x.map (ev st)) (x.map a.eval)
 |none=>by simp[sc]
 |some x=>by grind[sc,aC]
theorem ND(h:jQ st.h [(d,b)]=true):st.h d=none/\qQ d=false:=lG _ d b h (by simp[ai])
theorem pJ{k:Nat}(hf:fresh h k=true):h k=none/\qQ k=false:=by
 grind[fresh]
theorem XD(hE:dx P C E)(hB:al C A β st a w)(h:dL E st o=some out)(pK:fq st o=true)(fD:jQ st.h out.new=true)(hc:∀p∈out.cond,p)
  (hK:∀a' w',Rel C (st.put o.dst out) a' w'->K a' w'):o.wp P a w K Q:=by
 have hd:∀t,o.dst=some t->t<st.n:=by
  intro t ht;simp_all[fq,L!]
 obtain⟨dst,op,type,pos,after,guard⟩:=o;simp only at hd hK;cases op with
 |move x=>
  simp only[dL,A!] at h;subst h;exact bn (by rfl) (hK _ _ (Rel.jl (hB.quiet hd ⟨rfl,rfl,rfl⟩ (aC hB x))))
 |assign x=>
  simp only[dL,A!] at h;subst h;exact bn (by rfl) (hK _ _ (Rel.jl (hB.quiet hd ⟨rfl,rfl,rfl⟩ (aC hB x))))
 |pick c x y=>
  simp only[dL] at h;have Rx:=aC hB c;have hx:=aC hB x;have hy:=aC hB y;split at h;rename_i Uw;simp only[Option.some.injEq] at h;subst h;rw[Uw] at Rx;simp only[aa] at Rx;exact bn (v:=a.eval x) (by simp_all[execOp,asBool]) (hK _ _ (Rel.jl (hB.quiet hd ⟨rfl,rfl,rfl⟩ hx)));rename_i Uw;simp only[Option.some.injEq] at h;subst h;rw[Uw] at Rx;simp only[aa] at Rx;exact bn (v:=a.eval y) (by simp_all[execOp,asBool]) (hK _ _ (Rel.jl (hB.quiet hd ⟨rfl,rfl,rfl⟩ hy)));rename_i p Uw;simp only[Option.some.injEq] at h;subst h;rw[Uw] at Rx;simp only[aa] at Rx;refine bn (v:=if p then a.eval x else a.eval y) (by simp_all[execOp,asBool]) (hK _ _ (Rel.jl (hB.quiet hd ⟨rfl,rfl,rfl⟩ ?_)));grind[En];grind
 |alloc t=>
  simp only[dL] at h;split at h
  . rename_i te d ht;cases h40:Nat.ble te.size 40 with
    |false=>grind
    |true=>
    rw[h40] at h;simp only[K!] at h;cases jv:(ofConst te.zero).cells.all AV.one with
    |false=>grind
    |true=>
     simp only[jv,K!,A!] at h;subst h;exact cT (λw=>by simp[execOp]) (Ur hE.eY hB hd (ND fD) ht jv) hK
  grind
 |box t x=>
  simp only[dL] at h;split at h
  . rename_i d;cases jv:(ev st x).cells.all AV.one with
    |false=>grind
    |true=>
     simp only[jv,K!,A!] at h;subst h;exact cT (λw=>by rfl) (î (t:=t) hB hd (ND fD) (aC hB x) jv) hK
  grind
 |build t parts=>
  simp only[dL] at h;refine cT (s:=Instr.build t (parts.map λ(i,x)=>(i,a.eval x))) (λw=>by simp[execOp]) (Reads.uG hB hd (Us hE.eY ?_ ?_ h)) hK;simp_all
  have:=nh hB (parts.toList.map (·.2));simp_all[Function.comp_def]
 |buildSlice t len parts=>
  simp only[dL] at h;split at h
  . rename_i d;cases hf:fresh st.h (st.kb+d) with
    |false=>grind
    |true=>
    simp only[hf,K!] at h;have hn:=pJ hf;refine cT (s:=Instr.buildSlice t len (parts.map λ(i,x)=>(i,a.eval x))) (λw=>by simp[execOp]) (G7 hE.eY hB hd hn ?_ ?_ h) hK;simp_all
    have:=nh hB (parts.toList.map (·.2));simp_all[Function.comp_def]
  grind
 |load t x=>
  simp only[dL] at h;exact cT (λw=>by simp[execOp]) (Reads.uG hB hd (Bi hE.eY hB (aC hB x) h hc)) hK
 |store t x y=>
  simp only[dL] at h;have hx:=aC hB x;have hy:=aC hB y
  have key:∃w',(Instr.storeAt t (a.eval x) (a.eval y)).run P w= .ok () w'/\Rel C (st.put dst out) (a.put dst undef) w':=by
   cases Jf:ev st x with
   |ref k off=>rw[Jf] at h hx;exact xW hE.eY hB hd hx hy h
   |elem k sz i j=>rw[Jf] at h hx;exact G4 hE.eY hB hd hx hy h hc
   |_=>grind[iB]
  obtain⟨w',h1,h2⟩:=key;simp_all[nK,execOp]
 |nilCheck x=>
  simp only[dL] at h;have hx:=aC hB x
  have fin:∀r,ev st x=r->out= {cond:=[],res:=r}->(execOp a.eval {dst,op:=.nilCheck x,type,pos,after,guard}).run P w= .ok (.value (a.eval x)) w->Oper.wp P {dst,op:=.nilCheck x,type,pos,after,guard} a w K Q:=by
   intro r hr ho gI;subst ho;exact bn gI (hK _ _ (Rel.jl (hB.quiet hd ⟨rfl,rfl,rfl⟩ x!)))
  split at h;rename_i k off hv;simp only[A!] at h;refine fin _ hv h.symm ?_;rw[hv] at hx;simp only[aa] at hx;obtain⟨b,_,hx⟩:=hx;simp[execOp,hx];rename_i r y j hv;simp only[A!] at h;refine fin _ hv h.symm ?_;rw[hv] at hx;simp only[aa] at hx;obtain⟨b,o,cs,hx,_⟩:=hx;simp[execOp,hx];rename_i k sz i j hv;simp only[A!] at h;refine fin _ hv h.symm ?_;rw[hv] at hx;simp only[aa] at hx;obtain⟨b,m,cap,_,hx⟩:=hx;simp[execOp,hx];rename_i f first aO hv
  simp only[Option.some.injEq] at h;refine fin _ hv h.symm ?_;rw[hv] at hx;simp only[aa] at hx;obtain⟨a1,a2,hx,_⟩:=hx;simp[execOp,hx];grind
 |binOp op t x y yt=>
  simp only[dL] at h
  exact cT (s:=do eqGuard op t x y (a.eval x) (a.eval y);binOp op t (a.eval x) (a.eval y)) (λw=>by
   simp only[execOp,Sem.run_bind];rfl) (Reads.uG hB hd (æ hE.eY (aC hB x) (aC hB y) h hc)) hK
 |unOp op t x=>
  simp only[dL] at h;exact cT (λw=>by simp[execOp]) (Reads.uG hB hd (aie (aC hB x) h hc)) hK
 |convert s d x=>
  simp only[dL] at h;exact cT (λw=>by simp[execOp]) (Ny hE.eY hB hd (aC hB x) h hc) hK
 |makeFunc f first aO=>
  simp only[dL,A!] at h;subst h;refine bn (v:=.func f (first.map a.eval) (aO.map a.eval)) (by rfl) (hK _ _ (Rel.jl (hB.quiet hd ⟨rfl,rfl,rfl⟩ ?_)));simp only[aa];exact⟨_,_,rfl,by simpa using nh hB first.toList,by simpa using nh hB aO.toList⟩
 |makeSlice t l c=>
  simp only[dL] at h;split at h
  . rename_i d;cases hf:fresh st.h (st.kb+d) with
    |false=>grind
    |true=>
    simp only[hf,K!] at h;exact cT (λw=>by simp[execOp]) (Jb hE.eY hB hd (pJ hf) (aC hB l) (aC hB c) h hc) hK
  grind
 |slice t x l hi mx=>
  simp only[dL] at h;exact cT (λw=>by simp[execOp]) (Reads.uG hB hd (Ul hE.eY hB (aC hB x) (NC hB l) (NC hB hi) (NC hB mx) h hc)) hK
 |fieldAddr s x f=>
  simp only[dL] at h;exact cT (λw=>by simp[execOp]) (Reads.uG hB hd (I1 hE.eY (aC hB x) h)) hK
 |field s x f=>
  simp only[dL] at h;have hx:=aC hB x;split at h;rename_i ft off cs hf hv;split at h;rename_i te ht;split at h;rename_i r hp;simp only[A!] at h;subst h;rw[hv] at hx;simp only[aa] at hx;obtain⟨arr,hx,hr⟩:=hx;obtain⟨fs,fd,hu,hfd,e1,e2⟩:=KR hE.eY hf;obtain⟨v,g1,g2⟩:=xT hE.eY ht hr hp;refine bn (v:=v) (w':=w) ?_ (hK _ _ (Rel.jl (hB.quiet hd ⟨rfl,rfl,rfl⟩ g2)));simp_all[execOp,Instr.field,run_underlying,asAgg]
  grind;grind;grind
 |indexAddr t x i=>
  simp only[dL,wu] at h;exact cT (λw=>by simp[execOp]) (Reads.uG hB hd (I0 hE.eY hB (aC hB x) (aC hB i) h hc)) hK
 |lookup t x i ok=>
  simp only[dL] at h;have hx:=aC hB x;have hi:=aC hB i;split at h;rename_i ks cs n Jf hiv;rw[Jf] at hx;rw[hiv] at hi;simp only[aa] at hi;refine cT (s:=Instr.lookup t (a.eval x) (a.eval i) ok) (λw=>by simp[execOp]) (Reads.uG hB hd ?_) hK;rw[hi.1];exact Rp hE.eY hx h hc;grind
 |extract x i=>
  simp only[dL] at h;have hx:=aC hB x;split at h;rename_i vs hv;split at h;rename_i r hr;simp only[Option.some.injEq] at h;subst h;rw[hv] at hx;simp only[aa] at hx;obtain⟨arr,hx,hrel⟩:=hx;obtain⟨v,g1,g2⟩:=wo vs _ i r hrel hr;have g1':arr[i]? =some v:=by grind
  exact bn (v:=v) (w':=w) (by simp_all[execOp,Instr.extract]) (hK _ _ (Rel.jl (hB.quiet hd ⟨rfl,rfl,rfl⟩ g2)));grind;grind
 |index t x i=>
  simp only[dL] at h;have hx:=aC hB x;have hi:=aC hB i;split at h
  . rename_i s k n Jf hiv;cases Fg:cE E.T t tL with
    |false=>grind
    |true=>
    simp only[Fg,cond_true,Option.some.injEq] at h;subst h;obtain⟨h0,h1⟩:=eD hc;obtain⟨dd,hu,aPB⟩:=nd hE.eY Fg;have hu:P.underlying t=some .string:=by grind[tL]
    rw[Jf] at hx;rw[hiv] at hi;simp only[aa] at hx hi;have gf:n.toNat<s.length:=by omega
    refine bn (v:=.int .u8 ((s.getD n.toNat 0).toNat:Int)) (w':=w) ?_ (hK _ _ (Rel.jl (hB.quiet hd ⟨rfl,rfl,rfl⟩ ?_)))
    have hg:(⟨s.toArray⟩:ByteArray)[n.toNat]? =some (s.getD n.toNat 0):=by
     rw[getElem?_pos _ _ (by grind[Bk])];simp[List.getD,List.getElem?_eq_getElem gf];rfl
    simp[execOp,Instr.index,hx.1,hi.1,asIntOf,run_underlying hu,h0,hg];simp only[aa,true_and];have:=(s.getD n.toNat 0).toNat_lt;grind[lo,Vg.hi]
  rename_i cs k n Jf hiv;rw[Jf] at hx;rw[hiv] at hi;simp only[aa] at hx hi;obtain⟨arr,hxe,mi⟩:=hx;exact cT (s:=Instr.index t (.agg arr) (a.eval i)) (λw=>by simp[execOp,hxe]) (Reads.uG hB hd (L9 hE.eY mi hi.1 h hc)) hK;grind
 |call c=>
  obtain⟨callee,args,argTypes⟩:=c;simp only[dL] at h;split at h
  . rename_i b;split at h
    . rename_i x t bm Jd;have hx:=aC hB x;split at h
      . rename_i n hn;cases hq:(bif yU (ev st x) then cE E.T t gN else cE E.T t tL) with
        |false=>grind
        |true=>
         simp only[hq,cond_true,Option.some.injEq] at h;subst h;have ea:args= #[x]:=by grind
         have et:argTypes= #[t]:=by grind
         subst ea;subst et;rcases ã hB hx hn with⟨ad,l,c,hv,hl,hm⟩|⟨s,hs,hl⟩
         have hns:yU (ev st x)=true:=by
          cases Jf:ev st x<;>first|rfl|skip
          grind[aa]
         rw[hns] at hq;simp only[K!] at hq;obtain⟨d,hu,Fg⟩:=nd hE.eY hq;obtain⟨e,rfl⟩:∃e,d= .slice e:=by cases d<;>simp_all[gN]
         refine bn (v:=.int .i64 (l:Int)) (w':=w) ?_ (hK _ _ (Rel.jl (hB.quiet hd ⟨rfl,rfl,rfl⟩ (by grind[xZ]))));simp_all[execOp,resolve,invoke,builtin,Builtin.len_,run_underlying,goInt]
         rw[hs] at hx hq;simp only[yU,cond_false] at hq;obtain⟨d,hu,Fg⟩:=nd hE.eY hq;have hu:P.underlying t=some .string:=by grind[tL]
         simp only[aa] at hx;refine bn (v:=.int .i64 (s.length:Int)) (w':=w) ?_ (hK _ _ (Rel.jl (hB.quiet hd ⟨rfl,rfl,rfl⟩ (by grind[xZ]))));simp[execOp,resolve,invoke,builtin,hx.1,Builtin.len_,run_underlying hu,goInt,Bk]
      grind
    . rename_i x y t t' bm Jd;split at h
      . rename_i d;cases hf:fresh st.h (st.kb+d) with
        |false=>grind
        |true=>
         simp only[hf,cond_true] at h;have ea:args= #[x,y]:=by grind
         have et:argTypes= #[t,t']:=by grind
         subst ea;subst et;exact cT (s:=Builtin.append_ #[t,t'] type #[a.eval x,a.eval y]) (λw=>by simp[execOp,resolve,invoke,builtin]) (Rr hE.eY hB hd (pJ hf) (aC hB x) (aC hB y) h hc) hK
      grind
    rename_i x y t t' bm Jd;have ea:args= #[x,y]:=by grind
    have et:argTypes= #[t,t']:=by grind
    subst ea;subst et;exact cT (s:=Builtin.copy_ #[t,t'] type #[a.eval x,a.eval y]) (λw=>by simp[execOp,resolve,invoke,builtin]) (Xx hE.eY hB hd (aC hB x) (aC hB y) h hc) hK;rename_i x t bm Jd;have ea:args= #[x]:=by grind
    have et:argTypes= #[t]:=by grind
    subst ea;subst et;exact cT (s:=Builtin.clear_ #[t] type #[a.eval x]) (λw=>by simp[execOp,resolve,invoke,builtin]) (Ut hE.eY hB hd (aC hB x) h hc) hK;rename_i x y bm;have ea:args= #[x,y]:=by grind
    subst ea;have hx:=aC hB x;have hy:=aC hB y;split at h;rename_i k n k' m Jf hyv;split at h;rename_i hk;subst hk;simp only[A!] at h;subst h;rw[Jf] at hx;rw[hyv] at hy;simp only[aa] at hx hy;refine bn (v:=.int k (min n m)) (w':=w) ?_ (hK _ _ (Rel.jl (hB.quiet hd ⟨rfl,rfl,rfl⟩ (by simp only[aa,true_and];omega))));have e:(if m<n then m else n)=min n m:=by omega
    simp_all[execOp,resolve,invoke,builtin,run_min_int2]
    grind;grind;rename_i x y bm;have ea:args= #[x,y]:=by grind
    subst ea;have hx:=aC hB x;have hy:=aC hB y;split at h;rename_i k n k' m Jf hyv;split at h;rename_i hk;subst hk;simp only[A!] at h;subst h;rw[Jf] at hx;rw[hyv] at hy;simp only[aa] at hx hy;refine bn (v:=.int k (max n m)) (w':=w) ?_ (hK _ _ (Rel.jl (hB.quiet hd ⟨rfl,rfl,rfl⟩ (by simp only[aa,true_and];omega))));have e:(if m>n then m else n)=max n m:=by omega
    simp_all[execOp,resolve,invoke,builtin,run_max_int2]
    grind;grind;grind
  . rename_i f;have hf:=aC hB f
    have key:∀(rq:FuncId) (first aO:M AV) (base:Nat),ev st f= .fn (.func rq) first aO->qb E st.h base rq (first++(args.toList.map (ev st))++aO)=some out->
      Oper.wp P {dst,op:=.call {callee:=.value f,args,argTypes},type,pos,after,guard} a w K Q:=by
     intro rq first aO base Hb oL
     rw[Hb] at hf;simp only[aa] at hf;obtain⟨a1,a2,Bq,r1,r2⟩:=hf;unfold qb at oL;split at oL
     . rename_i s hs;split at oL
       . rename_i pre res bs hsv;cases hq:(Nat.ble bs.length 100&&lQ bs.length res&&k8 bs) with
         |false=>grind
         |true=>
          simp only[hq,K!,A!] at oL;subst oL;simp only[B!] at hq;obtain⟨hv,Ux⟩:=hE.sig rq s hs;have bm:=fp _ _ _ _ (fp _ _ _ _ r1 (nh hB args.toList)) r2;obtain⟨p1,p2⟩:=I9 (A':=bL A β (mZ st.h (first++(args.toList.map (ev st))++aO)).2) hB (λb h=>.inl h) _ _ bm (λk hk b hb=>.inr ⟨k,hk,hb⟩)
          have Ry:∀b,bL A β (mZ st.h (first++(args.toList.map (ev st))++aO)).2 b->b<w.heap.size:=by
           intro b h;rcases h with h|⟨j,hj,hb⟩;exact hB.bound b h;obtain⟨e',r',l',f',hr⟩:=p2 j hj;exact mh hB x! hb
          have ql:=hv w _ β _ _ pre res bs Ry (λi d hi=>(hB.laid i d (by rw[hE.g];omega)).mono (λb h=>⟨.inl h,rfl⟩)) p1 hsv (eD hc)
          have gI:(execOp a.eval {dst,op:=.call {callee:=.value f,args,argTypes},type,pos,after,guard}).run P w= .ok (.enter rq (a1.toList++args.toList.map a.eval++a2.toList).toArray) w:=by
           have e:(a1++args.map a.eval)++a2=(a1.toList++args.toList.map a.eval++a2.toList).toArray:=by
            grind
           have:=Ux (a1++args.map a.eval++a2) w;grind[execOp,resolve,Deferred.ofValue,Sem.run_bind,Sem.run_pure,Result.andThen_ok,invoke]
          unfold Oper.wp;rw[gI];simp only[Oper.upon_enter];refine ql.mono λe w' ⟨v,he,A1,pY,uH⟩=>?_;subst he;exact hK _ _ (hB.call hd p2 fD hq.1.2 hq.2 uH)
       grind
     grind
    grind
  grind
 |_=>grind[dL]
def jx(base:Nat):AB->AB
 |.views e (some j) n m sz=>.views e (some (base+j)) n m sz
 |b=>b
def iH(k:Nat):M AB->Bool
 |[]=>true
 |.row _ _ _ false ::r=>iH k r
 |.views _ (some j) _ _ _::r=>Nat.blt j k&&iH k r
 |_=>false
def nP(E:Env)(h:aJ)(d f:Nat)(args:M AV):Option Out:=match E.sig f with
 |some s=>match s (mZ h args).1 with
  |some (pre,res,bs)=>bif Nat.ble bs.length 100&&lQ bs.length res&&iH bs.length bs then
   some {cond:=[pre],res:=eo (pI d) res,gb:=b6 h (mZ h args).2,new:=gO (pI d) (bs.map (jx (pI d)))} else none
  |none=>none
 |none=>none
def Ew(E:Env)(st:St)(o:Oper):Option Out:=
 let T:=E.T
 let h:=st.h
 let ρ:=ev st
 match o.op with
 |.load t p=>match ρ p,T.find t with
   |.elem k sz i j,some te=>match h k with
     |some (.views _ (some k2) _ m s2)=>bif Nat.beq sz 1&&Nat.beq j 0&&gN te.desc then some {cond:=[i<m],res:=.view k2 1 (i*s2) s2} else none
     |_=>none
   |_,_=>none
 |.store t p v=>match ρ p,ρ v with
   |.elem k sz i j,.view k3 s3 off len=>match h k with
     |some (.views e (some k2) n m s2)=>bif Nat.beq sz 1&&Nat.beq j 0&&(Nat.beq k3 k2&&Nat.beq s3 1)&&iL T t 1 then
       some {cond:=[i=m/\m<n/\off=m*s2/\len=s2],res:=.undef,gb:=[(k,.views e (some k2) n (m+1) s2)]} else none
     |_=>none
   |_,_=>none
 |.slice t x (some lo) (some hi) (some mx)=>match ρ x,ρ lo,ρ hi,ρ mx with
   |.own k,.int _ a,.int _ b,.int _ c=>match h k with
     |some (.row _ row l _)=>bif aV T t row.length then some {cond:=[0<=a/\a<=b/\b<=c/\c<=(l.length:Int)],res:=.view k row.length a.toNat (b.toNat-a.toNat)} else none
     |_=>none
   |_,_,_,_=>none
 |.indexAddr t x i=>match ρ x,ρ i with
   |.own k,.int _ i=>match h k with
     |some (.views _ _ n _ _)=>bif aV T t 1 then some {cond:=[0<=i/\i<(n:Int)],res:=.elem k 1 i.toNat 0} else none
     |_=>none
   |_,_=>none
 |.call c=>match c.callee with
   |.builtin b=>match b,c.args.toList,c.argTypes.toList with
     |.len,[x],[t]=>match ρ x with
       |.own k=>match h k with
         |some (.views _ _ n _ _)=>bif cE T t gN then some {cond:=[],res:=.int .i64 (n:Int)} else none
         |_=>none
       |_=>none
     |_,_,_=>none
   |.value f=>match ρ f,o.dst with
     |.fn (.func f) first aO,some d=>nP E h (st.kb+d) f (first++(c.args.toList.map ρ)++aO)
     |.fn (.func f) first aO,none=>nP E h st.kb f (first++(c.args.toList.map ρ)++aO)
     |_,_=>none
   |_=>none
 |_=>none
def adf(E:Env)(st:St)(o:Oper):Option Out:=match dL E st o with
 |some out=>some out
 |none=>Ew E st o
variable {j:Option Nat}
theorem ru(hB:al C A β st a w){k:Nat}{m:Nat}(h:st.h k=some (.views e j n m sz)):
  (β k= .slice none 0 0/\n=0)\/∃b cap cur,β k= .slice (some ⟨b,0,none⟩) n cap/\w.heap[b]? =some (.cells cur e (0,0))/\n<=cap/\cap<=maxLen/\cur.size=cap/\¬A b/\
    ∀j',j=some j'->∀i,i<m->∃v,(cur.toList.take n)[i]? =some v/\aa w A β v (.view j' 1 (i*sz) sz):=by
 obtain⟨xs,h1,h2,h3⟩:=hB.blocks k _ h;rcases h1.2 with⟨hv,hn⟩|⟨g,cap,cur,hv,_,hg,h4,h5,h6,h7⟩;grind;refine .inr ⟨g,cap,cur,hv,hg,h4,h5,w!,h2 g (by rw[hv];rfl),λj' hj i hi=>?_⟩;grind
def Uy(hB:al C A β st a w){k:Nat}{m:Nat}(h:st.h k=some (.views e j n m sz)):n<=maxLen:=by
 grind[ru]
def Uz(hT:bz T P)(hB:al C A β st a w){k i e n m s2 k2:Nat}(hp:aa w A β vp (.elem k 1 i 0))(ht:T.find t=some te)(hs:gN te.desc=true)
  (hk:st.h k=some (.views e (some k2) n m s2)) (hi:i<m):∃v,(Instr.loadAt t vp).run P w= .ok v w/\aa w A β v (.view k2 1 (i*s2) s2):=by
 obtain⟨b,m',cap,bI,rfl⟩:=hp;rcases ru hB hk with⟨hv,_⟩|⟨b',jM,cur,hv,hg,_,_,_,_,hx⟩;grind;obtain⟨v,e1,e2⟩:=hx k2 rfl i hi;rw[List.getElem?_take] at e1;split at e1
 have hr:w.rangeAt b i [v]:=by
  intro j u hj;grind[List.getElem?_cons_zero,Option.some.injEq,World.cell?]
 have ò:pick te [.view k2 1 (i*s2) s2] 0=some (.view k2 1 (i*s2) s2):=by
  unfold pick;have :te.desc.nH=false:=by cases hd:te.desc<;>rw[hd] at hs<;>first|rfl|cases hs
  grind
 obtain⟨v',g1,g2⟩:=kv (β:=β) (A:=A) hT ht (cs:=[v]) (by grind[ae]) ò hr;grind;grind
def Rz(hT:bz T P)(hB:al C A β st a w)(hd:∀t,dst=some t->t<st.n){k i e n m s2 k2 off len:Nat}(hp:aa w A β vp (.elem k 1 i 0))(hx:aa w A β vx (.view k2 1 off len))
  (hk:st.h k=some (.views e (some k2) n m s2)) (dH:iL T t 1=true) {cond:M Prop} (hi:i=m) (hm:m<n) (ho:off=m*s2) (hl:len=s2):
  ∃w',(Instr.storeAt t vp vx).run P w= .ok () w'/\Rel C (st.put dst {cond:=cond,res:=.undef,gb:=[(k,.views e (some k2) n (m+1) s2)]}) (a.put dst undef) w':=by
 subst hi;subst ho;subst hl;obtain⟨ii,ju,qX⟩:=ph hT dH;simp only[aa] at hp;obtain⟨b,m',cap,bI,rfl⟩:=hp;rcases ru hB hk with⟨hv,_⟩|⟨b',jM,cur,hv,hg,hle,DZ,ep,kK,lT⟩;rw[bI] at hv;cases hv;rw[bI] at hv;simp only[Value.slice.injEq,A!,Addr.mk.injEq,and_true] at hv;obtain⟨rfl,rfl,rfl⟩:=hv
 have jv:vx.oneCell'=true:=by
  simp only[aa] at hx;rcases hx with⟨_,a',c',h,_⟩|⟨_,_,_,_,_,h,_⟩<;>rw[h]<;>rfl
 have Uw:vx.cells= #[vx]:=cells_one jv;have hb:ah (β k)=some b:=by rw[bI];rfl
 have pX:=lS (P:=P) (w:=w) (t:=t) (v:=vx) ju (by rw[Uw,qX];rfl) (by rw[Uw];intro v hv;simp at hv;subst hv;exact jv) hg (off:=i) (by rw[Uw];simp;omega);obtain⟨new,fD⟩:∃new:Array Value,new=(cur.toList.take i++[vx]++cur.toList.drop (i+1)).toArray:=⟨_,rfl⟩
 have aPC:(Instr.storeAt t (.pointer (some ⟨b,i,none⟩)) vx).run P w= .ok () (w.setRow b new):=by
  grind
 have hlen:new.size=cur.size:=by grind
 refine⟨w.setRow b new,x!,?_⟩;refine hB.write hd (k:=k) (fz:=[]) (ab:=.views e (some k2) m' (i+1) len) x! hb kK hg ⟨rfl,rfl,rfl⟩ (λq hq=>by grind) ?_ (by rfl);intro A2 h1 h2 _;refine⟨new.toList.take m',⟨?_,.inr ⟨b,cap,new,bI,Nat.zero_le _,setRow_heap w b cur _ e _ hg,hle,DZ,?_,x!⟩⟩,λb' eO Up=>?_,λj' hj i' fN=>?_⟩;grind;omega;grind;simp only[Option.some.injEq] at hj;subst hj;by_cases aJU:i'=i;subst aJU;refine⟨vx,?_,Be rfl hx⟩;grind;obtain⟨v,e1,e2⟩:=lT k2 rfl i' w!;refine⟨v,?_,Be rfl e2⟩;grind
def RA(hT:bz T P)(hB:al C A β st a w){k e:Nat}{row:M Ty}{l:M (Row row)}{fr:Bool}{x y:Int}{kx ky km:IntKind}(hx:aa w A β vx (.own k))(hk:st.h k=some (.row e row l fr))
  (hs:aV T t row.length=true) (h0:0<=x) (h1:x<=y) (h2:y<=m) (h3:m<=(l.length:Int)):
  ∃v,(Instr.sliceAt t vx (some (.int kx x)) (some (.int ky y)) (some (.int km m))).run P w= .ok v w/\aa w A β v (.view k row.length x.toNat (y.toNat-x.toNat)):=by
 obtain⟨e',ii,hu,ju,dH,lF⟩:=fe hT hs;obtain⟨rfl,_⟩:=hx
 have hb:∀len cap:Nat,len<=cap->m<=(len:Int)->(Instr.sliceBounds true len cap (some (.int kx x)) (some (.int ky y)) (some (.int km m))).run P w= .ok (x.toNat,y.toNat,m.toNat) w:=by
  intro len cap hlc Um
  simp[Instr.sliceBounds,run_sliceBound (P:=P) (w:=w) (k:=km) (n:=m) (y:=cap) w! w!,run_sliceBound (P:=P) (w:=w) (k:=ky) (n:=y) (y:=m.toNat) w! w!,
   run_sliceBound (P:=P) (w:=w) (k:=kx) (n:=x) (y:=y.toNat) w! w!]
 have gI:∀(ad:Option Addr) (len cap:Nat),len<=cap->m<=(len:Int)->(Instr.sliceAt t (.slice ad len cap) (some (.int kx x)) (some (.int ky y)) (some (.int km m))).run P w=
   .ok (.slice (if m.toNat=x.toNat then ad else ad.map (·.add (x.toNat*ii.size))) (y.toNat-x.toNat) (m.toNat-x.toNat)) w:=by
  simp_all[Instr.sliceAt,Instr.slice,run_underlying,sizeOf,typeInfo]
 rcases iE hB hk with⟨g1,g2⟩|⟨b,cap,cur,g1,_,g3,g4,_⟩;grind[aa,maxLen];refine⟨_,by rw[g1];exact gI _ l.length cap g3 h3,?_⟩;simp only[aa];by_cases hz:m.toNat=x.toNat;refine .inl ⟨w!,_,_,by rw[show y.toNat-x.toNat=0 by omega],w!⟩;grind[Addr.add_mid]
def tO {k:Nat}:∀(bs:M AB) (i:Nat) (ab:AB),iH k bs=true->bs[i]? =some ab->(∃e row l,ab= .row e row l false)\/∃e j n m sz,ab= .views e (some j) n m sz/\j<k
 |.row e row l false ::bs,0,ab,_,h=>by grind
 |.views e (some j) n m sz::bs,0,ab,ho,h=>by
   simp only[iH,B!] at ho;simp at h;exact .inr ⟨e,j,n,m,sz,h.symm,L! ho.1⟩
 |.row e row l false ::bs,i+1,ab,ho,h=>tO bs i ab (by grind[iH]) x!
 |.views e (some j) n m sz::bs,i+1,ab,ho,h=>tO bs i ab (by simp_all[iH,Bool.and_eq_true]) x!
 |.row e row l true ::bs,_,_,h,_=>by grind[iH]
 |.views e none n m sz::bs,_,_,h,_=>by grind[iH]
 |.cells _::bs,_,_,h,_|.arr _ _::bs,_,_,h,_|.iy _ _ _ _ _::bs,_,_,h,_=>by grind[iH]
 |[],_,_,_,h=>by grind
theorem al.aDo(hB:al C A β st a w)(hd:∀t,dst=some t->t<st.n){base:Nat}{bs:M AB}{cond:M Prop}
  (AU:∀j∈fz,∃e row l fr,st.h j=some (.row e row l fr)) (fD:jQ st.h (gO base (bs.map (jx base)))=true) (BC:lQ bs.length res=true) (hor:iH bs.length bs=true)
  (hp:my w (bL A β fz) w' v res bs A1 pY):
  Rel C (st.put dst {cond:=cond,res:=eo base res,gb:=b6 st.h fz,new:=gO base (bs.map (jx base))}) (a.put dst v) w':=by
 let az:Nat->Value:=λk=>if base<=k/\k<base+bs.length then pY (k-base) else β k
 have Sd:∀i,i<bs.length->az (base+i)=pY i:=by
  grind
 have MB:∀k,ai (gO base (bs.map (jx base))) k=(if base<=k then(bs[k-base]?).map (jx base) else none):=λk=>by
  have:=wy base (bs.map (jx base)) 0 k;grind
 have bI:∀k,ai (gO base (bs.map (jx base))) k=none->az k=β k:=by
  grind
 have sF:∀k ab,ai (gO base (bs.map (jx base))) k=some ab->base<=k/\(∃UA,bs[k-base]? =some UA/\ab=jx base UA)/\k-base<bs.length:=by
  grind
 have Eu:∀k ab,ai (gO base (bs.map (jx base))) k=some ab->az k=pY (k-base):=by
  grind
 have hK:bG w w' A A1:=λb hb=>⟨hp.mono b (.inl hb),hp.same b (hB.bound b hb)⟩;refine⟨A1,az,?_⟩;refine hB.step (out:={cond:=cond,res:=eo base res,gb:=b6 st.h fz,new:=gO base (bs.map (jx base))}) hd (λk b h=>lG _ k b fD h) ?_ bI hK hp.os hp.tape hp.output hp.size (λb hb _=>hp.same b hb) hp.bound ?_ ?_ ?_ ?_ ?_ ?_;intro k b h;obtain⟨_,e,row,l,fr,h,_⟩:=gY fz k b h;grind;intro b hb;rcases Nat.lt_or_ge b w.heap.size with gf|Mc;rcases hp.fk b gf hb with h|⟨j,hj,í⟩;grind;have hr:=AU j hj;exact .inr (.inr ⟨j,⟨x!,.inl (oK fz j hj hr)⟩,í⟩);omega
 . intro k ab h _;obtain⟨hk,e,row,l,fr,hr,rfl⟩:=gY fz k ab h;rw[lR]
   have hkn:ai (gO base (bs.map (jx base))) k=none:=by
    cases hh:ai (gO base (bs.map (jx base))) k with
    |none=>rfl
    |some y=>have:=(lG _ k y fD hh).1;rw[hr] at this;cases this
   obtain⟨xs,h1,h2,h3⟩:=hB.blocks k _ hr;simp only[BR,bI k hkn];refine⟨xs,dw h1 (λb hb=>hp.same b (mh hB (by simp[hr]) hb)),bx (λc x hx=>br hK row c x hx) l xs h2,λb hb=>?_⟩;simp only[P?];exact hp.mono b (.inr ⟨k,hk,hb⟩)
 intro k ab h;obtain⟨h1,⟨UA,h2,rfl⟩,h3⟩:=sF k ab h;have fl:=(hp.rows _ _ h2).1;rcases tO bs _ UA hor h2 with⟨e,row,l,rfl⟩|⟨e,j,n,m,sz,rfl,hj⟩;obtain⟨xs,g1,g2,g3⟩:=fl;simp only[jx,BR,Eu k _ h];exact⟨xs,g1,g2,g3⟩;obtain⟨xs,g1,g2,g3⟩:=fl;simp only[jx,BR,Eu k _ h];refine⟨xs,g1,g2,λj' gz i hi=>?_⟩;simp only[A!] at gz;subst gz;obtain⟨u,e1,e2⟩:=g3 j rfl i hi;refine⟨u,e1,?_⟩;simp only[aa] at e2 |-;rw[Sd j hj];exact e2;intro k b ab h hb;obtain⟨h1,⟨UA,h2,rfl⟩,h3⟩:=sF k ab h;rw[Eu k _ h] at hb;exact .inl ((hp.rows _ _ h2).2 b hb);intro k k' b h h' hb eO;obtain⟨x,hx⟩:=S!.1 h;obtain⟨y,hy⟩:=S!.1 h';obtain⟨h1,h2,h3⟩:=sF k x hx;obtain⟨g1,g2,g3⟩:=sF k' y hy;rw[Eu k _ hx] at hb;rw[Eu k' _ hy] at eO;have:=hp.apart _ _ b h3 g3 hb eO;omega;exact zd (az:=az) base bs.length Sd res v BC hp.res
theorem XE(hE:dx P C E)(hB:al C A β st a w)(h:adf E st o=some out)(pK:fq st o=true)(fD:jQ st.h out.new=true)(hc:∀p∈out.cond,p)
  (hK:∀a' w',Rel C (st.put o.dst out) a' w'->K a' w'):o.wp P a w K Q:=by
 unfold adf at h;split at h;grind[Option.some.injEq,XD];rename_i rv;clear rv
 have hd:∀t,o.dst=some t->t<st.n:=by
  intro t ht;simp_all[fq,L!]
 obtain⟨dst,op,type,pos,after,guard⟩:=o;simp only at hd hK;unfold Ew at h;simp only at h;split at h
 . rename_i t p;split at h
   . rename_i k sz i j te hp ht;split at h
     . rename_i e k2 n m s2 hk;cases hq:(Nat.beq sz 1&&Nat.beq j 0&&gN te.desc) with
       |false=>grind
       |true=>
        rw[hq] at h;simp at h;subst h;simp only[B!] at hq;obtain⟨⟨q1,q2⟩,q3⟩:=hq;have q1:=D! q1;have q2:=D! q2;subst q1;subst q2;have Jg:=aC hB p;rw[hp] at Jg;obtain⟨v,g1,g2⟩:=Uz hE.eY hB Jg ht q3 hk (eD hc);exact bn (v:=v) (by simp[execOp,g1]) (hK _ _ (Rel.jl (hB.quiet hd ⟨rfl,rfl,rfl⟩ g2)))
     grind
   grind
 . rename_i t p v;split at h
   . rename_i k sz i j k3 s3 off len hp hv;split at h
     . rename_i e k2 n m s2 hk;cases hq:(Nat.beq sz 1&&Nat.beq j 0&&(Nat.beq k3 k2&&Nat.beq s3 1)&&iL E.T t 1) with
       |false=>grind
       |true=>
        rw[hq] at h;simp at h;subst h;simp only[B!] at hq;obtain⟨⟨⟨q1,q2⟩,q3,q4⟩,q5⟩:=hq;have q1:=D! q1;have q2:=D! q2;have q3:=D! q3;have q4:=D! q4;subst q1;subst q2;subst q3;subst q4;have Jg:=aC hB p;rw[hp] at Jg;have hvr:=aC hB v;rw[hv] at hvr;obtain⟨c1,c2,c3,c4⟩:=eD hc;obtain⟨w',g1,g2⟩:=Rz hE.eY hB hd Jg hvr hk q5 c1 c2 c3 c4;exact nK (w':=w') (by simp[execOp,g1]) (hK _ _ g2)
     grind
   grind
 . rename_i t x l hi mx;split at h
   . rename_i k kx x0 ky y0 km m0 hx hl hh hm;split at h
     . rename_i e row ll fr hk;cases hs:aV E.T t row.length with
       |false=>rw[hs] at h;cases h
       |true=>
        rw[hs] at h;simp at h;subst h;obtain⟨c1,c2,c3,c4⟩:=eD hc;have mi:=aC hB x;rw[hx] at mi;have hlr:=aC hB l;rw[hl] at hlr;have hhr:=aC hB hi;rw[hh] at hhr;have hmr:=aC hB mx;rw[hm] at hmr;obtain⟨v,g1,g2⟩:=RA (kx:=kx) (ky:=ky) (km:=km) hE.eY hB mi hk hs c1 c2 c3 c4;exact bn (v:=v) (by simp[execOp,hlr.1,hhr.1,hmr.1,g1]) (hK _ _ (Rel.jl (hB.quiet hd ⟨rfl,rfl,rfl⟩ g2)))
     cases h
   cases h
 . rename_i t x i;split at h
   . rename_i k ki i0 hx hi;split at h
     . rename_i e j n m sz hk;cases hs:aV E.T t 1 with
       |false=>rw[hs] at h;cases h
       |true=>
        rw[hs] at h;simp at h;subst h;obtain⟨c1,c2⟩:=eD hc;obtain⟨e',ii,hu,ju,dH,lF⟩:=fe hE.eY hs;have mi:=aC hB x;rw[hx] at mi;have XF:=aC hB i;rw[hi] at XF;rcases ru hB hk with⟨_,hn⟩|⟨b,cap,cur,hv,_⟩;omega;refine bn (v:=.pointer (some ⟨b,0+i0.toNat*1,none⟩)) (w':=w) ?_ (hK _ _ (Rel.jl (hB.quiet hd ⟨rfl,rfl,rfl⟩ ?_)));have:=iM (P:=P) (w:=w) hu ju b 0 n cap ki i0 c1 c2;simp only[execOp,mi.1,hv,XF.1,Sem.run_bind,this,dH,Result.andThen_ok,Sem.run_pure];simp only[aa];exact⟨b,_,cap,hv,z!⟩
     cases h
   cases h
 . rename_i c;obtain⟨callee,args,argTypes⟩:=c;simp only at h;split at h
   . rename_i b;split at h
     . rename_i x t bm Jd;split at h
       . rename_i k hx;split at h
         . rename_i e j n m sz hk;cases hq:cE E.T t gN with
           |false=>rw[hq] at h;cases h
           |true=>
            rw[hq] at h;simp at h;subst h;have ea:args= #[x]:=by apply Array.ext';simpa using bm
            have et:argTypes= #[t]:=by apply Array.ext';simpa using Jd
            subst ea;subst et;obtain⟨dd,hu,Fg⟩:=nd hE.eY hq;obtain⟨e',rfl⟩:∃e',dd= .slice e':=by cases dd<;>simp_all[gN]
            have mi:=aC hB x;rw[hx] at mi
            have Ey:∃ad cap,a.eval x= .slice ad n cap:=by
             rcases ru hB hk with⟨h1,h2⟩|⟨b,cap,cur,hv,_⟩;exact⟨none,0,by rw[mi.1,h1,h2]⟩;exact⟨_,cap,by rw[mi.1,hv]⟩
            obtain⟨ad,cap,Ey⟩:=Ey;refine bn (v:=.int .i64 (n:Int)) (w':=w) ?_ (hK _ _ (Rel.jl (hB.quiet hd ⟨rfl,rfl,rfl⟩ (xZ n (Uy hB hk)))));simp[execOp,resolve,invoke,builtin,Ey,Builtin.len_,run_underlying hu,goInt]
         cases h
       cases h
     cases h
   . rename_i f;have hf:=aC hB f
     have key:∀(rq:FuncId) (first aO:M AV) (base:Nat),ev st f= .fn (.func rq) first aO->nP E st.h base rq (first++(args.toList.map (ev st))++aO)=some out->
       Oper.wp P {dst,op:=.call {callee:=.value f,args,argTypes},type,pos,after,guard} a w K Q:=by
      intro rq first aO base Hb oL
      rw[Hb] at hf;simp only[aa] at hf;obtain⟨a1,a2,Bq,r1,r2⟩:=hf;unfold nP at oL;split at oL
      . rename_i s hs;split at oL
        . rename_i pre res bs hsv;cases hq:(Nat.ble bs.length 100&&lQ bs.length res&&iH bs.length bs) with
          |false=>simp[hq] at oL
          |true=>
           simp only[hq,K!,A!] at oL;subst oL;simp only[B!] at hq;obtain⟨hv,Ux⟩:=hE.sig rq s hs;have bm:=fp _ _ _ _ (fp _ _ _ _ r1 (nh hB args.toList)) r2;obtain⟨p1,p2⟩:=I9 (A':=bL A β (mZ st.h (first++(args.toList.map (ev st))++aO)).2) hB (λb h=>.inl h) _ _ bm (λk hk b hb=>.inr ⟨k,hk,hb⟩)
           have Ry:∀b,bL A β (mZ st.h (first++(args.toList.map (ev st))++aO)).2 b->b<w.heap.size:=by
            intro b h;rcases h with h|⟨j,hj,hb⟩;exact hB.bound b h;obtain⟨e',r',l',f',hr⟩:=p2 j hj;exact mh hB (by simp[hr]) hb
           have ql:=hv w _ β _ _ pre res bs Ry (λi d hi=>(hB.laid i d (by rw[hE.g];exact hi)).mono (λb h=>⟨.inl h,rfl⟩)) p1 hsv (eD hc)
           have gI:(execOp a.eval {dst,op:=.call {callee:=.value f,args,argTypes},type,pos,after,guard}).run P w= .ok (.enter rq (a1.toList++args.toList.map a.eval++a2.toList).toArray) w:=by
            have e:(a1++args.map a.eval)++a2=(a1.toList++args.toList.map a.eval++a2.toList).toArray:=by
             apply Array.ext';simp
            have:=Ux (a1++args.map a.eval++a2) w;rw[e] at this;simp only[execOp,resolve,Bq,Deferred.ofValue,Sem.run_bind,Sem.run_pure,Result.andThen_ok,invoke,e,this]
           unfold Oper.wp;rw[gI];refine ql.mono λe w' ⟨v,he,A1,pY,uH⟩=>?_;subst he;exact hK _ _ (hB.aDo hd p2 fD hq.1.2 hq.2 uH)
        cases oL
      cases oL
     split at h;rename_i rq first aO d Hb
     exact key rq first aO _ Hb h
     rename_i rq first aO Hb
     exact key rq first aO _ Hb h
     cases h
   cases h
 grind
def NF(E:Env)(st:St)(o:Oper):Option Out:=
 let T:=E.T
 let h:=st.h
 let ρ:=ev st
 match o.op with
 |.alloc t=>match T.find t,o.dst with
   |some te,some d=>match te.desc with
    |.array n e=>match rowOf T r6 e with
      |some [u]=>match yS [u] n (ofConst te.zero).cells with
       |some l=>some {cond:=[],res:=.ref (st.kb+d) 0,new:=[(st.kb+d,.arr [u] l)]}
       |none=>none
      |_=>none
    |_=>none
   |_,_=>none
 |.load t p=>match ρ p,T.find t with
   |.ref k off,some te=>match h k with
     |some (.arr [u] l)=>match pick te [GA u (Row.hd (l.getD off (Row.zero [u])))] 0 with
      |some a=>some {cond:=[off<l.length],res:=a}
      |none=>none
     |_=>none
   |_,_=>none
 |.store t p v=>match ρ p with
   |.ref k off=>match h k with
     |some (.arr [u] l)=>match Xe u (ρ v) with
      |some x=>bif iL T t 1 then some {cond:=[off<l.length],res:=.undef,gb:=[(k,.arr [u] (l.set off (Row.mk x ())))]} else none
      |none=>none
     |_=>none
   |_=>none
 |_=>none
def adg(E:Env)(st:St)(o:Oper):Option Out:=match adf E st o with
 |some out=>some out
 |none=>NF E st o
theorem al.ar6(hB:al C A β st a w)(hd:∀t,dst=some t->t<st.n){row:M Ty}{l:M (Row row)}{cond:M Prop}
  (gm:st.h d=none/\qQ d=false) (hrel:dn (bw w A row) arr.toList l):
  al C A (bg β d (.pointer (some ⟨w.heap.size,0,none⟩))) (st.put dst {cond:=cond,res:=.ref d 0,new:=[(d,.arr row l)]}) (a.put dst (.pointer (some ⟨w.heap.size,0,none⟩))) (w.alloc (.cells arr e)):=by
 have hK:bG w (w.alloc (.cells arr e)) A A:=λb hb=>⟨hb,ej _ b (hB.bound b hb)⟩
 have bI:∀k,ai [(d,AB.arr row l)] k=none->bg β d (.pointer (some ⟨w.heap.size,0,none⟩)) k=β k:=by
  intro k h;have :k≠d:=by rintro rfl;simp[ai] at h
  grind[bg]
 refine hB.step (out:={cond:=cond,res:=.ref d 0,new:=[(d,.arr row l)]}) hd ?_ (by simp[ai]) bI hK rfl rfl rfl z! (λb hb _=>ej _ b hb) (λb hb=>by have:=hB.bound b hb;simp;omega) (λb hb=>.inl hb) (by simp[ai]) ?_ ?_ ?_ ?_;grind[gn];intro k ab h;obtain⟨rfl,rfl⟩:=gn h;exact⟨w.heap.size,arr,e,by simp[bg],heap_alloc_new w _,λh=>absurd (hB.bound _ h) w!,bx (λc x hx=>br hK row c x hx) l _ hrel⟩;intro k b ab h hb;obtain⟨rfl,_⟩:=gn h;simp_all[bg,if_true,ah,Option.some.injEq]
 grind[Option.isSome_iff_exists,gn];exact⟨w.heap.size,by simp[bg],rfl⟩
def Se {u:Ty}{l:M (Row [u])}(KX:off<l.length)(h:dn (bw w A [u]) cs l):
  ∃v,cs[off]? =some v/\Rd w A u v (Row.hd (l.getD off (Row.zero [u])))/\∀v' x,Rd w A u v' x->dn (bw w A [u]) (cs.take off++[v']++cs.drop (off+1)) (l.set off (Row.mk x ())):=by
 obtain⟨c1,c,c2,e1,e2,e3,e4,e5⟩:=uE l cs off KX h;obtain⟨v,vs,rfl,g1,rfl⟩:=e3;have hl:c1.length=off:=by simpa using e2
 subst e1;refine⟨v,?_,x!,λv' x hx=>?_⟩;rw[List.getElem?_append_right w!,hl,Nat.sub_self];rfl;have t1:(c1++([v]++c2)).take off=c1:=by rw[<-hl,List.take_left]
 have t2:(c1++([v]++c2)).drop (off+1)=c2:=by
  rw[<-hl,List.drop_length_add_append];rfl
 rw[t1,t2,m?,Q! KX,V!];refine jd _ _ _ _ e4 ⟨[v'],c2,rfl,?_,e5⟩;exact⟨v',[],rfl,by exact hx,rfl⟩
theorem XG(hE:dx P C E)(hB:al C A β st a w)(h:adg E st o=some out)(pK:fq st o=true)(fD:jQ st.h out.new=true)(hc:∀p∈out.cond,p)
  (hK:∀a' w',Rel C (st.put o.dst out) a' w'->K a' w'):o.wp P a w K Q:=by
 unfold adg at h;split at h;grind[Option.some.injEq,XE];rename_i rv;clear rv
 have hd:∀t,o.dst=some t->t<st.n:=by
  intro t ht;simp_all[fq,L!]
 obtain⟨dst,op,type,pos,after,guard⟩:=o;simp only at hd hK;unfold NF at h;simp only at h;split at h;rename_i t;split at h;rename_i te d ht;split at h;rename_i n e I5;split at h;rename_i u mO;split at h;rename_i l hl;simp only[Option.some.injEq] at h;subst h;obtain⟨hu,i,hi,hs,hb,hz⟩:=hE.eY.ok t te ht;obtain⟨g1,g2⟩:=Bu [u] n _ _ l (lb (w:=w) (A:=A) (β:=β) te.zero) hl;refine bn (v:=.pointer (some ⟨w.heap.size,0,none⟩)) (w':=w.alloc (.cells te.zero.cells t)) ?_ (hK _ _ (Rel.jl (hB.ar6 hd (ND fD) g1)));simp_all[execOp,Instr.alloc,zeroValue,typeInfo,hi,newVar,newRow]
 grind;grind;grind;grind;rename_i t p;split at h;rename_i k off te hp ht;split at h;rename_i u l hk;split at h;rename_i r ò;simp only[Option.some.injEq] at h;subst h;have KX:off<l.length:=eD hc;have Jg:=aC hB p;rw[hp] at Jg;simp only[aa] at Jg;obtain⟨b,bI,hpe⟩:=Jg;obtain⟨b',arr,e,h1,h2,h3,h4⟩:=hB.blocks k _ hk;rw[bI] at h1;simp only[Value.pointer.injEq,Option.some.injEq,Addr.mk.injEq,and_true] at h1;subst h1;obtain⟨v,c1,c2,_⟩:=Se KX h4
 have hr:w.rangeAt b off [v]:=by
  intro j u' hj;grind[List.getElem?_cons_zero,Option.some.injEq,World.cell?]
 have UB:ae w A β [v] [GA u (Row.hd (l.getD off (Row.zero [u])))]:=by
  grind[ae,Xg]
 obtain⟨v',k1,k2⟩:=kv (β:=β) hE.eY ht UB ò hr;refine bn (v:=v') (w':=w) ?_ (hK _ _ (Rel.jl (hB.quiet hd ⟨rfl,rfl,rfl⟩ k2)));simp_all[Nat.add_zero,execOp]
 grind;grind;grind
 . rename_i t p x;split at h
   . rename_i k off hp;split at h
     . rename_i u l hk;split at h
       . rename_i d hdx;cases L8:iL E.T t 1 with
         |false=>grind
         |true=>
         rw[L8] at h;simp only[K!,A!] at h;subst h;have KX:off<l.length:=eD hc;obtain⟨ii,ju,qX⟩:=ph hE.eY L8;have Jg:=aC hB p;rw[hp] at Jg;simp only[aa] at Jg;obtain⟨b,bI,hpe⟩:=Jg;have mi:=Ns u _ _ d (aC hB x) hdx;obtain⟨b',arr,e,h1,h2,h3,h4⟩:=hB.blocks k _ hk;rw[bI] at h1;simp only[Value.pointer.injEq,A!,Addr.mk.injEq,and_true] at h1;subst h1;have hb:ah (β k)=some b:=by rw[bI];rfl
         have jv:(a.eval x).oneCell'=true:=Bp [u] [a.eval x] (Row.mk d ()) (by simp only[bw];exact⟨_,[],rfl,by rw[xk];exact mi,rfl⟩) _ z!;have hcx:=cells_one jv;have hlen:=gC l _ h4;have dH:arr.size=l.length:=by grind
         have gI:=lS (w:=w) (P:=P) ju (v:=a.eval x) x! x! h2 (off:=off) x!;rw[hcx] at gI;obtain⟨v,c1,c2,c3⟩:=Se KX h4;refine nK (w':=w.setRow b (arr.toList.take off++[a.eval x]++arr.toList.drop (off+1)).toArray) ?_ (hK _ _ ?_);grind[Instr.storeAt,execOp,Sem.run_bind,Result.andThen_ok,Sem.run_pure];refine hB.write hd (k:=k) (fz:=[]) (ab:=.arr [u] (l.set off (Row.mk d ()))) x! hb h3 h2 ⟨rfl,rfl,rfl⟩ z! ?_ (by rfl);intro A' hA1 Up hA3;have AW:bG w (w.setRow b (arr.toList.take off++[a.eval x]++arr.toList.drop (off+1)).toArray) A A':=λb' h=>⟨hA1 b' h,setRow_other w b b' _ (λh'=>h3 (h'▸h))⟩;refine⟨b,_,e,bI,setRow_heap w b arr _ e _ h2,λh=>?_,?_⟩;grind;grind[bx,br]
       grind
     grind
   grind
 grind
end Go.Vg
